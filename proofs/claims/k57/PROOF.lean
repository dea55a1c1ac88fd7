import PyProof.Rows.All
import Wide.All
import OpenK.AllK
import Wide.FinOn
import PyProof.EqAt
import PyProof.EqKinds
import PyProof.TupleCall
import KE.KLam
import HandS.ForMost
import HandS.ForExc
import HandS.Lambda
import HandS.Nested
import HandS.EndTab
import HandS.Zip
import HandS.Iter
import HandS.TupAny
import HandS.Conv
import KE.GoesEnum
import HandS.Deep
import HandS.TupMul
import HandS.Style
import HandS.IsInst
import HandS.Text
import KE.SortData
import KE.DataMinMax
import HandS.Flow
import HandS.NoneIn
import KE.KIndexOf
import HandS.HeadWalk
import HandS.HeadHook4
import HandS.Head2
import PyProof.ReprBulk
import PyProof.TupleOfSeq
import HandS.ExcValue
import HandS.SortKw
import HandS.Star
import KE.DataFind
import KE.KTupSum
import KE.DataMinKey
import PyProof.WalkInts
import KE.SortKeyHeap
import KE.FramesApart
import PySem.Challenge.RW_sightrows_k57_whole_watchers
set_option Elab.async false
set_option linter.all false
section
set_option maxRecDepth 100000
set_option maxHeartbeats 2000000
/-! The value layer: data, slots, the state monad of a def's body, judgements. -/
namespace DL
noncomputable section
open PySem PySem.Spec L2 LamX NdefX

abbrev D := PyData
/-- an extension of what is known -/
def Ex (F H : Hp) : Prop := ∀ a o, F a = some o → H a = some o
theorem Ex.refl (H : Hp) : Ex H H := fun _ _ h => h
theorem Ex.trans {A B C : Hp} (a : Ex A B) (b : Ex B C) : Ex A C := fun x o h => b x o (a x o h)

/-- a tuple whose object is known, without a dict -/
def TupS (F : Hp) (a : Addr) (xs : List V) : Prop := ∃ o : Obj, F a = some (.frz o (.tup xs)) ∧ o.dict = none
theorem TupS.mono {F G : Hp} {a : Addr} {xs : List V} (e : Ex F G) (h : TupS F a xs) : TupS G a xs := let ⟨o, h1, h2⟩ := h; ⟨o, e _ _ h1, h2⟩
theorem TupS.rd {F : Hp} {a : Addr} {xs : List V} (h : TupS F a xs) : Rd F a (.tup xs) := let ⟨o, h1, _⟩ := h; .inr ⟨o, h1⟩
theorem TupS.sq {K : PySem.W.Frag} {F H : Hp} {a : Addr} {xs : List V} (e : Ex F H) (h : TupS F a xs) : SqT K H a xs := .inl (h.mono e).rd
mutual
inductive Dat (F : Hp) : V → D → Prop
  | non : Dat F .non .none
  | bl (b : Bool) : Dat F (.bl b) (.bool b)
  | int (i : Int) : Dat F (.int i) (.int i)
  | str (x : Str) : Dat F (.str x) (.str x)
  | lst {a : Addr} {xs : List V} {ds : List D} : F a = some (.lst xs) → DatAll F xs ds → Dat F (.ref a) (.list ds)
  | tup {a : Addr} {xs : List V} {ds : List D} : TupS F a xs → DatAll F xs ds → Dat F (.ref a) (.tuple ds)
inductive DatAll (F : Hp) : List V → List D → Prop
  | nil : DatAll F [] []
  | cons {v : V} {vs : List V} {d : D} {ds : List D} : Dat F v d → DatAll F vs ds → DatAll F (v :: vs) (d :: ds)
end
mutual
theorem Dat.mono {F G : Hp} (e : Ex F G) : ∀ {v : V} {d : D}, Dat F v d → Dat G v d
  | _, _, .non => .non
  | _, _, .bl b => .bl b
  | _, _, .int i => .int i
  | _, _, .str x => .str x
  | _, _, .lst h r => .lst (e _ _ h) (DatAll.mono e r)
  | _, _, .tup h r => .tup (h.mono e) (DatAll.mono e r)
theorem DatAll.mono {F G : Hp} (e : Ex F G) : ∀ {vs : List V} {ds : List D}, DatAll F vs ds → DatAll G vs ds
  | _, _, .nil => .nil
  | _, _, .cons h r => .cons (Dat.mono e h) (DatAll.mono e r)
end
theorem DatAll.two {F : Hp} {vs : List V} {a b : D} (r : DatAll F vs [a, b]) : ∃ v w, vs = [v, w] ∧ Dat F v a ∧ Dat F w b := by
  cases r with
  | cons h r => cases r with
    | cons h2 r => cases r; exact ⟨_, _, rfl, h, h2⟩
theorem DatAll.length {F : Hp} : ∀ {vs : List V} {ds : List D}, DatAll F vs ds → vs.length = ds.length
  | _, _, .nil => rfl
  | _, _, .cons _ r => congrArg Nat.succ (DatAll.length r)
theorem DatAll.get {F : Hp} : ∀ {vs : List V} {ds : List D} {i : Nat} {d : D}, DatAll F vs ds → ds[i]? = some d → ∃ v, vs[i]? = some v ∧ Dat F v d
  | _, _, _, _, .nil, e => by simp at e
  | _, _, 0, _, .cons h _, e => by simp at e; subst e; exact ⟨_, rfl, h⟩
  | _, _, i + 1, _, .cons _ r, e => by
    obtain ⟨v, h1, h2⟩ := DatAll.get (i := i) r (by simpa using e)
    exact ⟨v, by simpa using h1, h2⟩
theorem DatAll.getV {F : Hp} : ∀ {vs : List V} {ds : List D} {i : Nat} {v : V}, DatAll F vs ds → vs[i]? = some v → ∃ d, ds[i]? = some d ∧ Dat F v d
  | _, _, _, _, .nil, e => by simp at e
  | _, _, 0, _, .cons h _, e => by simp at e; subst e; exact ⟨_, rfl, h⟩
  | _, _, i + 1, _, .cons _ r, e => by
    obtain ⟨d, h1, h2⟩ := DatAll.getV (i := i) r (by simpa using e)
    exact ⟨d, by simpa using h1, h2⟩
theorem DatAll.append {F : Hp} : ∀ {vs ws : List V} {ds es : List D}, DatAll F vs ds → DatAll F ws es → DatAll F (vs ++ ws) (ds ++ es)
  | _, _, _, _, .nil, s => s
  | _, _, _, _, .cons h r, s => .cons h (DatAll.append r s)
theorem DatAll.take {F : Hp} : ∀ {vs : List V} {ds : List D} (n : Nat), DatAll F vs ds → DatAll F (vs.take n) (ds.take n)
  | _, _, 0, _ => .nil
  | _, _, _ + 1, .nil => .nil
  | _, _, n + 1, .cons h r => .cons h (DatAll.take n r)
theorem DatAll.drop {F : Hp} : ∀ {vs : List V} {ds : List D} (n : Nat), DatAll F vs ds → DatAll F (vs.drop n) (ds.drop n)
  | _, _, 0, r => r
  | _, _, _ + 1, .nil => .nil
  | _, _, n + 1, .cons _ r => DatAll.drop n r
theorem DatAll.set {F : Hp} {v : V} {d : D} (h : Dat F v d) : ∀ {vs : List V} {ds : List D} (i : Nat), DatAll F vs ds → DatAll F (vs.set i v) (ds.set i d)
  | _, _, _, .nil => .nil
  | _, _, 0, .cons _ r => .cons h r
  | _, _, i + 1, .cons q r => .cons q (DatAll.set h i r)
theorem DatAll.rev {F : Hp} : ∀ {vs : List V} {ds : List D}, DatAll F vs ds → DatAll F vs.reverse ds.reverse
  | _, _, .nil => .nil
  | _, _, .cons h r => by
    rw [List.reverse_cons, List.reverse_cons]
    exact (DatAll.rev r).append (.cons h .nil)
theorem DatAll.erase {F : Hp} : ∀ {vs : List V} {ds : List D} (i : Nat), DatAll F vs ds → DatAll F (vs.eraseIdx i) (ds.eraseIdx i)
  | _, _, _, .nil => .nil
  | _, _, 0, .cons _ r => r
  | _, _, i + 1, .cons h r => .cons h (DatAll.erase i r)
theorem DatAll.int_inv {F : Hp} : ∀ {vs : List V} {ns : List Int}, DatAll F vs (ns.map PyData.int) → vs = ns.map V.int
  | _, [], .nil => rfl
  | _, n :: ns, .cons h r => by
    cases h
    rw [List.map_cons, DatAll.int_inv r]
theorem DatAll.ints {F : Hp} : ∀ ns : List Int, DatAll F (ns.map V.int) (ns.map PyData.int)
  | [] => .nil
  | n :: ns => .cons (.int n) (DatAll.ints ns)
mutual
theorem Dat.dp {K : PySem.W.Frag} {F H : Hp} (e : Ex F H) : ∀ {v : V} {d : D}, Dat F v d → Dp K H v d
  | _, _, .non => .non
  | _, _, .bl b => .bl b
  | _, _, .int i => .int i
  | _, _, .str x => .str x
  | _, _, .lst h r => .lst (.of (e _ _ h)) (DatAll.dp e r)
  | _, _, .tup h r => .tup (h.sq e) (DatAll.dp e r)
theorem DatAll.dp {K : PySem.W.Frag} {F H : Hp} (e : Ex F H) : ∀ {vs : List V} {ds : List D}, DatAll F vs ds → DpAll K H vs ds
  | _, _, .nil => .nil
  | _, _, .cons h r => .cons (Dat.dp e h) (DatAll.dp e r)
end

/-! ### outcomes, slots -/
inductive Rs (α : Type) where
  | ok (a : α) | exc (c : Str) (p : List (Str × D)) | bad
/-- what a captured name holds -/
inductive Cap where
  | no | d (x : D) | f (g : List D → Rs D)
inductive Slot where
  | emp
  | dat (d : D)
  /-- a list of one's own, changed in place -/
  | own (xs : List D)
  /-- a caller's list, changed in place -/
  | bor (xs : List D)
  /-- the script -/
  | scr (ns : List Int)
  /-- a function that was passed -/
  | fn (g : List D → Rs D)
  /-- a function that was passed and that captures nothing -/
  | fa (g : List D → Rs D)
  /-- a function that was made here, from what the slots js hold when it is used -/
  | clo (js : List Nat) (k : List Cap → List D → Rs D)
  /-- the exception of an except suite: its class, its field -/
  | ex (c f : Str) (d : D)
abbrev Env' := List Slot
abbrev M (α : Type) := Env' → Rs α × Env'
def Slot.val : Slot → Option D
  | .dat d => some d
  | _ => none
def M.ret {α : Type} (a : α) : M α := fun ρ => (.ok a, ρ)
def M.fail {α : Type} : M α := fun ρ => (.bad, ρ)
def M.lift {α : Type} (r : Rs α) : M α := fun ρ => (r, ρ)
def M.bind {α β : Type} (m : M α) (f : α → M β) : M β := fun ρ => match m ρ with
  | (.ok a, ρ') => f a ρ'
  | (.exc c p, ρ') => (.exc c p, ρ')
  | (.bad, ρ') => (.bad, ρ')
def Rs.bind {α β : Type} (r : Rs α) (f : α → Rs β) : Rs β := match r with
  | .ok a => f a
  | .exc c p => .exc c p
  | .bad => .bad

/-! ### growth -/
def NotL (H : Hp) (b : Addr) : Prop := ∀ xs, H b ≠ some (.lst xs)
theorem notL {H : Hp} {b : Addr} (h : H b = none) : NotL H b := fun xs z => by rw [h] at z; cases z
/-- from the frozen part F of H to F2 of H2: what is new in F2 is no list of H; all but the tables and the lists at B is kept -/
structure Grow (T : List NTab) (B : Addr → Prop) (F H F2 H2 : Hp) : Prop where
  f : Ex F F2
  s : Ex F2 H2
  nf : ∀ b, F b = none → F2 b = none ∨ NotL H b ∨ B b
  old : ∀ b o, H b = some o → ¬ B b → (∀ ps, o ≠ .tbl ps) → H2 b = some o
  there : ∀ b, H2 b = none → H b = none
  tabs : TabsN T H2
  nt : ∀ b ps, F2 b = some (.tbl ps) → F b = some (.tbl ps)
/-- no table is frozen -/
def NoT (F : Hp) : Prop := ∀ b ps, F b ≠ some (.tbl ps)
theorem Grow.noT {T : List NTab} {B : Addr → Prop} {F H F2 H2 : Hp} (g : Grow T B F H F2 H2) (n : NoT F) : NoT F2 := fun b ps e => n b ps (g.nt b ps e)
theorem Grow.refl {T : List NTab} {B : Addr → Prop} {F H : Hp} (e : Ex F H) (t : TabsN T H) : Grow T B F H F H :=
  ⟨.refl F, e, fun _ h => .inl h, fun _ _ h _ _ => h, fun _ h => h, t, fun _ _ h => h⟩
theorem Grow.trans {T : List NTab} {B : Addr → Prop} {F H F1 H1 F2 H2 : Hp} (a : Grow T B F H F1 H1) (b : Grow T B F1 H1 F2 H2) : Grow T B F H F2 H2 :=
  ⟨a.f.trans b.f, b.s, fun x h => (a.nf x h).elim (fun h1 => (b.nf x h1).elim .inl fun h2 => h2.elim (fun h2 => (Classical.em (B x)).elim (fun z => .inr (.inr z)) fun z => .inr (.inl fun xs q => h2 xs (a.old x _ q z (by intro ps w; cases w)))) fun h2 => .inr (.inr h2)) .inr,
    fun x o h hb ht => b.old x o (a.old x o h hb ht) hb ht, fun x h => a.there x (b.there x h), b.tabs, fun x ps h => a.nt x ps (b.nt x ps h)⟩
theorem Grow.more {T : List NTab} {B C : Addr → Prop} {F H F2 H2 : Hp} (a : Grow T B F H F2 H2) (h : ∀ x, B x → C x) : Grow T C F H F2 H2 :=
  ⟨a.f, a.s, fun x q => (a.nf x q).elim .inl fun q => .inr (q.elim .inl fun q => .inr (h x q)), fun x o e hb => a.old x o e fun q => hb (h x q), a.there, a.tabs, a.nt⟩
/-- what no list is written by -/
abbrev No : Addr → Prop := fun _ => False
theorem upd_back {H : Hp} {p b : Addr} {o : HO} (h : upd H p o b = none) : H b = none := by
  unfold upd at h
  split at h
  · cases h
  · exact h
theorem TabsN.upd {T : List NTab} {H : Hp} {p : Addr} {o : HO} (t : TabsN T H) (h : H p = none ∨ ∃ xs, H p = some (.lst xs)) : TabsN T (upd H p o) := fun q hq => by
  obtain ⟨ps, h1, h2, h3⟩ := t q hq
  have ne1 : q.1 ≠ p := by
    rintro rfl
    rcases h with h | ⟨xs, h⟩ <;> rw [h] at h1 <;> cases h1
  refine ⟨ps, by rw [upd_ne ne1]; exact h1, h2, fun pos cv hc => ?_⟩
  obtain ⟨c, e1, e2⟩ := h3 pos cv hc
  have ne2 : c ≠ p := by
    rintro rfl
    rcases h with h | ⟨xs, h⟩
    · rw [h] at e2; cases e2
    · rw [h] at e2
      unfold CodeO at e2
      cases e2
  exact ⟨c, e1, by rw [upd_ne ne2]; exact e2⟩
/-- a new object, frozen -/
theorem Grow.new {T : List NTab} {F H : Hp} {p : Addr} {o : HO} (e : Ex F H) (t : TabsN T H) (h : H p = none) (ho : ∀ ps, o ≠ .tbl ps := by intro _ z; cases z) : Grow T No F H (upd F p o) (upd H p o) := by
  have fp : F p = none := by
    cases q : F p with
    | none => rfl
    | some u => rw [e p u q] at h; cases h
  refine ⟨fun b u q => by rw [upd_ne (ne_of_none q fp)]; exact q, fun b u q => ?_, fun b q => ?_, fun b u q _ _ => by rw [upd_ne (ne_of_none q h)]; exact q, fun b q => upd_back q, TabsN.upd t (.inl h), fun b ps q => ?_⟩
  · by_cases hb : b = p
    · subst hb; rw [upd_same] at q ⊢; exact q
    · rw [upd_ne hb] at q ⊢; exact e b u q
  · by_cases hb : b = p
    · subst hb; exact .inr (.inl (notL h))
    · exact .inl (by rw [upd_ne hb]; exact q)
  · by_cases hb : b = p
    · subst hb; rw [upd_same] at q; cases q; exact absurd rfl (ho ps)
    · rw [upd_ne hb] at q; exact q
/-- a new object, not frozen -/
theorem Grow.fresh {T : List NTab} {F H : Hp} {p : Addr} {o : HO} (e : Ex F H) (t : TabsN T H) (h : H p = none) : Grow T No F H F (upd H p o) :=
  ⟨.refl F, fun b u q => by rw [upd_ne (ne_of_none (e b u q) h)]; exact e b u q, fun _ q => .inl q, fun b u q _ _ => by rw [upd_ne (ne_of_none q h)]; exact q, fun _ q => upd_back q, TabsN.upd t (.inl h), fun _ _ q => q⟩

/-! ### how slots lie -/
structure Gh where
  T : List NTab
  /-- the callers' lists that are changed in place: the slot, the address -/
  B : List (Nat × Addr)
  F0 : Hp
  H0 : Hp
  hB : ∀ b ∈ B, H0 b.2 ≠ none
  hN : NoT F0
  /-- the room of passed functions -/
  k : Nat
  /-- no functions in slots (within a block) -/
  nf : Bool

/-- the cells of h, not tracked in H, are kept -/
def KeptC (h : Heap) (H : Hp) (h' : Heap) (H' : Hp) : Prop := ∀ c v, h.IsCell c v → H c = none → h'.IsCell c v ∧ H' c = none
theorem KeptC.refl (h : Heap) (H : Hp) : KeptC h H h H := fun _ _ a b => ⟨a, b⟩
theorem KeptC.trans {h h1 h2 : Heap} {H H1 H2 : Hp} (a : KeptC h H h1 H1) (b : KeptC h1 H1 h2 H2) : KeptC h H h2 H2 := fun c v e n =>
  let ⟨e1, n1⟩ := a c v e n
  b c v e1 n1
/-- an exception's class and dict for the outcome (c, p) -/
def ExcV (mg : Str → Option Value) (F H : Hp) (cls : Value) (dd : Option Addr) (c : Str) (p : List (Str × D)) : Prop :=
  (∃ C, mg c = some (.ref C) ∧ cls = .ref C) ∧ match p with
    | [] => dd = none
    | [(nm, d)] => ∃ a v, dd = some a ∧ H a = some (.xd [(nm, v)]) ∧ Dat F v d
    | _ => False
/-- what is wanted behind a pure outcome -/
def Post (T : List NTab) (mg : Str → Option Value) (F H : Hp) (r : Rs D) (Q : VK) (E : XK) : Prop :=
  match r with
  | .ok d => ∀ v H2 F2, Grow T No F H F2 H2 → Dat F2 v d → Q v H2
  | .exc c p => ∀ cls dd H2 F2, Grow T No F H F2 H2 → ExcV mg F2 H2 cls dd c p → E cls dd H2
  | .bad => False
/-- the function at f is worth g, from h on -/
structure FnAt (P : Program) (w : World) (K : PySem.W.Frag) (mg : Str → Option Value) (base : Heap) (T : List NTab) (k : Nat) (h : Heap) (H F : Hp) (f : Addr) (g : List D → Rs D) : Prop where
  obj : ∀ (A : Around) (outer : List Env) (s' : Shared) (H' F' : Hp), Env0 P w K mg base A outer s' H' → Ex F F' → Ex F' H' → KeptC h H s'.heap H' → PySem.W.FnAt f s'.heap
  run : ∀ (A : Around) (outer : List Env) (s' : Shared) (H' F' : Hp) (us : List Value) (vs : List V) (ds : List D) (Q : VK) (E : XK), Room k A → A.guards = some [] → Env0 P w K mg base A outer s' H' → NoT F' →
    Ex F F' → Ex F' H' → KeptC h H s'.heap H' → TabsN T H' → Vals vs us → DatAll F' vs ds → Post T mg F' H' (g ds) Q E →
    codeAny (model P w) A (.call (.ref f) ⟨us, []⟩) (CR (L2.CX P w) outer P w H' s' Q E) s'
theorem FnAt.later {P : Program} {w : World} {K : PySem.W.Frag} {mg : Str → Option Value} {base : Heap} {T : List NTab} {k : Nat} {h h1 : Heap} {H F H1 F1 : Hp} {f : Addr} {g : List D → Rs D} (a : FnAt P w K mg base T k h H F f g) (e : Ex F F1) (c : KeptC h H h1 H1) : FnAt P w K mg base T k h1 H1 F1 f g :=
  ⟨fun A outer s' H' F' e0 e1 e2 c1 => a.obj A outer s' H' F' e0 (e.trans e1) e2 (c.trans c1), fun A outer s' H' F' us vs ds Q E hr hg e0 nt e1 e2 c1 => a.run A outer s' H' F' us vs ds Q E hr hg e0 nt (e.trans e1) e2 (c.trans c1)⟩
/-- what a captured name's slot is to hold -/
def CapOk (P : Program) (w : World) (K : PySem.W.Frag) (mg : Str → Option Value) (base : Heap) (T : List NTab) (k : Nat) (h : Heap) (H F : Hp) (σ : St) (j : Nat) : Cap → Prop
  | .d d => ∃ v, σ[j]? = some (some v) ∧ Dat F v d
  | .f g => ∃ f, σ[j]? = some (some (.ref f)) ∧ FnAt P w K mg base T k h H F f g
  | .no => True
/-- the function at f, made in this body: k by what the captured slots js hold when it is used -/
def CloAt (X : Cx) (G : Gh) (F : Hp) (f : Addr) (js : List Nat) (k : List Cap → List D → Rs D) : Prop :=
  ∀ (pins : List (Addr × Obj)) (s : Shared) (σ' : St) (H' F' : Hp) (caps : List Cap), Inv X pins σ' H' s → NoT F' → Ex F F' → Ex F' H' → TabsN G.T H' → caps.length = js.length →
    (∀ (a j : Nat) (sl : Cap), js[a]? = some j → caps[a]? = some sl → CapOk X.prog X.w X.K X.mg X.base G.T G.k s.heap H' F' σ' j sl) → FnAt X.prog X.w X.K X.mg X.base G.T G.k s.heap H' F' f (k caps)
theorem CloAt.later {X : Cx} {G : Gh} {F F1 : Hp} {f : Addr} {js : List Nat} {k : List Cap → List D → Rs D} (a : CloAt X G F f js k) (e : Ex F F1) : CloAt X G F1 f js k := fun pins s σ' H' F' caps I nt e1 => a pins s σ' H' F' caps I nt (e.trans e1)
/-- what does not change from a body into its blocks -/
def cxk (X : Cx) : Program × World × PySem.W.Frag × (Str → Option Value) × Heap := (X.prog, X.w, X.K, X.mg, X.base)
/-- the function at f is worth g, from anywhere on: it captures nothing -/
def FaAt (c : Program × World × PySem.W.Frag × (Str → Option Value) × Heap) (T : List NTab) (k : Nat) (F : Hp) (f : Addr) (g : List D → Rs D) : Prop := ∀ (h : Heap) (H1 : Hp), FnAt c.1 c.2.1 c.2.2.1 c.2.2.2.1 c.2.2.2.2 T k h H1 F f g
theorem FaAt.later {c : Program × World × PySem.W.Frag × (Str → Option Value) × Heap} {T : List NTab} {k : Nat} {F F1 : Hp} {f : Addr} {g : List D → Rs D} (a : FaAt c T k F f g) (e : Ex F F1) : FaAt c T k F1 f g := fun h H1 => (a h H1).later e (.refl h H1)
def SlOk (X : Cx) (G : Gh) (F H : Hp) (σ : St) (i : Nat) : Slot → Prop
  | .emp => True
  | .dat d => ∃ v, σ[i]? = some (some v) ∧ Dat F v d
  | .own xs => ∃ p vs, σ[i]? = some (some (.ref p)) ∧ H p = some (.lst vs) ∧ F p = none ∧ DatAll F vs xs ∧ G.H0 p = none
  | .bor xs => ∃ p vs, σ[i]? = some (some (.ref p)) ∧ H p = some (.lst vs) ∧ F p = none ∧ DatAll F vs xs ∧ (i, p) ∈ G.B
  | .scr ns => ∃ p, σ[i]? = some (some (.ref p)) ∧ (Rd F p (.lst (ns.map V.int)) ∨ ∀ H, SqL X.K H p (ns.map V.int))
  | .fn g => G.nf = false ∧ ∃ f, σ[i]? = some (some (.ref f)) ∧ FnAt X.prog X.w X.K X.mg X.base G.T G.k X.s_0.heap X.H_0 F f g
  | .clo js k => G.nf = false ∧ ∃ f, σ[i]? = some (some (.ref f)) ∧ CloAt X G F f js k
  | .fa g => ∃ f, σ[i]? = some (some (.ref f)) ∧ FaAt (cxk X) G.T G.k F f g
  | .ex c f d => G.nf = false ∧ ∃ (a dd C : Addr) (v : V) (oe : Obj), σ[i]? = some (some (.ref a)) ∧ (a, oe) ∈ X.pn ∧ Zc (.ref C) (some dd) oe ∧ (∃ vs, oe.data = .fields vs) ∧ X.mg c = some (.ref C) ∧ F dd = some (.xd [(f, v)]) ∧ Dat F v d
def Slot.isOwn : Slot → Bool
  | .own _ => true
  | .bor _ => true
  | _ => false
structure Rep (X : Cx) (G : Gh) (F H : Hp) (σ : St) (ρ : Env') : Prop where
  gr : Grow G.T (fun p => ∃ i, (i, p) ∈ G.B) G.F0 G.H0 F H
  len : ρ.length = σ.length
  ok : ∀ i sl, ρ[i]? = some sl → SlOk X G F H σ i sl
  apart : ∀ (i j : Nat) (sl sl' : Slot) (p : Addr), i ≠ j → ρ[i]? = some sl → ρ[j]? = some sl' → sl.isOwn = true → sl'.isOwn = true → σ[i]? = some (some (.ref p)) → σ[j]? = some (some (.ref p)) → False
/-! ### judgements -/
/-- the addresses of the lists of one's own -/
def OwnA (σ : L2.St) (ρ : Env') (p : Addr) : Prop := ∃ (i : Nat) (sl : Slot), ρ[i]? = some sl ∧ sl.isOwn = true ∧ σ[i]? = some (some (.ref p))
/-- from one state of a body to a later one, within an expression -/
structure Stp (X : Cx) (G : Gh) (F H : Hp) (σ : L2.St) (ρ : Env') (F' H' : Hp) (ρ' : Env') : Prop where
  rep : Rep X G F' H' σ ρ'
  gr : Grow G.T (OwnA σ ρ) F H F' H'
  ow : ∀ p, OwnA σ ρ' p → OwnA σ ρ p
/-- an outcome, from a state on -/
def At {α : Type} (X : Cx) (G : Gh) (W : WX) (F H : Hp) (σ : L2.St) (ρ : Env') (r : Rs α × Env') (k : α → Env' → Prop) : Prop :=
  match r with
  | (.ok a, ρ') => k a ρ'
  | (.exc c p, ρ') => ∀ cls dd H' F', Stp X G F H σ ρ F' H' ρ' → ExcV X.mg F' H' cls dd c p → W cls dd σ H'
  | (.bad, _) => False
section
variable {X : Cx} {G : Gh} {W : WX} {pins : List (Addr × Obj)} {σ : L2.St} {H F H1 F1 H2 F2 : Hp} {s : Shared} {ρ ρ1 ρ2 : Env'}
theorem Rep.sub (R : Rep X G F H σ ρ) : Ex F H := R.gr.s
theorem Rep.noT (R : Rep X G F H σ ρ) : NoT F := R.gr.noT G.hN
theorem Rep.tabs (R : Rep X G F H σ ρ) : TabsN G.T H := R.gr.tabs
theorem Stp.refl (R : Rep X G F H σ ρ) : Stp X G F H σ ρ F H ρ := ⟨R, .refl R.sub R.tabs, fun _ h => h⟩
theorem Stp.trans (a : Stp X G F H σ ρ F1 H1 ρ1) (b : Stp X G F1 H1 σ ρ1 F2 H2 ρ2) : Stp X G F H σ ρ F2 H2 ρ2 :=
  ⟨b.rep, a.gr.trans (b.gr.more a.ow), fun p h => a.ow p (b.ow p h)⟩
theorem Stp.f (a : Stp X G F H σ ρ F1 H1 ρ1) : Ex F F1 := a.gr.f
theorem At.mono {α : Type} {r : Rs α × Env'} {k k' : α → Env' → Prop} (h : At X G W F H σ ρ r k) (e : Stp X G F H σ ρ F1 H1 ρ1) (hk : ∀ a ρ', r = (.ok a, ρ') → k a ρ' → k' a ρ') : At X G W F1 H1 σ ρ1 r k' := by
  obtain ⟨r, ρ'⟩ := r
  cases r with
  | ok a => exact hk a ρ' rfl h
  | exc c p => exact fun cls dd H' F' R x => h cls dd H' F' (e.trans R) x
  | bad => exact h
end
def rdE (X : Cx) (G : Gh) (W : WX) (m : M D) : TE := fun σ H Q => ∃ F ρ, Rep X G F H σ ρ ∧ At X G W F H σ ρ (m ρ) fun d ρ' => ∀ v H' F', Stp X G F H σ ρ F' H' ρ' → Dat F' v d → Q v H'
/-- an expression that gives data -/
structure DE (X : Cx) (G : Gh) (W : WX) (e : Expr) (m : M D) : Prop where
  pe : PE X e (rdE X G W m)
section
variable {X : Cx} {G : Gh} {W : WX} {pins : List (Addr × Obj)} {σ : L2.St} {H F : Hp} {s : Shared} {ρ : Env'}
theorem SlOk.grow {F2 H2 : Hp} {i : Nat} {sl : Slot} (o : SlOk X G F H σ i sl) {B : Addr → Prop} (g : Grow G.T B F H F2 H2) (nb : ∀ p, sl.isOwn = true → σ[i]? = some (some (.ref p)) → ¬ B p) : SlOk X G F2 H2 σ i sl := by
  cases sl with
  | emp => trivial
  | dat d => obtain ⟨v, e, h⟩ := o; exact ⟨v, e, h.mono g.f⟩
  | own xs =>
    obtain ⟨p, vs, e, h, n, a, n0⟩ := o
    refine ⟨p, vs, e, g.old p _ h (nb p rfl e) (by intro ps z; cases z), ?_, a.mono g.f, n0⟩
    rcases g.nf p n with z | z | z
    · exact z
    · exact absurd h (z _)
    · exact absurd z (nb p rfl e)
  | bor xs =>
    obtain ⟨p, vs, e, h, n, a, hb⟩ := o
    refine ⟨p, vs, e, g.old p _ h (nb p rfl e) (by intro ps z; cases z), ?_, a.mono g.f, hb⟩
    rcases g.nf p n with z | z | z
    · exact z
    · exact absurd h (z _)
    · exact absurd z (nb p rfl e)
  | scr ns =>
    obtain ⟨p, e, h⟩ := o
    refine ⟨p, e, h.elim (fun h => .inl ?_) .inr⟩
    rcases h with h | ⟨o, h⟩
    · exact .inl (g.f _ _ h)
    · exact .inr ⟨o, g.f _ _ h⟩
  | fn f =>
    obtain ⟨nf, a, e, h⟩ := o
    exact ⟨nf, a, e, h.later g.f (.refl _ _)⟩
  | clo js k =>
    obtain ⟨nf, a, e, h⟩ := o
    exact ⟨nf, a, e, h.later g.f⟩
  | fa f =>
    obtain ⟨a, e, h⟩ := o
    exact ⟨a, e, h.later g.f⟩
  | ex c f d =>
    obtain ⟨nf, a, dd, C, v, oe, h1, h2, h3, h4, h5, h6, h7⟩ := o
    exact ⟨nf, a, dd, C, v, oe, h1, h2, h3, h4, h5, g.f _ _ h6, h7.mono g.f⟩
theorem Rep.grow {F2 H2 : Hp} (R : Rep X G F H σ ρ) (g : Grow G.T No F H F2 H2) : Rep X G F2 H2 σ ρ :=
  ⟨R.gr.trans (g.more fun _ z => z.elim), R.len, fun i sl e => (R.ok i sl e).grow g fun _ _ _ z => z, R.apart⟩
theorem Stp.grow {F1 H1 F2 H2 : Hp} {ρ1 : Env'} (a : Stp X G F H σ ρ F1 H1 ρ1) (g : Grow G.T No F1 H1 F2 H2) : Stp X G F H σ ρ F2 H2 ρ1 :=
  a.trans ⟨a.rep.grow g, g.more fun _ z => z.elim, fun _ h => h⟩
/-- the expression is evaluated, then .. -/
theorem DE.step {α : Type} {e : Expr} {ma : M D} (h : DE X G W e ma) (I : Inv X pins σ H s) (R : Rep X G F H σ ρ) {k : D → M α} {kk : α → Env' → Prop} (hq : At X G W F H σ ρ ((ma.bind k) ρ) kk) {Qf : Value → Shared → Prop}
    (next : ∀ d ρ1 u v s1 H1 F1, Inv X pins σ H1 s1 → Stp X G F H σ ρ F1 H1 ρ1 → RelV v u → Dat F1 v d → At X G W F1 H1 σ ρ1 (k d ρ1) kk → Qf u s1) : wpAny (model X.prog X.w) X.A (eval e X.env) Qf X.xe s := by
  refine thn (h.pe.run pins s σ H (fun v H1 => ∃ d ρ1 F1, Stp X G F H σ ρ F1 H1 ρ1 ∧ Dat F1 v d ∧ At X G W F1 H1 σ ρ1 (k d ρ1) kk) I ⟨F, ρ, R, ?_⟩) fun u s1 ⟨v, H1, I1, r, d, ρ1, F1, R1, dv, q⟩ => next d ρ1 u v s1 H1 F1 I1 R1 r dv q
  unfold M.bind at hq
  cases hm : ma ρ with
  | mk r ρ' =>
    rw [hm] at hq
    cases r with
    | ok d => exact fun v H' F' R' dv => ⟨d, ρ', F', R', dv, At.mono hq R' fun _ _ _ z => z⟩
    | exc c p => exact hq
    | bad => exact hq
/-- an expression by what is to be shown of eval, at data -/
theorem DE.of {e : Expr} {m : M D} (h : ∀ (pins : List (Addr × Obj)) (s : Shared) (σ : L2.St) (H F : Hp) (ρ : Env') (Q : VK), Inv X pins σ H s → Rep X G F H σ ρ → At X G W F H σ ρ (m ρ) (fun d ρ' => ∀ v H' F', Stp X G F H σ ρ F' H' ρ' → Dat F' v d → Q v H') →
    wpAny (model X.prog X.w) X.A (eval e X.env) (EP X pins σ Q) X.xe s) : DE X G W e m :=
  ⟨⟨fun pins s σ H Q I ⟨F, ρ, R, hq⟩ => h pins s σ H F ρ Q I R hq⟩⟩

/-! ### constants, names -/
theorem DE.int {i : Int} {j pos} : DE X G W (.Constant (.int i) j pos) (.ret (.int i)) := .of fun pins s σ H F ρ Q I R hq => pe_int.run pins s σ H Q I (hq _ H F (.refl R) (.int i))
theorem DE.bl {b : Bool} {j pos} : DE X G W (.Constant (.bool b) j pos) (.ret (.bool b)) := .of fun pins s σ H F ρ Q I R hq => pe_bl.run pins s σ H Q I (hq _ H F (.refl R) (.bl b))
theorem DE.non {j pos} : DE X G W (.Constant .none j pos) (.ret .none) := .of fun pins s σ H F ρ Q I R hq => pe_non.run pins s σ H Q I (hq _ H F (.refl R) .non)
theorem DE.str {x : Str} {j pos} : DE X G W (.Constant (.str x) j pos) (.ret (.str x)) := .of fun pins s σ H F ρ Q I R hq => pe_str.run pins s σ H Q I (hq _ H F (.refl R) (.str x))
/-- a name's slot read: a list of one's own is frozen by it -/
def mVar (i : Nat) : M D := fun ρ => match ρ[i]? with
  | some (.dat d) => (.ok d, ρ)
  | some (.own xs) => (.ok (.list xs), ρ.set i (.dat (.list xs)))
  | _ => (.bad, ρ)
/-- own lists of a changed slot list -/
theorem ownA_put {i : Nat} {sl : Slot} (no : sl.isOwn = false) {p : Addr} (h : OwnA σ (ρ.set i sl) p) : OwnA σ ρ p := by
  obtain ⟨j, s', hj, oj, hσ⟩ := h
  by_cases hij : i = j
  · subst hij
    have hlt : i < ρ.length := by
      have := (List.getElem?_eq_some_iff.mp hj).1
      simpa using this
    rw [List.getElem?_set_self hlt] at hj
    cases hj
    rw [no] at oj; cases oj
  · rw [List.getElem?_set_ne hij] at hj
    exact ⟨j, s', hj, oj, hσ⟩
/-- a slot is put anew, to no list of one's own -/
theorem Rep.put {i : Nat} {sl : Slot} (R : Rep X G F H σ ρ) (o : SlOk X G F H σ i sl) (no : sl.isOwn = false) : Rep X G F H σ (ρ.set i sl) := by
  refine ⟨R.gr, by rw [List.length_set]; exact R.len, fun j s' hj => ?_, fun a b s1 s2 q hab ha hb o1 o2 h1 h2 => ?_⟩
  · by_cases hij : i = j
    · subst hij
      have hlt : i < ρ.length := by
        have := (List.getElem?_eq_some_iff.mp hj).1
        simpa using this
      rw [List.getElem?_set_self hlt] at hj
      cases hj
      exact o
    · rw [List.getElem?_set_ne hij] at hj
      exact R.ok j s' hj
  · have key : ∀ {a : Nat} {s' : Slot}, (ρ.set i sl)[a]? = some s' → s'.isOwn = true → ρ[a]? = some s' := fun {a s'} h ho => by
      by_cases hia : i = a
      · subst hia
        have hlt : i < ρ.length := by
          have := (List.getElem?_eq_some_iff.mp h).1
          simpa using this
        rw [List.getElem?_set_self hlt] at h
        cases h
        rw [no] at ho; cases ho
      · rw [List.getElem?_set_ne hia] at h
        exact h
    exact R.apart a b s1 s2 q hab (key ha o1) (key hb o2) o1 o2 h1 h2
theorem SlOk.frz {F2 : Hp} {i : Nat} {sl : Slot} (o : SlOk X G F H σ i sl) (e : Ex F F2) (hn : sl.isOwn = true → ∀ q, σ[i]? = some (some (.ref q)) → F q = none → F2 q = none) : SlOk X G F2 H σ i sl := by
  cases sl with
  | emp => trivial
  | dat d => obtain ⟨v, a, h⟩ := o; exact ⟨v, a, h.mono e⟩
  | own ys => obtain ⟨q, ws, a, h, n, c, n0⟩ := o; exact ⟨q, ws, a, h, hn rfl q a n, c.mono e, n0⟩
  | bor ys => obtain ⟨q, ws, a, h, n, c, nb⟩ := o; exact ⟨q, ws, a, h, hn rfl q a n, c.mono e, nb⟩
  | scr ns =>
    obtain ⟨q, a, h⟩ := o
    refine ⟨q, a, h.elim (fun h => .inl ?_) .inr⟩
    rcases h with h | ⟨o, h⟩
    · exact .inl (e _ _ h)
    · exact .inr ⟨o, e _ _ h⟩
  | fn f =>
    obtain ⟨nf, a, b, h⟩ := o
    exact ⟨nf, a, b, h.later e (.refl _ _)⟩
  | clo js k =>
    obtain ⟨nf, a, b, h⟩ := o
    exact ⟨nf, a, b, h.later e⟩
  | fa f =>
    obtain ⟨a, b, h⟩ := o
    exact ⟨a, b, h.later e⟩
  | ex c f d =>
    obtain ⟨nf, a, dd, C, v, oe, h1, h2, h3, h4, h5, h6, h7⟩ := o
    exact ⟨nf, a, dd, C, v, oe, h1, h2, h3, h4, h5, e _ _ h6, h7.mono e⟩
/-- the list at p becomes data -/
theorem Rep.frz {p : Addr} {vs : List V} (R : Rep X G F H σ ρ) (hp : H p = some (.lst vs)) (hF : F p = none) (h0 : G.H0 p = none) (no : ¬ OwnA σ ρ p) : Rep X G (upd F p (.lst vs)) H σ ρ ∧ Ex F (upd F p (.lst vs)) := by
  have e : Ex F (upd F p (.lst vs)) := fun b o q => by rw [upd_ne (ne_of_none q hF)]; exact q
  refine ⟨⟨⟨R.gr.f.trans e, fun b o q => ?_, fun b q => ?_, R.gr.old, R.gr.there, R.gr.tabs, fun b ps q => ?_⟩, R.len, fun j sl hj => (R.ok j sl hj).frz e fun ho q hq n => ?_, R.apart⟩, e⟩
  · by_cases hb : b = p
    · subst hb; rw [upd_same] at q; cases q; exact hp
    · rw [upd_ne hb] at q; exact R.gr.s b o q
  · by_cases hb : b = p
    · subst hb; exact .inr (.inl (notL h0))
    · rw [upd_ne hb]; exact R.gr.nf b q
  · by_cases hb : b = p
    · subst hb; rw [upd_same] at q; cases q
    · rw [upd_ne hb] at q; exact R.gr.nt b ps q
  · have : q ≠ p := by
      rintro rfl
      exact no ⟨j, sl, hj, ho, hq⟩
    rw [upd_ne this]; exact n
theorem Rep.noOwn {i : Nat} {sl : Slot} {p : Addr} (R : Rep X G F H σ ρ) (hi : ρ[i]? = some sl) (ho : sl.isOwn = true) (hσ : σ[i]? = some (some (.ref p))) : ¬ OwnA σ (ρ.set i .emp) p := fun ⟨j, s', hj, oj, hq⟩ => by
  by_cases hij : i = j
  · subst hij
    have hlt : i < ρ.length := (List.getElem?_eq_some_iff.mp hi).1
    rw [List.getElem?_set_self hlt] at hj
    cases hj; cases oj
  · rw [List.getElem?_set_ne hij] at hj
    exact R.apart i j sl s' p hij hi hj ho oj hσ hq
/-- a list of one's own becomes data -/
theorem Rep.freeze {i : Nat} {xs : List D} {p : Addr} {vs : List V} (R : Rep X G F H σ ρ) (hi : ρ[i]? = some (.own xs)) (hσ : σ[i]? = some (some (.ref p))) (hp : H p = some (.lst vs)) (hF : F p = none) (ha : DatAll F vs xs) (h0 : G.H0 p = none) :
    Stp X G F H σ ρ (upd F p (.lst vs)) H (ρ.set i (.dat (.list xs))) := by
  have R1 : Rep X G F H σ (ρ.set i .emp) := R.put trivial rfl
  obtain ⟨R2, e⟩ := R1.frz hp hF h0 (R.noOwn hi rfl hσ)
  have R3 := R2.put (i := i) (sl := .dat (.list xs)) ⟨.ref p, hσ, .lst upd_same (ha.mono e)⟩ rfl
  rw [List.set_set] at R3
  refine ⟨R3, ⟨e, R3.gr.s, fun b q => ?_, fun _ _ q _ _ => q, fun _ q => q, R.tabs, fun b ps q => ?_⟩, fun p h => ownA_put rfl h⟩
  · by_cases hb : b = p
    · subst hb; exact .inr (.inr ⟨i, _, hi, rfl, hσ⟩)
    · exact .inl (by rw [upd_ne hb]; exact q)
  · by_cases hb : b = p
    · subst hb; rw [upd_same] at q; cases q
    · rw [upd_ne hb] at q; exact q
theorem DE.var {i : Nat} {x : Str} {pos : Pos} (hN : X.N[i]? = some x) (hv : Vis X.env.scope x) (hd : (x == ("__debug__" : Str)) = false := by decide) (hcd : (x == ("__classdict__" : Str)) = false := by decide) : DE X G W (.Name x pos) (mVar i) := .of fun pins s σ H F ρ Q I R hq => by
  unfold mVar at hq
  cases e : ρ[i]? with
  | none => rw [e] at hq; exact hq.elim
  | some sl =>
    rw [e] at hq
    cases sl with
    | dat d =>
      obtain ⟨v, hσ, dv⟩ := R.ok i _ e
      exact (pe_var (pos := pos) hN hv hd hcd).run pins s σ H Q I ⟨v, hσ, hq v H F (.refl R) dv⟩
    | own xs =>
      obtain ⟨p, vs, hσ, hp, hF, ha, h0⟩ := R.ok i _ e
      have e' := R.freeze e hσ hp hF ha h0
      exact (pe_var (pos := pos) hN hv hd hcd).run pins s σ H Q I ⟨.ref p, hσ, hq (.ref p) H _ e' (.lst upd_same (ha.mono e'.f))⟩
    | _ => exact hq.elim
/-- a module's constant -/
theorem DE.glob {x : Str} {d : D} {v : V} {u : Value} {pos : Pos} (hg : Gl X x) (hm : X.mg x = some u) (r : RelV v u) (dv : ∀ F, Dat F v d) (hd : (x == ("__debug__" : Str)) = false := by decide) : DE X G W (.Name x pos) (.ret d) :=
  .of fun pins s σ H F ρ Q I R hq => (pe_glob (pos := pos) hg hm r hd).run pins s σ H Q I (hq v H F (.refl R) (dv F))

/-! ### operators -/
def OpD (X : Cx) (T : List NTab) (f : Value → Value → Sem Value) (p : D → D → Rs D) : Prop :=
  ∀ (pins : List (Addr × Obj)) (s : Shared) (σ : L2.St) (H F : Hp) (v u : Value) (x y : V) (d e z : D) (Q : VK), Inv X pins σ H s → RelV x v → RelV y u → Ex F H → TabsN T H → Dat F x d → Dat F y e → p d e = .ok z →
    (∀ w H' F', Grow T No F H F' H' → Dat F' w z → Q w H') → wpAny (model X.prog X.w) X.A (f v u) (EP X pins σ Q) X.xe s
def UnD (X : Cx) (T : List NTab) (f : Value → Sem Value) (p : D → Rs D) : Prop :=
  ∀ (pins : List (Addr × Obj)) (s : Shared) (σ : L2.St) (H F : Hp) (v : Value) (x : V) (d z : D) (Q : VK), Inv X pins σ H s → RelV x v → Ex F H → TabsN T H → Dat F x d → p d = .ok z →
    (∀ w H' F', Grow T No F H F' H' → Dat F' w z → Q w H') → wpAny (model X.prog X.w) X.A (f v) (EP X pins σ Q) X.xe s
def Rs.pure? {α : Type} (r : Rs α) : Rs α := match r with
  | .ok a => .ok a
  | _ => .bad
def mBin (p : D → D → Rs D) (ma mb : M D) : M D := ma.bind fun x => mb.bind fun y => .lift (p x y).pure?
def mUn (p : D → Rs D) (ma : M D) : M D := ma.bind fun x => .lift (p x).pure?
theorem At.prim {α : Type} {r : Rs α} {ρ0 : Env'} {kk : α → Env' → Prop} (h : At X G W F H σ ρ0 (M.lift r.pure? ρ) kk) : ∃ z, r = .ok z ∧ kk z ρ := by
  cases r with
  | ok z => exact ⟨z, rfl, h⟩
  | exc c p => exact h.elim
  | bad => exact h.elim
theorem DE.bin {a b : Expr} {op : Operator} {pos : Pos} {p : D → D → Rs D} {ma mb : M D} (ho : OpD X G.T (binaryOp op) p) (ha : DE X G W a ma) (hb : DE X G W b mb) : DE X G W (.BinOp a op b pos) (mBin p ma mb) := .of fun pins s σ H F ρ Q I R hq => by
  refine wpAny_BinOp (ha.step I R hq fun d ρ1 u v s1 H1 F1 I1 R1 r1 dv q1 => hb.step I1 R1.rep q1 fun d2 ρ2 u2 v2 s2 H2 F2 I2 R2 r2 dv2 q2 => ?_)
  obtain ⟨z, hz, q⟩ := q2.prim
  exact ho pins s2 σ H2 F2 u u2 v v2 d d2 z Q I2 r1 r2 R2.rep.sub R2.rep.tabs (dv.mono R2.f) dv2 hz fun w H' F' g dw => q w H' F' ((R1.trans R2).grow g) dw
theorem DE.un {a : Expr} {op : UnaryOp} {pos : Pos} {p : D → Rs D} {ma : M D} (ho : UnD X G.T (unaryOp op) p) (ha : DE X G W a ma) : DE X G W (.UnaryOp op a pos) (mUn p ma) := .of fun pins s σ H F ρ Q I R hq => by
  refine PyProof.Rows.UnaryOp_ (ha.step I R hq fun d ρ1 u v s1 H1 F1 I1 R1 r1 dv q1 => ?_)
  obtain ⟨z, hz, q⟩ := q1.prim
  exact ho pins s1 σ H1 F1 u v d z Q I1 r1 R1.rep.sub R1.rep.tabs dv hz fun w H' F' g dw => q w H' F' (R1.grow g) dw
theorem DE.cmp {a b : Expr} {op : CmpOp} {pos : Pos} {p : D → D → Rs D} {ma mb : M D} (ho : OpD X G.T (compareOp op) p) (ha : DE X G W a ma) (hb : DE X G W b mb) (hm : behindInMarks op b = false) : DE X G W (.Compare a [op] [b] pos) (mBin p ma mb) := .of fun pins s σ H F ρ Q I R hq => by
  refine wpAny_Compare1 (ha.step I R hq fun d ρ1 u v s1 H1 F1 I1 R1 r1 dv q1 => hb.step I1 R1.rep q1 fun d2 ρ2 u2 v2 s2 H2 F2 I2 R2 r2 dv2 q2 => ?_) hm
  obtain ⟨z, hz, q⟩ := q2.prim
  exact ho pins s2 σ H2 F2 u u2 v v2 d d2 z Q I2 r1 r2 R2.rep.sub R2.rep.tabs (dv.mono R2.f) dv2 hz fun w H' F' g dw => q w H' F' ((R1.trans R2).grow g) dw
end
end
end DL

end
section
set_option maxRecDepth 100000
set_option maxHeartbeats 2000000
/-! Tuples whose objects are known (they have no dict): the rules that make them. Adapted from HandS's own proofs. -/
namespace DL
noncomputable section
open PySem PySem.Spec L2 LamX NdefX
open PyProof.Rows hiding St
/-- what stands at a tuple's address: its object, its items -/
def frzT (its : List Value) (xs : List V) : HO := .frz { cls := .type "tuple", data := .seq its.toArray } (.tup xs)
/-- such a tuple was made at p -/
def NewT (H H' : Hp) (p : Addr) (xs : List V) : Prop := H p = none ∧ ∃ its, H' = upd H p (frzT its xs)
theorem NewT.upd {H H' : Hp} {p : Addr} {xs : List V} (h : NewT H H' p xs) : TupS H' p xs := by
  obtain ⟨_, its, rfl⟩ := h
  exact ⟨_, upd_same, rfl⟩
theorem NewT.grow {T : List NTab} {F H H' : Hp} {p : Addr} {xs : List V} (h : NewT H H' p xs) (e : Ex F H) (t : TabsN T H) : ∃ F', Grow T No F H F' H' ∧ TupS F' p xs := by
  obtain ⟨hp, its, rfl⟩ := h
  exact ⟨_, Grow.new (o := frzT its xs) e t hp, ⟨_, upd_same, rfl⟩⟩
section
variable {X : Cx} {pins : List (Addr × Obj)} {σ : L2.St} {H : Hp} {s : Shared}
theorem okT {h : Heap} {a : Addr} {H : Hp} {P : Program} {w : World} {its : List Value} {xs : List V} (z : xs.length ≤ sizeLine) (r : Vals xs its) (e : h.get? a = some { cls := .type "tuple", data := .seq its.toArray }) : ObjOk P w H h a (frzT its xs) :=
  ⟨e, z, its, r, ⟨_, e, rfl, _, rfl⟩⟩
theorem pushT {xs : List V} {its : List Value} {t : Nat} (I : Inv X pins σ H s) (z : xs.length ≤ sizeLine) (r : Vals xs its) {Q : VK} (q : ∀ H', NewT H H' s.heap.objs.size xs → Q (.ref s.heap.objs.size) H') :
    EP X pins σ Q (.ref s.heap.objs.size) { s with heap := s.heap.push { cls := .type "tuple", data := .seq its.toArray }, toks := t } :=
  ⟨.ref s.heap.objs.size, upd H s.heap.objs.size (frzT its xs), I.laid (t' := t) (fun b u e => Heap.get?_push_of_some _ e) (Nat.le_refl _) (okT z r (Heap.get?_push_size _ rfl)), rfl, q _ ⟨I.hok.fresh (Nat.le_refl _), its, rfl⟩⟩
/-! ### a written tuple -/
def tTupS (t : TA) : TE := fun σ H Q => t σ H fun xs H1 => xs.length ≤ sizeLine ∧ ∀ p H2, NewT H1 H2 p xs → Q (.ref p) H2
theorem pe_tupS {es : List Expr} {t : TA} {pos : Pos} {x1} (h : PA X es t) : PE X (.Tuple es x1 pos) (tTupS t) := by
  refine ⟨fun pins s σ H Q I hq => ?_⟩
  refine wpAny_Tuple_spliced (thn (h.run pos pins s σ H _ I hq) fun us s1 ⟨xs, H1, I1, r, z, q⟩ => ⟨by rw [← r.length]; exact z, ?_⟩)
  exact pushT (t := s1.toks) I1 z r fun H' n => q _ H' n
/-! ### tuple(a list), divmod -/
theorem call_tuple_ofS {p : Addr} {ys : List V} {Q : VK} (I : Inv X pins σ H s) (hq : SqL X.K H p ys) (q : ∀ l H', NewT H H' l ys → Q (.ref l) H') : wpAny (model X.prog X.w) X.A (call (.type "tuple") [.ref p]) (EP X pins σ Q) X.xe s := by
  obtain ⟨its, r', pl, hz⟩ := I.list hq
  have hlen := r'.length
  refine call_tuple_list pl.isList (fun h' kp => ?_) (by simp only [List.size_toArray] <;> omega)
  have I1 : Inv X pins σ H { s with heap := h' } := I.kept (t' := s.toks) kp
  exact pushT (t := s.toks) I1 hz r' fun H' n => q _ H' n
theorem call_divmodS {i j : Int} {us : List Value} {Q : VK} (I : Inv X pins σ H s) (r : Vals [.int i, .int j] us) (hc : CDiv i j) (q : ∀ p H', NewT H H' p [.int (i / j), .int (i % j)] → Q (.ref p) H') : wpAny (model X.prog X.w) X.A (call (.builtin "divmod") us) (EP X pins σ Q) X.xe s := by
  obtain ⟨h1, h2⟩ := hc
  obtain ⟨u, w', rfl, ⟨t, rfl⟩, ⟨t', rfl⟩⟩ := vals2 r
  refine divmod_int (by omega) ?_ (.inl (PyProof.noPylong_small (by omega)))
  rw [Int.fdiv_eq_ediv_of_nonneg i (by omega), Int.fmod_eq_emod_of_nonneg i (by omega)]
  exact pushT I (xs := [.int (i / j), .int (i % j)]) (its := [.int (i / j) s.toks, .int (i % j) (s.toks + 1)]) (by simp only [List.length_cons, List.length_nil]; rw [sizeLine_eq]; decide) (.cons ⟨_, rfl⟩ (.cons ⟨_, rfl⟩ .nil)) fun H' n => q _ H' n
/-! ### t + u, t[lo:hi] -/
theorem op_catS {a b : Addr} {xs ys : List V} {v u : Value} {Q : VK} (I : Inv X pins σ H s) (rx : RelV (.ref a) v) (ry : RelV (.ref b) u) (ha : SqT X.K H a xs) (hb : SqT X.K H b ys) (hz : xs.length + ys.length ≤ sizeLine)
    (q0 : xs = [] → Q (.ref b) H) (q1 : xs ≠ [] → ys = [] → Q (.ref a) H) (q2 : xs ≠ [] → ys ≠ [] → ∀ p H', NewT H H' p (xs ++ ys) → Q (.ref p) H') : wpAny (model X.prog X.w) X.A (binaryOp .Add v u) (EP X pins σ Q) X.xe s := by
  cases rx
  cases ry
  obtain ⟨its, r1, p1, _⟩ := I.tuple ha
  obtain ⟨its2, r2, p2, _⟩ := I.tuple hb
  by_cases hx : xs = []
  · subst hx
    cases r1
    exact cat_tup0 p1 p2 ⟨.ref b, H, I, rfl, q0 rfl⟩
  · refine HT.cat_tup p1 p2 (fun z => hx (r1.nil_iff.mp z)) (fun z => ⟨.ref a, H, I, rfl, q1 hx (r2.nil_iff.mp z)⟩) (fun z => ?_) (by rw [← r1.length, ← r2.length]; exact hz)
    exact pushT (t := s.toks) I (by rw [List.length_append]; exact hz) (r1.append r2) fun H' n => q2 hx (fun w => z (r2.nil_iff.mpr w)) _ H' n
def rSlS (K : PySem.W.Frag) : V → Option Int → Option Int → Hp → VK → Prop := fun x lo hi H Q => ∃ a xs, x = .ref a ∧ SqT K H a xs ∧
  (HT.sIx xs.length 0 lo = 0 ∧ HT.sIx xs.length xs.length hi = xs.length → Q (.ref a) H) ∧ (¬ (HT.sIx xs.length 0 lo = 0 ∧ HT.sIx xs.length xs.length hi = xs.length) → ∀ p H', NewT H H' p (cutV xs lo hi) → Q (.ref p) H')
theorem sl_tupS : SlR X (rSlS X.K) := by
  intro pins s σ H x v vl vu lo hi sl Q I rx hs pl pu h
  obtain ⟨a, xs, rfl, hx, q1, q2⟩ := h
  cases rx
  obtain ⟨its, r, ht, hz⟩ := I.tuple hx
  have hlen : its.toArray.size = xs.length := by rw [List.size_toArray]; exact r.length.symm
  refine ⟨"tuple", _, PyProof.Rows.slot_tuple_getitem.lookup, ht.typeIs, ?_⟩
  by_cases hw : HT.sIx xs.length 0 lo = 0 ∧ HT.sIx xs.length xs.length hi = xs.length
  · exact getItem_tuple_whole ht hs pl pu (by rw [hlen]; exact hw) ⟨.ref a, H, I, rfl, q1 hw⟩
  · refine HT.getItem_tuple_cut ht hs pl pu (by rw [hlen]; exact hw) ?_ (by rw [hlen]; exact hz)
    rw [hlen]
    exact pushT (t := s.toks) I (Nat.le_trans (cutV_length xs lo hi) hz) ((r.drop (HT.sIx xs.length 0 lo)).take (HT.sIx xs.length xs.length hi - HT.sIx xs.length 0 lo)) fun H' n => q2 hw _ H' n
/-! ### tuple(range(..)) -/
def tTupRgS (t : St → Hp → (Int → Int → Hp → Prop) → Prop) : TE := fun σ H Q => t σ H fun a b H1 => RgOk a b ∧ ∀ p H2, NewT H1 H2 p (rgV a b) → Q (.ref p) H2
theorem pe_tupRgS {e : Expr} {te : St → Hp → (Int → Int → Hp → Prop) → Prop} {p pos : Pos} (hc : X.calm = true) (hg : Gl X "tuple") (hm : X.mg "tuple" = none) (he : PRg X e te) (na : starEach [e] X.env = (false, eval e X.env) :: starEach [] X.env := by rfl) : PE X (.Call (.Name "tuple" p) [e] [] pos) (tTupRgS te) := by
  refine ⟨fun pins s σ H Q I h => ?_⟩
  refine Call_ (ld_blt I hg hm boot_tuple (PyProof.Rows.callWith_type1 (args_cons (thn (he pins s σ H _ I h) fun x s1 ⟨r, a, b, t, u, v, H1, ex, hr, I1, ok, q⟩ => args_nil ?_) na) na))
  subst ex
  obtain ⟨b1, b2, b3, b4, b5⟩ := ok
  refine call_tuple_range (n := (b - a).toNat) (I1.ok.hd hc) hr (small_one b1 b2 b3 b4) (rangeSize_nat a b) b5 fun h' tk acc hk hi => ?_
  have I2 : Inv X pins σ H1 { s1 with heap := h', toks := tk } := I1.kept hk
  have z := pushT (t := tk) I2 (xs := rgV a b) (its := acc.toList) (by rw [rgV_length, sizeLine_eq]; omega) (vals_rg hi) (Q := Q) fun H' n => q _ H' n
  rw [Array.toArray_toList] at z
  exact z
end
end
end DL

end
section
set_option maxRecDepth 100000
set_option maxHeartbeats 2000000
/-! Primitive operators on data. -/
namespace DL
noncomputable section
open PySem PySem.Spec L2 LamX NdefX
open PyProof.Rows hiding St
theorem lim_ok {n : Nat} (h : n ≤ 16777216) : n ≤ sizeLine := by rw [sizeLine_eq]; exact h
noncomputable def grd {α : Type} (c : Prop) [Decidable c] (r : Rs α) : Rs α := @ite _ c (Classical.propDecidable c) r .bad
theorem grd_ok {α : Type} {c : Prop} [Decidable c] {r : Rs α} {z : α} (h : grd c r = .ok z) : c ∧ r = .ok z := by
  unfold grd at h
  split at h
  · exact ⟨by assumption, h⟩
  · cases h
theorem grd_yes {α : Type} {c : Prop} [Decidable c] {r : Rs α} (h : c) : grd c r = r := if_pos h
section
variable {X : Cx} {T : List NTab}
def pAdd : D → D → Rs D
  | .int i, .int j => .ok (.int (i + j))
  | .str x, .str y => grd (x.length + y.length ≤ 16777216) (.ok (.str (x ++ y)))
  | .list xs, .list ys => grd (xs.length + ys.length ≤ 16777216) (.ok (.list (xs ++ ys)))
  | .tuple xs, .tuple ys => grd (xs.length + ys.length ≤ 16777216) (.ok (.tuple (xs ++ ys)))
  | _, _ => .bad
theorem od_add : OpD X T (binaryOp .Add) pAdd := by
  intro pins s σ H F v u x y d e z Q I rx ry eF hT dx dy hz q
  cases dx with
  | int i =>
    cases dy with
    | int j =>
      cases hz
      exact op_add pins s σ H _ _ v u Q I rx ry ⟨i, j, rfl, rfl, q _ H F (.refl eF hT) (.int _)⟩
    | _ => cases hz
  | str a =>
    cases dy with
    | str b =>
      obtain ⟨hl, hz⟩ := grd_ok hz
      cases hz
      exact op_add_str pins s σ H _ _ v u Q I rx ry ⟨a, b, rfl, rfl, lim_ok hl, q _ H F (.refl eF hT) (.str _)⟩
    | _ => cases hz
  | lst h1 r1 =>
    cases dy with
    | lst h2 r2 =>
      rename_i a1 xs1 ds1 a2 xs2 ds2
      obtain ⟨hl, hz⟩ := grd_ok hz
      cases hz
      refine op_cat pins s σ H _ _ v u Q I rx ry ⟨a1, a2, xs1, xs2, rfl, rfl, eF _ _ h1, eF _ _ h2, lim_ok (by rw [r1.length, r2.length]; exact hl), fun p hp => ?_⟩
      have g := Grow.new (o := .lst (xs1 ++ xs2)) eF hT hp
      exact q _ _ _ g (.lst upd_same ((r1.append r2).mono g.f))
    | _ => cases hz
  | tup h1 r1 =>
    cases dy with
    | tup h2 r2 =>
      rename_i a1 xs1 ds1 a2 xs2 ds2
      obtain ⟨hl, hz⟩ := grd_ok hz
      cases hz
      refine op_catS I rx ry (h1.sq eF) (h2.sq eF) (lim_ok (by rw [r1.length, r2.length]; exact hl)) (fun hx => ?_) (fun hx hy => ?_) fun hx hy p H' hn => ?_
      · subst hx
        cases r1
        exact q _ H F (.refl eF hT) (.tup h2 r2)
      · subst hy
        cases r2
        rw [List.append_nil] at q
        exact q _ H F (.refl eF hT) (.tup h1 r1)
      · obtain ⟨F', g, h3⟩ := hn.grow eF hT
        exact q _ _ _ g (.tup h3 ((r1.append r2).mono g.f))
    | _ => cases hz
  | _ => cases dy <;> cases hz
def pSub : D → D → Rs D
  | .int i, .int j => .ok (.int (i - j))
  | _, _ => .bad
theorem od_sub : OpD X T (binaryOp .Sub) pSub := by
  intro pins s σ H F v u x y d e z Q I rx ry eF hT dx dy hz q
  cases dx <;> cases dy <;> cases hz
  exact op_sub pins s σ H _ _ v u Q I rx ry ⟨_, _, rfl, rfl, q _ H F (.refl eF hT) (.int _)⟩
def repL (xs : List D) (k : Int) : List D := (List.replicate k.toNat xs).flatten
def pMul : D → D → Rs D
  | .int i, .int j => grd ((-(2 ^ 64) < i ∧ i < 2 ^ 64) ∨ (-(2 ^ 64) < j ∧ j < 2 ^ 64)) (.ok (.int (i * j)))
  | .list xs, .int k => grd (-(2 ^ 63) ≤ k ∧ k < 2 ^ 63 ∧ xs.length * k.toNat ≤ 16777216) (.ok (.list (repL xs k)))
  | _, _ => .bad
theorem DatAll.rep {F : Hp} {vs : List V} {ds : List D} (r : DatAll F vs ds) : ∀ n : Nat, DatAll F (List.replicate n vs).flatten (List.replicate n ds).flatten
  | 0 => .nil
  | n + 1 => by
    rw [List.replicate_succ, List.replicate_succ, List.flatten_cons, List.flatten_cons]
    exact r.append (DatAll.rep r n)
theorem od_mul : OpD X T (binaryOp .Mult) pMul := by
  intro pins s σ H F v u x y d e z Q I rx ry eF hT dx dy hz q
  cases dx with
  | int i =>
    cases dy with
    | int j =>
      obtain ⟨hc, hz⟩ := grd_ok hz
      cases hz
      exact op_mul pins s σ H _ _ v u Q I rx ry ⟨i, j, rfl, rfl, hc, q _ H F (.refl eF hT) (.int _)⟩
    | _ => cases hz
  | lst h1 r1 =>
    cases dy with
    | int k =>
      rename_i a1 xs1 ds1
      obtain ⟨hc, hz⟩ := grd_ok hz
      cases hz
      refine op_rep pins s σ H _ _ v u Q I rx ry ⟨a1, k, xs1, rfl, rfl, eF _ _ h1, hc.1, hc.2.1, lim_ok (by rw [r1.length]; exact hc.2.2), fun p hp => ?_⟩
      have g := Grow.new (o := .lst (List.replicate k.toNat xs1).flatten) eF hT hp
      exact q _ _ _ g (.lst upd_same ((r1.rep k.toNat).mono g.f))
    | _ => cases hz
  | _ => cases dy <;> cases hz
def pFdiv : D → D → Rs D
  | .int i, .int j => grd (j ≠ 0 ∧ j.natAbs < 1073741824) (.ok (.int (i.fdiv j)))
  | _, _ => .bad
theorem od_fdiv : OpD X T (binaryOp .FloorDiv) pFdiv := by
  intro pins s σ H F v u x y d e z Q I rx ry eF hT dx dy hz q
  cases dx <;> cases dy <;> first | (cases hz; done) | skip
  obtain ⟨hc, hz⟩ := grd_ok hz
  cases hz
  exact op_fdivN pins s σ H _ _ v u Q I rx ry ⟨_, _, rfl, rfl, hc, q _ H F (.refl eF hT) (.int _)⟩
def pMod : D → D → Rs D
  | .int i, .int j => grd (j ≠ 0) (.ok (.int (i.fmod j)))
  | _, _ => .bad
theorem od_mod : OpD X T (binaryOp .Mod) pMod := by
  intro pins s σ H F v u x y d e z Q I rx ry eF hT dx dy hz q
  cases dx <;> cases dy <;> first | (cases hz; done) | skip
  obtain ⟨hc, hz⟩ := grd_ok hz
  cases hz
  exact op_modN pins s σ H _ _ v u Q I rx ry ⟨_, _, rfl, rfl, hc, q _ H F (.refl eF hT) (.int _)⟩
def pPow : D → D → Rs D
  | .int i, .int j => grd (0 ≤ j ∧ j ≤ 1000000 ∧ i.natAbs < 2 ^ 64) (.ok (.int (i ^ j.toNat)))
  | _, _ => .bad
theorem od_pow : OpD X T (binaryOp .Pow) pPow := by
  intro pins s σ H F v u x y d e z Q I rx ry eF hT dx dy hz q
  cases dx <;> cases dy <;> first | (cases hz; done) | skip
  obtain ⟨hc, hz⟩ := grd_ok hz
  cases hz
  exact op_pow pins s σ H _ _ v u Q I rx ry ⟨_, _, rfl, rfl, hc, q _ H F (.refl eF hT) (.int _)⟩
def pNeg : D → Rs D
  | .int i => .ok (.int (-i))
  | _ => .bad
theorem ud_neg : UnD X T (unaryOp .USub) pNeg := by
  intro pins s σ H F v x d z Q I rx eF hT dx hz q
  cases dx <;> cases hz
  exact un_neg pins s σ H _ v Q I rx ⟨_, rfl, q _ H F (.refl eF hT) (.int _)⟩
def pLt : D → D → Rs D
  | .int i, .int j => .ok (.bool (decide (i < j)))
  | .str i, .str j => .ok (.bool (decide (i.cps.toList < j.cps.toList)))
  | _, _ => .bad
theorem od_lt : OpD X T (compareOp .Lt) pLt := by
  intro pins s σ H F v u x y d e z Q I rx ry eF hT dx dy hz q
  cases dx <;> cases dy <;> cases hz
  · exact op_lt pins s σ H _ _ v u Q I rx ry ⟨_, _, rfl, rfl, q _ H F (.refl eF hT) (.bl _)⟩
  · exact op_lt_str pins s σ H _ _ v u Q I rx ry ⟨_, _, rfl, rfl, q _ H F (.refl eF hT) (.bl _)⟩
def pLe : D → D → Rs D
  | .int i, .int j => .ok (.bool (decide (i ≤ j)))
  | _, _ => .bad
theorem od_le : OpD X T (compareOp .LtE) pLe := by
  intro pins s σ H F v u x y d e z Q I rx ry eF hT dx dy hz q
  cases dx <;> cases dy <;> cases hz
  exact op_le pins s σ H _ _ v u Q I rx ry ⟨_, _, rfl, rfl, q _ H F (.refl eF hT) (.bl _)⟩
def pGt : D → D → Rs D
  | .int i, .int j => .ok (.bool (decide (j < i)))
  | _, _ => .bad
theorem od_gt : OpD X T (compareOp .Gt) pGt := by
  intro pins s σ H F v u x y d e z Q I rx ry eF hT dx dy hz q
  cases dx <;> cases dy <;> cases hz
  exact op_gt pins s σ H _ _ v u Q I rx ry ⟨_, _, rfl, rfl, q _ H F (.refl eF hT) (.bl _)⟩
def pGe : D → D → Rs D
  | .int i, .int j => .ok (.bool (decide (j ≤ i)))
  | _, _ => .bad
theorem od_ge : OpD X T (compareOp .GtE) pGe := by
  intro pins s σ H F v u x y d e z Q I rx ry eF hT dx dy hz q
  cases dx <;> cases dy <;> cases hz
  exact op_ge pins s σ H _ _ v u Q I rx ry ⟨_, _, rfl, rfl, q _ H F (.refl eF hT) (.bl _)⟩
/-! ### == and in, at any depth -/
/-- no dict within, at most n deep -/
def shp : Nat → D → Bool
  | _, .none => true
  | _, .bool _ => true
  | _, .int _ => true
  | _, .str x => PyData.strOk x
  | 0, .list ds => ds.isEmpty
  | 0, .tuple ds => ds.isEmpty
  | n + 1, .list ds => ds.all (shp n)
  | n + 1, .tuple ds => ds.all (shp n)
  | _, .dict _ => false
theorem shp_all {n : Nat} (ih : ∀ d : D, shp n d = true → d.canLay0 = true ∧ d.depth ≤ n + 1) : ∀ ds : List D, ds.all (shp n) = true → PyData.canLayAll0 ds = true ∧ PyData.depthAll ds ≤ n + 1
  | [], _ => by simp [PyData.canLayAll0, PyData.depthAll]
  | d :: ds, h => by
    rw [List.all_cons, Bool.and_eq_true] at h
    obtain ⟨h1, h2⟩ := ih d h.1
    obtain ⟨h3, h4⟩ := shp_all ih ds h.2
    refine ⟨by simp [PyData.canLayAll0, h1, h3], ?_⟩
    simp only [PyData.depthAll]
    omega
theorem shp_ok : ∀ (n : Nat) (d : D), shp n d = true → d.canLay0 = true ∧ d.depth ≤ n + 1
  | n, .none, _ => by simp [PyData.canLay0, PyData.depth]
  | n, .bool _, _ => by simp [PyData.canLay0, PyData.depth]
  | n, .int _, _ => by simp [PyData.canLay0, PyData.depth]
  | n, .str x, h => by
    have e : PyData.strOk x = true := by cases n <;> exact h
    simp [PyData.canLay0, PyData.depth, e]
  | 0, .list ds, h => by
    have e : ds = [] := by simpa [shp] using h
    subst e
    simp [PyData.canLay0, PyData.canLayAll0, PyData.depth, PyData.depthAll]
  | 0, .tuple ds, h => by
    have e : ds = [] := by simpa [shp] using h
    subst e
    simp [PyData.canLay0, PyData.canLayAll0, PyData.depth, PyData.depthAll]
  | n + 1, .list ds, h => by
    obtain ⟨h1, h2⟩ := shp_all (fun d => shp_ok n d) ds (by simpa [shp] using h)
    simp only [PyData.canLay0, PyData.depth]
    exact ⟨h1, by omega⟩
  | n + 1, .tuple ds, h => by
    obtain ⟨h1, h2⟩ := shp_all (fun d => shp_ok n d) ds (by simpa [shp] using h)
    simp only [PyData.canLay0, PyData.depth]
    exact ⟨h1, by omega⟩
  | n, .dict _, h => by
    cases n <;> simp [shp] at h
theorem shp_shaped {n : Nat} {d : D} (h : shp n d = true) (hn : n ≤ 60 := by decide) : SeqAt.shaped d = true := by
  obtain ⟨h1, h2⟩ := shp_ok n d h
  show (d.canLay0 && decide (d.depth ≤ 64)) = true
  rw [h1, decide_eq_true (by omega)]
  rfl
def eqB : D → D → Rs Bool
  | .str x, .str y => .ok (decide (x = y))
  | d, e => grd (shp 20 d = true ∧ shp 20 e = true) (.ok (PyData.eqv d e))
theorem bind_ok {α β : Type} {r : Rs α} {f : α → Rs β} {z : β} (h : r.bind f = .ok z) : ∃ a, r = .ok a ∧ f a = .ok z := by
  cases r with
  | ok a => exact ⟨a, rfl, h⟩
  | _ => cases h
def pEq (d e : D) : Rs D := (eqB d e).bind fun b => .ok (.bool b)
def pNe (d e : D) : Rs D := (eqB d e).bind fun b => .ok (.bool (!b))
theorem eqB_cases {d e : D} {b : Bool} (h : eqB d e = .ok b) : (∃ x y, d = .str x ∧ e = .str y ∧ b = decide (x = y)) ∨ (shp 20 d = true ∧ shp 20 e = true ∧ b = PyData.eqv d e) := by
  unfold eqB at h
  split at h
  · cases h; exact .inl ⟨_, _, rfl, rfl, rfl⟩
  · obtain ⟨⟨h1, h2⟩, h3⟩ := grd_ok h
    cases h3
    exact .inr ⟨h1, h2, rfl⟩
theorem decide_str (x y : Str) : decide (V.str x = V.str y) = decide (x = y) := by
  by_cases h : x = y
  · subst h; rw [decide_eq_true rfl, decide_eq_true rfl]
  · rw [decide_eq_false h, decide_eq_false fun z => h (V.str.inj z)]
theorem od_eq (hu : X.A.units + 64 < cLine) : OpD X T (compareOp .Eq) pEq := by
  intro pins s σ H F v u x y d e z Q I rx ry eF hT dx dy hz q
  obtain ⟨b, hb, hz⟩ := bind_ok hz
  cases hz
  rcases eqB_cases hb with ⟨a, c, rfl, rfl, rfl⟩ | ⟨h1, h2, rfl⟩
  · cases dx; cases dy
    exact op_eq pins s σ H _ _ v u Q I rx ry ⟨rfl, by rw [decide_str]; exact q _ H F (.refl eF hT) (.bl _)⟩
  · exact op_eqD hu pins s σ H _ _ v u Q I rx ry ⟨d, e, dx.dp eF, dy.dp eF, shp_shaped h1, shp_shaped h2, q _ H F (.refl eF hT) (.bl _)⟩
theorem od_ne (hu : X.A.units + 64 < cLine) : OpD X T (compareOp .NotEq) pNe := by
  intro pins s σ H F v u x y d e z Q I rx ry eF hT dx dy hz q
  obtain ⟨b, hb, hz⟩ := bind_ok hz
  cases hz
  rcases eqB_cases hb with ⟨a, c, rfl, rfl, rfl⟩ | ⟨h1, h2, rfl⟩
  · cases dx; cases dy
    exact op_ne pins s σ H _ _ v u Q I rx ry ⟨rfl, by rw [decide_str]; exact q _ H F (.refl eF hT) (.bl _)⟩
  · exact op_neD hu pins s σ H _ _ v u Q I rx ry ⟨d, e, dx.dp eF, dy.dp eF, shp_shaped h1, shp_shaped h2, q _ H F (.refl eF hT) (.bl _)⟩
def dIn (d : D) (ds : List D) : Bool := ds.any fun z => PyData.eqv z d
def pInB (d : D) : D → Rs Bool
  | .list ds => grd (shp 20 d = true ∧ shp 20 (.list ds) = true) (.ok (dIn d ds))
  | .tuple ds => grd (shp 20 d = true ∧ shp 20 (.tuple ds) = true) (.ok (dIn d ds))
  | .str y => match d with
    | .str x => .ok (!(Builtin.Str.occurrences y x 0 y.length 1).isEmpty)
    | _ => .bad
  | _ => .bad
def pIn (d e : D) : Rs D := (pInB d e).bind fun b => .ok (.bool b)
def pNotIn (d e : D) : Rs D := (pInB d e).bind fun b => .ok (.bool (!b))
theorem od_in (hu : X.A.units + 65 < cLine) : OpD X T (compareOp .In) pIn := by
  intro pins s σ H F v u x y d e z Q I rx ry eF hT dx dy hz q
  cases dy with
  | lst h2 r2 =>
    rename_i a2 xs2 ds2
    obtain ⟨b, hb, hz⟩ := bind_ok hz
    obtain ⟨hc, hb⟩ := grd_ok hb
    cases hb
    cases hz
    exact op_inD hu pins s σ H _ _ v u Q I rx ry ⟨d, ds2, dx.dp eF, (Dat.lst h2 r2).dp eF, shp_shaped hc.1, shp_shaped hc.2, q _ H F (.refl eF hT) (.bl _)⟩
  | tup h2 r2 =>
    rename_i a2 xs2 ds2
    obtain ⟨b, hb, hz⟩ := bind_ok hz
    obtain ⟨hc, hb⟩ := grd_ok hb
    cases hb
    cases hz
    obtain ⟨as, r1⟩ := Dp.reads I d x v (dx.dp eF) rx
    obtain ⟨bs, r2'⟩ := Dp.reads I (.tuple ds2) _ u ((Dat.tup h2 r2).dp eF) ry
    exact SeqAt.in_tuple_reads r2' r1 (SeqAt.canLay_of_shaped (shp_shaped hc.2)) (SeqAt.canLay_of_shaped (shp_shaped hc.1)) (room_in_shaped (shp_shaped hc.1) hu) ⟨.bl _, H, I, rfl, q _ H F (.refl eF hT) (.bl _)⟩
  | str y =>
    cases dx with
    | str x =>
      cases hz
      exact op_in_str pins s σ H _ _ v u Q I rx ry ⟨x, y, rfl, rfl, q _ H F (.refl eF hT) (.bl _)⟩
    | _ => cases hz
  | _ => cases hz
theorem od_notIn (hu : X.A.units + 65 < cLine) : OpD X T (compareOp .NotIn) pNotIn := by
  intro pins s σ H F v u x y d e z Q I rx ry eF hT dx dy hz q
  cases dy with
  | lst h2 r2 =>
    rename_i a2 xs2 ds2
    obtain ⟨b, hb, hz⟩ := bind_ok hz
    obtain ⟨hc, hb⟩ := grd_ok hb
    cases hb
    cases hz
    exact op_notInD hu pins s σ H _ _ v u Q I rx ry ⟨d, ds2, dx.dp eF, (Dat.lst h2 r2).dp eF, shp_shaped hc.1, shp_shaped hc.2, q _ H F (.refl eF hT) (.bl _)⟩
  | tup h2 r2 =>
    rename_i a2 xs2 ds2
    obtain ⟨b, hb, hz⟩ := bind_ok hz
    obtain ⟨hc, hb⟩ := grd_ok hb
    cases hb
    cases hz
    obtain ⟨as, r1⟩ := Dp.reads I d x v (dx.dp eF) rx
    obtain ⟨bs, r2'⟩ := Dp.reads I (.tuple ds2) _ u ((Dat.tup h2 r2).dp eF) ry
    exact SeqAt.notIn_tuple_reads r2' r1 (SeqAt.canLay_of_shaped (shp_shaped hc.2)) (SeqAt.canLay_of_shaped (shp_shaped hc.1)) (room_in_shaped (shp_shaped hc.1) hu) ⟨.bl _, H, I, rfl, q _ H F (.refl eF hT) (.bl _)⟩
  | str y =>
    cases dx with
    | str x =>
      cases hz
      exact op_notin_str pins s σ H _ _ v u Q I rx ry ⟨x, y, rfl, rfl, q _ H F (.refl eF hT) (.bl _)⟩
    | _ => cases hz
  | _ => cases hz
def isNon : D → Bool
  | .none => true
  | _ => false
def pIsN (d e : D) : Rs D := match e with
  | .none => .ok (.bool (isNon d))
  | _ => .bad
def pNotN (d e : D) : Rs D := match e with
  | .none => .ok (.bool (!isNon d))
  | _ => .bad
theorem Dat.isNon {F : Hp} {x : V} {d : D} (h : Dat F x d) : decide (x = .non) = isNon d := by
  cases h <;> rfl
theorem od_isN : OpD X T (compareOp .Is) pIsN := by
  intro pins s σ H F v u x y d e z Q I rx ry eF hT dx dy hz q
  cases dy <;> cases hz
  exact op_isN pins s σ H _ _ v u Q I rx ry ⟨rfl, by rw [dx.isNon]; exact q _ H F (.refl eF hT) (.bl _)⟩
theorem od_notN : OpD X T (compareOp .IsNot) pNotN := by
  intro pins s σ H F v u x y d e z Q I rx ry eF hT dx dy hz q
  cases dy <;> cases hz
  exact op_notN pins s σ H _ _ v u Q I rx ry ⟨rfl, by rw [dx.isNon]; exact q _ H F (.refl eF hT) (.bl _)⟩
end
end
end DL

end
section
set_option maxRecDepth 100000
set_option maxHeartbeats 2000000
/-! Expressions: fresh lists, displays, tests, subscripts, built-ins. -/
namespace DL
noncomputable section
open PySem PySem.Spec L2 LamX NdefX
open PyProof.Rows hiding St
section
variable {X : Cx} {G : Gh} {W : WX} {pins : List (Addr × Obj)} {σ : L2.St} {H F : Hp} {s : Shared} {ρ : Env'}
/-! ### a fresh list -/
def rdF (X : Cx) (G : Gh) (W : WX) (m : M (List D)) : TE := fun σ H Q => ∃ F ρ, Rep X G F H σ ρ ∧ At X G W F H σ ρ (m ρ) fun ds ρ' => ∀ p vs H' F', Stp X G F H σ ρ F' H' ρ' → H p = none → H' p = some (.lst vs) → F' p = none → DatAll F' vs ds → Q (.ref p) H'
structure DF (X : Cx) (G : Gh) (W : WX) (e : Expr) (m : M (List D)) : Prop where
  pe : PE X e (rdF X G W m)
theorem Rep.own_there (R : Rep X G F H σ ρ) {p : Addr} (h : OwnA σ ρ p) : ∃ vs, H p = some (.lst vs) := by
  obtain ⟨i, sl, hi, ho, hσ⟩ := h
  have o := R.ok i sl hi
  cases sl with
  | own xs => obtain ⟨q, vs, e, h, _⟩ := o; rw [hσ] at e; cases e; exact ⟨vs, h⟩
  | bor xs => obtain ⟨q, vs, e, h, _⟩ := o; rw [hσ] at e; cases e; exact ⟨vs, h⟩
  | _ => cases ho
theorem Stp.fresh_frz {F' H' : Hp} {ρ' : Env'} {p : Addr} {vs : List V} (R : Rep X G F H σ ρ) (a : Stp X G F H σ ρ F' H' ρ') (hn : H p = none) (hp : H' p = some (.lst vs)) (hF : F' p = none) : Stp X G F H σ ρ (upd F' p (.lst vs)) H' ρ' := by
  have no : ¬ OwnA σ ρ' p := fun h => by
    obtain ⟨ws, e⟩ := R.own_there (a.ow p h)
    rw [hn] at e; cases e
  have h0 : G.H0 p = none := R.gr.there p hn
  obtain ⟨R', e⟩ := a.rep.frz hp hF h0 no
  refine ⟨R', ⟨a.f.trans e, R'.sub, fun b q => ?_, a.gr.old, a.gr.there, a.gr.tabs, fun b ps q => ?_⟩, a.ow⟩
  · by_cases hb : b = p
    · subst hb; exact .inr (.inl (notL hn))
    · rw [upd_ne hb]; exact a.gr.nf b q
  · by_cases hb : b = p
    · subst hb; rw [upd_same] at q; cases q
    · rw [upd_ne hb] at q; exact a.gr.nt b ps q
theorem At.ret {α β : Type} {m : M α} {f : α → β} {ρ0 : Env'} {k : β → Env' → Prop} (h : At X G W F H σ ρ0 ((m.bind fun x => .ret (f x)) ρ) k) : At X G W F H σ ρ0 (m ρ) fun a ρ' => k (f a) ρ' := by
  unfold M.bind at h
  cases hm : m ρ with
  | mk r ρ' =>
    rw [hm] at h
    cases r with
    | ok a => exact h
    | exc c p => exact h
    | bad => exact h
def mL (m : M (List D)) : M D := m.bind fun xs => .ret (.list xs)
/-- a fresh list as data -/
theorem DE.ofF {e : Expr} {m : M (List D)} (h : DF X G W e m) : DE X G W e (mL m) := .of fun pins s σ H F ρ Q I R hq => by
  refine h.pe.run pins s σ H Q I ⟨F, ρ, R, At.mono (At.ret hq) (.refl R) fun ds ρ' _ q => fun p vs H' F' st hn hp hF ha => ?_⟩
  have st' := st.fresh_frz R hn hp hF
  have e : Ex F' (upd F' p (.lst vs)) := fun b o q => by rw [upd_ne (ne_of_none q hF)]; exact q
  exact q (.ref p) H' _ st' (.lst upd_same (ha.mono e))
theorem DF.of {e : Expr} {m : M (List D)} (h : ∀ (pins : List (Addr × Obj)) (s : Shared) (σ : L2.St) (H F : Hp) (ρ : Env') (Q : VK), Inv X pins σ H s → Rep X G F H σ ρ → At X G W F H σ ρ (m ρ) (fun ds ρ' => ∀ p vs H' F', Stp X G F H σ ρ F' H' ρ' → H p = none → H' p = some (.lst vs) → F' p = none → DatAll F' vs ds → Q (.ref p) H') →
    wpAny (model X.prog X.w) X.A (eval e X.env) (EP X pins σ Q) X.xe s) : DF X G W e m :=
  ⟨⟨fun pins s σ H Q I ⟨F, ρ, R, hq⟩ => h pins s σ H F ρ Q I R hq⟩⟩
/-- a list made behind Stp a, at a new place -/
theorem Stp.alloc {F1 H1 : Hp} {ρ1 : Env'} {p : Addr} {vs : List V} {ds : List D} {Q : VK} (R : Rep X G F H σ ρ) (a : Stp X G F H σ ρ F1 H1 ρ1) (hp : H1 p = none) (ha : DatAll F1 vs ds)
    (q : ∀ p vs H' F', Stp X G F H σ ρ F' H' ρ1 → H p = none → H' p = some (.lst vs) → F' p = none → DatAll F' vs ds → Q (.ref p) H') : Q (.ref p) (upd H1 p (.lst vs)) := by
  have g := Grow.fresh (o := .lst vs) a.rep.sub a.rep.tabs hp
  have fp : F1 p = none := by
    cases e : F1 p with
    | none => rfl
    | some u => rw [a.rep.sub p u e] at hp; cases hp
  exact q p vs _ F1 (a.grow g) (a.gr.there p hp) upd_same fp ha
/-! ### argument lists of data -/
def rdA (X : Cx) (G : Gh) (W : WX) (m : M (List D)) : TA := fun σ H Q => ∃ F ρ, Rep X G F H σ ρ ∧ At X G W F H σ ρ (m ρ) fun ds ρ' => ∀ vs H' F', Stp X G F H σ ρ F' H' ρ' → DatAll F' vs ds → Q vs H'
structure DA (X : Cx) (G : Gh) (W : WX) (es : List Expr) (m : M (List D)) : Prop where
  pa : PA X es (rdA X G W m)
def mNil : M (List D) := .ret []
def mCons (ma : M D) (mr : M (List D)) : M (List D) := ma.bind fun x => mr.bind fun xs => .ret (x :: xs)
theorem At.bindM {α β : Type} {m : M α} {f : α → M β} {ρ0 : Env'} {k : β → Env' → Prop} (h : At X G W F H σ ρ0 ((m.bind f) ρ) k) : At X G W F H σ ρ0 (m ρ) fun a ρ' => At X G W F H σ ρ0 (f a ρ') k := by
  unfold M.bind at h
  cases hm : m ρ with
  | mk r ρ' =>
    rw [hm] at h
    cases r with
    | ok a => exact h
    | exc c p => exact h
    | bad => exact h
theorem DA.nil : DA X G W [] mNil := ⟨⟨fun pos pins s σ H Q I ⟨F, ρ, R, hq⟩ => pa_nil.run pos pins s σ H Q I (hq [] H F (.refl R) .nil)⟩⟩
theorem DA.cons {e : Expr} {es : List Expr} {ma : M D} {mr : M (List D)} (ha : DE X G W e ma) (hr : DA X G W es mr) (hs : starEach (e :: es) X.env = (false, eval e X.env) :: starEach es X.env := by rfl) : DA X G W (e :: es) (mCons ma mr) := by
  refine ⟨⟨fun pos pins s σ H Q I ⟨F, ρ, R, hq⟩ => (pa_cons ha.pe hr.pa hs).run pos pins s σ H Q I ?_⟩⟩
  refine ⟨F, ρ, R, At.mono (At.bindM hq) (.refl R) fun d ρ1 _ q1 => fun v H1 F1 st dv => ?_⟩
  have q1 : At X G W F H σ ρ ((mr.bind fun xs => .ret (d :: xs)) ρ1) _ := q1
  exact ⟨F1, ρ1, st.rep, At.mono (At.bindM q1) st fun ds ρ2 _ q2 => fun vs H2 F2 st2 dvs => q2 (v :: vs) H2 F2 (st.trans st2) (.cons (dv.mono st2.f) dvs)⟩
/-- a tuple, a list of written items -/
theorem DE.tup {es : List Expr} {x1} {pos : Pos} {m : M (List D)} (h : DA X G W es m) (hl : es.length ≤ 1000 := by decide) : DE X G W (.Tuple es x1 pos) (m.bind fun xs => .lift (grd (xs.length ≤ 16777216) (.ok (.tuple xs))).pure?) := by
  refine .of fun pins s σ H F ρ Q I R hq => (pe_tupS h.pa).run pins s σ H Q I ?_
  refine ⟨F, ρ, R, At.mono (At.bindM hq) (.refl R) fun ds ρ1 _ q1 => fun vs H1 F1 st dvs => ?_⟩
  obtain ⟨z, hz, q⟩ := At.prim q1
  obtain ⟨hz', hz⟩ := grd_ok hz
  cases hz
  refine ⟨lim_ok (by rw [dvs.length]; exact hz'), fun p H2 hn => ?_⟩
  obtain ⟨F', g, h3⟩ := hn.grow st.rep.sub st.rep.tabs
  exact q (.ref p) _ _ (st.grow g) (.tup h3 (dvs.mono g.f))
def mTup (m : M (List D)) : M D := m.bind fun xs => .lift (grd (xs.length ≤ 16777216) (.ok (.tuple xs))).pure?
def mLst (m : M (List D)) : M (List D) := m.bind fun xs => .lift (grd (xs.length ≤ 16777216) (.ok xs)).pure?
theorem DF.lst {es : List Expr} {pos : Pos} {m : M (List D)} (h : DA X G W es m) : DF X G W (.List es pos) (mLst m) := by
  refine .of fun pins s σ H F ρ Q I R hq => (pe_lst h.pa).run pins s σ H Q I ?_
  refine ⟨F, ρ, R, At.mono (At.bindM hq) (.refl R) fun ds ρ1 _ q1 => fun vs H1 F1 st dvs => ?_⟩
  obtain ⟨z, hz, q⟩ := At.prim q1
  obtain ⟨hz', hz⟩ := grd_ok hz
  cases hz
  exact ⟨lim_ok (by rw [dvs.length]; exact hz'), fun p hp => st.alloc R hp dvs q⟩
end
end
end DL

end
section
set_option maxRecDepth 100000
set_option maxHeartbeats 2000000
/-! Calls of built-ins on data. -/
namespace DL
noncomputable section
open PySem PySem.Spec L2 LamX NdefX
open PyProof.Rows hiding St
section
variable {X : Cx} {T : List NTab}
def CallD (X : Cx) (T : List NTab) (f : Value) (p : List D → Rs D) : Prop :=
  ∀ (pins : List (Addr × Obj)) (s : Shared) (σ : L2.St) (H F : Hp) (us : List Value) (vs : List V) (ds : List D) (z : D) (Q : VK), Inv X pins σ H s → Vals vs us → Ex F H → TabsN T H → DatAll F vs ds → p ds = .ok z →
    (∀ w H' F', Grow T No F H F' H' → Dat F' w z → Q w H') → wpAny (model X.prog X.w) X.A (call f us) (EP X pins σ Q) X.xe s
def CallF (X : Cx) (T : List NTab) (f : Value) (p : List D → Rs (List D)) : Prop :=
  ∀ (pins : List (Addr × Obj)) (s : Shared) (σ : L2.St) (H F : Hp) (us : List Value) (vs : List V) (ds : List D) (zs : List D) (Q : VK), Inv X pins σ H s → Vals vs us → Ex F H → TabsN T H → DatAll F vs ds → p ds = .ok zs →
    (∀ a ws, H a = none → DatAll F ws zs → Q (.ref a) (upd H a (.lst ws))) → wpAny (model X.prog X.w) X.A (call f us) (EP X pins σ Q) X.xe s
def ListW (X : Cx) (T : List NTab) (f : Value) (p : List D → Rs D) : Prop :=
  ∀ (pins : List (Addr × Obj)) (s : Shared) (σ : L2.St) (H F : Hp) (a : Addr) (vs : List V) (xs : List D) (z : D) (Q : VK), Inv X pins σ H s → Ex F H → TabsN T H → H a = some (.lst vs) → DatAll F vs xs → p xs = .ok z →
    (∀ w H' F', Grow T No F H F' H' → Dat F' w z → Q w H') → wpAny (model X.prog X.w) X.A (call f [.ref a]) (EP X pins σ Q) X.xe s
def ListWF (X : Cx) (T : List NTab) (f : Value) (p : List D → Rs (List D)) : Prop :=
  ∀ (pins : List (Addr × Obj)) (s : Shared) (σ : L2.St) (H F : Hp) (a : Addr) (vs : List V) (xs : List D) (zs : List D) (Q : VK), Inv X pins σ H s → Ex F H → TabsN T H → H a = some (.lst vs) → DatAll F vs xs → p xs = .ok zs →
    (∀ a ws, H a = none → DatAll F ws zs → Q (.ref a) (upd H a (.lst ws))) → wpAny (model X.prog X.w) X.A (call f [.ref a]) (EP X pins σ Q) X.xe s
/-- on a list, on a tuple -/
def one1 {α : Type} (pl pt : List D → Rs α) : List D → Rs α
  | [.list xs] => pl xs
  | [.tuple xs] => pt xs
  | _ => .bad
def TupW (X : Cx) (T : List NTab) (f : Value) (p : List D → Rs D) : Prop :=
  ∀ (pins : List (Addr × Obj)) (s : Shared) (σ : L2.St) (H F : Hp) (a : Addr) (vs : List V) (xs : List D) (z : D) (Q : VK), Inv X pins σ H s → Ex F H → TabsN T H → TupS F a vs → DatAll F vs xs → p xs = .ok z →
    (∀ w H' F', Grow T No F H F' H' → Dat F' w z → Q w H') → wpAny (model X.prog X.w) X.A (call f [.ref a]) (EP X pins σ Q) X.xe s
def TupWF (X : Cx) (T : List NTab) (f : Value) (p : List D → Rs (List D)) : Prop :=
  ∀ (pins : List (Addr × Obj)) (s : Shared) (σ : L2.St) (H F : Hp) (a : Addr) (vs : List V) (xs : List D) (zs : List D) (Q : VK), Inv X pins σ H s → Ex F H → TabsN T H → TupS F a vs → DatAll F vs xs → p xs = .ok zs →
    (∀ a ws, H a = none → DatAll F ws zs → Q (.ref a) (upd H a (.lst ws))) → wpAny (model X.prog X.w) X.A (call f [.ref a]) (EP X pins σ Q) X.xe s
def noB {α : Type} : List D → Rs α := fun _ => .bad
theorem TupW.no {f : Value} : TupW X T f noB := fun _ _ _ _ _ _ _ _ _ _ _ _ _ _ _ h => nomatch h
theorem TupWF.no {f : Value} : TupWF X T f noB := fun _ _ _ _ _ _ _ _ _ _ _ _ _ _ _ h => nomatch h
theorem CallD.of {f : Value} {pl pt : List D → Rs D} (hl : ListW X T f pl) (ht : TupW X T f pt) : CallD X T f (one1 pl pt) := by
  intro pins s σ H F us vs ds z Q I r eF hT da hz q
  unfold one1 at hz
  split at hz
  · cases da with
    | cons d1 d2 =>
      cases d2
      cases d1 with
      | lst h1 r1 =>
        rename_i a ws
        have e : us = [.ref a] := Vals.ref1 r
        subst e
        exact hl pins s σ H F a ws _ z Q I eF hT (eF _ _ h1) r1 hz q
  · cases da with
    | cons d1 d2 =>
      cases d2
      cases d1 with
      | tup h1 r1 =>
        rename_i a ws
        have e : us = [.ref a] := Vals.ref1 r
        subst e
        exact ht pins s σ H F a ws _ z Q I eF hT h1 r1 hz q
  · cases hz
theorem CallF.of {f : Value} {pl pt : List D → Rs (List D)} (hl : ListWF X T f pl) (ht : TupWF X T f pt) : CallF X T f (one1 pl pt) := by
  intro pins s σ H F us vs ds z Q I r eF hT da hz q
  unfold one1 at hz
  split at hz
  · cases da with
    | cons d1 d2 =>
      cases d2
      cases d1 with
      | lst h1 r1 =>
        rename_i a ws
        have e : us = [.ref a] := Vals.ref1 r
        subst e
        exact hl pins s σ H F a ws _ z Q I eF hT (eF _ _ h1) r1 hz q
  · cases da with
    | cons d1 d2 =>
      cases d2
      cases d1 with
      | tup h1 r1 =>
        rename_i a ws
        have e : us = [.ref a] := Vals.ref1 r
        subst e
        exact ht pins s σ H F a ws _ z Q I eF hT h1 r1 hz q
  · cases hz
/-! ### len, tuple, list -/
def qLen (xs : List D) : Rs D := .ok (.int xs.length)
theorem lw_len : ListW X T (.builtin "len") qLen := by
  intro pins s σ H F a vs xs z Q I eF hT h r hz q
  cases hz
  exact call_len_seq pins s σ H [.ref a] [.ref a] Q I (.cons rfl .nil) ⟨a, vs, rfl, .inl (.of h), by rw [r.length]; exact q _ H F (.refl eF hT) (.int _)⟩
theorem tw_len : TupW X T (.builtin "len") qLen := by
  intro pins s σ H F a vs xs z Q I eF hT h r hz q
  cases hz
  exact call_len_seq pins s σ H [.ref a] [.ref a] Q I (.cons rfl .nil) ⟨a, vs, rfl, .inr (h.sq eF), by rw [r.length]; exact q _ H F (.refl eF hT) (.int _)⟩
def pLen : List D → Rs D
  | [.list xs] => qLen xs
  | [.tuple xs] => qLen xs
  | [.str x] => grd (x.length ≤ 16777216) (.ok (.int x.length))
  | _ => .bad
theorem cd_len : CallD X T (.builtin "len") pLen := by
  intro pins s σ H F us vs ds z Q I r eF hT da hz q
  unfold pLen at hz
  split at hz
  · exact CallD.of lw_len tw_len pins s σ H F us vs _ z Q I r eF hT da hz q
  · exact CallD.of lw_len tw_len pins s σ H F us vs _ z Q I r eF hT da hz q
  · obtain ⟨hl, hz⟩ := grd_ok hz
    cases hz
    cases da with
    | cons d1 d2 =>
      cases d2
      cases d1
      exact call_len_str pins s σ H _ us Q I r ⟨_, rfl, lim_ok hl, q _ H F (.refl eF hT) (.int _)⟩
  · cases hz
def qTup (xs : List D) : Rs D := .ok (.tuple xs)
theorem lw_tuple : ListW X T (.type "tuple") qTup := by
  intro pins s σ H F a vs xs z Q I eF hT h r hz q
  cases hz
  refine call_tuple_ofS I (.of h) fun l H' hn => ?_
  obtain ⟨F', g, h3⟩ := hn.grow eF hT
  exact q _ _ _ g (.tup h3 (r.mono g.f))
theorem tw_tuple : TupW X T (.type "tuple") qTup := by
  intro pins s σ H F a vs xs z Q I eF hT h r hz q
  cases hz
  exact call_tuple_of pins s σ H [.ref a] [.ref a] Q I (.cons rfl .nil) ⟨a, vs, rfl, .inr ⟨h.sq eF, q _ H F (.refl eF hT) (.tup h r)⟩⟩
theorem lf_list : ListWF X T (.type "list") .ok := by
  intro pins s σ H F a vs xs z Q I eF hT h r hz q
  cases hz
  exact call_list_of pins s σ H [.ref a] [.ref a] Q I (.cons rfl .nil) ⟨a, vs, rfl, .inl (.of h), fun l hl => q l vs hl r⟩
theorem tf_list : TupWF X T (.type "list") .ok := by
  intro pins s σ H F a vs xs z Q I eF hT h r hz q
  cases hz
  exact call_list_of pins s σ H [.ref a] [.ref a] Q I (.cons rfl .nil) ⟨a, vs, rfl, .inr (h.sq eF), fun l hl => q l vs hl r⟩
/-! ### numbers -/
def intsOf : List D → Option (List Int)
  | [] => some []
  | .int i :: r => (intsOf r).map (i :: ·)
  | _ => none
theorem intsOf_some : ∀ {xs : List D} {ns : List Int}, intsOf xs = some ns → xs = ns.map PyData.int
  | [], ns, h => by cases h; rfl
  | .int i :: r, ns, h => by
    unfold intsOf at h
    cases e : intsOf r with
    | none => rw [e] at h; cases h
    | some ms => rw [e] at h; cases h; rw [List.map_cons, intsOf_some e]
  | .none :: _, _, h => by cases h
  | .bool _ :: _, _, h => by cases h
  | .str _ :: _, _, h => by cases h
  | .list _ :: _, _, h => by cases h
  | .tuple _ :: _, _, h => by cases h
  | .dict _ :: _, _, h => by cases h
def blsOf : List D → Option (List Bool)
  | [] => some []
  | .bool i :: r => (blsOf r).map (i :: ·)
  | _ => none
theorem blsOf_some : ∀ {xs : List D} {ns : List Bool}, blsOf xs = some ns → xs = ns.map PyData.bool
  | [], ns, h => by cases h; rfl
  | .bool i :: r, ns, h => by
    unfold blsOf at h
    cases e : blsOf r with
    | none => rw [e] at h; cases h
    | some ms => rw [e] at h; cases h; rw [List.map_cons, blsOf_some e]
  | .none :: _, _, h => by cases h
  | .int _ :: _, _, h => by cases h
  | .str _ :: _, _, h => by cases h
  | .list _ :: _, _, h => by cases h
  | .tuple _ :: _, _, h => by cases h
  | .dict _ :: _, _, h => by cases h
theorem DatAll.bl_inv {F : Hp} : ∀ {vs : List V} {bs : List Bool}, DatAll F vs (bs.map PyData.bool) → vs = bs.map V.bl
  | _, [], .nil => rfl
  | _, n :: ns, .cons h r => by
    cases h
    rw [List.map_cons, DatAll.bl_inv r]
def ofO {α β : Type} (o : Option α) (f : α → Rs β) : Rs β := match o with
  | some a => f a
  | none => .bad
theorem ofO_ok {α β : Type} {o : Option α} {f : α → Rs β} {z : β} (h : ofO o f = .ok z) : ∃ a, o = some a ∧ f a = .ok z := by
  cases o with
  | some a => exact ⟨a, rfl, h⟩
  | none => cases h
def qSum (xs : List D) : Rs D := ofO (intsOf xs) fun ns => .ok (.int ns.sum)
theorem lw_sum (hc : X.calm = true) : ListW X T (.builtin "sum") qSum := by
  intro pins s σ H F a vs xs z Q I eF hT h r hz q
  obtain ⟨ns, e, hz⟩ := ofO_ok hz
  cases hz
  have ex := intsOf_some e
  subst ex
  have ev := r.int_inv
  subst ev
  exact cr_sum hc pins s σ H [.ref a] [.ref a] Q I (.cons rfl .nil) ⟨a, ns, rfl, .of h, q _ H F (.refl eF hT) (.int _)⟩
def qAll (xs : List D) : Rs D := ofO (blsOf xs) fun bs => .ok (.bool (bs.all id))
def qAny (xs : List D) : Rs D := ofO (blsOf xs) fun bs => .ok (.bool (bs.any id))
theorem lw_all (hc : X.calm = true) : ListW X T (.builtin "all") qAll := by
  intro pins s σ H F a vs xs z Q I eF hT h r hz q
  obtain ⟨ns, e, hz⟩ := ofO_ok hz
  cases hz
  have ex := blsOf_some e
  subst ex
  have ev := r.bl_inv
  subst ev
  exact cr_all hc pins s σ H [.ref a] [.ref a] Q I (.cons rfl .nil) ⟨a, ns, rfl, .of h, q _ H F (.refl eF hT) (.bl _)⟩
theorem lw_any (hc : X.calm = true) : ListW X T (.builtin "any") qAny := by
  intro pins s σ H F a vs xs z Q I eF hT h r hz q
  obtain ⟨ns, e, hz⟩ := ofO_ok hz
  cases hz
  have ex := blsOf_some e
  subst ex
  have ev := r.bl_inv
  subst ev
  exact cr_any hc pins s σ H [.ref a] [.ref a] Q I (.cons rfl .nil) ⟨a, ns, rfl, .of h, q _ H F (.refl eF hT) (.bl _)⟩
def pAbs : List D → Rs D
  | [.int i] => .ok (.int (if i < 0 then -i else i))
  | _ => .bad
theorem cd_abs : CallD X T (.builtin "abs") pAbs := by
  intro pins s σ H F us vs ds z Q I r eF hT da hz q
  unfold pAbs at hz
  split at hz
  · cases hz
    cases da with
    | cons d1 d2 =>
      cases d2; cases d1
      exact call_abs pins s σ H _ us Q I r ⟨_, rfl, q _ H F (.refl eF hT) (.int _)⟩
  · cases hz
def pInt : List D → Rs D
  | [.int i] => .ok (.int i)
  | [.bool b] => .ok (.int (if b then 1 else 0))
  | _ => .bad
theorem cd_int : CallD X T (.type "int") pInt := by
  intro pins s σ H F us vs ds z Q I r eF hT da hz q
  unfold pInt at hz
  split at hz
  · cases hz
    cases da with
    | cons d1 d2 =>
      cases d2; cases d1
      exact call_int1 pins s σ H _ us Q I r (.inl ⟨_, rfl, q _ H F (.refl eF hT) (.int _)⟩)
  · cases hz
    cases da with
    | cons d1 d2 =>
      cases d2; cases d1
      exact call_int1 pins s σ H _ us Q I r (.inr ⟨_, rfl, q _ H F (.refl eF hT) (.int _)⟩)
  · cases hz
def pStr : List D → Rs D
  | [.int i] => grd (i.natAbs.log2 < 1920) (.ok (.str (toString i)))
  | _ => .bad
theorem cd_str : CallD X T (.type "str") pStr := by
  intro pins s σ H F us vs ds z Q I r eF hT da hz q
  unfold pStr at hz
  split at hz
  · obtain ⟨hl, hz⟩ := grd_ok hz
    cases hz
    cases da with
    | cons d1 d2 =>
      cases d2; cases d1
      exact call_str_int pins s σ H _ us Q I r ⟨_, rfl, hl, q _ H F (.refl eF hT) (.str _)⟩
  · cases hz
def pDivmod : List D → Rs D
  | [.int i, .int j] => grd (0 < j ∧ j < 1073741824) (.ok (.tuple [.int (i / j), .int (i % j)]))
  | _ => .bad
theorem cd_divmod : CallD X T (.builtin "divmod") pDivmod := by
  intro pins s σ H F us vs ds z Q I r eF hT da hz q
  unfold pDivmod at hz
  split at hz
  · rename_i i j
    obtain ⟨hl, hz⟩ := grd_ok hz
    cases hz
    cases da with
    | cons d1 d2 =>
      cases d2 with
      | cons d2 d3 =>
        cases d3; cases d1; cases d2
        refine call_divmodS I r hl fun p H' hn => ?_
        obtain ⟨F', g, h3⟩ := hn.grow eF hT
        exact q _ _ _ g (.tup h3 (.cons (.int _) (.cons (.int _) .nil)))
  · cases hz
def pMax2 : List D → Rs D
  | [.int i, .int j] => .ok (.int (if j > i then j else i))
  | _ => .bad
def pMin2 : List D → Rs D
  | [.int i, .int j] => .ok (.int (if j < i then j else i))
  | _ => .bad
theorem cd_max2 (hc : X.calm = true) : CallD X T (.builtin "max") pMax2 := by
  intro pins s σ H F us vs ds z Q I r eF hT da hz q
  unfold pMax2 at hz
  split at hz
  · cases hz
    cases da with
    | cons d1 d2 =>
      cases d2 with
      | cons d2 d3 =>
        cases d3; cases d1; cases d2
        exact call_max2 hc pins s σ H _ us Q I r ⟨_, _, rfl, q _ H F (.refl eF hT) (.int _)⟩
  · cases hz
theorem cd_min2 (hc : X.calm = true) : CallD X T (.builtin "min") pMin2 := by
  intro pins s σ H F us vs ds z Q I r eF hT da hz q
  unfold pMin2 at hz
  split at hz
  · cases hz
    cases da with
    | cons d1 d2 =>
      cases d2 with
      | cons d2 d3 =>
        cases d3; cases d1; cases d2
        exact call_min2 hc pins s σ H _ us Q I r ⟨_, _, rfl, q _ H F (.refl eF hT) (.int _)⟩
  · cases hz
/-! ### repr -/
theorem Dat.reads {F : Hp} {pins : List (Addr × Obj)} {σ : L2.St} {H : Hp} {s : Shared} (I : Inv X pins σ H s) (eF : Ex F H) {x : V} {u : Value} {d : D} (h : Dat F x d) (r : RelV x u) : ∃ as, Reads s.heap u d as := Dp.reads I d x u (h.dp eF) r
theorem shp_noDict : ∀ (n : Nat) (d : D), shp n d = true → d.hasDict = false
  | n, .none, _ => by simp [PyData.hasDict]
  | n, .bool _, _ => by simp [PyData.hasDict]
  | n, .int _, _ => by simp [PyData.hasDict]
  | n, .str _, _ => by simp [PyData.hasDict]
  | 0, .list ds, h => by
    have e : ds = [] := by simpa [shp] using h
    subst e
    simp [PyData.hasDict, PyData.hasDictAll]
  | 0, .tuple ds, h => by
    have e : ds = [] := by simpa [shp] using h
    subst e
    simp [PyData.hasDict, PyData.hasDictAll]
  | n + 1, .list ds, h => by
    simp only [PyData.hasDict]
    exact all_noDict n ds (by simpa [shp] using h)
  | n + 1, .tuple ds, h => by
    simp only [PyData.hasDict]
    exact all_noDict n ds (by simpa [shp] using h)
  | n, .dict _, h => by cases n <;> simp [shp] at h
where
  all_noDict (n : Nat) : ∀ ds : List D, (∀ x ∈ ds, shp n x = true) → PyData.hasDictAll ds = false
    | [], _ => by simp [PyData.hasDictAll]
    | d :: ds, h => by
      simp only [PyData.hasDictAll, Bool.or_eq_false_iff]
      exact ⟨shp_noDict n d (h d List.mem_cons_self), all_noDict n ds fun x hx => h x (List.mem_cons_of_mem _ hx)⟩
def pRepr : List D → Rs D
  | [d] => grd (shp 20 d = true ∧ d.showable = true ∧ d.shown.length ≤ 16777216) (.ok (.str d.shown))
  | _ => .bad
theorem cd_repr (hg : X.A.guards = some []) (hu : X.A.units + 64 < cLine) : CallD X T (.builtin "repr") pRepr := by
  intro pins s σ H F us vs ds z Q I r eF hT da hz q
  unfold pRepr at hz
  split at hz
  · obtain ⟨⟨h1, h2, h3⟩, hz⟩ := grd_ok hz
    cases hz
    cases da with
    | cons d1 d2 =>
      cases d2
      cases r with
      | cons r1 r2 =>
        cases r2
        rename_i x u
        have fin : ∀ (h' : Heap) (tk : Nat) (t : Tok), (∀ b o, s.heap.get? b = some o → h'.get? b = some o) → EP X pins σ Q (.str _ t) { s with heap := h', toks := tk } := fun h' tk t k =>
          ⟨.str _, H, I.kept (t' := tk) k, ⟨t, rfl⟩, q _ H F (.refl eF hT) (.str _)⟩
        obtain ⟨as, rd⟩ := d1.reads I eF r1
        cases d1 with
        | non => cases r1; exact PySem.P.repr_of_none (fin s.heap _ _ fun _ _ e => e)
        | bl b => cases r1; exact PySem.P.repr_of_bool (fin s.heap _ _ fun _ _ e => e)
        | int i =>
          obtain ⟨t, rfl⟩ := r1
          exact PySem.P.repr_of_int (by simpa [PyData.showable] using h2) (fin s.heap _ _ fun _ _ e => e)
        | str y =>
          obtain ⟨t, rfl⟩ := r1
          exact PySem.P.repr_of_str (fin s.heap _ _ fun _ _ e => e) (lim_ok h3)
        | lst hh rr =>
          cases r1
          obtain ⟨_, hd⟩ := shp_ok 20 _ h1
          exact repr_of_reads' rd h2 (fun hx => by rw [shp_noDict 20 _ h1] at hx; cases hx) hg (by omega) (fun _ _ e => e) (fun h' u tk k => fin h' tk u k) (lim_ok h3)
        | tup hh rr =>
          cases r1
          obtain ⟨_, hd⟩ := shp_ok 20 _ h1
          exact repr_of_reads' rd h2 (fun hx => by rw [shp_noDict 20 _ h1] at hx; cases hx) hg (by omega) (fun _ _ e => e) (fun h' u tk k => fin h' tk u k) (lim_ok h3)
  · cases hz
end
end
end DL

end
section
set_option maxRecDepth 100000
set_option maxHeartbeats 2000000
/-! Expression rules. -/
namespace DL
noncomputable section
open PySem PySem.Spec L2 LamX NdefX
open PyProof.Rows hiding St
section
variable {X : Cx} {G : Gh} {W : WX} {pins : List (Addr × Obj)} {σ : L2.St} {H F : Hp} {s : Shared} {ρ : Env'}
theorem PE.imp {e : Expr} {t t' : TE} (h : PE X e t) (i : ∀ σ H Q, t' σ H Q → t σ H Q) : PE X e t' := ⟨fun pins s σ H Q I q => h.run pins s σ H Q I (i σ H Q q)⟩
/-- te-level: an expression, then .. -/
theorem rd_step {α : Type} {ma : M D} {k : D → M α} {ρ0 : Env'} {H0 F0 : Hp} {kk : α → Env' → Prop} (R : Stp X G F0 H0 σ ρ0 F H ρ) (hq : At X G W F0 H0 σ ρ0 ((ma.bind k) ρ) kk) {Q : VK}
    (next : ∀ d ρ1 v H1 F1, Stp X G F H σ ρ F1 H1 ρ1 → Dat F1 v d → At X G W F0 H0 σ ρ0 (k d ρ1) kk → Q v H1) : rdE X G W ma σ H Q :=
  ⟨F, ρ, R.rep, At.mono (At.bindM hq) R fun d ρ1 _ q => fun v H1 F1 st dv => next d ρ1 v H1 F1 st dv q⟩
/-! ### calls of built-ins -/
def mCall (p : List D → Rs D) (m : M (List D)) : M D := m.bind fun ds => .lift (p ds).pure?
def mCallF (p : List D → Rs (List D)) (m : M (List D)) : M (List D) := m.bind fun ds => .lift (p ds).pure?
def rD (T : List NTab) (p : List D → Rs D) : List V → Hp → VK → Prop := fun vs H Q => ∃ F ds z, Ex F H ∧ TabsN T H ∧ DatAll F vs ds ∧ p ds = .ok z ∧ ∀ w H' F', Grow T No F H F' H' → Dat F' w z → Q w H'
def rF (T : List NTab) (p : List D → Rs (List D)) : List V → Hp → VK → Prop := fun vs H Q => ∃ F ds zs, Ex F H ∧ TabsN T H ∧ DatAll F vs ds ∧ p ds = .ok zs ∧ ∀ a ws, H a = none → DatAll F ws zs → Q (.ref a) (upd H a (.lst ws))
theorem CallD.r {T : List NTab} {f : Value} {p : List D → Rs D} (h : CallD X T f p) : CallR X f (rD T p) := fun pins s σ H vs us Q I r ⟨F, ds, z, eF, hT, da, hz, q⟩ => h pins s σ H F us vs ds z Q I r eF hT da hz q
theorem CallF.r {T : List NTab} {f : Value} {p : List D → Rs (List D)} (h : CallF X T f p) : CallR X f (rF T p) := fun pins s σ H vs us Q I r ⟨F, ds, z, eF, hT, da, hz, q⟩ => h pins s σ H F us vs ds z Q I r eF hT da hz q
theorem tCB_D {p : List D → Rs D} {m : M (List D)} {Q : VK} (h : rdE X G W (mCall p m) σ H Q) : tCB (rD G.T p) (rdA X G W m) σ H Q := by
  obtain ⟨F, ρ, R, hq⟩ := h
  refine ⟨F, ρ, R, At.mono (At.bindM hq) (.refl R) fun ds ρ1 _ q1 => fun vs H1 F1 st da => ?_⟩
  obtain ⟨z, hz, q⟩ := At.prim q1
  exact ⟨F1, ds, z, st.rep.sub, st.rep.tabs, da, hz, fun w H' F' g dw => q w H' F' (st.grow g) dw⟩
theorem tCB_F {p : List D → Rs (List D)} {m : M (List D)} {Q : VK} (h : rdF X G W (mCallF p m) σ H Q) : tCB (rF G.T p) (rdA X G W m) σ H Q := by
  obtain ⟨F, ρ, R, hq⟩ := h
  refine ⟨F, ρ, R, At.mono (At.bindM hq) (.refl R) fun ds ρ1 _ q1 => fun vs H1 F1 st da => ?_⟩
  obtain ⟨z, hz, q⟩ := At.prim q1
  exact ⟨F1, ds, z, st.rep.sub, st.rep.tabs, da, hz, fun a ws ha dw => st.alloc R ha dw q⟩
theorem DE.callB {id : String} {x : Str} {p : Pos} {e : Expr} {es : List Expr} {pos : Pos} {f : List D → Rs D} {m : M (List D)} (hc : CallD X G.T (.builtin id) f) (hg : Gl X x) (hm : X.mg x = none) (hv : bootBuiltins x = some (.builtin id)) (ha : DA X G W (e :: es) m) (hn : x ≠ "__name__" := by decide) (hdb : (x == ("__debug__" : Str)) = false := by decide)
    (he : starEach (e :: es) X.env = (false, eval e X.env) :: starEach es X.env := by rfl) (hpl : (backTo pos (starEach es X.env)).any (·.1) = false := by rfl) : DE X G W (.Call (.Name x p) (e :: es) [] pos) (mCall f m) :=
  ⟨PE.imp (pe_callB hc.r hg hm hv ha.pa hn hdb he hpl) fun _ _ _ => tCB_D⟩
theorem DE.callTy {T : String} {x : Str} {p : Pos} {e : Expr} {es : List Expr} {pos : Pos} {f : List D → Rs D} {m : M (List D)} (hc : CallD X G.T (.type T) f) (hg : Gl X x) (hm : X.mg x = none) (hv : bootBuiltins x = some (.type T)) (ha : DA X G W (e :: es) m) (hn : x ≠ "__name__" := by decide) (hdb : (x == ("__debug__" : Str)) = false := by decide)
    (he : starEach (e :: es) X.env = (false, eval e X.env) :: starEach es X.env := by rfl) (hpl : (backTo pos (starEach es X.env)).any (·.1) = false := by rfl) : DE X G W (.Call (.Name x p) (e :: es) [] pos) (mCall f m) :=
  ⟨PE.imp (pe_callTy hc.r hg hm hv ha.pa hn hdb he hpl) fun _ _ _ => tCB_D⟩
theorem DF.callB {id : String} {x : Str} {p : Pos} {e : Expr} {es : List Expr} {pos : Pos} {f : List D → Rs (List D)} {m : M (List D)} (hc : CallF X G.T (.builtin id) f) (hg : Gl X x) (hm : X.mg x = none) (hv : bootBuiltins x = some (.builtin id)) (ha : DA X G W (e :: es) m) (hn : x ≠ "__name__" := by decide) (hdb : (x == ("__debug__" : Str)) = false := by decide)
    (he : starEach (e :: es) X.env = (false, eval e X.env) :: starEach es X.env := by rfl) (hpl : (backTo pos (starEach es X.env)).any (·.1) = false := by rfl) : DF X G W (.Call (.Name x p) (e :: es) [] pos) (mCallF f m) :=
  ⟨PE.imp (pe_callB hc.r hg hm hv ha.pa hn hdb he hpl) fun _ _ _ => tCB_F⟩
theorem DF.callTy {T : String} {x : Str} {p : Pos} {e : Expr} {es : List Expr} {pos : Pos} {f : List D → Rs (List D)} {m : M (List D)} (hc : CallF X G.T (.type T) f) (hg : Gl X x) (hm : X.mg x = none) (hv : bootBuiltins x = some (.type T)) (ha : DA X G W (e :: es) m) (hn : x ≠ "__name__" := by decide) (hdb : (x == ("__debug__" : Str)) = false := by decide)
    (he : starEach (e :: es) X.env = (false, eval e X.env) :: starEach es X.env := by rfl) (hpl : (backTo pos (starEach es X.env)).any (·.1) = false := by rfl) : DF X G W (.Call (.Name x p) (e :: es) [] pos) (mCallF f m) :=
  ⟨PE.imp (pe_callTy hc.r hg hm hv ha.pa hn hdb he hpl) fun _ _ _ => tCB_F⟩
/-! the argument a list of one's own, not frozen -/
def mPeek (i : Nat) : M (List D) := fun ρ => match ρ[i]? with
  | some (.own xs) => (.ok xs, ρ)
  | some (.bor xs) => (.ok xs, ρ)
  | some (.dat (.list xs)) => (.ok xs, ρ)
  | _ => (.bad, ρ)
def mCallW {α : Type} (p : List D → Rs α) (i : Nat) : M α := (mPeek i).bind fun xs => .lift (p xs).pure?
/-- what a slot's list is -/
theorem Rep.peek {i : Nat} {k : List D → Env' → Prop} {ρ0 : Env'} {H0 F0 : Hp} (R : Rep X G F H σ ρ) (h : At X G W F0 H0 σ ρ0 (mPeek i ρ) k) : ∃ a vs xs, σ[i]? = some (some (.ref a)) ∧ H a = some (.lst vs) ∧ DatAll F vs xs ∧ k xs ρ := by
  unfold mPeek at h
  cases e : ρ[i]? with
  | none => rw [e] at h; exact h.elim
  | some sl =>
    rw [e] at h
    have o := R.ok i sl e
    cases sl with
    | own xs => obtain ⟨p, vs, hσ, hp, _, ha, _⟩ := o; exact ⟨p, vs, xs, hσ, hp, ha, h⟩
    | bor xs => obtain ⟨p, vs, hσ, hp, _, ha, _⟩ := o; exact ⟨p, vs, xs, hσ, hp, ha, h⟩
    | dat d =>
      cases d with
      | list xs =>
        obtain ⟨v, hσ, dv⟩ := o
        cases dv with
        | lst h1 r1 => exact ⟨_, _, xs, hσ, R.sub _ _ h1, r1, h⟩
      | _ => exact h.elim
    | _ => exact h.elim
def rLW (T : List NTab) (p : List D → Rs D) : List V → Hp → VK → Prop := fun us H Q => ∃ F a vs xs z, us = [.ref a] ∧ Ex F H ∧ TabsN T H ∧ H a = some (.lst vs) ∧ DatAll F vs xs ∧ p xs = .ok z ∧ ∀ w H' F', Grow T No F H F' H' → Dat F' w z → Q w H'
def rLWF (T : List NTab) (p : List D → Rs (List D)) : List V → Hp → VK → Prop := fun us H Q => ∃ F a vs xs z, us = [.ref a] ∧ Ex F H ∧ TabsN T H ∧ H a = some (.lst vs) ∧ DatAll F vs xs ∧ p xs = .ok z ∧ ∀ a ws, H a = none → DatAll F ws z → Q (.ref a) (upd H a (.lst ws))
theorem ListW.r {T : List NTab} {f : Value} {p : List D → Rs D} (h : ListW X T f p) : CallR X f (rLW T p) := fun pins s σ H vs us Q I r ⟨F, a, ws, xs, z, e, eF, hT, ha, da, hz, q⟩ => by
  subst e
  rw [Vals.ref1 r]
  exact h pins s σ H F a ws xs z Q I eF hT ha da hz q
theorem ListWF.r {T : List NTab} {f : Value} {p : List D → Rs (List D)} (h : ListWF X T f p) : CallR X f (rLWF T p) := fun pins s σ H vs us Q I r ⟨F, a, ws, xs, z, e, eF, hT, ha, da, hz, q⟩ => by
  subst e
  rw [Vals.ref1 r]
  exact h pins s σ H F a ws xs z Q I eF hT ha da hz q
theorem tCB_W {p : List D → Rs D} {i : Nat} {Q : VK} (h : rdE X G W (mCallW p i) σ H Q) : tCB (rLW G.T p) (tCons (tVar i) tNil) σ H Q := by
  obtain ⟨F, ρ, R, hq⟩ := h
  obtain ⟨a, vs, xs, hσ, hp, ha, q1⟩ := R.peek (At.bindM hq)
  obtain ⟨z, hz, q⟩ := At.prim q1
  exact ⟨.ref a, hσ, F, a, vs, xs, z, rfl, R.sub, R.tabs, hp, ha, hz, fun w H' F' g dw => q w H' F' ((Stp.refl R).grow g) dw⟩
theorem tCB_WF {p : List D → Rs (List D)} {i : Nat} {Q : VK} (h : rdF X G W (mCallW p i) σ H Q) : tCB (rLWF G.T p) (tCons (tVar i) tNil) σ H Q := by
  obtain ⟨F, ρ, R, hq⟩ := h
  obtain ⟨a, vs, xs, hσ, hp, ha, q1⟩ := R.peek (At.bindM hq)
  obtain ⟨z, hz, q⟩ := At.prim q1
  exact ⟨.ref a, hσ, F, a, vs, xs, z, rfl, R.sub, R.tabs, hp, ha, hz, fun b ws hb dw => (Stp.refl R).alloc R hb dw q⟩
section
variable {x y : Str} {p py pos : Pos} {i : Nat}
theorem DE.callBw {id : String} {f : List D → Rs D} (hc : ListW X G.T (.builtin id) f) (hg : Gl X x) (hm : X.mg x = none) (hv : bootBuiltins x = some (.builtin id)) (hN : X.N[i]? = some y) (hvi : Vis X.env.scope y) (hn : x ≠ "__name__" := by decide) (hdb : (x == ("__debug__" : Str)) = false := by decide)
    (hd : (y == ("__debug__" : Str)) = false := by decide) (hcd : (y == ("__classdict__" : Str)) = false := by decide) : DE X G W (.Call (.Name x p) [.Name y py] [] pos) (mCallW f i) :=
  ⟨PE.imp (pe_callB hc.r hg hm hv (pa_cons (pe_var hN hvi hd hcd) pa_nil) hn hdb) fun _ _ _ => tCB_W⟩
theorem DE.callTyw {id : String} {f : List D → Rs D} (hc : ListW X G.T (.type id) f) (hg : Gl X x) (hm : X.mg x = none) (hv : bootBuiltins x = some (.type id)) (hN : X.N[i]? = some y) (hvi : Vis X.env.scope y) (hn : x ≠ "__name__" := by decide) (hdb : (x == ("__debug__" : Str)) = false := by decide)
    (hd : (y == ("__debug__" : Str)) = false := by decide) (hcd : (y == ("__classdict__" : Str)) = false := by decide) : DE X G W (.Call (.Name x p) [.Name y py] [] pos) (mCallW f i) :=
  ⟨PE.imp (pe_callTy hc.r hg hm hv (pa_cons (pe_var hN hvi hd hcd) pa_nil) hn hdb) fun _ _ _ => tCB_W⟩
theorem DF.callBw {id : String} {f : List D → Rs (List D)} (hc : ListWF X G.T (.builtin id) f) (hg : Gl X x) (hm : X.mg x = none) (hv : bootBuiltins x = some (.builtin id)) (hN : X.N[i]? = some y) (hvi : Vis X.env.scope y) (hn : x ≠ "__name__" := by decide) (hdb : (x == ("__debug__" : Str)) = false := by decide)
    (hd : (y == ("__debug__" : Str)) = false := by decide) (hcd : (y == ("__classdict__" : Str)) = false := by decide) : DF X G W (.Call (.Name x p) [.Name y py] [] pos) (mCallW f i) :=
  ⟨PE.imp (pe_callB hc.r hg hm hv (pa_cons (pe_var hN hvi hd hcd) pa_nil) hn hdb) fun _ _ _ => tCB_WF⟩
theorem DF.callTyw {id : String} {f : List D → Rs (List D)} (hc : ListWF X G.T (.type id) f) (hg : Gl X x) (hm : X.mg x = none) (hv : bootBuiltins x = some (.type id)) (hN : X.N[i]? = some y) (hvi : Vis X.env.scope y) (hn : x ≠ "__name__" := by decide) (hdb : (x == ("__debug__" : Str)) = false := by decide)
    (hd : (y == ("__debug__" : Str)) = false := by decide) (hcd : (y == ("__classdict__" : Str)) = false := by decide) : DF X G W (.Call (.Name x p) [.Name y py] [] pos) (mCallW f i) :=
  ⟨PE.imp (pe_callTy hc.r hg hm hv (pa_cons (pe_var hN hvi hd hcd) pa_nil) hn hdb) fun _ _ _ => tCB_WF⟩
end
/-! ### isinstance with a built-in class -/
def tyN : D → String
  | .none => "NoneType"
  | .bool _ => "bool"
  | .int _ => "int"
  | .str _ => "str"
  | .list _ => "list"
  | .tuple _ => "tuple"
  | .dict _ => "dict"
def isiB (T a : String) : Bool := a == T || (a == "bool" && T == "int")
def isiOk (T : String) : Bool := ["NoneType", "bool", "int", "str", "list", "tuple"].all fun a => kitB a T == some (isiB T a)
def pIsi (T : String) (d : D) : Rs D := match d with
  | .dict _ => .bad
  | d => .ok (.bool (isiB T (tyN d)))
theorem Dat.ty {K : PySem.W.Frag} {F H : Hp} (eF : Ex F H) {x : V} {d : D} (h : Dat F x d) : TyX K H x (.type (tyN d)) ∧ tyN d ∈ ["NoneType", "bool", "int", "str", "list", "tuple"] ∧ ∀ kvs, d ≠ .dict kvs := by
  cases h with
  | non => exact ⟨.base .non, by decide, fun _ z => nomatch z⟩
  | bl b => exact ⟨.base (.bl b), by simp [tyN], fun _ z => nomatch z⟩
  | int i => exact ⟨.base (.int i), by simp [tyN], fun _ z => nomatch z⟩
  | str x => exact ⟨.base (.str x), by simp [tyN], fun _ z => nomatch z⟩
  | lst h1 _ => exact ⟨.base (.lst (eF _ _ h1)), by simp [tyN], fun _ z => nomatch z⟩
  | tup h1 _ => exact ⟨let ⟨o, h2, _⟩ := h1; .fTuple (eF _ _ h2), by simp [tyN], fun _ z => nomatch z⟩
theorem DE.isi {T : String} {e : Expr} {x : Str} {p pt pos : Pos} {ma : M D} (hg : Gl X "isinstance") (hm : X.mg "isinstance" = none) (hgT : Gl X x) (hmT : X.mg x = none) (hvT : bootBuiltins x = some (.type T)) (ha : DE X G W e ma) (hk : isiOk T = true := by decide +kernel)
    (hn : x ≠ "__name__" := by decide) (hd : (x == ("__debug__" : Str)) = false := by decide)
    (he : starEach [e, .Name x pt] X.env = (false, eval e X.env) :: starEach [.Name x pt] X.env := by rfl) (he2 : starEach [.Name x pt] X.env = (false, eval (.Name x pt) X.env) :: starEach [] X.env := by rfl)
    (hpl : (backTo pos (starEach [.Name x pt] X.env)).any (·.1) = false := by rfl) : DE X G W (.Call (.Name "isinstance" p) [e, .Name x pt] [] pos) (mUn (pIsi T) ma) := by
  have hb : bootBuiltins "isinstance" = some (.builtin "isinstance") := by decide +kernel
  refine ⟨PE.imp (pe_callB call_isi hg hm hb (pa_cons ha.pe (pa_cons (pe_bltn (v := .ty T) hgT hmT hvT rfl hn hd) pa_nil he2) he) (by decide) (by decide) he hpl) fun σ H Q h => ?_⟩
  obtain ⟨F, ρ, R, hq⟩ := h
  refine rd_step (.refl R) hq fun d ρ1 v H1 F1 st dv q1 => ?_
  obtain ⟨z, hz, q⟩ := At.prim q1
  obtain ⟨ty, mem, nd⟩ := dv.ty (K := X.K) st.rep.sub
  have ez : z = .bool (isiB T (tyN d)) := by
    cases d with
    | dict kvs => exact absurd rfl (nd kvs)
    | _ => cases hz; rfl
  subst ez
  have hk' : kitB (tyN d) T = some (isiB T (tyN d)) := by
    have := List.all_eq_true.mp hk _ mem
    exact beq_iff_eq.mp this
  exact ⟨v, .ty T, _, _, _, rfl, .ty T, ty, kit_ty hk', q _ H1 F1 st (.bl _)⟩
/-! ### subscripts, slices -/
def pIx : D → D → Rs D
  | .list xs, .int i => ofO (atI xs i) .ok
  | .tuple xs, .int i => ofO (atI xs i) .ok
  | .str z, .int i => grd (z.length ≤ 16777216) (ofO (atI z.cps.toList i) fun c => .ok (.str ⟨#[c]⟩))
  | _, _ => .bad
theorem DatAll.atI {F : Hp} {vs : List V} {ds : List D} (r : DatAll F vs ds) {i : Int} {d : D} (h : L2.atI ds i = some d) : ∃ v, L2.atI vs i = some v ∧ Dat F v d := by
  unfold L2.atI at h ⊢
  rw [r.length]
  cases e : ixN ds.length i with
  | none => rw [e] at h; cases h
  | some j =>
    rw [e] at h
    exact r.get h
def rIxD (K : PySem.W.Frag) (T : List NTab) : R2 := fun x y H Q => ∃ F d e z, Ex F H ∧ TabsN T H ∧ Dat F x d ∧ Dat F y e ∧ pIx d e = .ok z ∧ ∀ w, Dat F w z → Q w H
theorem ix_D {T : List NTab} : IxR X (rIxD X.K T) := by
  intro value slice pins s σ H x y v u Q I rx ry ⟨F, d, e, z, eF, hT, dx, dy, hz, q⟩ hs
  refine ix_seq value slice pins s σ H x y v u Q I rx ry ?_ hs
  cases dx with
  | lst h1 r1 =>
    cases dy with
    | int i =>
      obtain ⟨d', hd, hz⟩ := ofO_ok hz
      cases hz
      obtain ⟨w, hw, dw⟩ := r1.atI hd
      exact .inl ⟨_, _, i, w, rfl, rfl, .of (eF _ _ h1), hw, q w dw⟩
    | _ => cases hz
  | tup h1 r1 =>
    cases dy with
    | int i =>
      obtain ⟨d', hd, hz⟩ := ofO_ok hz
      cases hz
      obtain ⟨w, hw, dw⟩ := r1.atI hd
      exact .inr (.inl ⟨_, _, i, w, rfl, rfl, h1.sq eF, hw, q w dw⟩)
    | _ => cases hz
  | str z' =>
    cases dy with
    | int i =>
      obtain ⟨hl, hz⟩ := grd_ok hz
      obtain ⟨c, hc, hz⟩ := ofO_ok hz
      cases hz
      exact .inr (.inr ⟨z', i, c, rfl, rfl, lim_ok hl, hc, q _ (.str _)⟩)
    | _ => cases hz
  | _ => cases dy <;> cases hz
theorem DE.ix {a b : Expr} {pos : Pos} {ma mb : M D} (ha : DE X G W a ma) (hb : DE X G W b mb) (hs : PlainIx b) : DE X G W (.Subscript a b pos) (mBin pIx ma mb) := by
  refine ⟨PE.imp (pe_ix (ix_D (T := G.T)) ha.pe hb.pe hs) fun σ H Q h => ?_⟩
  obtain ⟨F, ρ, R, hq⟩ := h
  refine rd_step (.refl R) hq fun d ρ1 v H1 F1 st dv q1 => rd_step st q1 fun d2 ρ2 v2 H2 F2 st2 dv2 q2 => ?_
  obtain ⟨z, hz, q⟩ := At.prim q2
  exact ⟨F2, d, d2, z, st2.rep.sub, st2.rep.tabs, dv.mono st2.f, dv2, hz, fun w dw => q w H2 F2 (st.trans st2) dw⟩
/-- x[b], x a list of one's own (read behind b) -/
def mIxW (i : Nat) (mb : M D) : M D := (mPeek i).bind fun _ => mb.bind fun y => (mPeek i).bind fun xs => .lift (pIx (.list xs) y).pure?
theorem DE.ixw {y : Str} {py : Pos} {b : Expr} {pos : Pos} {mb : M D} {i : Nat} (hN : X.N[i]? = some y) (hvi : Vis X.env.scope y) (hb : DE X G W b mb) (hs : PlainIx b) (hd : (y == ("__debug__" : Str)) = false := by decide) (hcd : (y == ("__classdict__" : Str)) = false := by decide) :
    DE X G W (.Subscript (.Name y py) b pos) (mIxW i mb) := by
  refine ⟨PE.imp (pe_ix ix_list (pe_var (pos := py) hN hvi hd hcd) hb.pe hs) fun σ H Q h => ?_⟩
  obtain ⟨F, ρ, R, hq⟩ := h
  obtain ⟨a, vs, xs, hσ, hp, ha, q1⟩ := R.peek (At.bindM hq)
  refine ⟨.ref a, hσ, rd_step (.refl R) q1 fun d ρ1 v H1 F1 st dv q2 => ?_⟩
  obtain ⟨a', vs', xs', hσ', hp', ha', q3⟩ := st.rep.peek (At.bindM q2)
  rw [hσ] at hσ'
  cases hσ'
  obtain ⟨z, hz, q⟩ := At.prim q3
  cases d with
  | int n =>
    obtain ⟨d', hd', hz⟩ := ofO_ok hz
    cases hz
    obtain ⟨w, hw, dw⟩ := ha'.atI hd'
    cases dv
    exact ⟨_, vs', n, w, rfl, rfl, .of hp', hw, q w H1 F1 st dw⟩
  | _ => cases hz
end
end
end DL

end
section
set_option maxRecDepth 100000
set_option maxHeartbeats 2000000
/-! Expressions: truth, and/or/not, if-expressions, slices. -/
namespace DL
noncomputable section
open PySem PySem.Spec L2 LamX NdefX
open PyProof.Rows hiding St
section
variable {X : Cx} {G : Gh} {W : WX} {pins : List (Addr × Obj)} {σ : L2.St} {H F : Hp} {s : Shared} {ρ : Env'}
/-! ### tests -/
def rdT (X : Cx) (G : Gh) (W : WX) (m : M Bool) : TT := fun σ H Q => ∃ F ρ, Rep X G F H σ ρ ∧ At X G W F H σ ρ (m ρ) fun b ρ' => ∀ H' F', Stp X G F H σ ρ F' H' ρ' → Q b H'
structure DT (X : Cx) (G : Gh) (W : WX) (e : Expr) (m : M Bool) : Prop where
  pt : PT X e (rdT X G W m)
structure DW (X : Cx) (G : Gh) (W : WX) (e : Expr) (m : M Bool) : Prop where
  pw : PW X e (rdT X G W m)
theorem DW.dt {e : Expr} {m : M Bool} (h : DW X G W e m) : DT X G W e m := ⟨h.pw.pt⟩
theorem PT.imp {e : Expr} {t t' : TT} (h : PT X e t) (i : ∀ σ H Q, t' σ H Q → t σ H Q) : PT X e t' := ⟨fun pins s σ H Q I q => h.run pins s σ H Q I (i σ H Q q)⟩
theorem PW.imp {e : Expr} {t t' : TT} (h : PW X e t) (i : ∀ σ H Q, t' σ H Q → t σ H Q) : PW X e t' := ⟨fun wh pins s σ H Q I q => h.run wh pins s σ H Q I (i σ H Q q)⟩
/-- te-level: a test, then .. -/
theorem rt_step {α : Type} {ma : M Bool} {k : Bool → M α} {ρ0 : Env'} {H0 F0 : Hp} {kk : α → Env' → Prop} (R : Stp X G F0 H0 σ ρ0 F H ρ) (hq : At X G W F0 H0 σ ρ0 ((ma.bind k) ρ) kk) {Q : Bool → Hp → Prop}
    (next : ∀ b ρ1 H1 F1, Stp X G F H σ ρ F1 H1 ρ1 → At X G W F0 H0 σ ρ0 (k b ρ1) kk → Q b H1) : rdT X G W ma σ H Q :=
  ⟨F, ρ, R.rep, At.mono (At.bindM hq) R fun b ρ1 _ q => fun H1 F1 st => next b ρ1 H1 F1 st q⟩
def pTru : D → Rs Bool
  | .none => .ok false
  | .bool b => .ok b
  | .int i => .ok (i != 0)
  | .str x => grd (x.length ≤ 16777216) (.ok ((x.length : Int) != 0))
  | .list xs => .ok (!xs.isEmpty)
  | .tuple xs => .ok (!xs.isEmpty)
  | .dict _ => .bad
theorem DatAll.isEmpty {F : Hp} {vs : List V} {ds : List D} (r : DatAll F vs ds) : vs.isEmpty = ds.isEmpty := by cases r <;> rfl
theorem Dat.tru {K : PySem.W.Frag} {x : V} {d : D} {b : Bool} (eF : Ex F H) (h : Dat F x d) (hb : pTru d = .ok b) : TruV K x H b := by
  cases h with
  | non => cases hb; rfl
  | bl c => cases hb; rfl
  | int i => cases hb; rfl
  | str y =>
    obtain ⟨hl, hb⟩ := grd_ok hb
    cases hb
    exact ⟨lim_ok hl, rfl⟩
  | lst h1 r1 =>
    cases hb
    exact .inl ⟨_, .of (eF _ _ h1), by rw [r1.isEmpty]⟩
  | tup h1 r1 =>
    cases hb
    exact .inr (.inl ⟨_, h1.sq eF, by rw [r1.isEmpty]⟩)
def mTru (m : M D) : M Bool := m.bind fun d => .lift (pTru d).pure?
theorem DT.val {e : Expr} {m : M D} (h : DE X G W e m) (he : ∀ whole, isTrue e X.env whole = (do let v ← whole; standAt e.pos; holding [v] (truthy v)) := by intro _; rfl) : DT X G W e (mTru m) :=
  ⟨PT.imp (pt_truth h.pe he) fun σ H Q ⟨F, ρ, R, hq⟩ => rd_step (.refl R) hq fun d ρ1 v H1 F1 st dv q1 => by
    obtain ⟨z, hz, q⟩ := At.prim q1
    exact ⟨z, dv.tru st.rep.sub hz, q H1 F1 st⟩⟩
/-! comparisons -/
def rOp (T : List NTab) (p : D → D → Rs D) : R2 := fun x y H Q => ∃ F d e z, Ex F H ∧ TabsN T H ∧ Dat F x d ∧ Dat F y e ∧ p d e = .ok z ∧ ∀ w H' F', Grow T No F H F' H' → Dat F' w z → Q w H'
theorem OpD.r {T : List NTab} {f : Value → Value → Sem Value} {p : D → D → Rs D} (h : OpD X T f p) : OpR X f (rOp T p) := fun pins s σ H x y v u Q I rx ry ⟨F, d, e, z, eF, hT, dx, dy, hz, q⟩ => h pins s σ H F v u x y d e z Q I rx ry eF hT dx dy hz q
def pBl (d : D) : Rs Bool := match d with
  | .bool b => .ok b
  | _ => .bad
def mBl (m : M D) : M Bool := m.bind fun d => .lift (pBl d).pure?
theorem pBl_ok {d : D} {b : Bool} (h : pBl d = .ok b) : d = .bool b := by
  cases d <;> cases h
  rfl
theorem Dat.bl_inv {v : V} {b : Bool} (h : Dat F v (.bool b)) : v = .bl b := by cases h; rfl
theorem At.bind2 {α β γ : Type} {ma : M α} {f : α → M β} {g : β → M γ} {ρ0 : Env'} {k : γ → Env' → Prop} (h : At X G W F H σ ρ0 (((ma.bind f).bind g) ρ) k) : At X G W F H σ ρ0 ((ma.bind fun x => (f x).bind g) ρ) k := by
  have e : ((ma.bind f).bind g) ρ = (ma.bind fun x => (f x).bind g) ρ := by
    unfold M.bind
    cases ma ρ with
    | mk r ρ' => cases r <;> rfl
  rw [e] at h
  exact h
theorem DT.cmp {a b : Expr} {op : CmpOp} {pos : Pos} {p : D → D → Rs D} {ma mb : M D} (ho : OpD X G.T (compareOp op) p) (ha : DE X G W a ma) (hb : DE X G W b mb) (hm : behindInMarks op b = false) : DT X G W (.Compare a [op] [b] pos) (mBl (mBin p ma mb)) :=
  ⟨PT.imp (pt_cmpR ho.r ha.pe hb.pe hm) fun σ H Q ⟨F, ρ, R, hq⟩ => rd_step (.refl R) (At.bind2 hq) fun d ρ1 v H1 F1 st dv q1 => rd_step st (At.bind2 q1) fun d2 ρ2 v2 H2 F2 st2 dv2 q2 => by
    obtain ⟨z, hz, q2⟩ := At.prim (At.bindM q2)
    obtain ⟨b, hb, q⟩ := At.prim q2
    cases pBl_ok hb
    refine ⟨F2, d, d2, _, st2.rep.sub, st2.rep.tabs, dv.mono st2.f, dv2, hz, fun w H' F' g dw => ?_⟩
    cases dw
    exact ⟨b, rfl, q H' F' ((st.trans st2).grow g)⟩⟩
/-- a op1 b op2 c -/
def mChain (p p' : D → D → Rs D) (ma mb mc : M D) : M D := ma.bind fun x => mb.bind fun y => (M.lift ((p x y).bind pBl).pure?).bind fun z => if z = true then mc.bind fun w => .lift (p' y w).pure? else .ret (.bool false)
theorem Rs.bind_ok {α β : Type} {r : Rs α} {f : α → Rs β} {z : β} (h : r.bind f = .ok z) : ∃ a, r = .ok a ∧ f a = .ok z := by
  cases r with
  | ok a => exact ⟨a, rfl, h⟩
  | exc c p => cases h
  | bad => cases h
theorem chain_rd {op op' : CmpOp} {p p' : D → D → Rs D} {ma mb mc : M D} {Q : VK} {F : Hp} {ρ : Env'} (R : Rep X G F H σ ρ) (hq : At X G W F H σ ρ (mChain p p' ma mb mc ρ) fun d ρ' => ∀ v H' F', Stp X G F H σ ρ F' H' ρ' → Dat F' v d → Q v H') :
    tChain (rOp G.T p) (rOp G.T p') (rdE X G W ma) (rdE X G W mb) (rdE X G W mc) σ H Q :=
  rd_step (.refl R) hq fun d ρ1 v H1 F1 st dv q1 => rd_step st q1 fun d2 ρ2 v2 H2 F2 st2 dv2 q2 => by
    obtain ⟨b, hb, q3⟩ := At.prim (At.bindM q2)
    obtain ⟨z, hz, hb⟩ := Rs.bind_ok hb
    cases pBl_ok hb
    refine ⟨F2, d, d2, _, st2.rep.sub, st2.rep.tabs, dv.mono st2.f, dv2, hz, fun w H' F' g dw => ?_⟩
    cases dw
    refine ⟨b, rfl, ?_⟩
    have st3 := (st.trans st2).grow g
    cases b with
    | false => exact q3 _ H' F' st3 (.bl _)
    | true =>
      show rdE X G W mc σ H' _
      refine rd_step st3 q3 fun d4 ρ4 v4 H4 F4 st4 dv4 q4 => ?_
      obtain ⟨z4, hz4, q5⟩ := At.prim q4
      exact ⟨F4, d2, d4, z4, st4.rep.sub, st4.rep.tabs, (dv2.mono g.f).mono st4.f, dv4, hz4, fun w5 H5 F5 g5 dw5 => q5 w5 H5 F5 ((st3.trans st4).grow g5) dw5⟩
theorem DE.chain {a b c : Expr} {op op' : CmpOp} {pos : Pos} {p p' : D → D → Rs D} {ma mb mc : M D} (ho : OpD X G.T (compareOp op) p) (ho' : OpD X G.T (compareOp op') p') (ha : DE X G W a ma) (hb : DE X G W b mb) (hc : DE X G W c mc)
    (hm : lastMarks [op, op'] [b, c] = false := by with_unfolding_all rfl) : DE X G W (.Compare a [op, op'] [b, c] pos) (mChain p p' ma mb mc) :=
  ⟨PE.imp (pe_chain ho.r ho'.r ha.pe hb.pe hc.pe hm) fun σ H Q ⟨F, ρ, R, hq⟩ => chain_rd (op := op) (op' := op') R hq⟩
theorem DT.chain {a b c : Expr} {op op' : CmpOp} {pos : Pos} {p p' : D → D → Rs D} {ma mb mc : M D} (ho : OpD X G.T (compareOp op) p) (ho' : OpD X G.T (compareOp op') p') (ha : DE X G W a ma) (hb : DE X G W b mb) (hc : DE X G W c mc)
    (hm : lastMarks [op, op'] [b, c] = false := by with_unfolding_all rfl) : DT X G W (.Compare a [op, op'] [b, c] pos) (mBl (mChain p p' ma mb mc)) :=
  ⟨PT.imp (pt_chain ho.r ho'.r ha.pe hb.pe hc.pe hm) fun σ H Q ⟨F, ρ, R, hq⟩ => chain_rd (op := op) (op' := op') R (At.mono (At.bindM hq) (.refl R) fun d ρ' _ q => fun v H' F' st dv => by
    obtain ⟨b, hb, q⟩ := At.prim q
    cases pBl_ok hb
    cases dv
    exact ⟨b, rfl, q H' F' st⟩)⟩
/-! and, or, not: tests -/
def mAndT (ma mb : M Bool) : M Bool := ma.bind fun b => if b = true then mb else .ret false
def mOrT (ma mb : M Bool) : M Bool := ma.bind fun b => if b = true then .ret true else mb
def mNotT (ma : M Bool) : M Bool := ma.bind fun b => .ret (!b)
theorem At.to {α : Type} {m : M α} {k : α → Env' → Prop} {F0 H0 : Hp} {ρ0 : Env'} (R : Stp X G F0 H0 σ ρ0 F H ρ) (h : At X G W F0 H0 σ ρ0 (m ρ) k) : At X G W F H σ ρ (m ρ) k := At.mono h R fun _ _ _ z => z
variable {a b : Expr} {rest : List Expr} {pos : Pos} {ma mb : M Bool}
theorem DW.and1 (ha : DT X G W a ma) : DW X G W (.BoolOp .And [a] pos) ma := ⟨pw_and1 ha.pt⟩
theorem DW.or1 (ha : DT X G W a ma) : DW X G W (.BoolOp .Or [a] pos) ma := ⟨pw_or1 ha.pt⟩
theorem rdT_of {m : M Bool} {Q : Bool → Hp → Prop} {F0 H0 : Hp} {ρ0 : Env'} (R : Stp X G F0 H0 σ ρ0 F H ρ) (h : At X G W F0 H0 σ ρ0 (m ρ) fun b ρ' => ∀ H' F', Stp X G F0 H0 σ ρ0 F' H' ρ' → Q b H') : rdT X G W m σ H Q :=
  ⟨F, ρ, R.rep, At.mono h R fun _ _ _ z H' F' st => z H' F' (R.trans st)⟩
theorem rdE_of {m : M D} {Q : VK} {F0 H0 : Hp} {ρ0 : Env'} (R : Stp X G F0 H0 σ ρ0 F H ρ) (h : At X G W F0 H0 σ ρ0 (m ρ) fun d ρ' => ∀ v H' F', Stp X G F0 H0 σ ρ0 F' H' ρ' → Dat F' v d → Q v H') : rdE X G W m σ H Q :=
  ⟨F, ρ, R.rep, At.mono h R fun _ _ _ z v H' F' st => z v H' F' (R.trans st)⟩
theorem DW.and (ha : DT X G W a ma) (hb : DW X G W (.BoolOp .And (b :: rest) pos) mb) : DW X G W (.BoolOp .And (a :: b :: rest) pos) (mAndT ma mb) :=
  ⟨PW.imp (pw_and ha.pt hb.pw) fun σ H Q ⟨F, ρ, R, hq⟩ => rt_step (.refl R) hq fun c ρ1 H1 F1 st q1 => by
    cases c with
    | true => exact rdT_of st q1
    | false => exact q1 H1 F1 st⟩
theorem DW.or (ha : DT X G W a ma) (hb : DW X G W (.BoolOp .Or (b :: rest) pos) mb) : DW X G W (.BoolOp .Or (a :: b :: rest) pos) (mOrT ma mb) :=
  ⟨PW.imp (pw_or ha.pt hb.pw) fun σ H Q ⟨F, ρ, R, hq⟩ => rt_step (.refl R) hq fun c ρ1 H1 F1 st q1 => by
    cases c with
    | true => exact q1 H1 F1 st
    | false => exact rdT_of st q1⟩
theorem DT.not (ha : DT X G W a ma) : DT X G W (.UnaryOp .Not a pos) (mNotT ma) :=
  ⟨PT.imp (pt_not ha.pt) fun σ H Q ⟨F, ρ, R, hq⟩ => rt_step (.refl R) hq fun c ρ1 H1 F1 st q1 => q1 H1 F1 st⟩
/-! .. values -/
section
variable {a b : Expr} {rest : List Expr} {pos : Pos} {ma mb : M D}
def mAnd (ma mb : M D) : M D := ma.bind fun x => (M.lift (pTru x).pure?).bind fun b => if b = true then mb else .ret x
def mOr (ma mb : M D) : M D := ma.bind fun x => (M.lift (pTru x).pure?).bind fun b => if b = true then .ret x else mb
def mNot (ma : M D) : M D := ma.bind fun x => (M.lift (pTru x).pure?).bind fun b => .ret (.bool (!b))
theorem DE.one {op} (h : DE X G W a ma) : DE X G W (.BoolOp op [a] pos) ma := ⟨pe_one h.pe⟩
theorem DE.and (ha : DE X G W a ma) (hb : DE X G W (.BoolOp .And (b :: rest) pos) mb) : DE X G W (.BoolOp .And (a :: b :: rest) pos) (mAnd ma mb) :=
  ⟨PE.imp (pe_andT ha.pe hb.pe) fun σ H Q ⟨F, ρ, R, hq⟩ => rd_step (.refl R) hq fun d ρ1 v H1 F1 st dv q1 => by
    obtain ⟨c, hc, q2⟩ := At.prim (At.bindM q1)
    refine ⟨c, dv.tru st.rep.sub hc, ?_⟩
    cases c with
    | true => exact rdE_of st q2
    | false => exact q2 v H1 F1 st dv⟩
theorem DE.or (ha : DE X G W a ma) (hb : DE X G W (.BoolOp .Or (b :: rest) pos) mb) : DE X G W (.BoolOp .Or (a :: b :: rest) pos) (mOr ma mb) :=
  ⟨PE.imp (pe_orT ha.pe hb.pe) fun σ H Q ⟨F, ρ, R, hq⟩ => rd_step (.refl R) hq fun d ρ1 v H1 F1 st dv q1 => by
    obtain ⟨c, hc, q2⟩ := At.prim (At.bindM q1)
    refine ⟨c, dv.tru st.rep.sub hc, ?_⟩
    cases c with
    | true => exact q2 v H1 F1 st dv
    | false => exact rdE_of st q2⟩
theorem DE.not (ha : DE X G W a ma) : DE X G W (.UnaryOp .Not a pos) (mNot ma) :=
  ⟨PE.imp (pe_notT ha.pe) fun σ H Q ⟨F, ρ, R, hq⟩ => rd_step (.refl R) hq fun d ρ1 v H1 F1 st dv q1 => by
    obtain ⟨c, hc, q2⟩ := At.prim (At.bindM q1)
    exact ⟨c, dv.tru st.rep.sub hc, q2 _ H1 F1 st (.bl _)⟩⟩
def mIfE {α : Type} (mc : M Bool) (ma mb : M α) : M α := mc.bind fun b => if b = true then ma else mb
theorem DE.ifE {c : Expr} {mc : M Bool} (hc : DT X G W c mc) (ha : DE X G W a ma) (hb : DE X G W b mb) : DE X G W (.IfExp c a b pos) (mIfE mc ma mb) :=
  ⟨PE.imp (pe_ifExp hc.pt ha.pe hb.pe) fun σ H Q ⟨F, ρ, R, hq⟩ => rt_step (.refl R) hq fun c ρ1 H1 F1 st q1 => by
    cases c with
    | true => exact rdE_of st q1
    | false => exact rdE_of st q1⟩
theorem rdF_of {m : M (List D)} {Q : VK} {F0 H0 : Hp} {ρ0 : Env'} (R : Stp X G F0 H0 σ ρ0 F H ρ) (h : At X G W F0 H0 σ ρ0 (m ρ) fun ds ρ' => ∀ p vs H' F', Stp X G F0 H0 σ ρ0 F' H' ρ' → H0 p = none → H' p = some (.lst vs) → F' p = none → DatAll F' vs ds → Q (.ref p) H') : rdF X G W m σ H Q :=
  ⟨F, ρ, R.rep, At.mono h R fun _ _ _ z p vs H' F' st hn => z p vs H' F' (R.trans st) (R.gr.there p hn)⟩
theorem DF.ifE {c : Expr} {mc : M Bool} {ma mb : M (List D)} (hc : DT X G W c mc) (ha : DF X G W a ma) (hb : DF X G W b mb) : DF X G W (.IfExp c a b pos) (mIfE mc ma mb) :=
  ⟨PE.imp (pe_ifExp hc.pt ha.pe hb.pe) fun σ H Q ⟨F, ρ, R, hq⟩ => rt_step (.refl R) hq fun c ρ1 H1 F1 st q1 => by
    cases c with
    | true => exact rdF_of st q1
    | false => exact rdF_of st q1⟩
end
/-! ### slices -/
def mPartN : M (Option Int) := .ret none
def mPart (m : M D) : M (Option Int) := m.bind fun d => match d with
  | .int i => .ret (some i)
  | _ => .fail
def rdO (X : Cx) (G : Gh) (W : WX) (m : M (Option Int)) : TO := fun σ H Q => ∃ F ρ, Rep X G F H σ ρ ∧ At X G W F H σ ρ (m ρ) fun o ρ' => ∀ H' F', Stp X G F H σ ρ F' H' ρ' → Q o H'
structure DO' (X : Cx) (G : Gh) (W : WX) (e : Option Expr) (m : M (Option Int)) : Prop where
  po : PO X e (rdO X G W m)
theorem PO.imp {e : Option Expr} {t t' : TO} (h : PO X e t) (i : ∀ σ H Q, t' σ H Q → t σ H Q) : PO X e t' := ⟨fun pins s σ H Q I q => h.run pins s σ H Q I (i σ H Q q)⟩
theorem DO'.no : DO' X G W none mPartN := ⟨PO.imp po_none fun σ H Q ⟨F, ρ, R, hq⟩ => hq H F (.refl R)⟩
theorem DO'.at {e : Expr} {m : M D} (h : DE X G W e m) : DO' X G W (some e) (mPart m) := ⟨PO.imp (po_some h.pe) fun σ H Q ⟨F, ρ, R, hq⟩ => rd_step (.refl R) hq fun d ρ1 v H1 F1 st dv q1 => by
  cases dv with
  | int i => exact ⟨i, rfl, q1 H1 F1 st⟩
  | _ => exact q1.elim⟩
theorem ro_step {α : Type} {ma : M (Option Int)} {k : Option Int → M α} {ρ0 : Env'} {H0 F0 : Hp} {kk : α → Env' → Prop} (R : Stp X G F0 H0 σ ρ0 F H ρ) (hq : At X G W F0 H0 σ ρ0 ((ma.bind k) ρ) kk) {Q : Option Int → Hp → Prop}
    (next : ∀ b ρ1 H1 F1, Stp X G F H σ ρ F1 H1 ρ1 → At X G W F0 H0 σ ρ0 (k b ρ1) kk → Q b H1) : rdO X G W ma σ H Q :=
  ⟨F, ρ, R.rep, At.mono (At.bindM hq) R fun b ρ1 _ q => fun H1 F1 st => next b ρ1 H1 F1 st q⟩
def cutD (xs : List D) (lo hi : Option Int) : List D := (xs.drop (HT.sIx xs.length 0 lo)).take (HT.sIx xs.length xs.length hi - HT.sIx xs.length 0 lo)
theorem DatAll.cut {vs : List V} {ds : List D} (r : DatAll F vs ds) (lo hi : Option Int) : DatAll F (cutV vs lo hi) (cutD ds lo hi) := by
  unfold cutV cutD
  rw [r.length]
  exact (r.drop _).take _
def pSl : D → Option Int → Option Int → Rs D
  | .list xs, lo, hi => .ok (.list (cutD xs lo hi))
  | .tuple xs, lo, hi => .ok (.tuple (cutD xs lo hi))
  | .str x, lo, hi => grd (x.length ≤ 16777216) (.ok (.str (cutS x lo hi)))
  | _, _, _ => .bad
theorem cutD_all {ds : List D} {lo hi : Option Int} (h : HT.sIx ds.length 0 lo = 0 ∧ HT.sIx ds.length ds.length hi = ds.length) : cutD ds lo hi = ds := by
  unfold cutD
  rw [h.1, h.2, List.drop_zero, Nat.sub_zero, List.take_length]
def rSlD (T : List NTab) : V → Option Int → Option Int → Hp → VK → Prop := fun x lo hi H Q => ∃ F d z, Ex F H ∧ TabsN T H ∧ Dat F x d ∧ pSl d lo hi = .ok z ∧ ∀ w H' F', Grow T No F H F' H' → Dat F' w z → Q w H'
theorem sl_D {T : List NTab} : SlR X (rSlD T) := by
  intro pins s σ H x v vl vu lo hi sl Q I rx hs pl pu ⟨F, d, z, eF, hT, dx, hz, q⟩
  cases dx with
  | lst h1 r1 =>
    rename_i a1 vs1 ds1
    cases hz
    refine sl_list pins s σ H _ v vl vu lo hi sl Q I rx hs pl pu ⟨_, _, rfl, .of (eF _ _ h1), fun p hp => ?_⟩
    have g := Grow.new (o := .lst (cutV vs1 lo hi)) eF hT hp
    exact q _ _ _ g (.lst upd_same ((r1.cut lo hi).mono g.f))
  | tup h1 r1 =>
    rename_i a1 vs1 ds1
    cases hz
    refine sl_tupS pins s σ H _ v vl vu lo hi sl Q I rx hs pl pu ⟨_, _, rfl, h1.sq eF, fun hw => ?_, fun hw p H' hn => ?_⟩
    · rw [r1.length] at hw
      rw [cutD_all hw] at q
      exact q _ H F (.refl eF hT) (.tup h1 r1)
    · obtain ⟨F', g, h3⟩ := hn.grow eF hT
      exact q _ _ _ g (.tup h3 ((r1.cut lo hi).mono g.f))
  | str y =>
    obtain ⟨hl, hz⟩ := grd_ok hz
    cases hz
    exact sl_str pins s σ H _ v vl vu lo hi sl Q I rx hs pl pu ⟨y, rfl, lim_ok hl, q _ H F (.refl eF hT) (.str _)⟩
  | _ => cases hz
def mSl (ma : M D) (ml mh : M (Option Int)) : M D := ma.bind fun x => ml.bind fun l => mh.bind fun h => .lift (pSl x l h).pure?
theorem DE.sl {e : Expr} {lo hi : Option Expr} {pos p2 : Pos} {ma : M D} {ml mh : M (Option Int)} (ha : DE X G W e ma) (hl : DO' X G W lo ml) (hh : DO' X G W hi mh) : DE X G W (.Subscript e (.Slice lo hi none p2) pos) (mSl ma ml mh) :=
  ⟨PE.imp (pe_slice (sl_D (T := G.T)) ha.pe hl.po hh.po) fun σ H Q ⟨F, ρ, R, hq⟩ => rd_step (.refl R) hq fun d ρ1 v H1 F1 st dv q1 => ro_step st q1 fun l ρ2 H2 F2 st2 q2 => ro_step (st.trans st2) q2 fun h ρ3 H3 F3 st3 q3 => by
    obtain ⟨z, hz, q⟩ := At.prim q3
    exact ⟨F3, d, z, st3.rep.sub, st3.rep.tabs, (dv.mono st2.f).mono st3.f, hz, fun w H' F' g dw => q w H' F' (((st.trans st2).trans st3).grow g) dw⟩⟩
end
end
end DL

end
section
set_option maxRecDepth 100000
set_option maxHeartbeats 2000000
/-! Statements. -/
namespace DL
noncomputable section
open PySem PySem.Spec L2 LamX NdefX
open PyProof.Rows hiding St
inductive Fl where
  | nx | rt (d : D) | rtF (xs : List D) | bk | ct
abbrev MS := M Fl
def endK (X : Cx) (G : Gh) (F : Hp) (E : Ends) : Fl → Env' → Prop
  | .nx, ρ' => ∀ σ' H' F', Ex F F' → Rep X G F' H' σ' ρ' → E.nx σ' H'
  | .bk, ρ' => ∀ σ' H' F', Ex F F' → Rep X G F' H' σ' ρ' → E.bk σ' H'
  | .ct, ρ' => ∀ σ' H' F', Ex F F' → Rep X G F' H' σ' ρ' → E.ct σ' H'
  | .rt d, ρ' => ∀ v σ' H' F', Ex F F' → Rep X G F' H' σ' ρ' → Dat F' v d → E.rt v H'
  | .rtF xs, ρ' => ∀ p vs σ' H' F', Ex F F' → Rep X G F' H' σ' ρ' → G.H0 p = none → H' p = some (.lst vs) → F' p = none → DatAll F' vs xs → E.rt (.ref p) H'
def AtS (X : Cx) (G : Gh) (W : WX) (F : Hp) (E : Ends) (r : Rs Fl × Env') : Prop :=
  match r with
  | (.ok f, ρ') => endK X G F E f ρ'
  | (.exc c p, ρ') => ∀ cls dd σ' H' F', Ex F F' → Rep X G F' H' σ' ρ' → ExcV X.mg F' H' cls dd c p → W cls dd σ' H'
  | (.bad, _) => False
def rdS (X : Cx) (G : Gh) (W : WX) (m : MS) : TS := fun E σ H => ∃ F ρ, Rep X G F H σ ρ ∧ AtS X G W F E (m ρ)
structure DS (X : Cx) (G : Gh) (W : WX) (st : Stmt) (m : MS) : Prop where
  ps : PS X st (rdS X G W m)
structure DSs (X : Cx) (G : Gh) (W : WX) (st : List Stmt) (m : MS) : Prop where
  ps : PSs X st (rdS X G W m)
section
variable {X : Cx} {G : Gh} {W : WX} {pins : List (Addr × Obj)} {σ : L2.St} {H F : Hp} {s : Shared} {ρ : Env'} {E : Ends}
theorem PS.imp {e : Stmt} {t t' : TS} (h : PS X e t) (i : ∀ E σ H, t' E σ H → t E σ H) : PS X e t' := ⟨fun pins s σ H D I q => h.run pins s σ H D I (i D σ H q)⟩
theorem PSs.imp {e : List Stmt} {t t' : TS} (h : PSs X e t) (i : ∀ E σ H, t' E σ H → t E σ H) : PSs X e t' := ⟨fun pins s σ H D I q => h.run pins s σ H D I (i D σ H q)⟩
theorem endK.mono {F1 : Hp} {f : Fl} {ρ' : Env'} (e : Ex F F1) (h : endK X G F E f ρ') : endK X G F1 E f ρ' := by
  cases f with
  | nx => exact fun σ' H' F' e1 => h σ' H' F' (e.trans e1)
  | bk => exact fun σ' H' F' e1 => h σ' H' F' (e.trans e1)
  | ct => exact fun σ' H' F' e1 => h σ' H' F' (e.trans e1)
  | rt d => exact fun v σ' H' F' e1 => h v σ' H' F' (e.trans e1)
  | rtF xs => exact fun p vs σ' H' F' e1 => h p vs σ' H' F' (e.trans e1)
theorem AtS.mono {F1 : Hp} {r : Rs Fl × Env'} (e : Ex F F1) (h : AtS X G W F E r) : AtS X G W F1 E r := by
  obtain ⟨r, ρ'⟩ := r
  cases r with
  | ok f => exact endK.mono e h
  | exc c p => exact fun cls dd σ' H' F' e1 => h cls dd σ' H' F' (e.trans e1)
  | bad => exact h
def mSeq (m1 m2 : MS) : MS := m1.bind fun f => match f with
  | .nx => m2
  | f => .ret f
theorem DSs.nil : DSs X G W [] (.ret .nx) := ⟨PSs.imp pss_nil fun E σ H ⟨F, ρ, R, hq⟩ => hq σ H F (.refl F) R⟩
theorem rdS_seq {m1 m2 : MS} (h : rdS X G W (mSeq m1 m2) E σ H) : tSeq (rdS X G W m1) (rdS X G W m2) E σ H := by
  obtain ⟨F, ρ, R, hq⟩ := h
  refine ⟨F, ρ, R, ?_⟩
  unfold mSeq M.bind at hq
  cases hm : m1 ρ with
  | mk r ρ' =>
    rw [hm] at hq
    cases r with
    | ok f =>
      cases f with
      | nx => exact fun σ' H' F' e1 R1 => ⟨F', ρ', R1, AtS.mono e1 hq⟩
      | _ => exact hq
    | exc c p => exact hq
    | bad => exact hq
theorem DSs.cons {st : Stmt} {rest : List Stmt} {m1 m2 : MS} (h1 : DS X G W st m1) (h2 : DSs X G W rest m2) : DSs X G W (st :: rest) (mSeq m1 m2) := ⟨PSs.imp (pss_cons h1.ps h2.ps) fun E σ H => rdS_seq⟩
theorem DSs.one {st : Stmt} {m : MS} (h1 : DS X G W st m) : DSs X G W [st] m := ⟨pss_one h1.ps⟩
theorem DS.pass {pos} : DS X G W (.Pass pos) (.ret .nx) := ⟨PS.imp ps_pass fun E σ H ⟨F, ρ, R, hq⟩ => hq σ H F (.refl F) R⟩
theorem DS.brk {pos} : DS X G W (.Break pos) (.ret .bk) := ⟨PS.imp ps_break fun E σ H ⟨F, ρ, R, hq⟩ => hq σ H F (.refl F) R⟩
theorem DS.cnt {pos} : DS X G W (.Continue pos) (.ret .ct) := ⟨PS.imp ps_continue fun E σ H ⟨F, ρ, R, hq⟩ => hq σ H F (.refl F) R⟩
/-! expressions in statements -/
theorem AtS.at {α : Type} {m : M α} {k : α → MS} (h : AtS X G W F E ((m.bind k) ρ)) : At X G W F H σ ρ (m ρ) fun a ρ' => AtS X G W F E (k a ρ') := by
  unfold M.bind at h
  cases hm : m ρ with
  | mk r ρ' =>
    rw [hm] at h
    cases r with
    | ok a => exact h
    | exc c p => exact fun cls dd H' F' st x => h cls dd σ H' F' st.f st.rep x
    | bad => exact h
theorem AtS.prim {α : Type} {r : Rs α} {k : α → MS} (h : AtS X G W F E (((M.lift r.pure?).bind k) ρ)) : ∃ z, r = .ok z ∧ AtS X G W F E (k z ρ) := by
  cases r with
  | ok z => exact ⟨z, rfl, h⟩
  | exc c p => exact h.elim
  | bad => exact h.elim
theorem rs_step {ma : M D} {k : D → MS} (R : Rep X G F H σ ρ) (hq : AtS X G W F E ((ma.bind k) ρ)) {Q : VK}
    (next : ∀ d ρ1 v H1 F1, Stp X G F H σ ρ F1 H1 ρ1 → Dat F1 v d → AtS X G W F1 E (k d ρ1) → Q v H1) : rdE X G W ma σ H Q :=
  ⟨F, ρ, R, At.mono hq.at (.refl R) fun d ρ1 _ q => fun v H1 F1 st dv => next d ρ1 v H1 F1 st dv (AtS.mono st.f q)⟩
theorem rsf_step {ma : M (List D)} {k : List D → MS} (R : Rep X G F H σ ρ) (hq : AtS X G W F E ((ma.bind k) ρ)) {Q : VK}
    (next : ∀ ds ρ1 p vs H1 F1, Stp X G F H σ ρ F1 H1 ρ1 → H p = none → H1 p = some (.lst vs) → F1 p = none → DatAll F1 vs ds → AtS X G W F1 E (k ds ρ1) → Q (.ref p) H1) : rdF X G W ma σ H Q :=
  ⟨F, ρ, R, At.mono hq.at (.refl R) fun d ρ1 _ q => fun p vs H1 F1 st hn hp hF dv => next d ρ1 p vs H1 F1 st hn hp hF dv (AtS.mono st.f q)⟩
theorem rst_step {ma : M Bool} {k : Bool → MS} (R : Rep X G F H σ ρ) (hq : AtS X G W F E ((ma.bind k) ρ)) {Q : Bool → Hp → Prop}
    (next : ∀ b ρ1 H1 F1, Stp X G F H σ ρ F1 H1 ρ1 → AtS X G W F1 E (k b ρ1) → Q b H1) : rdT X G W ma σ H Q :=
  ⟨F, ρ, R, At.mono hq.at (.refl R) fun d ρ1 _ q => fun H1 F1 st => next d ρ1 H1 F1 st (AtS.mono st.f q)⟩
theorem DS.expr {e : Expr} {pos : Pos} {m : M D} (he : DE X G W e m) (hs : swapsWith e none pos.line X.env = pure false := by rfl) : DS X G W (.Expr e pos) (m.bind fun _ => .ret .nx) :=
  ⟨PS.imp (ps_expr he.pe hs) fun E σ H ⟨F, ρ, R, hq⟩ => rs_step R hq fun d ρ1 v H1 F1 st dv q => q σ H1 F1 (.refl F1) st.rep⟩
def mExpr (m : M D) : MS := m.bind fun _ => .ret .nx
def mRet (m : M D) : MS := m.bind fun d => .ret (.rt d)
def mRetF (m : M (List D)) : MS := m.bind fun d => .ret (.rtF d)
theorem DS.ret {e : Expr} {pos : Pos} {m : M D} (he : DE X G W e m) : DS X G W (.Return (some e) pos) (mRet m) :=
  ⟨PS.imp (ps_ret he.pe) fun E σ H ⟨F, ρ, R, hq⟩ => rs_step R hq fun d ρ1 v H1 F1 st dv q => q v σ H1 F1 (.refl F1) st.rep dv⟩
theorem DS.retF {e : Expr} {pos : Pos} {m : M (List D)} (he : DF X G W e m) : DS X G W (.Return (some e) pos) (mRetF m) :=
  ⟨PS.imp (ps_ret he.pe) fun E σ H ⟨F, ρ, R, hq⟩ => rsf_step R hq fun d ρ1 p vs H1 F1 st hn hp hF dv q => q p vs σ H1 F1 (.refl F1) st.rep (R.gr.there p hn) hp hF dv⟩
theorem DS.retN {pos : Pos} : DS X G W (.Return none pos) (.ret (.rt .none)) :=
  ⟨PS.imp ps_retN fun E σ H ⟨F, ρ, R, hq⟩ => hq .non σ H F (.refl F) R .non⟩
/-- return x, x a list of one's own -/
def mOwn (i : Nat) : M (List D) := fun ρ => match ρ[i]? with
  | some (.own xs) => (.ok xs, ρ.set i .emp)
  | _ => (.bad, ρ)
theorem AtS.ownAt {i : Nat} {k : List D → MS} (h : AtS X G W F E (((mOwn i).bind k) ρ)) : ∃ xs, ρ[i]? = some (.own xs) ∧ AtS X G W F E (k xs (ρ.set i .emp)) := by
  unfold M.bind mOwn at h
  cases e : ρ[i]? with
  | none => rw [e] at h; exact h.elim
  | some sl =>
    rw [e] at h
    cases sl with
    | own xs => exact ⟨xs, rfl, h⟩
    | _ => exact h.elim
theorem DS.retO {i : Nat} {x : Str} {p pos : Pos} (hN : X.N[i]? = some x) (hv : Vis X.env.scope x) (hd : (x == ("__debug__" : Str)) = false := by decide) (hcd : (x == ("__classdict__" : Str)) = false := by decide) : DS X G W (.Return (some (.Name x p)) pos) (mRetF (mOwn i)) :=
  ⟨PS.imp (ps_ret (pe_var (pos := p) hN hv hd hcd)) fun E σ H ⟨F, ρ, R, hq⟩ => by
    obtain ⟨xs, e, q⟩ := AtS.ownAt hq
    obtain ⟨p, vs, hσ, hp, hF, ha, h0⟩ := R.ok i _ e
    exact ⟨.ref p, hσ, q p vs σ H F (.refl F) (R.put trivial rfl) h0 hp hF ha⟩⟩
def mIf (mc : M Bool) (m1 m2 : MS) : MS := mc.bind fun b => if b = true then m1 else m2
theorem DS.if {c : Expr} {a b : List Stmt} {pos : Pos} {mc : M Bool} {m1 m2 : MS} (hc : DT X G W c mc) (ha : DSs X G W a m1) (hb : DSs X G W b m2) : DS X G W (.If c a b pos) (mIf mc m1 m2) :=
  ⟨PS.imp (ps_if hc.pt ha.ps hb.ps) fun E σ H ⟨F, ρ, R, hq⟩ => rst_step R hq fun b ρ1 H1 F1 st q => by
    cases b with
    | true => exact ⟨F1, ρ1, st.rep, q⟩
    | false => exact ⟨F1, ρ1, st.rep, q⟩⟩
/-! ### storing -/
theorem getset {α : Type} {l : List α} {i j : Nat} {a b : α} (h : (l.set i a)[j]? = some b) : (i = j ∧ b = a) ∨ (i ≠ j ∧ l[j]? = some b) := by
  by_cases hij : i = j
  · subst hij
    have hlt : i < l.length := by
      have := (List.getElem?_eq_some_iff.mp h).1
      simpa using this
    rw [List.getElem?_set_self hlt] at h
    exact .inl ⟨rfl, (Option.some.inj h).symm⟩
  · rw [List.getElem?_set_ne hij] at h
    exact .inr ⟨hij, h⟩
theorem SlOk.at {i : Nat} {sl : Slot} {σ' : L2.St} (o : SlOk X G F H σ i sl) (e : σ'[i]? = σ[i]?) : SlOk X G F H σ' i sl := by
  cases sl <;> (unfold SlOk at o ⊢; (try rw [e]); exact o)
theorem Rep.store {i : Nat} {v : V} {d : D} (R : Rep X G F H σ ρ) (dv : Dat F v d) : Rep X G F H (σ.set i (some v)) (ρ.set i (.dat d)) := by
  refine ⟨R.gr, by rw [List.length_set, List.length_set]; exact R.len, fun j sl hj => ?_, fun a b s1 s2 q hab ha hb o1 o2 h1 h2 => ?_⟩
  · rcases getset hj with ⟨rfl, rfl⟩ | ⟨ne, hj⟩
    · have hlt : i < σ.length := by
        have := (List.getElem?_eq_some_iff.mp hj).1
        rw [List.length_set, R.len] at this
        exact this
      exact ⟨v, List.getElem?_set_self hlt, dv⟩
    · exact (R.ok j sl hj).at (List.getElem?_set_ne ne)
  · rcases getset ha with ⟨rfl, rfl⟩ | ⟨ne, ha⟩
    · cases o1
    · rcases getset hb with ⟨rfl, rfl⟩ | ⟨ne2, hb⟩
      · cases o2
      · rw [List.getElem?_set_ne ne] at h1
        rw [List.getElem?_set_ne ne2] at h2
        exact R.apart a b s1 s2 q hab ha hb o1 o2 h1 h2
theorem Rep.storeOwn {i : Nat} {p : Addr} {vs : List V} {xs : List D} (R : Rep X G F H σ ρ) (hp : H p = some (.lst vs)) (hF : F p = none) (ha : DatAll F vs xs) (h0 : G.H0 p = none) (no : ¬ OwnA σ ρ p) :
    Rep X G F H (σ.set i (some (.ref p))) (ρ.set i (.own xs)) := by
  refine ⟨R.gr, by rw [List.length_set, List.length_set]; exact R.len, fun j sl hj => ?_, fun a b s1 s2 q hab ha' hb o1 o2 h1 h2 => ?_⟩
  · rcases getset hj with ⟨rfl, rfl⟩ | ⟨ne, hj⟩
    · have hlt : i < σ.length := by
        have := (List.getElem?_eq_some_iff.mp hj).1
        rw [List.length_set, R.len] at this
        exact this
      exact ⟨p, vs, List.getElem?_set_self hlt, hp, hF, ha, h0⟩
    · exact (R.ok j sl hj).at (List.getElem?_set_ne ne)
  · rcases getset ha' with ⟨rfl, rfl⟩ | ⟨ne, ha'⟩
    · rcases getset hb with ⟨rfl, _⟩ | ⟨ne2, hb⟩
      · exact hab rfl
      · rw [List.getElem?_set_ne ne2] at h2
        have hlt : i < σ.length := by
          have := (List.getElem?_eq_some_iff.mp h1).1
          simpa using this
        rw [List.getElem?_set_self hlt] at h1
        cases h1
        exact no ⟨b, s2, hb, o2, h2⟩
    · rcases getset hb with ⟨rfl, rfl⟩ | ⟨ne2, hb⟩
      · rw [List.getElem?_set_ne ne] at h1
        have hlt : i < σ.length := by
          have := (List.getElem?_eq_some_iff.mp h2).1
          simpa using this
        rw [List.getElem?_set_self hlt] at h2
        cases h2
        exact no ⟨a, s1, ha', o1, h1⟩
      · rw [List.getElem?_set_ne ne] at h1
        rw [List.getElem?_set_ne ne2] at h2
        exact R.apart a b s1 s2 q hab ha' hb o1 o2 h1 h2
theorem Stp.noFresh {F' H' : Hp} {ρ' : Env'} {p : Addr} (R : Rep X G F H σ ρ) (a : Stp X G F H σ ρ F' H' ρ') (hn : H p = none) : ¬ OwnA σ ρ' p := fun h => by
  obtain ⟨ws, e⟩ := R.own_there (a.ow p h)
  rw [hn] at e; cases e
def put (i : Nat) (sl : Slot) : MS := fun ρ => (.ok .nx, ρ.set i sl)
def mSet (i : Nat) (m : M D) : MS := m.bind fun d => put i (.dat d)
def mSetF (i : Nat) (m : M (List D)) : MS := m.bind fun d => put i (.own d)
section
variable {i : Nat} {x : Str} {e : Expr} {pos pos' : Pos}
theorem DS.set {m : M D} (hN : X.N.Nodup) (hi : X.N[i]? = some x) (hx : Loc X.env.scope x) (hf : X.fn x = true ∨ X.env.scope.names.lookup x = some .local) (he : DE X G W e m) (hs : swapsWith e (some (.Name x pos')) pos.line X.env = pure false := by rfl) :
    DS X G W (.Assign [.Name x pos'] e pos) (mSet i m) :=
  ⟨PS.imp (ps_set hN hi hx he.pe hs hf) fun E σ H ⟨F, ρ, R, hq⟩ => rs_step R hq fun d ρ1 v H1 F1 st dv q => q _ H1 F1 (.refl F1) (st.rep.store dv)⟩
theorem DS.setF {m : M (List D)} (hN : X.N.Nodup) (hi : X.N[i]? = some x) (hx : Loc X.env.scope x) (hf : X.fn x = true ∨ X.env.scope.names.lookup x = some .local) (he : DF X G W e m) (hs : swapsWith e (some (.Name x pos')) pos.line X.env = pure false := by rfl) :
    DS X G W (.Assign [.Name x pos'] e pos) (mSetF i m) :=
  ⟨PS.imp (ps_set hN hi hx he.pe hs hf) fun E σ H ⟨F, ρ, R, hq⟩ => rsf_step R hq fun ds ρ1 p vs H1 F1 st hn hp hF da q => q _ H1 F1 (.refl F1) (st.rep.storeOwn hp hF da (R.gr.there p hn) (st.noFresh R hn))⟩
end
/-! ### targets -/
def rdG (X : Cx) (G : Gh) (js : List Nat) (g : D → Env' → Option Env') : TG := fun v σ H Q => ∃ F ρ d ρ', Rep X G F H σ ρ ∧ Dat F v d ∧ g d ρ = some ρ' ∧ ∀ σ', Rep X G F H σ' ρ' → (∀ j, j ∉ js → σ'[j]? = σ[j]?) → σ'.length = σ.length → Q σ' H
def rdGs (X : Cx) (G : Gh) (js : List Nat) (g : List D → Env' → Option Env') : TGs := fun vs σ H Q => ∃ F ρ ds ρ', Rep X G F H σ ρ ∧ DatAll F vs ds ∧ g ds ρ = some ρ' ∧ ∀ σ', Rep X G F H σ' ρ' → (∀ j, j ∉ js → σ'[j]? = σ[j]?) → σ'.length = σ.length → Q σ' H
def GOk {α : Type} (js : List Nat) (g : α → Env' → Option Env') : Prop := ∀ d ρ ρ', g d ρ = some ρ' → ∀ (j : Nat) (sl : Slot), ρ'[j]? = some sl → (j ∉ js ∧ ρ[j]? = some sl) ∨ sl.isOwn = false
structure DG (X : Cx) (G : Gh) (tg : Expr) (js : List Nat) (g : D → Env' → Option Env') : Prop where
  pg : PG X tg (rdG X G js g)
  ok : GOk js g
structure DGs (X : Cx) (G : Gh) (tg : List Expr) (js : List Nat) (g : List D → Env' → Option Env') : Prop where
  pg : PGs X tg (rdGs X G js g)
  ok : GOk js g
theorem PG.imp {e : Expr} {t t' : TG} (h : PG X e t) (i : ∀ v σ H Q, t' v σ H Q → t v σ H Q) : PG X e t' := ⟨fun pins s σ H v u Q I r q => h.run pins s σ H v u Q I r (i v σ H Q q)⟩
theorem PGs.imp {e : List Expr} {t t' : TGs} (h : PGs X e t) (i : ∀ v σ H Q, t' v σ H Q → t v σ H Q) : PGs X e t' := ⟨fun pins s σ H v u Q I r q => h.run pins s σ H v u Q I r (i v σ H Q q)⟩
def gN (i : Nat) : D → Env' → Option Env' := fun d ρ => some (ρ.set i (.dat d))
def gsN : List D → Env' → Option Env'
  | [], ρ => some ρ
  | _, _ => none
def gsC (g : D → Env' → Option Env') (gs : List D → Env' → Option Env') : List D → Env' → Option Env'
  | d :: ds, ρ => (g d ρ).bind (gs ds)
  | _, _ => none
def gT (n : Nat) (gs : List D → Env' → Option Env') : D → Env' → Option Env'
  | .tuple ds, ρ => if ds.length = n then gs ds ρ else none
  | .list ds, ρ => if ds.length = n then gs ds ρ else none
  | _, _ => none
theorem DG.name {i : Nat} {x : Str} {pos : Pos} (hN : X.N.Nodup) (hi : X.N[i]? = some x) (hx : Loc X.env.scope x) (hf : X.fn x = true ∨ X.env.scope.names.lookup x = some .local) : DG X G (.Name x pos) [i] (gN i) :=
  ⟨PG.imp (pg_name hN hi hx hf) fun v σ H Q ⟨F, ρ, d, ρ', R, dv, e, q⟩ => by
    cases e
    exact q _ (R.store dv) (fun j hj => List.getElem?_set_ne fun z => hj (by simp [z])) (List.length_set ..), fun d ρ ρ' e j sl h => by
    cases e
    rcases getset h with ⟨rfl, rfl⟩ | ⟨ne, h⟩
    · exact .inr rfl
    · exact .inl ⟨by simp [Ne.symm ne], h⟩⟩
theorem DGs.nil : DGs X G [] [] gsN := ⟨PGs.imp pgs_nil fun vs σ H Q ⟨F, ρ, ds, ρ', R, dv, e, q⟩ => by
  cases ds with
  | nil => cases dv; cases e; exact ⟨rfl, q σ R (fun _ _ => rfl) rfl⟩
  | cons d ds => (cases e), fun d ρ ρ' e j sl h => by
  cases d with
  | nil => cases e; exact .inl ⟨by simp, h⟩
  | cons d ds => cases e⟩
theorem DGs.cons {e : Expr} {es : List Expr} {js js' : List Nat} {g : D → Env' → Option Env'} {gs : List D → Env' → Option Env'} (h : DG X G e js g) (hs : DGs X G es js' gs)
    (hsq : (assignEach (e :: es) X.env).map (·.2) = assign e X.env :: (assignEach es X.env).map (·.2) := by rfl) : DGs X G (e :: es) (js ++ js') (gsC g gs) :=
  ⟨PGs.imp (pgs_cons h.pg hs.pg hsq) fun vs σ H Q ⟨F, ρ, ds, ρ', R, dv, e, q⟩ => by
    cases ds with
    | nil => cases e
    | cons d ds =>
      cases dv with
      | cons d1 d2 =>
        have e : (g d ρ).bind (gs ds) = some ρ' := e
        cases hg : g d ρ with
        | none => rw [hg] at e; cases e
        | some ρ1 =>
          rw [hg] at e
          refine ⟨_, _, rfl, F, ρ, d, ρ1, R, d1, hg, fun σ1 R1 s1 l1 => ⟨F, ρ1, ds, ρ', R1, d2, e, fun σ2 R2 s2 l2 => q σ2 R2 (fun j hj => ?_) (l2.trans l1)⟩⟩
          rw [s2 j (fun z => hj (List.mem_append_right _ z)), s1 j (fun z => hj (List.mem_append_left _ z))], fun d ρ ρ' e j sl hj => by
    cases d with
    | nil => cases e
    | cons d ds =>
      have e : (g d ρ).bind (gs ds) = some ρ' := e
      cases hg : g d ρ with
      | none => rw [hg] at e; cases e
      | some ρ1 =>
        rw [hg] at e
        rcases hs.ok ds ρ1 ρ' e j sl hj with ⟨a, b⟩ | z
        · rcases h.ok d ρ ρ1 hg j sl b with ⟨c, d⟩ | z
          · exact .inl ⟨by simp [a, c], d⟩
          · exact .inr z
        · exact .inr z⟩
theorem PG.or {e : Expr} {t1 t2 : TG} (h1 : PG X e t1) (h2 : PG X e t2) : PG X e (fun v σ H Q => t1 v σ H Q ∨ t2 v σ H Q) := ⟨fun pins s σ H v u Q I r q => q.elim (h1.run pins s σ H v u Q I r) (h2.run pins s σ H v u Q I r)⟩
theorem DG.tup {es : List Expr} {k : Nat} {pos : Pos} {n : Nat} {js : List Nat} {gs : List D → Env' → Option Env'} (hc : X.calm = true) (h : DGs X G es js gs)
    (hn : (assignEach es X.env).length = n := by rfl) (hst : (assignEach es X.env).findIdx? (·.1) = none := by rfl) : DG X G (.Tuple es k pos) js (gT n gs) :=
  ⟨PG.imp (PG.or (pg_tup hc h.pg hn hst) (pg_unl hc h.pg hn hst)) fun v σ H Q z => by
    obtain ⟨F, ρ, d, ρ', R, dv, e, q⟩ := z
    cases dv with
    | tup h1 r1 =>
      rename_i a1 vs1 ds1
      have e : (if ds1.length = n then gs ds1 ρ else none) = some ρ' := e
      by_cases hl : ds1.length = n
      · rw [if_pos hl] at e
        exact .inl ⟨_, _, rfl, h1.sq R.sub, by rw [r1.length]; exact hl, F, ρ, _, ρ', R, r1, e, q⟩
      · rw [if_neg hl] at e; cases e
    | lst h1 r1 =>
      rename_i a1 vs1 ds1
      have e : (if ds1.length = n then gs ds1 ρ else none) = some ρ' := e
      by_cases hl : ds1.length = n
      · rw [if_pos hl] at e
        exact .inr ⟨_, _, rfl, .of (R.sub _ _ h1), by rw [r1.length]; exact hl, F, ρ, _, ρ', R, r1, e, q⟩
      · rw [if_neg hl] at e; cases e
    | _ => (cases e), fun d ρ ρ' e j sl hj => by
    cases d with
    | tuple ds =>
      have e : (if ds.length = n then gs ds ρ else none) = some ρ' := e
      by_cases hl : ds.length = n
      · rw [if_pos hl] at e
        exact h.ok ds ρ ρ' e j sl hj
      · rw [if_neg hl] at e; cases e
    | list ds =>
      have e : (if ds.length = n then gs ds ρ else none) = some ρ' := e
      by_cases hl : ds.length = n
      · rw [if_pos hl] at e
        exact h.ok ds ρ ρ' e j sl hj
      · rw [if_neg hl] at e; cases e
    | _ => cases e⟩
def putG (g : D → Env' → Option Env') (d : D) : MS := fun ρ => match g d ρ with
  | some ρ' => (.ok .nx, ρ')
  | none => (.bad, ρ)
def mAsg (g : D → Env' → Option Env') (m : M D) : MS := m.bind fun d => putG g d
theorem DS.asg {tg e : Expr} {pos : Pos} {js : List Nat} {g : D → Env' → Option Env'} {m : M D} (he : DE X G W e m) (hg : DG X G tg js g) (hs : swapsWithSole [tg] e pos.line X.env = pure false := by rfl) (hw : swappedStores [tg] e X.env = pure none := by rfl)
    (h1 : (assignEach [tg] X.env).map (·.2) = [assign tg X.env] := by rfl) : DS X G W (.Assign [tg] e pos) (mAsg g m) :=
  ⟨PS.imp (ps_asg he.pe hg.pg hs hw h1) fun E σ H ⟨F, ρ, R, hq⟩ => rs_step R hq fun d ρ1 v H1 F1 st dv q => by
    unfold putG at q
    cases hgd : g d ρ1 with
    | none => rw [hgd] at q; exact q.elim
    | some ρ' =>
      rw [hgd] at q
      exact ⟨F1, ρ1, d, ρ', st.rep, dv, hgd, fun σ' R' _ _ => q σ' H1 F1 (.refl F1) R'⟩⟩
/-! ### writing lists of one's own -/
theorem TabsN.lst {T : List NTab} {H : Hp} {p : Addr} {xs ys : List V} (t : TabsN T H) (h : H p = some (.lst xs)) : TabsN T (L2.upd H p (.lst ys)) := DL.TabsN.upd t (.inr ⟨xs, h⟩)
/-- slot i's list, wherever -/
def getL (ρ : Env') (i : Nat) : Option (List D × Bool) := match ρ[i]? with
  | some (.own xs) => some (xs, false)
  | some (.bor xs) => some (xs, true)
  | _ => none
def ownSl (b : Bool) (xs : List D) : Slot := if b then .bor xs else .own xs
theorem getL_some {i : Nat} {xs : List D} {b : Bool} (h : getL ρ i = some (xs, b)) : ρ[i]? = some (ownSl b xs) := by
  unfold getL at h
  split at h
  · cases h; assumption
  · cases h; assumption
  · cases h
theorem ownSl_own {b : Bool} {xs : List D} : (ownSl b xs).isOwn = true := by cases b <;> rfl
theorem Rep.wr {i : Nat} {b : Bool} {xs ys : List D} {p : Addr} {ws : List V} (R : Rep X G F H σ ρ) (hi : ρ[i]? = some (ownSl b xs)) (hσ : σ[i]? = some (some (.ref p))) (dw : DatAll F ws ys) :
    Stp X G F H σ ρ F (upd H p (.lst ws)) (ρ.set i (ownSl b ys)) := by
  have key : ∃ vs, H p = some (.lst vs) ∧ F p = none ∧ (b = false → G.H0 p = none) ∧ (b = true → (i, p) ∈ G.B) := by
    have o := R.ok i _ hi
    cases b with
    | false => obtain ⟨q, vs, e, h, n, _, h0⟩ := o; rw [hσ] at e; cases e; exact ⟨vs, h, n, fun _ => h0, fun z => nomatch z⟩
    | true => obtain ⟨q, vs, e, h, n, _, hb⟩ := o; rw [hσ] at e; cases e; exact ⟨vs, h, n, (fun z => nomatch z), fun _ => hb⟩
  obtain ⟨vs, hp, hF, h0, hB⟩ := key
  have isOwn : OwnA σ ρ p := ⟨i, _, hi, ownSl_own, hσ⟩
  have eF : Ex F (upd H p (.lst ws)) := fun a o q => by
    have ne : a ≠ p := by rintro rfl; rw [hF] at q; cases q
    rw [upd_ne ne]; exact R.sub a o q
  have g : Grow G.T (OwnA σ ρ) F H F (upd H p (.lst ws)) := ⟨.refl F, eF, fun _ q => .inl q, fun a o q nb _ => by
    have ne : a ≠ p := by rintro rfl; exact nb isOwn
    rw [upd_ne ne]; exact q, fun _ q => upd_back q, DL.TabsN.lst R.tabs hp, fun _ _ q => q⟩
  have hlt : i < ρ.length := (List.getElem?_eq_some_iff.mp hi).1
  have ownset : ∀ q, OwnA σ (ρ.set i (ownSl b ys)) q → OwnA σ ρ q := fun q ⟨j, s', hj, oj, hq⟩ => by
    rcases getset hj with ⟨rfl, rfl⟩ | ⟨ne, hj⟩
    · exact ⟨i, _, hi, ownSl_own, hq⟩
    · exact ⟨j, s', hj, oj, hq⟩
  refine ⟨⟨?_, by rw [List.length_set]; exact R.len, fun j sl hj => ?_, fun a c s1 s2 q hac ha hc o1 o2 h1 h2 => ?_⟩, g, ownset⟩
  · refine ⟨R.gr.f, eF, R.gr.nf, fun a o q nb nt => ?_, fun a q => R.gr.there a (upd_back q), DL.TabsN.lst R.tabs hp, R.gr.nt⟩
    have ne : a ≠ p := by
      rintro rfl
      cases b with
      | false => rw [h0 rfl] at q; cases q
      | true => exact nb ⟨i, hB rfl⟩
    rw [upd_ne ne]
    exact R.gr.old a o q nb nt
  · rcases getset hj with ⟨rfl, rfl⟩ | ⟨ne, hj⟩
    · cases b with
      | false => exact ⟨p, ws, hσ, upd_same, hF, dw, h0 rfl⟩
      | true => exact ⟨p, ws, hσ, upd_same, hF, dw, hB rfl⟩
    · have o := R.ok j sl hj
      have np : sl.isOwn = true → σ[j]? ≠ some (some (.ref p)) := fun ho z => R.apart i j _ sl p ne hi hj ownSl_own ho hσ z
      cases sl with
      | own zs =>
        obtain ⟨q, us, e, h, n, a, c⟩ := o
        have : q ≠ p := by rintro rfl; exact np rfl e
        exact ⟨q, us, e, by rw [upd_ne this]; exact h, n, a, c⟩
      | bor zs =>
        obtain ⟨q, us, e, h, n, a, c⟩ := o
        have : q ≠ p := by rintro rfl; exact np rfl e
        exact ⟨q, us, e, by rw [upd_ne this]; exact h, n, a, c⟩
      | _ => exact o
  · have key : ∀ {a : Nat} {s' : Slot}, (ρ.set i (ownSl b ys))[a]? = some s' → s'.isOwn = true → ∃ s0, ρ[a]? = some s0 ∧ s0.isOwn = true := fun {a s'} h ho => by
      rcases getset h with ⟨rfl, rfl⟩ | ⟨ne, h⟩
      · exact ⟨_, hi, ownSl_own⟩
      · exact ⟨s', h, ho⟩
    obtain ⟨t1, k1, k2⟩ := key ha o1
    obtain ⟨t2, k3, k4⟩ := key hc o2
    exact R.apart a c t1 t2 q hac k1 k3 k2 k4 h1 h2
end
end
end DL

end
section
set_option maxRecDepth 100000
set_option maxHeartbeats 2000000
/-! Lists changed in place; parallel stores. -/
namespace DL
noncomputable section
open PySem PySem.Spec L2 LamX NdefX
open PyProof.Rows hiding St
section
variable {X : Cx} {G : Gh} {W : WX} {pins : List (Addr × Obj)} {σ : L2.St} {H F : Hp} {s : Shared} {ρ : Env'} {E : Ends}
/-! ### append, pop -/
/-- slot i's list changed -/
def mGetL (i : Nat) : M (List D) := fun ρ => match getL ρ i with
  | some (xs, _) => (.ok xs, ρ)
  | none => (.bad, ρ)
def mPutL (i : Nat) (ys : List D) : M Unit := fun ρ => match getL ρ i with
  | some (_, b) => (.ok (), ρ.set i (ownSl b ys))
  | none => (.bad, ρ)
theorem Rep.getL {i : Nat} {k : List D → Env' → Prop} {ρ0 : Env'} {H0 F0 : Hp} (R : Rep X G F H σ ρ) (h : At X G W F0 H0 σ ρ0 (mGetL i ρ) k) : ∃ b xs p vs, ρ[i]? = some (ownSl b xs) ∧ σ[i]? = some (some (.ref p)) ∧ H p = some (.lst vs) ∧ F p = none ∧ DatAll F vs xs ∧ k xs ρ := by
  unfold mGetL at h
  cases e : DL.getL ρ i with
  | none => rw [e] at h; exact h.elim
  | some q =>
    obtain ⟨xs, b⟩ := q
    rw [e] at h
    have e' := getL_some e
    have o := R.ok i _ e'
    cases b with
    | false => obtain ⟨p, vs, hσ, hp, hF, ha, _⟩ := o; exact ⟨false, xs, p, vs, e', hσ, hp, hF, ha, h⟩
    | true => obtain ⟨p, vs, hσ, hp, hF, ha, _⟩ := o; exact ⟨true, xs, p, vs, e', hσ, hp, hF, ha, h⟩
theorem putL_at {i : Nat} {b : Bool} {xs ys : List D} {k : Unit → Env' → Prop} {ρ0 : Env'} {H0 F0 : Hp} (e : ρ[i]? = some (ownSl b xs)) (h : At X G W F0 H0 σ ρ0 (mPutL i ys ρ) k) : k () (ρ.set i (ownSl b ys)) := by
  have : DL.getL ρ i = some (xs, b) := by
    unfold DL.getL
    rw [e]
    cases b <;> rfl
  unfold mPutL at h
  rw [this] at h
  exact h
/-- x.append(e) -/
def mApp (i : Nat) (m : M D) : M D := (mGetL i).bind fun _ => m.bind fun d => (mGetL i).bind fun xs => (M.lift (grd (xs.length < 16777216) (.ok ())).pure?).bind fun _ => (mPutL i (xs ++ [d])).bind fun _ => .ret .none
theorem DE.app {i : Nat} {x : Str} {p apos cpos : Pos} {e : Expr} {m : M D} (hN : X.N[i]? = some x) (hv : Vis X.env.scope x) (he : DE X G W e m) (hd : (x == ("__debug__" : Str)) = false := by decide) (hcd : (x == ("__classdict__" : Str)) = false := by decide)
    (hbase : attributeBase (.Name x p) "append" X.env (eval (.Name x p) X.env) = eval (.Name x p) X.env := by rfl)
    (hfew : ((backTo cpos (starEach (e :: []) X.env)).all (fun x => !x.1) && (backToKw cpos (keywordEach [] X.env)).all (fun x => x.1.isSome)
      && decide ((e :: []).length + ([] : List Keyword).length + (if ([] : List Keyword).isEmpty then 0 else 1) < 30)) = true := by rfl)
    (hline : (apos.endLine == cpos.line) = true := by rfl) (hs : starEach (e :: []) X.env = (false, eval e X.env) :: starEach [] X.env := by rfl) :
    DE X G W (.Call (.Attribute (.Name x p) "append" apos) [e] [] cpos) (mApp i m) :=
  ⟨PE.imp (pe_bm PySem.F.plainAttrs_list PySem.F.slot_list_append PySem.F.type_list_append mt_append (pe_var (pos := p) hN hv hd hcd) (pa_cons he.pe pa_nil hs) hbase hfew hline hs rfl) fun σ H Q ⟨F, ρ, R, hq⟩ => by
    obtain ⟨b, xs, p, vs, e1, hσ, hp, hF, ha, q1⟩ := R.getL (At.bindM hq)
    refine ⟨.ref p, hσ, .inl ⟨rfl, _, .of hp⟩, rd_step (.refl R) q1 fun d ρ1 v H1 F1 st dv q2 => ?_⟩
    obtain ⟨b', xs', p', vs', e2, hσ', hp', hF', ha', q3⟩ := st.rep.getL (At.bindM q2)
    rw [hσ] at hσ'; cases hσ'
    obtain ⟨_, hz, q4⟩ := At.prim (At.bindM q3)
    obtain ⟨hl, _⟩ := grd_ok hz
    have q5 := putL_at e2 (At.bindM q4)
    refine ⟨p, vs', v, rfl, rfl, hp', by rw [ha'.length]; rw [sizeLine_eq]; exact hl, ?_⟩
    exact q5 .non _ F1 (st.trans (st.rep.wr e2 hσ (ha'.append (.cons dv .nil)))) .non⟩
/-- x.pop() -/
def mPop (i : Nat) : M D := (mGetL i).bind fun xs => match xs[xs.length - 1]? with
  | some y => (mPutL i xs.dropLast).bind fun _ => .ret y
  | none => .fail
theorem DatAll.dropLast {F : Hp} {vs : List V} {ds : List D} (r : DatAll F vs ds) : DatAll F vs.dropLast ds.dropLast := by
  rw [List.dropLast_eq_take, List.dropLast_eq_take, r.length]
  exact r.take _
theorem DE.pop {i : Nat} {x : Str} {p apos cpos : Pos} (hN : X.N[i]? = some x) (hv : Vis X.env.scope x) (hd : (x == ("__debug__" : Str)) = false := by decide) (hcd : (x == ("__classdict__" : Str)) = false := by decide)
    (hbase : attributeBase (.Name x p) "pop" X.env (eval (.Name x p) X.env) = eval (.Name x p) X.env := by rfl) (hline : (apos.endLine == cpos.line) = true := by rfl) :
    DE X G W (.Call (.Attribute (.Name x p) "pop" apos) [] [] cpos) (mPop i) :=
  ⟨PE.imp (pe_bm0 PySem.F.plainAttrs_list PySem.F.slot_list_pop PySem.F.type_list_pop mt_pop (pe_var (pos := p) hN hv hd hcd) hbase hline) fun σ H Q ⟨F, ρ, R, hq⟩ => by
    obtain ⟨b, xs, p, vs, e1, hσ, hp, hF, ha, q1⟩ := R.getL (At.bindM hq)
    cases hy : xs[xs.length - 1]? with
    | none => rw [hy] at q1; exact q1.elim
    | some y =>
      rw [hy] at q1
      obtain ⟨v, hv, dv⟩ := ha.get hy
      have q2 := putL_at e1 (At.bindM q1)
      refine ⟨.ref p, hσ, .inl ⟨rfl, _, .of hp⟩, p, vs, v, rfl, rfl, hp, by rw [ha.length]; exact hv, ?_⟩
      exact q2 v _ F (R.wr e1 hσ ha.dropLast) dv⟩
/-- x.pop(e) -/
def mPopAt (i : Nat) (m : M D) : M D := (mGetL i).bind fun _ => m.bind fun d => (mGetL i).bind fun xs => match d with
  | .int k => match seqIndex? k xs.length with
    | some j => match xs[j]? with
      | some y => (M.lift (grd (-(2 ^ 63) ≤ k ∧ k < 2 ^ 63) (.ok ())).pure?).bind fun _ => (mPutL i (xs.eraseIdx j)).bind fun _ => .ret y
      | none => .fail
    | none => .fail
  | _ => .fail
theorem DE.popAt {i : Nat} {x : Str} {p apos cpos : Pos} {e : Expr} {m : M D} (hN : X.N[i]? = some x) (hv : Vis X.env.scope x) (he : DE X G W e m) (hd : (x == ("__debug__" : Str)) = false := by decide) (hcd : (x == ("__classdict__" : Str)) = false := by decide)
    (hbase : attributeBase (.Name x p) "pop" X.env (eval (.Name x p) X.env) = eval (.Name x p) X.env := by rfl)
    (hfew : ((backTo cpos (starEach (e :: []) X.env)).all (fun x => !x.1) && (backToKw cpos (keywordEach [] X.env)).all (fun x => x.1.isSome)
      && decide ((e :: []).length + ([] : List Keyword).length + (if ([] : List Keyword).isEmpty then 0 else 1) < 30)) = true := by rfl)
    (hline : (apos.endLine == cpos.line) = true := by rfl) (hs : starEach (e :: []) X.env = (false, eval e X.env) :: starEach [] X.env := by rfl) :
    DE X G W (.Call (.Attribute (.Name x p) "pop" apos) [e] [] cpos) (mPopAt i m) :=
  ⟨PE.imp (pe_bm PySem.F.plainAttrs_list PySem.F.slot_list_pop PySem.F.type_list_pop mt_popAt (pe_var (pos := p) hN hv hd hcd) (pa_cons he.pe pa_nil hs) hbase hfew hline hs rfl) fun σ H Q ⟨F, ρ, R, hq⟩ => by
    obtain ⟨b, xs, p, vs, e1, hσ, hp, hF, ha, q1⟩ := R.getL (At.bindM hq)
    refine ⟨.ref p, hσ, .inl ⟨rfl, _, .of hp⟩, rd_step (.refl R) q1 fun d ρ1 v H1 F1 st dv q2 => ?_⟩
    obtain ⟨b', xs', p', vs', e2, hσ', hp', hF', ha', q3⟩ := st.rep.getL (At.bindM q2)
    rw [hσ] at hσ'; cases hσ'
    cases d with
    | int k =>
      cases dv
      cases hj : seqIndex? k xs'.length with
      | none => simp only [hj] at q3; exact q3.elim
      | some j =>
        simp only [hj] at q3
        cases hy : xs'[j]? with
        | none => simp only [hy] at q3; exact q3.elim
        | some y =>
          simp only [hy] at q3
          obtain ⟨_, hz, q4⟩ := At.prim (At.bindM q3)
          obtain ⟨hl, _⟩ := grd_ok hz
          have q5 := putL_at e2 (At.bindM q4)
          obtain ⟨v, hv, dv⟩ := ha'.get hy
          refine ⟨p, vs', k, j, v, rfl, rfl, hp', hl.1, hl.2, by rw [ha'.length]; exact hj, hv, ?_⟩
          exact q5 v _ F1 (st.trans (st.rep.wr e2 hσ (ha'.erase j))) dv
    | _ => exact q3.elim⟩
/-! ### x[i] = e -/
def mSetAt (i : Nat) (k : D) (d : D) : M Unit := (mGetL i).bind fun xs => match k with
  | .int k => match ixN xs.length k with
    | some j => mPutL i (xs.set j d)
    | none => .fail
  | _ => .fail
def mStore (i : Nat) (m mk : M D) : MS := m.bind fun d => (mGetL i).bind fun _ => mk.bind fun k => (mSetAt i k d).bind fun _ => .ret .nx
theorem setAt_rd {i : Nat} {k d : D} {v w : V} {p : Addr} {H0 F0 : Hp} {ρ0 : Env'} {kk : Unit → Env' → Prop} {Q : Hp → Prop} (R : Rep X G F H σ ρ) (hσ : σ[i]? = some (some (.ref p))) (dk : Dat F w k) (dv : Dat F v d) (h : At X G W F0 H0 σ ρ0 (mSetAt i k d ρ) kk)
    (next : ∀ H1 ρ1, Stp X G F H σ ρ F H1 ρ1 → kk () ρ1 → Q H1) : rSetL (.ref p) w v H Q := by
  obtain ⟨b, xs, p', vs, e1, hσ', hp, hF, ha, q1⟩ := R.getL (At.bindM h)
  rw [hσ] at hσ'; cases hσ'
  cases k with
  | int n =>
    cases dk
    cases hj : ixN xs.length n with
    | none => simp only [hj] at q1; exact q1.elim
    | some j =>
      simp only [hj] at q1
      have q2 := putL_at e1 q1
      exact ⟨p, vs, n, j, rfl, rfl, hp, by rw [ha.length]; exact hj, next _ _ (R.wr e1 hσ (ha.set dv j)) q2⟩
  | _ => exact q1.elim
theorem rs_stepA {α : Type} {ma : M α} {k : α → MS} (R : Rep X G F H σ ρ) (hq : AtS X G W F E ((ma.bind k) ρ)) : At X G W F H σ ρ (ma ρ) fun a ρ' => AtS X G W F E (k a ρ') := hq.at
theorem DS.store {i : Nat} {x : Str} {p tpos pos : Pos} {e ie : Expr} {m mk : M D} (hN : X.N[i]? = some x) (hv : Vis X.env.scope x) (he : DE X G W e m) (hk : DE X G W ie mk) (hd : (x == ("__debug__" : Str)) = false := by decide) (hcd : (x == ("__classdict__" : Str)) = false := by decide)
    (ha : ∀ v, assign (.Subscript (.Name x p) ie tpos) X.env v = (do
      let ov ← holding [v] (eval (.Name x p) X.env)
      let iv ← holding [v, ov] (eval ie X.env)
      standAt tpos
      holding [v, ov, iv] (setItem ov iv v)
      release [v, ov, iv] []) := by intro _; rfl)
    (hs : swapsWithSole [.Subscript (.Name x p) ie tpos] e pos.line X.env = pure false := by rfl) (hw : swappedStores [.Subscript (.Name x p) ie tpos] e X.env = pure none := by rfl)
    (h1 : (assignEach [.Subscript (.Name x p) ie tpos] X.env).map (·.2) = [assign (.Subscript (.Name x p) ie tpos) X.env] := by rfl) :
    DS X G W (.Assign [.Subscript (.Name x p) ie tpos] e pos) (mStore i m mk) :=
  ⟨PS.imp (ps_asg he.pe (pg_sub (pe_var (pos := p) hN hv hd hcd) hk.pe set_list ha) hs hw h1) fun E σ H ⟨F, ρ, R, hq⟩ => rs_step R hq fun d ρ1 v H1 F1 st dv q1 => by
    obtain ⟨b, xs, p, vs, e1, hσ, hp, hF, ha, q2⟩ := st.rep.getL (q1.at (H := H1) (σ := σ))
    refine ⟨.ref p, hσ, rs_step st.rep q2 fun k ρ2 w H2 F2 st2 dk q3 => ?_⟩
    exact setAt_rd st2.rep hσ dk (dv.mono st2.f) (q3.at (H := H2) (σ := σ)) fun H3 ρ3 st3 q4 => q4 σ H3 F2 (.refl F2) st3.rep⟩
/-- x[i], y = a pair -/
def mStoreN (i : Nat) (m mk : M D) (j : Nat) : MS := m.bind fun d => match d with
  | .tuple [a, b] => (mGetL i).bind fun _ => mk.bind fun k => (mSetAt i k a).bind fun _ => put j (.dat b)
  | _ => .fail
theorem DS.storeN {i j : Nat} {x y : Str} {p py tpos t2 pos : Pos} {kk : Nat} {e ie : Expr} {m mk : M D} (hc : X.calm = true) (hNd : X.N.Nodup) (hN : X.N[i]? = some x) (hv : Vis X.env.scope x) (hNy : X.N[j]? = some y) (hy : Loc X.env.scope y) (hf : X.fn y = true ∨ X.env.scope.names.lookup y = some .local)
    (he : DE X G W e m) (hk : DE X G W ie mk) (hd : (x == ("__debug__" : Str)) = false := by decide) (hcd : (x == ("__classdict__" : Str)) = false := by decide)
    (ha : ∀ v, assign (.Subscript (.Name x p) ie tpos) X.env v = (do
      let ov ← holding [v] (eval (.Name x p) X.env)
      let iv ← holding [v, ov] (eval ie X.env)
      standAt tpos
      holding [v, ov, iv] (setItem ov iv v)
      release [v, ov, iv] []) := by intro _; rfl)
    (hn : (assignEach [.Subscript (.Name x p) ie tpos, .Name y py] X.env).length = 2 := by rfl) (hst : (assignEach [.Subscript (.Name x p) ie tpos, .Name y py] X.env).findIdx? (·.1) = none := by rfl)
    (hq1 : (assignEach [.Subscript (.Name x p) ie tpos, .Name y py] X.env).map (·.2) = assign (.Subscript (.Name x p) ie tpos) X.env :: (assignEach [.Name y py] X.env).map (·.2) := by rfl)
    (hq2 : (assignEach [.Name y py] X.env).map (·.2) = assign (.Name y py) X.env :: (assignEach [] X.env).map (·.2) := by rfl)
    (hs : swapsWithSole [.Tuple [.Subscript (.Name x p) ie tpos, .Name y py] kk t2] e pos.line X.env = pure false := by rfl) (hw : swappedStores [.Tuple [.Subscript (.Name x p) ie tpos, .Name y py] kk t2] e X.env = pure none := by rfl)
    (h1 : (assignEach [.Tuple [.Subscript (.Name x p) ie tpos, .Name y py] kk t2] X.env).map (·.2) = [assign (.Tuple [.Subscript (.Name x p) ie tpos, .Name y py] kk t2) X.env] := by rfl) :
    DS X G W (.Assign [.Tuple [.Subscript (.Name x p) ie tpos, .Name y py] kk t2] e pos) (mStoreN i m mk j) :=
  ⟨PS.imp (ps_asg he.pe (pg_tup hc (pgs_cons (pg_sub (pe_var (pos := p) hN hv hd hcd) hk.pe set_list ha) (pgs_cons (pg_name (pos := py) hNd hNy hy hf) pgs_nil hq2) hq1) hn hst) hs hw h1) fun E σ H ⟨F, ρ, R, hq⟩ => rs_step R hq fun d ρ1 v H1 F1 st dv q1 => by
    cases dv with
    | tup hh rr =>
      rename_i a1 vs1 ds1
      match ds1, rr, q1 with
      | [a, b], rr, q1 =>
        obtain ⟨va, vb, ev, d1, d2⟩ := rr.two
        subst ev
        obtain ⟨b', xs, p, vs, e1, hσ, hp, hF, ha, q2⟩ := st.rep.getL (q1.at (H := H1) (σ := σ))
        refine ⟨_, _, rfl, hh.sq st.rep.sub, rfl, va, [vb], rfl, .ref p, hσ, rs_step st.rep q2 fun k ρ2 w H2 F2 st2 dk q3 => ?_⟩
        refine setAt_rd st2.rep hσ dk (d1.mono st2.f) (q3.at (H := H2) (σ := σ)) fun H3 ρ3 st3 q4 => ?_
        exact ⟨vb, [], rfl, rfl, q4 _ H3 F2 (.refl F2) (st3.rep.store (d2.mono st2.f))⟩
      | [], _, q1 => exact q1.elim
      | [_], _, q1 => exact q1.elim
      | _ :: _ :: _ :: _, _, q1 => exact q1.elim
    | _ => exact q1.elim⟩
/-! ### mixed arguments; parallel stores -/
inductive SlVals (H0 F H : Hp) : List V → List Slot → Prop
  | nil : SlVals H0 F H [] []
  | dat {v d vs sls} : Dat F v d → SlVals H0 F H vs sls → SlVals H0 F H (v :: vs) (.dat d :: sls)
  | own {p : Addr} {ws : List V} {xs : List D} {vs : List V} {sls : List Slot} : H0 p = none → H p = some (.lst ws) → F p = none → DatAll F ws xs → (∀ (k : Nat) (sl : Slot), sls[k]? = some sl → sl.isOwn = true → vs[k]? ≠ some (.ref p)) → SlVals H0 F H vs sls → SlVals H0 F H (.ref p :: vs) (.own xs :: sls)
def rdX (X : Cx) (G : Gh) (W : WX) (m : M (List Slot)) : TA := fun σ H Q => ∃ F ρ, Rep X G F H σ ρ ∧ At X G W F H σ ρ (m ρ) fun sls ρ' => ∀ vs H' F', Stp X G F H σ ρ F' H' ρ' → SlVals H F' H' vs sls → Q vs H'
structure DX (X : Cx) (G : Gh) (W : WX) (es : List Expr) (m : M (List Slot)) : Prop where
  pa : PA X es (rdX X G W m)
theorem PA.imp {e : List Expr} {t t' : TA} (h : PA X e t) (i : ∀ σ H Q, t' σ H Q → t σ H Q) : PA X e t' := ⟨fun pos pins s σ H Q I q => h.run pos pins s σ H Q I (i σ H Q q)⟩
theorem SlVals.base {H0 H1 : Hp} (e : ∀ p, H1 p = none → H0 p = none) : ∀ {vs : List V} {sls : List Slot}, SlVals H1 F H vs sls → SlVals H0 F H vs sls
  | _, _, .nil => .nil
  | _, _, .dat d r => .dat d (SlVals.base e r)
  | _, _, .own a b c d f r => .own (e _ a) b c d f (SlVals.base e r)
theorem SlVals.ownNone {H0 : Hp} : ∀ {vs : List V} {sls : List Slot}, SlVals H0 F H vs sls → ∀ (k : Nat) (sl : Slot) (p : Addr), sls[k]? = some sl → sl.isOwn = true → vs[k]? = some (.ref p) → H0 p = none
  | _, _, .nil, k, sl, p, h, _, _ => by simp at h
  | _, _, .dat d r, 0, sl, p, h, ho, _ => by simp at h; subst h; cases ho
  | _, _, .dat d r, k + 1, sl, p, h, ho, hv => SlVals.ownNone r k sl p (by simpa using h) ho (by simpa using hv)
  | _, _, .own a b c d f r, 0, sl, p, h, ho, hv => by simp at hv; subst hv; exact a
  | _, _, .own a b c d f r, k + 1, sl, p, h, ho, hv => SlVals.ownNone r k sl p (by simpa using h) ho (by simpa using hv)
def mXN : M (List Slot) := .ret []
def mXC (m : M D) (r : M (List Slot)) : M (List Slot) := m.bind fun d => r.bind fun sls => .ret (.dat d :: sls)
def mXO (m : M (List D)) (r : M (List Slot)) : M (List Slot) := m.bind fun d => r.bind fun sls => .ret (.own d :: sls)
theorem DX.nil : DX X G W [] mXN := ⟨PA.imp pa_nil fun σ H Q ⟨F, ρ, R, hq⟩ => hq [] H F (.refl R) .nil⟩
section
variable {e : Expr} {es : List Expr} {mr : M (List Slot)}
theorem DX.cons {ma : M D} (ha : DE X G W e ma) (hr : DX X G W es mr) (hs : starEach (e :: es) X.env = (false, eval e X.env) :: starEach es X.env := by rfl) : DX X G W (e :: es) (mXC ma mr) :=
  ⟨PA.imp (pa_cons ha.pe hr.pa hs) fun σ H Q ⟨F, ρ, R, hq⟩ => rd_step (.refl R) hq fun d ρ1 v H1 F1 st dv q1 =>
    ⟨F1, ρ1, st.rep, At.mono (At.bindM q1) st fun sls ρ2 _ q2 => fun vs H2 F2 st2 sv => q2 (v :: vs) H2 F2 (st.trans st2) (.dat (dv.mono st2.f) (sv.base st.gr.there))⟩⟩
theorem rf_step {α : Type} {ma : M (List D)} {k : List D → M α} {ρ0 : Env'} {H0 F0 : Hp} {kk : α → Env' → Prop} (R : Stp X G F0 H0 σ ρ0 F H ρ) (hq : At X G W F0 H0 σ ρ0 ((ma.bind k) ρ) kk) {Q : VK}
    (next : ∀ ds ρ1 p vs H1 F1, Stp X G F H σ ρ F1 H1 ρ1 → H p = none → H1 p = some (.lst vs) → F1 p = none → DatAll F1 vs ds → At X G W F0 H0 σ ρ0 (k ds ρ1) kk → Q (.ref p) H1) : rdF X G W ma σ H Q :=
  ⟨F, ρ, R.rep, At.mono (At.bindM hq) R fun d ρ1 _ q => fun p vs H1 F1 st hn hp hF dv => next d ρ1 p vs H1 F1 st hn hp hF dv q⟩
theorem DX.own {ma : M (List D)} (ha : DF X G W e ma) (hr : DX X G W es mr) (hs : starEach (e :: es) X.env = (false, eval e X.env) :: starEach es X.env := by rfl) : DX X G W (e :: es) (mXO ma mr) :=
  ⟨PA.imp (pa_cons ha.pe hr.pa hs) fun σ H Q ⟨F, ρ, R, hq⟩ => rf_step (.refl R) hq fun ds ρ1 p ws H1 F1 st hn hp hF da q1 =>
    ⟨F1, ρ1, st.rep, At.mono (At.bindM q1) st fun sls ρ2 _ q2 => fun vs H2 F2 st2 sv => by
      have no := st.noFresh R hn
      have hp2 : H2 p = some (.lst ws) := st2.gr.old p _ hp no (by intro ps z; cases z)
      have hF2 : F2 p = none := by
        rcases st2.gr.nf p hF with z | z | z
        · exact z
        · exact absurd hp (z _)
        · exact absurd z no
      refine q2 (.ref p :: vs) H2 F2 (st.trans st2) (.own hn hp2 hF2 (da.mono st2.f) (fun k sl hk ho hv => ?_) (sv.base st.gr.there))
      have := sv.ownNone k sl p hk ho hv
      rw [hp] at this; cases this⟩⟩
end
/-- stores, one after another -/
def setSl (ρ : Env') : List Nat → List Slot → Env'
  | i :: is, sl :: sls => setSl (ρ.set i sl) is sls
  | _, _ => ρ
def setVs (σ : L2.St) : List Nat → List V → L2.St
  | i :: is, v :: vs => setVs (σ.set i (some v)) is vs
  | _, _ => σ
theorem ownA_store {i : Nat} {v : V} {sl : Slot} {q : Addr} (h : OwnA (σ.set i (some v)) (ρ.set i sl) q) : OwnA σ ρ q ∨ (sl.isOwn = true ∧ v = .ref q) := by
  obtain ⟨j, s', hj, oj, hq⟩ := h
  rcases getset hj with ⟨rfl, rfl⟩ | ⟨ne, hj⟩
  · rcases getset hq with ⟨_, e⟩ | ⟨ne, _⟩
    · exact .inr ⟨oj, by cases e; rfl⟩
    · exact absurd rfl ne
  · rw [List.getElem?_set_ne ne] at hq
    exact .inl ⟨j, s', hj, oj, hq⟩
theorem Rep.stores {H0 : Hp} (h0 : ∀ p, H0 p = none → G.H0 p = none) (is : List Nat) : ∀ (vs : List V) (sls : List Slot) (σ : L2.St) (ρ : Env'), Rep X G F H σ ρ → SlVals H0 F H vs sls → (∀ (k : Nat) (sl : Slot) (p : Addr), sls[k]? = some sl → sl.isOwn = true → vs[k]? = some (.ref p) → ¬ OwnA σ ρ p) → Rep X G F H (setVs σ is vs) (setSl ρ is sls) := by
  induction is with
  | nil =>
    intro vs sls σ ρ R sv no
    cases vs <;> cases sls <;> exact R
  | cons i is ih =>
    intro vs sls σ ρ R sv no
    cases sv with
    | nil => exact R
    | dat dv r =>
      refine ih _ _ _ _ (R.store dv) r fun k sl p hk ho hv z => ?_
      rcases ownA_store z with z | ⟨z, _⟩
      · exact no (k + 1) sl p (by simpa using hk) ho (by simpa using hv) z
      · cases z
    | own a b c d f r =>
      refine ih _ _ _ _ (R.storeOwn b c d (h0 _ a) (no 0 _ _ rfl rfl rfl)) r fun k sl q hk ho hv z => ?_
      rcases ownA_store z with z | ⟨_, z⟩
      · exact no (k + 1) sl q (by simpa using hk) ho (by simpa using hv) z
      · cases z; exact f k sl hk ho hv
def putS (is : List Nat) (sls : List Slot) : MS := fun ρ => if sls.length = is.length then (.ok .nx, setSl ρ is sls) else (.bad, ρ)
def mPar (is : List Nat) (m : M (List Slot)) : MS := m.bind (putS is)
theorem SlVals.length {H0 : Hp} : ∀ {vs : List V} {sls : List Slot}, SlVals H0 F H vs sls → vs.length = sls.length
  | _, _, .nil => rfl
  | _, _, .dat _ r => congrArg Nat.succ (SlVals.length r)
  | _, _, .own _ _ _ _ _ r => congrArg Nat.succ (SlVals.length r)
theorem par_rd {is : List Nat} {m : M (List Slot)} (R : Rep X G F H σ ρ) (hq : AtS X G W F E (mPar is m ρ)) {Q : List V → Hp → Prop} (next : ∀ vs H1, vs.length = is.length → E.nx (setVs σ is vs) H1 → Q vs H1) : rdX X G W m σ H Q :=
  ⟨F, ρ, R, At.mono hq.at (.refl R) fun sls ρ1 _ q => fun vs H1 F1 st sv => by
    unfold putS at q
    by_cases hl : sls.length = is.length
    · rw [if_pos hl] at q
      refine next vs H1 (sv.length.trans hl) (q _ H1 F1 st.f (Rep.stores R.gr.there is _ _ _ _ st.rep sv fun k sl p hk ho hv => ?_))
      exact st.noFresh R (sv.ownNone k sl p hk ho hv)
    · rw [if_neg hl] at q; exact q.elim⟩
theorem DS.par2 {i j : Nat} {x y : Str} {a b : Expr} {px py pt pos : Pos} {kt k2 pt2} {m : M (List Slot)} (hc : X.calm = true) (hN : X.N.Nodup) (hi : X.N[i]? = some x) (hj : X.N[j]? = some y) (hij : i ≠ j)
    (hx : X.env.scope.names.lookup x = some .local) (hy : X.env.scope.names.lookup y = some .local) (ha : DX X G W [a, b] m)
    (hw : swappedStores [.Tuple [.Name x px, .Name y py] kt pt] (.Tuple [a, b] k2 pt2) X.env = pure (some [x, y]))
    (hs : swapsWithSole [.Tuple [.Name x px, .Name y py] kt pt] (.Tuple [a, b] k2 pt2) pos.line X.env = pure false := by rfl) :
    DS X G W (.Assign [.Tuple [.Name x px, .Name y py] kt pt] (.Tuple [a, b] k2 pt2) pos) (mPar [i, j] m) :=
  ⟨PS.imp (ps_par hc hN hi hj hij hx hy ha.pa hw hs) fun E σ H ⟨F, ρ, R, hq⟩ => par_rd R hq fun vs H1 hl q => by
    match vs, hl, q with
    | [v, w], _, q => exact ⟨v, w, rfl, q⟩⟩
theorem DS.par3 {i j l : Nat} {x y z : Str} {a b c : Expr} {px py pz pt pos : Pos} {kt k2 pt2} {m : M (List Slot)} (hc : X.calm = true) (hN : X.N.Nodup) (hi : X.N[i]? = some x) (hj : X.N[j]? = some y) (hl : X.N[l]? = some z) (hij : i ≠ j) (hil : i ≠ l) (hjl : j ≠ l)
    (hx : X.env.scope.names.lookup x = some .local) (hy : X.env.scope.names.lookup y = some .local) (hz : X.env.scope.names.lookup z = some .local) (ha : DX X G W [a, b, c] m)
    (hw : swappedStores [.Tuple [.Name x px, .Name y py, .Name z pz] kt pt] (.Tuple [a, b, c] k2 pt2) X.env = pure (some [x, y, z]))
    (hs : swapsWithSole [.Tuple [.Name x px, .Name y py, .Name z pz] kt pt] (.Tuple [a, b, c] k2 pt2) pos.line X.env = pure false := by rfl) :
    DS X G W (.Assign [.Tuple [.Name x px, .Name y py, .Name z pz] kt pt] (.Tuple [a, b, c] k2 pt2) pos) (mPar [i, j, l] m) :=
  ⟨PS.imp (ps_par3 hc hN hi hj hl hij hil hjl hx hy hz ha.pa hw hs) fun E σ H ⟨F, ρ, R, hq⟩ => par_rd R hq fun vs H1 hl q => by
    match vs, hl, q with
    | [v, w, u], _, q => exact ⟨v, w, u, rfl, q⟩⟩
/-! .. through a tuple -/
def gSls : List Nat → TGs
  | [] => gNil
  | i :: is => gCons (gName i) (gSls is)
theorem gSls_of : ∀ {is : List Nat} {vs : List V} {σ : L2.St} {H : Hp} {Q : L2.St → Hp → Prop}, vs.length = is.length → Q (setVs σ is vs) H → gSls is vs σ H Q
  | [], [], _, _, _, _, q => ⟨rfl, q⟩
  | i :: is, v :: vs, σ, H, Q, hl, q => ⟨v, vs, rfl, gSls_of (by simpa using hl) q⟩
/-- targets that are names, one after another -/
structure DNs (X : Cx) (es : List Expr) (is : List Nat) : Prop where
  pg : PGs X es (gSls is)
theorem DNs.nil : DNs X [] [] := ⟨pgs_nil⟩
theorem DNs.cons {i : Nat} {x : Str} {p : Pos} {es : List Expr} {is : List Nat} (hN : X.N.Nodup) (hi : X.N[i]? = some x) (hx : Loc X.env.scope x) (hf : X.fn x = true ∨ X.env.scope.names.lookup x = some .local) (h : DNs X es is)
    (hs : (assignEach (.Name x p :: es) X.env).map (·.2) = assign (.Name x p) X.env :: (assignEach es X.env).map (·.2) := by rfl) : DNs X (.Name x p :: es) (i :: is) := ⟨pgs_cons (pg_name hN hi hx hf) h.pg hs⟩
theorem SlVals.up {H0 H2 : Hp} (e : ∀ b o, H b = some o → H2 b = some o) : ∀ {vs : List V} {sls : List Slot}, SlVals H0 F H vs sls → SlVals H0 F H2 vs sls
  | _, _, .nil => .nil
  | _, _, .dat d r => .dat d (SlVals.up e r)
  | _, _, .own a b c d f r => .own a (e _ _ b) c d f (SlVals.up e r)
theorem DS.parN {ts es : List Expr} {kt k2 : Nat} {pt pt2 pos : Pos} {is : List Nat} {m : M (List Slot)} {n : Nat} (hc : X.calm = true) (hg : DNs X ts is) (he : DX X G W es m) (hl : is.length = n := by rfl) (hz : n ≤ 1000 := by decide)
    (hn : (assignEach ts X.env).length = n := by rfl) (hst : (assignEach ts X.env).findIdx? (·.1) = none := by rfl)
    (hs : swapsWithSole [.Tuple ts kt pt] (.Tuple es k2 pt2) pos.line X.env = pure false := by rfl) (hw : swappedStores [.Tuple ts kt pt] (.Tuple es k2 pt2) X.env = pure none := by rfl)
    (h1 : (assignEach [.Tuple ts kt pt] X.env).map (·.2) = [assign (.Tuple ts kt pt) X.env] := by rfl) :
    DS X G W (.Assign [.Tuple ts kt pt] (.Tuple es k2 pt2) pos) (mPar is m) :=
  ⟨PS.imp (ps_asg (pe_tup he.pa) (pg_tup hc hg.pg hn hst) hs hw h1) fun E σ H ⟨F, ρ, R, hq⟩ =>
    ⟨F, ρ, R, At.mono hq.at (.refl R) fun sls ρ1 _ q => fun vs H1 F1 st sv => by
      unfold putS at q
      by_cases hls : sls.length = is.length
      · rw [if_pos hls] at q
        have hv : vs.length = n := sv.length.trans (hls.trans hl)
        refine ⟨lim_ok (by omega), fun p hp => ⟨p, vs, rfl, .of upd_same, hv, gSls_of (sv.length.trans hls) ?_⟩⟩
        have g := Grow.fresh (o := .tup vs) st.rep.sub st.rep.tabs hp
        have st2 := st.grow g
        refine q _ _ F1 st2.f (Rep.stores R.gr.there is _ _ _ _ st2.rep (sv.up fun b o e => by rw [upd_ne (ne_of_none e hp)]; exact e) fun k sl p hk ho hv => ?_)
        exact st2.noFresh R (sv.ownNone k sl p hk ho hv)
      · rw [if_neg hls] at q; exact q.elim⟩⟩
end
end
end DL

end
section
set_option maxRecDepth 100000
set_option maxHeartbeats 2000000
/-! What is walked. -/
namespace DL
noncomputable section
open PySem PySem.Spec L2 LamX NdefX
open PyProof.Rows hiding St
/-! ### enumerate(tuple) -/
theorem meets_enum1 {v : Value} {o : Obj} {H : Heap → Prop} (B : Begins v o H) :
    Meets (Builtin.«enumerate.__new__» ⟨[.type "enumerate", v], []⟩) (fun _ R s => H s.heap ∧
      R (.ok (.ret (.ref (s.heap.push o).objs.size))) { s with heap := (s.heap.push o).push { cls := .type "enumerate", data := .fields #[.none, .bool false, .ref s.heap.objs.size, rawInt 0, .none, .none] } }) :=
  .of_wp fun prog w A R s h => by
    obtain ⟨hp, g, d, tk, os⟩ := s; obtain ⟨h1, h⟩ := h
    have hsub := sub_enumerate
    have q1 : ∀ {A' : Around} {E : Value → Shared → Prop} {Q : Value → Shared → Prop}, Q (.ref hp.objs.size) ⟨hp.push o, g, d, tk, os⟩ → wpAny (model prog w) A' (pyIter v) Q E ⟨hp, g, d, tk, os⟩ :=
      fun q => B.iter prog w _ _ ⟨hp, g, d, tk, os⟩ _ h1 q
    wp_walk using q1
    refine wpAny_stack_any fun st => wpAny_pure ?_
    split
    · rename_i c _ _ _ _ _
      cases (c == Value.type "enumerate")
      · wp_walk using q1
        exact ⟨_, rfl, h⟩
      · wp_walk using q1
        exact ⟨_, rfl, h⟩
    · wp_walk using q1
      exact ⟨_, rfl, h⟩
theorem enum_begins1 {prog : Program} {w : World} {A : Around} {E : Value → Shared → Prop} {s : Shared} {v : Value} {o : Obj} {H : Heap → Prop} {Q : Value → Shared → Prop} (B : Begins v o H) (h1 : H s.heap)
    (h : ∀ h', IsEnum h' (s.heap.objs.size + 1) s.heap.objs.size 0 .none → h'.get? s.heap.objs.size = some o → h'.objs.size = s.heap.objs.size + 2 →
      (∀ b o, s.heap.get? b = some o → h'.get? b = some o) → Q (.ref (s.heap.objs.size + 1)) { s with heap := h' }) :
    wpAny (model prog w) A (call (.type "enumerate") [v]) Q E s := by
  refine callType_new F.called_enumerate (by decide) (F.typeCall_enumerate_1 _) (F.newCall_enumerate_1 _) (fun obj => F.args_object_init_2 obj _) F.entry_enumerate_new
    (meets_enum1 B) ⟨h1, ?_⟩
  have hz : (s.heap.push o).objs.size = s.heap.objs.size + 1 := Heap.size_push ..
  show _ ∧ _
  rw [hz]
  have he : IsEnum ((s.heap.push o).push { cls := .type "enumerate", data := .fields #[.none, .bool false, .ref s.heap.objs.size, rawInt 0, .none, .none] }) (s.heap.objs.size + 1) s.heap.objs.size 0 .none := by
    have := Heap.get?_push_size (s.heap.push o) (o := { cls := .type "enumerate", data := .fields #[.none, .bool false, .ref s.heap.objs.size, rawInt 0, .none, .none] }) rfl
    rw [hz] at this; exact this
  refine ⟨⟨_, he, rfl⟩, h _ he (Heap.get?_push_of_some _ (Heap.get?_push_size _ B.free)) (by rw [Heap.size_push, hz]) fun b o x => Heap.get?_push_of_some _ (Heap.get?_push_of_some _ x)⟩
def IteL (K : PySem.W.Frag) (a : Addr) : It :=
  ⟨fun i H => ∃ (xs : List V) (x : V), SqL K H a xs ∧ xs[i]? = some x, fun i H v H' => ∃ T x, v = .ref T ∧ NewT H H' T [.int (i : Nat), x] ∧ ∀ xs, SqL K H a xs → xs[i]? = some x, fun i H => ∃ xs : List V, SqL K H a xs ∧ xs.length ≤ i⟩
theorem turn_enumL {P : Program} {w : World} {K : PySem.W.Frag} {elts : List Expr} {kk : Nat} {tpos : Pos} (a e it : Addr) :
    Turn P w K (.Tuple elts kk tpos) (IteL K a) [e, it] e (fun i h => (∃ old, IsEnum h e it ((i : Nat) : Int) old) ∧ h.IsListIter it a i ∧ e ≠ it) where
  mem := by simp
  obj := fun i h st b hb => by
    obtain ⟨⟨old, he⟩, ⟨o, ho, hc, hd⟩, _⟩ := st
    have e' : b = e ∨ b = it := by simpa using hb
    rcases e' with z | z
    · rw [z]; exact ⟨_, he, fun v q => nomatch q⟩
    · rw [z]; exact ⟨o, ho, fun v q => by rw [hd] at q; cases q⟩
  keep := fun i h h' st k => let ⟨⟨old, he⟩, hi, hne⟩ := st; ⟨⟨old, k e (by simp) _ he⟩, hi.at fun o q => k it (by simp) o q, hne⟩
  item := by
    intro X hP hw hK hc i pins s σ H E I hf st hg
    subst hP hw hK
    obtain ⟨⟨old, he⟩, hit, hne⟩ := st
    obtain ⟨xs, x, hq, hx⟩ := hg
    obtain ⟨its, rv, p, hz⟩ := I.list hq
    obtain ⟨u, hu, ru⟩ := rv.get hx
    have hel : e < s.heap.objs.size := Heap.lt_size he
    have hil : it < s.heap.objs.size := by obtain ⟨_, q, _⟩ := hit; exact Heap.lt_size q
    refine wpAny_pyNext_enum_item he hit p.isList (x := u) (by simpa using hu) hne fun h' ho hit' hT hsz hk => ?_
    refine ⟨_, rfl, wpAny_letOwnedTupleGo_enum (s := { s with heap := h', toks := s.toks + 1 }) ho fun h'' he' sb => ?_⟩
    have hT2 : h''.get? s.heap.objs.size = some { cls := .type "tuple", data := .seq #[.int i s.toks, u] } := (sb.2 _ (Nat.ne_of_gt hel)).trans hT
    have new : ObjOk X.prog X.w (upd H s.heap.objs.size (frzT [.int i s.toks, u] [.int (i : Nat), x])) h'' s.heap.objs.size (frzT [.int i s.toks, u] [.int (i : Nat), x]) :=
      okT (by show 2 ≤ sizeLine; decide) (.cons ⟨_, rfl⟩ (.cons ru .nil)) hT2
    have I1 : Inv X pins σ (upd H s.heap.objs.size (frzT [.int i s.toks, u] [.int (i : Nat), x])) { s with heap := h'', toks := s.toks + 1 } :=
      I.turnedNew (ch := [e, it]) (fun b ob hb q => (sb.2 b (fun z => hb (by simp [z]))).trans (hk b ob (fun z => hb (by simp [z])) (fun z => hb (by simp [z])) q)) hf (Nat.le_refl _) new
    refine ⟨.ref s.heap.objs.size, _, I1, rfl, ⟨_, x, rfl, ⟨I.hok.fresh (Nat.le_refl _), _, rfl⟩, fun ys hy => by rw [I.list_inj hy hq]; exact hx⟩, ⟨⟨u, ?_⟩, hit'.at fun o q => (sb.2 it (Ne.symm hne)).trans q, hne⟩, fun b hb => ?_⟩
    · have e1 : ((i + 1 : Nat) : Int) = (i : Int) + 1 := by omega
      rw [e1]; exact he'
    · have hb' : b < s.heap.objs.size := by
        have e' : b = e ∨ b = it := by simpa using hb
        rcases e' with z | z
        · rw [z]; exact hel
        · rw [z]; exact hil
      rw [upd_ne (Nat.ne_of_lt hb')]
      exact (hf b hb).1
  done := by
    intro X hP hw hK hc i pins s σ H E I hf st hg
    subst hP hw hK
    obtain ⟨⟨old, he⟩, hit, hne⟩ := st
    obtain ⟨xs, hq, hx⟩ := hg
    obtain ⟨its, rv, p, hz⟩ := I.list hq
    obtain ⟨f0, f1, f2, f3, f4, f5⟩ := hf it (by simp)
    have hl := rv.length
    exact wpAny_pyNext_enum_end (I.ok.hd hc) he hit p.isList (by simp; omega) fun h' eb => ⟨rfl, I.turned (t' := s.toks) (fun b o hb q => eb b o hb q) f0 f1 f3 f4 f5⟩
  self := fun A i s Q E st h => let ⟨⟨_, he⟩, _⟩ := st; wpAny_pyIter_enum he h
def IteT (K : PySem.W.Frag) (a : Addr) : It :=
  ⟨fun i H => ∃ (xs : List V) (x : V), SqT K H a xs ∧ xs[i]? = some x, fun i H v H' => ∃ T x, v = .ref T ∧ NewT H H' T [.int (i : Nat), x] ∧ ∀ xs, SqT K H a xs → xs[i]? = some x, fun i H => ∃ xs : List V, SqT K H a xs ∧ xs.length ≤ i⟩
theorem turn_enumT {P : Program} {w : World} {K : PySem.W.Frag} {elts : List Expr} {kk : Nat} {tpos : Pos} (a e it : Addr) :
    Turn P w K (.Tuple elts kk tpos) (IteT K a) [e, it] e (fun i h => (∃ old, IsEnum h e it ((i : Nat) : Int) old) ∧ h.IsTupleIter it a i ∧ e ≠ it ∧ e ≠ a ∧ a ≠ it) where
  mem := by simp
  obj := fun i h st b hb => by
    obtain ⟨⟨old, he⟩, ⟨o, ho, hc, hd⟩, _⟩ := st
    have e' : b = e ∨ b = it := by simpa using hb
    rcases e' with z | z
    · rw [z]; exact ⟨_, he, fun v q => nomatch q⟩
    · rw [z]; exact ⟨o, ho, fun v q => by rw [hd] at q; cases q⟩
  keep := fun i h h' st k => let ⟨⟨old, he⟩, hi, hne⟩ := st; ⟨⟨old, k e (by simp) _ he⟩, hi.at fun o q => k it (by simp) o q, hne⟩
  item := by
    intro X hP hw hK hc i pins s σ H E I hf st hg
    subst hP hw hK
    obtain ⟨⟨old, he⟩, hit, hne, hea, hai⟩ := st
    obtain ⟨xs, x, hq, hx⟩ := hg
    obtain ⟨its, rv, p, hz⟩ := I.tuple hq
    obtain ⟨u, hu, ru⟩ := rv.get hx
    have hel : e < s.heap.objs.size := Heap.lt_size he
    have hil : it < s.heap.objs.size := by obtain ⟨_, q, _⟩ := hit; exact Heap.lt_size q
    have hlt : i < its.toArray.size := by
      have := (List.getElem?_eq_some_iff.mp hu).1
      simpa using this
    refine wpAny_pyNext_enum_itemD (Draws.tuple (A := X.A.in1) (I.ok.hd hc) it a hai its.toArray) he ⟨hit, show s.heap.IsTuple a its.toArray from p⟩ hlt hne (by simp [hne, hea]) fun x' h' tk hPx ho hst' hT hsz hk => ?_
    have ex : x' = u := by
      have h1 : its[i]? = some x' := by simpa using hPx
      rw [hu] at h1
      exact (Option.some.inj h1).symm
    subst ex
    refine ⟨_, rfl, wpAny_letOwnedTupleGo_enum (s := { s with heap := h', toks := tk + 1 }) ho fun h'' he' sb => ?_⟩
    have hT2 : h''.get? s.heap.objs.size = some { cls := .type "tuple", data := .seq #[.int i tk, x'] } := (sb.2 _ (Nat.ne_of_gt hel)).trans hT
    have new : ObjOk X.prog X.w (upd H s.heap.objs.size (frzT [.int i tk, x'] [.int (i : Nat), x])) h'' s.heap.objs.size (frzT [.int i tk, x'] [.int (i : Nat), x]) :=
      okT (by show 2 ≤ sizeLine; decide) (.cons ⟨_, rfl⟩ (.cons ru .nil)) hT2
    have I1 : Inv X pins σ (upd H s.heap.objs.size (frzT [.int i tk, x'] [.int (i : Nat), x])) { s with heap := h'', toks := tk + 1 } :=
      I.turnedNew (ch := [e, it]) (fun b ob hb q => (sb.2 b (fun z => hb (by simp [z]))).trans (hk b ob (fun z => hb (by simp [z])) (fun z => hb (by simp [z])) q)) hf (Nat.le_refl _) new
    refine ⟨.ref s.heap.objs.size, _, I1, rfl, ⟨_, x, rfl, ⟨I.hok.fresh (Nat.le_refl _), _, rfl⟩, fun ys hy => by rw [I.tuple_inj hy hq]; exact hx⟩, ⟨⟨x', ?_⟩, hst'.1.at fun o q => (sb.2 it (Ne.symm hne)).trans q, hne, hea, hai⟩, fun b hb => ?_⟩
    · have e1 : ((i + 1 : Nat) : Int) = (i : Int) + 1 := by omega
      rw [e1]; exact he'
    · have hb' : b < s.heap.objs.size := by
        have e' : b = e ∨ b = it := by simpa using hb
        rcases e' with z | z
        · rw [z]; exact hel
        · rw [z]; exact hil
      rw [upd_ne (Nat.ne_of_lt hb')]
      exact (hf b hb).1
  done := by
    intro X hP hw hK hc i pins s σ H E I hf st hg
    subst hP hw hK
    obtain ⟨⟨old, he⟩, hit, hne, hea, hai⟩ := st
    obtain ⟨xs, hq, hx⟩ := hg
    obtain ⟨its, rv, p, hz⟩ := I.tuple hq
    obtain ⟨f0, f1, f2, f3, f4, f5⟩ := hf it (by simp)
    have hl := rv.length
    have hT : s.TypeIs (.ref e) "enumerate" := ⟨_, he, rfl⟩
    unfold pyNext
    refine wpAny_bind (wpAny_attempt (wpAny_callSpecial?_slot (name := Str.ofString "__next__") hT F.slot_enumerate_next
      (wpAny_call_entry F.slot_enumerate_next hT F.entry_enumerate_next ?_ (F.args_enumerate_next_1 _))))
    show wpAny _ _ (field (.ref e) 2 >>= _) _ _ _
    refine wpAny_bind (wpAny_field he rfl (x := .ref it) rfl ?_)
    refine wpAny_bind (wpAny_nextOf_tuple_end (I.ok.hd hc) hit (show s.heap.IsTuple a its.toArray from p) (by simp; omega) fun h' x eb hx' => ?_)
    obtain ⟨o, ho, hc'⟩ := hx'
    refine wpAny_bind (wpAny_isInstance (T := "StopIteration") (b := true) ⟨o, ho, hc'⟩ isSubtype_stop ?_)
    exact wpAny_pure ⟨rfl, I.turned (t' := s.toks) (fun b o hb q => eb b o hb q) f0 f1 f3 f4 f5⟩
  self := fun A i s Q E st h => let ⟨⟨_, he⟩, _⟩ := st; wpAny_pyIter_enum he h
def iEnumA (K : PySem.W.Frag) (ta : TA) : TI := fun σ H R => ta σ H fun vs H1 => ∃ a xs, vs = [.ref a] ∧ ((SqL K H1 a xs ∧ R (IteL K a) H1) ∨ (SqT K H1 a xs ∧ R (IteT K a) H1))
theorem pi_enumA {X : Cx} {e : Expr} {ta : TA} {p pos tpos : Pos} {elts : List Expr} {kk : Nat} (hg : Gl X "enumerate") (hm : X.mg "enumerate" = none) (ha : PA X [e] ta) (hs : starEach [e] X.env = [(false, eval e X.env)] := by rfl) :
    PI X (.Tuple elts kk tpos) (.Call (.Name "enumerate" p) [e] [] pos) (iEnumA X.K ta) := by
  refine ⟨fun pins s σ H R I h => ?_⟩
  refine Call_ (ld_blt I hg hm boot_enumerate (PyProof.Rows.callWith_type1 (thn (ha.run pos pins s σ H _ I h) fun us s1 ⟨vs, H1, I1, r1, q1⟩ => ?_) hs rfl))
  obtain ⟨a, xs, ex, q⟩ := q1
  subst ex
  cases r1 with
  | cons r rr =>
    cases rr
    cases r
    have fr : ∀ b, b ∈ [s1.heap.objs.size + 1, s1.heap.objs.size] → FpOk X pins H1 b := fun b hb => by
      have e' : b = s1.heap.objs.size + 1 ∨ b = s1.heap.objs.size := by simpa using hb
      have hle : s1.heap.objs.size ≤ b := by
        rcases e' with z | z
        · rw [z]; exact Nat.le_add_right _ _
        · rw [z]; exact Nat.le_refl _
      exact I1.fpOk hle (I1.hok.fresh hle)
    rcases q with ⟨hq, q⟩ | ⟨hq, q⟩
    · obtain ⟨its, rv, p', hz⟩ := I1.list hq
      refine call_enumerate_list p'.isList fun h' he hit hsz hk => wpAny_pyIter_enum he ?_
      have I2 : Inv X pins σ H1 { s1 with heap := h' } := I1.kept (t' := s1.toks) hk
      exact ⟨s1.heap.objs.size + 1, [s1.heap.objs.size + 1, s1.heap.objs.size], _, _, H1, rfl, I2, turn_enumL a (s1.heap.objs.size + 1) s1.heap.objs.size, ⟨⟨.none, he⟩, hit, Nat.succ_ne_self _⟩, fr, q⟩
    · obtain ⟨its, rv, p', hz⟩ := I1.tuple hq
      have pt : s1.heap.IsTuple a its.toArray := p'
      have hal : a < s1.heap.objs.size := by obtain ⟨o, e, _⟩ := pt; exact Heap.lt_size e
      refine enum_begins1 (begins_tuple a its.toArray) pt fun h' he hit hsz hk => wpAny_pyIter_enum he ?_
      have I2 : Inv X pins σ H1 { s1 with heap := h' } := I1.kept (t' := s1.toks) hk
      exact ⟨s1.heap.objs.size + 1, [s1.heap.objs.size + 1, s1.heap.objs.size], _, _, H1, rfl, I2, turn_enumT a (s1.heap.objs.size + 1) s1.heap.objs.size,
        ⟨⟨.none, he⟩, ⟨_, hit, rfl, rfl⟩, Nat.succ_ne_self _, Nat.ne_of_gt (Nat.lt_succ_of_lt hal), Nat.ne_of_lt hal⟩, fr, q⟩
/-! ### zip -/
def ItzL (K : PySem.W.Frag) (a b : Addr) : It :=
  ⟨fun i H => ∃ (xs ys : List V) (x y : V), SqL K H a xs ∧ SqL K H b ys ∧ xs[i]? = some x ∧ ys[i]? = some y,
    fun i H v H' => ∃ T x y, v = .ref T ∧ NewT H H' T [x, y] ∧ (∀ xs, SqL K H a xs → xs[i]? = some x) ∧ ∀ ys, SqL K H b ys → ys[i]? = some y,
    fun i H => ∃ xs ys : List V, SqL K H a xs ∧ SqL K H b ys ∧ (xs.length ≤ i ∨ ys.length ≤ i)⟩
theorem turn_zipL {P : Program} {w : World} {K : PySem.W.Frag} {elts : List Expr} {kk : Nat} {tpos : Pos} {a b z TI TO i1 i2 : Addr} (D : ZipApart z TI TO i1 i2 a b) :
    Turn P w K (.Tuple elts kk tpos) (ItzL K a b) [z, TI, TO, i1, i2] z (fun i h => IsZip h z TI TO .none ∧ IsPair h TI (.ref i1) (.ref i2) ∧ (∃ x y, IsPair h TO x y) ∧ h.IsListIter i1 a i ∧ h.IsListIter i2 b i) where
  mem := by simp
  obj := fun i h st c hc => by
    obtain ⟨hz, hTI, ⟨x, y, hTO⟩, ⟨o1, e1, _, d1⟩, ⟨o2, e2, _, d2⟩⟩ := st
    have e' : c = z ∨ c = TI ∨ c = TO ∨ c = i1 ∨ c = i2 := by simpa using hc
    rcases e' with q | q | q | q | q
    · rw [q]; exact ⟨_, hz, fun v q => nomatch q⟩
    · rw [q]; exact ⟨_, hTI, fun v q => nomatch q⟩
    · rw [q]; exact ⟨_, hTO, fun v q => nomatch q⟩
    · rw [q]; exact ⟨o1, e1, fun v q => by rw [d1] at q; cases q⟩
    · rw [q]; exact ⟨o2, e2, fun v q => by rw [d2] at q; cases q⟩
  keep := fun i h h' st k => by
    obtain ⟨hz, hTI, ⟨x, y, hTO⟩, h1, h2⟩ := st
    exact ⟨k z (by simp) _ hz, k TI (by simp) _ hTI, ⟨x, y, k TO (by simp) _ hTO⟩, h1.at fun o q => k i1 (by simp) o q, h2.at fun o q => k i2 (by simp) o q⟩
  item := by
    intro X hP hw hK hc i pins s σ H E I hf st hg
    subst hP hw hK
    obtain ⟨hz, hTI, ⟨x0, y0, hTO⟩, h1, h2⟩ := st
    obtain ⟨xs, ys, x, y, hqx, hqy, hx, hy⟩ := hg
    obtain ⟨its, rv, p, _⟩ := I.list hqx
    obtain ⟨its2, rv2, p2, _⟩ := I.list hqy
    obtain ⟨u, hu, ru⟩ := rv.get hx
    obtain ⟨u2, hu2, ru2⟩ := rv2.get hy
    have hzl : z < s.heap.objs.size := Heap.lt_size hz
    refine wpAny_pyNext_zip_item D hz hTI hTO h1 h2 p.isList p2.isList (x := u) (y := u2) (by simpa using hu) (by simpa using hu2) fun h' z' TO' h1' h2' hT hsz hk => ?_
    refine ⟨_, rfl, wpAny_letOwnedTupleGo_zip (s := { s with heap := h' }) z' fun h'' z'' sb => ?_⟩
    have hT2 : h''.get? s.heap.objs.size = some { cls := .type "tuple", data := .seq #[u, u2] } := (sb.2 _ (Nat.ne_of_gt hzl)).trans hT
    have new : ObjOk X.prog X.w (upd H s.heap.objs.size (frzT [u, u2] [x, y])) h'' s.heap.objs.size (frzT [u, u2] [x, y]) :=
      okT (by show 2 ≤ sizeLine; decide) (.cons ru (.cons ru2 .nil)) hT2
    have I1 : Inv X pins σ (upd H s.heap.objs.size (frzT [u, u2] [x, y])) { s with heap := h'' } :=
      I.turnedNew (t' := s.toks) (ch := [z, TI, TO, i1, i2]) (fun c o hb q => (sb.2 c (fun q' => hb (by simp [q']))).trans (hk c o (fun q' => hb (by simp [q'])) (fun q' => hb (by simp [q'])) (fun q' => hb (by simp [q'])) (fun q' => hb (by simp [q'])) q)) hf (Nat.le_refl _) new
    refine ⟨.ref s.heap.objs.size, _, I1, rfl, ⟨_, x, y, rfl, ⟨I.hok.fresh (Nat.le_refl _), _, rfl⟩, fun l hl => by rw [I.list_inj hl hqx]; exact hx, fun l hl => by rw [I.list_inj hl hqy]; exact hy⟩, ⟨z'', ?_, ⟨u, u2, ?_⟩, ?_, ?_⟩, fun c hcm => ?_⟩
    · exact (sb.2 _ D.TIz).trans (hk _ _ D.TIz D.TITO D.TIi1 D.TIi2 hTI)
    · exact (sb.2 _ D.TOz).trans TO'
    · exact h1'.at fun o q => (sb.2 _ D.i1z).trans q
    · exact h2'.at fun o q => (sb.2 _ D.i2z).trans q
    · have hlt : c < s.heap.objs.size := by
        have e' : c = z ∨ c = TI ∨ c = TO ∨ c = i1 ∨ c = i2 := by simpa using hcm
        rcases e' with q | q | q | q | q
        · rw [q]; exact hzl
        · rw [q]; exact Heap.lt_size hTI
        · rw [q]; exact Heap.lt_size hTO
        · rw [q]; obtain ⟨_, e1, _⟩ := h1; exact Heap.lt_size e1
        · rw [q]; obtain ⟨_, e2, _⟩ := h2; exact Heap.lt_size e2
      rw [upd_ne (Nat.ne_of_lt hlt)]
      exact (hf c hcm).1
  done := by
    intro X hP hw hK hc i pins s σ H E I hf st hg
    subst hP hw hK
    obtain ⟨hz, hTI, ⟨x0, y0, hTO⟩, h1, h2⟩ := st
    obtain ⟨xs, ys, hqx, hqy, hend⟩ := hg
    obtain ⟨its, rv, p, _⟩ := I.list hqx
    obtain ⟨its2, rv2, p2, _⟩ := I.list hqy
    have l1 := rv.length
    have l2 := rv2.length
    have he : its.toArray[i]? = none ∨ its2.toArray[i]? = none := by
      rcases hend with q | q
      · exact .inl (by simp; omega)
      · exact .inr (by simp; omega)
    exact wpAny_pyNext_zip_end (I.ok.hd hc) D hz hTI hTO h1 h2 p.isList p2.isList he fun h' hk => ⟨rfl, I.turnedL (t' := s.toks) (ch := [z, TI, TO, i1, i2]) (fun c o hb q =>
      hk c o (fun q' => hb (by simp [q'])) (fun q' => hb (by simp [q'])) (fun q' => hb (by simp [q'])) (fun q' => hb (by simp [q'])) q) hf⟩
  self := fun A i s Q E st h => wpAny_pyIter_zip st.1 h
section
open RZ
def ItzT (K : PySem.W.Frag) (a b : Addr) : It :=
  ⟨fun i H => ∃ (xs ys : List V) (x y : V), SqT K H a xs ∧ SqT K H b ys ∧ xs[i]? = some x ∧ ys[i]? = some y,
    fun i H v H' => ∃ T x y, v = .ref T ∧ NewT H H' T [x, y] ∧ (∀ xs, SqT K H a xs → xs[i]? = some x) ∧ ∀ ys, SqT K H b ys → ys[i]? = some y,
    fun i H => ∃ xs ys : List V, SqT K H a xs ∧ SqT K H b ys ∧ (xs.length ≤ i ∨ ys.length ≤ i)⟩
theorem turn_zipT {P : Program} {w : World} {K : PySem.W.Frag} {elts : List Expr} {kk : Nat} {tpos : Pos} {a b z TI TO i1 i2 : Addr} (D : ZipApart z TI TO i1 i2 a b) :
    Turn P w K (.Tuple elts kk tpos) (ItzT K a b) [z, TI, TO, i1, i2] z (fun i h => IsZip h z TI TO .none ∧ IsPair h TI (.ref i1) (.ref i2) ∧ (∃ x y, IsPair h TO x y) ∧ h.IsTupleIter i1 a i ∧ h.IsTupleIter i2 b i) where
  mem := by simp
  obj := fun i h st c hc => by
    obtain ⟨hz, hTI, ⟨x, y, hTO⟩, ⟨o1, e1, _, d1⟩, ⟨o2, e2, _, d2⟩⟩ := st
    have e' : c = z ∨ c = TI ∨ c = TO ∨ c = i1 ∨ c = i2 := by simpa using hc
    rcases e' with q | q | q | q | q
    · rw [q]; exact ⟨_, hz, fun v q => nomatch q⟩
    · rw [q]; exact ⟨_, hTI, fun v q => nomatch q⟩
    · rw [q]; exact ⟨_, hTO, fun v q => nomatch q⟩
    · rw [q]; exact ⟨o1, e1, fun v q => by rw [d1] at q; cases q⟩
    · rw [q]; exact ⟨o2, e2, fun v q => by rw [d2] at q; cases q⟩
  keep := fun i h h' st k => by
    obtain ⟨hz, hTI, ⟨x, y, hTO⟩, h1, h2⟩ := st
    exact ⟨k z (by simp) _ hz, k TI (by simp) _ hTI, ⟨x, y, k TO (by simp) _ hTO⟩, h1.at fun o q => k i1 (by simp) o q, h2.at fun o q => k i2 (by simp) o q⟩
  item := by
    intro X hP hw hK hc i pins s σ H E I hf st hg
    subst hP hw hK
    obtain ⟨hz, hTI, ⟨x0, y0, hTO⟩, h1, h2⟩ := st
    obtain ⟨xs, ys, x, y, hqx, hqy, hx, hy⟩ := hg
    obtain ⟨its, rv, p, _⟩ := I.tuple hqx
    obtain ⟨its2, rv2, p2, _⟩ := I.tuple hqy
    obtain ⟨u, hu, ru⟩ := rv.get hx
    obtain ⟨u2, hu2, ru2⟩ := rv2.get hy
    have hzl : z < s.heap.objs.size := Heap.lt_size hz
    refine pyNext_zipT_item D hz hTI hTO h1 h2 p p2 (x := u) (y := u2) (by simpa using hu) (by simpa using hu2) fun h' z' TO' h1' h2' hT hsz hk => ?_
    refine ⟨_, rfl, wpAny_letOwnedTupleGo_zip (s := { s with heap := h' }) z' fun h'' z'' sb => ?_⟩
    have hT2 : h''.get? s.heap.objs.size = some { cls := .type "tuple", data := .seq #[u, u2] } := (sb.2 _ (Nat.ne_of_gt hzl)).trans hT
    have new : ObjOk X.prog X.w (upd H s.heap.objs.size (frzT [u, u2] [x, y])) h'' s.heap.objs.size (frzT [u, u2] [x, y]) :=
      okT (by show 2 ≤ sizeLine; decide) (.cons ru (.cons ru2 .nil)) hT2
    have I1 : Inv X pins σ (upd H s.heap.objs.size (frzT [u, u2] [x, y])) { s with heap := h'' } :=
      I.turnedNew (t' := s.toks) (ch := [z, TI, TO, i1, i2]) (fun c o hb q => (sb.2 c (fun q' => hb (by simp [q']))).trans (hk c o (fun q' => hb (by simp [q'])) (fun q' => hb (by simp [q'])) (fun q' => hb (by simp [q'])) (fun q' => hb (by simp [q'])) q)) hf (Nat.le_refl _) new
    refine ⟨.ref s.heap.objs.size, _, I1, rfl, ⟨_, x, y, rfl, ⟨I.hok.fresh (Nat.le_refl _), _, rfl⟩, fun l hl => by rw [I.tuple_inj hl hqx]; exact hx, fun l hl => by rw [I.tuple_inj hl hqy]; exact hy⟩, ⟨z'', ?_, ⟨u, u2, ?_⟩, ?_, ?_⟩, fun c hcm => ?_⟩
    · exact (sb.2 _ D.TIz).trans (hk _ _ D.TIz D.TITO D.TIi1 D.TIi2 hTI)
    · exact (sb.2 _ D.TOz).trans TO'
    · exact h1'.at fun o q => (sb.2 _ D.i1z).trans q
    · exact h2'.at fun o q => (sb.2 _ D.i2z).trans q
    · have hlt : c < s.heap.objs.size := by
        have e' : c = z ∨ c = TI ∨ c = TO ∨ c = i1 ∨ c = i2 := by simpa using hcm
        rcases e' with q | q | q | q | q
        · rw [q]; exact hzl
        · rw [q]; exact Heap.lt_size hTI
        · rw [q]; exact Heap.lt_size hTO
        · rw [q]; obtain ⟨_, e1, _⟩ := h1; exact Heap.lt_size e1
        · rw [q]; obtain ⟨_, e2, _⟩ := h2; exact Heap.lt_size e2
      rw [upd_ne (Nat.ne_of_lt hlt)]
      exact (hf c hcm).1
  done := by
    intro X hP hw hK hc i pins s σ H E I hf st hg
    subst hP hw hK
    obtain ⟨hz, hTI, ⟨x0, y0, hTO⟩, h1, h2⟩ := st
    obtain ⟨xs, ys, hqx, hqy, hend⟩ := hg
    obtain ⟨its, rv, p, _⟩ := I.tuple hqx
    obtain ⟨its2, rv2, p2, _⟩ := I.tuple hqy
    have l1 := rv.length
    have l2 := rv2.length
    have he : its.toArray[i]? = none ∨ its2.toArray[i]? = none := by
      rcases hend with q | q
      · exact .inl (by simp; omega)
      · exact .inr (by simp; omega)
    exact pyNext_zipT_end (I.ok.hd hc) D hz hTI hTO h1 h2 p p2 he fun h' hk => ⟨rfl, I.turnedL (t' := s.toks) (ch := [z, TI, TO, i1, i2]) (fun c o hb q =>
      hk c o (fun q' => hb (by simp [q'])) (fun q' => hb (by simp [q'])) (fun q' => hb (by simp [q'])) (fun q' => hb (by simp [q'])) q) hf⟩
  self := fun A i s Q E st h => wpAny_pyIter_zip st.1 h

def iZipA (K : PySem.W.Frag) (ta : TA) : TI := fun σ H R => ta σ H fun vs H1 => ∃ a b xs ys, vs = [.ref a, .ref b] ∧ ((SqL K H1 a xs ∧ SqL K H1 b ys ∧ R (ItzL K a b) H1) ∨ (SqT K H1 a xs ∧ SqT K H1 b ys ∧ R (ItzT K a b) H1))
theorem pi_zipA {X : Cx} {e e2 : Expr} {ta : TA} {p pos tpos : Pos} {elts : List Expr} {kk : Nat} (hg : Gl X "zip") (hm : X.mg "zip" = none) (ha : PA X [e, e2] ta)
    (hs : starEach [e, e2] X.env = (false, eval e X.env) :: starEach [e2] X.env := by rfl) (hpl : (backTo pos (starEach [e2] X.env)).any (·.1) = false := by rfl) :
    PI X (.Tuple elts kk tpos) (.Call (.Name "zip" p) [e, e2] [] pos) (iZipA X.K ta) := by
  refine ⟨fun pins s σ H R I h => ?_⟩
  refine Call_ (ld_blt I hg hm PyProof.Rows.boot_zip (PyProof.Rows.callWith_type1 (thn (ha.run pos pins s σ H _ I h) fun us s1 ⟨vs, H1, I1, r1, q1⟩ => ?_) hs hpl))
  obtain ⟨a, b, xs, ys, ex, q1⟩ := q1
  subst ex
  cases r1 with
  | cons r rr =>
    cases rr with
    | cons r' rr =>
      cases rr
      cases r
      cases r'
      have fresh5 : ∀ c, c ∈ [s1.heap.objs.size + 4, s1.heap.objs.size + 2, s1.heap.objs.size + 3, s1.heap.objs.size, s1.heap.objs.size + 1] → FpOk X pins H1 c := fun c hcm => by
        have e' : c = s1.heap.objs.size + 4 ∨ c = s1.heap.objs.size + 2 ∨ c = s1.heap.objs.size + 3 ∨ c = s1.heap.objs.size ∨ c = s1.heap.objs.size + 1 := by simpa using hcm
        have hle : s1.heap.objs.size ≤ c := by
          rcases e' with z | z | z | z | z
          · rw [z]; exact Nat.le_add_right _ _
          · rw [z]; exact Nat.le_add_right _ _
          · rw [z]; exact Nat.le_add_right _ _
          · rw [z]; exact Nat.le_refl _
          · rw [z]; exact Nat.le_add_right _ _
        exact I1.fpOk hle (I1.hok.fresh hle)
      rcases q1 with ⟨hqx, hqy, q⟩ | ⟨hqx, hqy, q⟩
      · obtain ⟨its, rv, p1, _⟩ := I1.list hqx
        obtain ⟨its2, rv2, p2, _⟩ := I1.list hqy
        refine call_zip_2 p1.isList p2.isList fun h' hz hTI hTO h1 h2 hsz hk => wpAny_pyIter_zip hz ?_
        have I2 : Inv X pins σ H1 { s1 with heap := h' } := I1.kept (t' := s1.toks) hk
        exact ⟨s1.heap.objs.size + 4, [s1.heap.objs.size + 4, s1.heap.objs.size + 2, s1.heap.objs.size + 3, s1.heap.objs.size, s1.heap.objs.size + 1], _, _, H1, rfl, I2, turn_zipL (PySem.W.ktu_apart s1.heap.objs.size a b p1.lt p2.lt), ⟨hz, hTI, ⟨_, _, hTO⟩, h1, h2⟩, fresh5, q⟩
      · obtain ⟨its, rv, p1, _⟩ := I1.tuple hqx
        obtain ⟨its2, rv2, p2, _⟩ := I1.tuple hqy
        obtain ⟨o1, ho1, _⟩ := id p1
        obtain ⟨o2, ho2, _⟩ := id p2
        refine call_zipT (show s1.heap.IsTuple a its.toArray from p1) (show s1.heap.IsTuple b its2.toArray from p2) fun h' hz hTI hTO h1 h2 hsz hk => wpAny_pyIter_zip hz ?_
        have I2 : Inv X pins σ H1 { s1 with heap := h' } := I1.kept (t' := s1.toks) hk
        exact ⟨s1.heap.objs.size + 4, [s1.heap.objs.size + 4, s1.heap.objs.size + 2, s1.heap.objs.size + 3, s1.heap.objs.size, s1.heap.objs.size + 1], _, _, H1, rfl, I2, turn_zipT (PySem.W.ktu_apart s1.heap.objs.size a b (Heap.lt_size ho1) (Heap.lt_size ho2)), ⟨hz, hTI, ⟨_, _, hTO⟩, h1, h2⟩, fresh5, q⟩

end
/-! ### any sequence -/
def iSeq (K : PySem.W.Frag) (tl : TE) : TI := fun σ H R => tl σ H fun x H1 => (∃ a, x = .ref a ∧ (∃ xs, SqL K H1 a xs) ∧ R (Itl K a) H1) ∨ (∃ a, x = .ref a ∧ (∃ xs, SqT K H1 a xs) ∧ R (Itt K a) H1) ∨ ∃ z, x = .str z ∧ R (Its z) H1
theorem pi_seq {X : Cx} {tg : Expr} {l : Expr} {tl : TE} (hc : X.calm = true) (hl : PE X l tl) : PI X tg l (iSeq X.K tl) := by
  refine ⟨fun pins s σ H R I h => ?_⟩
  have key : ∀ (x : V) (v : Value) (s1 : Shared) (H1 : Hp), Inv X pins σ H1 s1 → RelV x v → ((∃ a, x = .ref a ∧ (∃ xs, SqL X.K H1 a xs) ∧ R (Itl X.K a) H1) ∨ (∃ a, x = .ref a ∧ (∃ xs, SqT X.K H1 a xs) ∧ R (Itt X.K a) H1) ∨ ∃ z, x = .str z ∧ R (Its z) H1) →
      wpAny (model X.prog X.w) X.A (pyIter v) (PIE X pins σ tg R) X.xe s1 := by
    intro x v s1 H1 I1 r1 q
    rcases q with ⟨a, e, ⟨xs, hq⟩, q⟩ | ⟨a, e, ⟨xs, hq⟩, q⟩ | ⟨z, e, q⟩
    · subst e
      cases r1
      obtain ⟨its, rv, p, hz⟩ := I1.list hq
      refine wpAny_pyIter_list p.isList ?_
      refine ⟨s1.heap.objs.size, [s1.heap.objs.size], _, _, H1, rfl, I1.kept (t' := s1.toks) fun b o e => Heap.get?_push_of_some _ e, turn_list a _, ⟨_, Heap.get?_push_size _ rfl, rfl, rfl⟩, fun b hb => ?_, q⟩
      have e : b = s1.heap.objs.size := by simpa using hb
      subst e
      exact I1.fpOk (Nat.le_refl _) (I1.hok.fresh (Nat.le_refl _))
    · subst e
      cases r1
      obtain ⟨its, rv, p, hz⟩ := I1.tuple hq
      refine wpAny_pyIter_tuple (show s1.heap.IsTuple a its.toArray from p) ?_
      refine ⟨s1.heap.objs.size, [s1.heap.objs.size], _, _, H1, rfl, I1.kept (t' := s1.toks) fun b o e => Heap.get?_push_of_some _ e, turn_tuple a _, ⟨_, Heap.get?_push_size _ rfl, rfl, rfl⟩, fun b hb => ?_, q⟩
      have e : b = s1.heap.objs.size := by simpa using hb
      subst e
      exact I1.fpOk (Nat.le_refl _) (I1.hok.fresh (Nat.le_refl _))
    · subst e
      obtain ⟨t, rfl⟩ := r1
      cases ha : z.cps.all (· < 128)
      · exact wpAny_pyIter_wide ha (pi_one (tk := s1.toks) I1 _ (turn_str _ z t "str_iterator" (.inr rfl)) ⟨_, Heap.get?_push_size _ rfl, rfl, rfl⟩ q)
      · exact wpAny_pyIter_ascii ha (pi_one (tk := s1.toks) I1 _ (turn_str _ z t "str_ascii_iterator" (.inl rfl)) ⟨_, Heap.get?_push_size _ rfl, rfl, rfl⟩ q)
  exact thn (hl.run pins s σ H _ I h) fun v s1 ⟨x, H1, I1, r1, q1⟩ => key x v s1 H1 I1 r1 q1
end
end DL

end
section
set_option maxRecDepth 100000
set_option maxHeartbeats 2000000
/-! Loops. -/
namespace DL
noncomputable section
open PySem PySem.Spec L2 LamX NdefX
open PyProof.Rows hiding St
section
variable {X : Cx} {G : Gh} {W : WX} {pins : List (Addr × Obj)} {σ : L2.St} {H F : Hp} {s : Shared} {ρ : Env'} {E : Ends}
/-- what J yields from F on -/
def ItD (T : List NTab) (J : It) (F : Hp) (ds : List D) : Prop := ∀ i F1 H1, Ex F F1 → Ex F1 H1 → TabsN T H1 →
  (ds.length ≤ i → J.stop i H1) ∧ ∀ d, ds[i]? = some d → J.go i H1 ∧ ∀ x H2, J.yld i H1 x H2 → ∃ F2, Grow T No F1 H1 F2 H2 ∧ Dat F2 x d
def rdI (X : Cx) (G : Gh) (W : WX) (m : M (List D)) : TI := fun σ H R => ∃ F ρ, Rep X G F H σ ρ ∧ At X G W F H σ ρ (m ρ) fun ds ρ' => ∀ J H' F', Stp X G F H σ ρ F' H' ρ' → ItD G.T J F' ds → R J H'
structure DI (X : Cx) (G : Gh) (W : WX) (tg e : Expr) (m : M (List D)) : Prop where
  pi : PI X tg e (rdI X G W m)
theorem PI.imp {tg e : Expr} {t t' : TI} (h : PI X tg e t) (i : ∀ σ H R, t' σ H R → t σ H R) : PI X tg e t' := ⟨fun pins s σ H Q I q => h.run pins s σ H Q I (i σ H Q q)⟩
def pItems : D → Rs (List D)
  | .list xs => .ok xs
  | .tuple xs => .ok xs
  | .str z => .ok (z.cps.toList.map fun c => .str ⟨#[c]⟩)
  | _ => .bad
theorem itd_list {T : List NTab} {K : PySem.W.Frag} {a : Addr} {vs : List V} {ds : List D} (h : F a = some (.lst vs)) (r : DatAll F vs ds) : ItD T (Itl K a) F ds := by
  intro i F1 H1 e1 e2 hT
  have hq : SqL K H1 a vs := .of (e2 _ _ (e1 _ _ h))
  refine ⟨fun hl => ⟨vs, hq, by rw [r.length]; exact hl⟩, fun d hd => ?_⟩
  obtain ⟨v, hv, dv⟩ := r.get hd
  refine ⟨⟨vs, v, hq, hv⟩, fun x H2 hy => ?_⟩
  obtain ⟨e, hx⟩ := hy
  subst e
  have := hx vs hq
  rw [hv] at this; cases this
  exact ⟨F1, .refl e2 hT, dv.mono e1⟩
theorem itd_tup {T : List NTab} {K : PySem.W.Frag} {a : Addr} {vs : List V} {ds : List D} (h : TupS F a vs) (r : DatAll F vs ds) : ItD T (Itt K a) F ds := by
  intro i F1 H1 e1 e2 hT
  have hq : SqT K H1 a vs := (h.mono e1).sq e2
  refine ⟨fun hl => ⟨vs, hq, by rw [r.length]; exact hl⟩, fun d hd => ?_⟩
  obtain ⟨v, hv, dv⟩ := r.get hd
  refine ⟨⟨vs, v, hq, hv⟩, fun x H2 hy => ?_⟩
  obtain ⟨e, hx⟩ := hy
  subst e
  have := hx vs hq
  rw [hv] at this; cases this
  exact ⟨F1, .refl e2 hT, dv.mono e1⟩
theorem itd_str {T : List NTab} {z : Str} : ItD T (Its z) F (z.cps.toList.map fun c => .str ⟨#[c]⟩) := by
  intro i F1 H1 e1 e2 hT
  refine ⟨fun hl => show z.cps.size ≤ i by simpa using hl, fun d hd => ?_⟩
  rw [List.getElem?_map] at hd
  cases hc : z.cps.toList[i]? with
  | none => rw [hc] at hd; cases hd
  | some c =>
    rw [hc] at hd; cases hd
    have hc' : z.cps[i]? = some c := by simpa using hc
    have hlt : i < z.cps.size := by
      obtain ⟨h, _⟩ := Array.getElem?_eq_some_iff.mp hc'
      exact h
    refine ⟨hlt, fun x H2 hy => ?_⟩
    obtain ⟨e, c', hc2, ex⟩ := hy
    rw [hc'] at hc2; cases hc2
    subst e ex
    exact ⟨F1, .refl e2 hT, .str _⟩
def mItems (m : M D) : M (List D) := m.bind fun d => .lift (pItems d).pure?
theorem DI.seq {tg e : Expr} {m : M D} (hc : X.calm = true) (h : DE X G W e m) : DI X G W tg e (mItems m) :=
  ⟨PI.imp (pi_seq hc h.pe) fun σ H R ⟨F, ρ, Rp, hq⟩ => rd_step (.refl Rp) hq fun d ρ1 v H1 F1 st dv q => by
    obtain ⟨ds, hz, q⟩ := At.prim q
    cases dv with
    | lst h1 r1 => cases hz; exact .inl ⟨_, rfl, ⟨_, .of (st.rep.sub _ _ h1)⟩, q _ H1 F1 st (itd_list h1 r1)⟩
    | tup h1 r1 => cases hz; exact .inr (.inl ⟨_, rfl, ⟨_, h1.sq st.rep.sub⟩, q _ H1 F1 st (itd_tup h1 r1)⟩)
    | str z => cases hz; exact .inr (.inr ⟨z, rfl, q _ H1 F1 st itd_str⟩)
    | _ => cases hz⟩
def rngL (lo : Int) (n : Nat) : List D := (List.range n).map fun (i : Nat) => .int (lo + (i : Int))
theorem itd_rng {T : List NTab} {lo : Int} {n : Nat} : ItD T (Itr lo n) F (rngL lo n) := by
  intro i F1 H1 e1 e2 hT
  unfold rngL
  refine ⟨fun hl => show n ≤ i by simpa using hl, fun d hd => ?_⟩
  rw [List.getElem?_map] at hd
  by_cases hi : i < n
  · rw [List.getElem?_range hi] at hd; cases hd
    refine ⟨hi, fun x H2 hy => ?_⟩
    obtain ⟨e, ex⟩ := hy
    subst e ex
    exact ⟨F1, .refl e2 hT, .int _⟩
  · rw [List.getElem?_eq_none (by simpa using hi)] at hd; cases hd
def pRng1 : List D → Rs (List D)
  | [.int j] => grd (-(2 ^ 62) ≤ j ∧ j < 2 ^ 62) (.ok (rngL 0 j.toNat))
  | _ => .bad
def pRng2 : List D → Rs (List D)
  | [.int i, .int j] => grd (-(2 ^ 62) ≤ i ∧ i < 2 ^ 62 ∧ -(2 ^ 62) ≤ j ∧ j < 2 ^ 62) (.ok (rngL i (j - i).toNat))
  | _ => .bad
def stepL (lo c : Int) (n : Nat) : List D := (List.range n).map fun (i : Nat) => .int (lo + (i : Int) * c)
/-- range(i, j, -1) -/
def pRngD : List D → Rs (List D)
  | [.int i, .int j, .int c] => grd (c = -1 ∧ -(2 ^ 62) ≤ i ∧ i < 2 ^ 62 ∧ -(2 ^ 62) ≤ j ∧ j < 2 ^ 62) (.ok (stepL i (-1) (i - j).toNat))
  | _ => .bad
theorem itd_step {T : List NTab} {lo c : Int} {n : Nat} : ItD T (Itc lo c n) F (stepL lo c n) := by
  intro i F1 H1 e1 e2 hT
  unfold stepL
  refine ⟨fun hl => show n ≤ i by simpa using hl, fun d hd => ?_⟩
  rw [List.getElem?_map] at hd
  by_cases hi : i < n
  · rw [List.getElem?_range hi] at hd; cases hd
    refine ⟨hi, fun x H2 hy => ?_⟩
    obtain ⟨e, ex⟩ := hy
    subst e ex
    exact ⟨F1, .refl e2 hT, .int _⟩
  · rw [List.getElem?_eq_none (by simpa using hi)] at hd; cases hd
theorem da_step {α : Type} {ma : M (List D)} {k : List D → M α} {ρ0 : Env'} {H0 F0 : Hp} {kk : α → Env' → Prop} (R : Stp X G F0 H0 σ ρ0 F H ρ) (hq : At X G W F0 H0 σ ρ0 ((ma.bind k) ρ) kk) {Q : List V → Hp → Prop}
    (next : ∀ ds ρ1 vs H1 F1, Stp X G F H σ ρ F1 H1 ρ1 → DatAll F1 vs ds → At X G W F0 H0 σ ρ0 (k ds ρ1) kk → Q vs H1) : rdA X G W ma σ H Q :=
  ⟨F, ρ, R.rep, At.mono (At.bindM hq) R fun d ρ1 _ q => fun v H1 F1 st dv => next d ρ1 v H1 F1 st dv q⟩
def enumL (ds : List D) : List D := ds.zipIdx.map fun q => .tuple [.int q.2, q.1]
def pEnum : List D → Rs (List D)
  | [.list xs] => .ok (enumL xs)
  | [.tuple xs] => .ok (enumL xs)
  | _ => .bad
def zipL (xs ys : List D) : List D := (xs.zip ys).map fun q => .tuple [q.1, q.2]
def pZip : List D → Rs (List D)
  | [.list xs, .list ys] => .ok (zipL xs ys)
  | [.tuple xs, .tuple ys] => .ok (zipL xs ys)
  | _ => .bad
theorem enumL_get {ds : List D} {i : Nat} {d : D} (h : (enumL ds)[i]? = some d) : ∃ x, ds[i]? = some x ∧ d = .tuple [.int (i : Nat), x] := by
  unfold enumL at h
  rw [List.getElem?_map, List.getElem?_zipIdx] at h
  cases e : ds[i]? with
  | none => rw [e] at h; cases h
  | some x => rw [e] at h; cases h; exact ⟨x, rfl, by simp⟩
theorem enumL_length {ds : List D} : (enumL ds).length = ds.length := by simp [enumL]
theorem zipL_length {xs ys : List D} : (zipL xs ys).length = min xs.length ys.length := by simp [zipL]
theorem zipL_get {xs ys : List D} {i : Nat} {d : D} (h : (zipL xs ys)[i]? = some d) : ∃ x y, xs[i]? = some x ∧ ys[i]? = some y ∧ d = .tuple [x, y] := by
  unfold zipL at h
  rw [List.getElem?_map] at h
  cases e : (xs.zip ys)[i]? with
  | none => rw [e] at h; cases h
  | some q =>
    rw [e] at h; cases h
    rw [List.getElem?_zip_eq_some] at e
    exact ⟨q.1, q.2, e.1, e.2, rfl⟩
theorem pair_grow {T : List NTab} {F1 H1 H2 : Hp} {p : Addr} {v w : V} {d e : D} (e2 : Ex F1 H1) (hT : TabsN T H1) (hn : NewT H1 H2 p [v, w]) (dv : Dat F1 v d) (dw : Dat F1 w e) :
    ∃ F2, Grow T No F1 H1 F2 H2 ∧ Dat F2 (.ref p) (.tuple [d, e]) := by
  obtain ⟨F', g, h3⟩ := hn.grow e2 hT
  exact ⟨_, g, .tup h3 (.cons (dv.mono g.f) (.cons (dw.mono g.f) .nil))⟩
theorem itd_enumL {T : List NTab} {K : PySem.W.Frag} {a : Addr} {vs : List V} {ds : List D} (h : F a = some (.lst vs)) (r : DatAll F vs ds) : ItD T (IteL K a) F (enumL ds) := by
  intro i F1 H1 e1 e2 hT
  have hq : SqL K H1 a vs := .of (e2 _ _ (e1 _ _ h))
  refine ⟨fun hl => ⟨vs, hq, by rw [r.length, ← enumL_length]; exact hl⟩, fun d hd => ?_⟩
  obtain ⟨x, hx, rfl⟩ := enumL_get hd
  obtain ⟨v, hv, dv⟩ := r.get hx
  refine ⟨⟨vs, v, hq, hv⟩, fun y H2 hy => ?_⟩
  obtain ⟨p, v', rfl, hp, hv'⟩ := hy
  have := hv' vs hq
  rw [hv] at this; cases this
  exact pair_grow e2 hT hp (.int _) (dv.mono e1)
theorem itd_enumT {T : List NTab} {K : PySem.W.Frag} {a : Addr} {vs : List V} {ds : List D} (h : TupS F a vs) (r : DatAll F vs ds) : ItD T (IteT K a) F (enumL ds) := by
  intro i F1 H1 e1 e2 hT
  have hq : SqT K H1 a vs := (h.mono e1).sq e2
  refine ⟨fun hl => ⟨vs, hq, by rw [r.length, ← enumL_length]; exact hl⟩, fun d hd => ?_⟩
  obtain ⟨x, hx, rfl⟩ := enumL_get hd
  obtain ⟨v, hv, dv⟩ := r.get hx
  refine ⟨⟨vs, v, hq, hv⟩, fun y H2 hy => ?_⟩
  obtain ⟨p, v', rfl, hp, hv'⟩ := hy
  have := hv' vs hq
  rw [hv] at this; cases this
  exact pair_grow e2 hT hp (.int _) (dv.mono e1)
theorem itd_zipL {T : List NTab} {K : PySem.W.Frag} {a b : Addr} {vs ws : List V} {ds es : List D} (h : F a = some (.lst vs)) (r : DatAll F vs ds) (h2 : F b = some (.lst ws)) (r2 : DatAll F ws es) : ItD T (ItzL K a b) F (zipL ds es) := by
  intro i F1 H1 e1 e2 hT
  have hq : SqL K H1 a vs := .of (e2 _ _ (e1 _ _ h))
  have hq2 : SqL K H1 b ws := .of (e2 _ _ (e1 _ _ h2))
  refine ⟨fun hl => ⟨vs, ws, hq, hq2, by rw [r.length, r2.length]; rw [zipL_length] at hl; omega⟩, fun d hd => ?_⟩
  obtain ⟨x, y, hx, hy, rfl⟩ := zipL_get hd
  obtain ⟨v, hv, dv⟩ := r.get hx
  obtain ⟨w, hw, dw⟩ := r2.get hy
  refine ⟨⟨vs, ws, v, w, hq, hq2, hv, hw⟩, fun z H2 hz => ?_⟩
  obtain ⟨p, v', w', rfl, hp, hv', hw'⟩ := hz
  have := hv' vs hq
  rw [hv] at this; cases this
  have := hw' ws hq2
  rw [hw] at this; cases this
  exact pair_grow e2 hT hp (dv.mono e1) (dw.mono e1)
theorem itd_zipT {T : List NTab} {K : PySem.W.Frag} {a b : Addr} {vs ws : List V} {ds es : List D} (h : TupS F a vs) (r : DatAll F vs ds) (h2 : TupS F b ws) (r2 : DatAll F ws es) : ItD T (ItzT K a b) F (zipL ds es) := by
  intro i F1 H1 e1 e2 hT
  have hq : SqT K H1 a vs := (h.mono e1).sq e2
  have hq2 : SqT K H1 b ws := (h2.mono e1).sq e2
  refine ⟨fun hl => ⟨vs, ws, hq, hq2, by rw [r.length, r2.length]; rw [zipL_length] at hl; omega⟩, fun d hd => ?_⟩
  obtain ⟨x, y, hx, hy, rfl⟩ := zipL_get hd
  obtain ⟨v, hv, dv⟩ := r.get hx
  obtain ⟨w, hw, dw⟩ := r2.get hy
  refine ⟨⟨vs, ws, v, w, hq, hq2, hv, hw⟩, fun z H2 hz => ?_⟩
  obtain ⟨p, v', w', rfl, hp, hv', hw'⟩ := hz
  have := hv' vs hq
  rw [hv] at this; cases this
  have := hw' ws hq2
  rw [hw] at this; cases this
  exact pair_grow e2 hT hp (dv.mono e1) (dw.mono e1)
section
variable {tg a b c e : Expr} {p pos tpos : Pos} {m : M (List D)} {elts : List Expr} {kk : Nat}
theorem DI.range1 (hg : Gl X "range") (hm : X.mg "range" = none) (ha : DA X G W [a] m) (hs : starEach [a] X.env = [(false, eval a X.env)] := by rfl) : DI X G W tg (.Call (.Name "range" p) [a] [] pos) (mCallF pRng1 m) :=
  ⟨PI.imp (pi_range1 hg hm ha.pa hs) fun σ H R ⟨F, ρ, Rp, hq⟩ => da_step (.refl Rp) hq fun ds ρ1 vs H1 F1 st dv q => by
    obtain ⟨zs, hz, q⟩ := At.prim q
    unfold pRng1 at hz
    split at hz
    · obtain ⟨hc, hz⟩ := grd_ok hz
      cases hz
      cases dv with
      | cons d1 d2 =>
        cases d2; cases d1
        exact ⟨_, rfl, hc.1, hc.2, q _ H1 F1 st itd_rng⟩
    · cases hz⟩
theorem DI.range2 (hg : Gl X "range") (hm : X.mg "range" = none) (ha : DA X G W [a, b] m) (hs : starEach [a, b] X.env = [(false, eval a X.env), (false, eval b X.env)] := by rfl) (hs2 : starEach [b] X.env = [(false, eval b X.env)] := by rfl) : DI X G W tg (.Call (.Name "range" p) [a, b] [] pos) (mCallF pRng2 m) :=
  ⟨PI.imp (pi_range2 hg hm ha.pa hs hs2) fun σ H R ⟨F, ρ, Rp, hq⟩ => da_step (.refl Rp) hq fun ds ρ1 vs H1 F1 st dv q => by
    obtain ⟨zs, hz, q⟩ := At.prim q
    unfold pRng2 at hz
    split at hz
    · obtain ⟨hc, hz⟩ := grd_ok hz
      cases hz
      cases dv with
      | cons d1 d2 => cases d2 with
        | cons d2 d3 =>
          cases d3; cases d2; cases d1
          exact ⟨_, _, rfl, hc, q _ H1 F1 st itd_rng⟩
    · cases hz⟩
theorem DI.enum (hg : Gl X "enumerate") (hm : X.mg "enumerate" = none) (ha : DA X G W [e] m) (hs : starEach [e] X.env = [(false, eval e X.env)] := by rfl) : DI X G W (.Tuple elts kk tpos) (.Call (.Name "enumerate" p) [e] [] pos) (mCallF pEnum m) :=
  ⟨PI.imp (pi_enumA hg hm ha.pa hs) fun σ H R ⟨F, ρ, Rp, hq⟩ => da_step (.refl Rp) hq fun ds ρ1 vs H1 F1 st dv q => by
    obtain ⟨zs, hz, q⟩ := At.prim q
    unfold pEnum at hz
    split at hz
    · cases hz
      cases dv with
      | cons d1 d2 =>
        cases d2; cases d1 with
        | lst h1 r1 => exact ⟨_, _, rfl, .inl ⟨.of (st.rep.sub _ _ h1), q _ H1 F1 st (itd_enumL h1 r1)⟩⟩
    · cases hz
      cases dv with
      | cons d1 d2 =>
        cases d2; cases d1 with
        | tup h1 r1 => exact ⟨_, _, rfl, .inr ⟨h1.sq st.rep.sub, q _ H1 F1 st (itd_enumT h1 r1)⟩⟩
    · cases hz⟩
theorem DI.zip {e2 : Expr} (hg : Gl X "zip") (hm : X.mg "zip" = none) (ha : DA X G W [e, e2] m)
    (hs : starEach [e, e2] X.env = (false, eval e X.env) :: starEach [e2] X.env := by rfl) (hpl : (backTo pos (starEach [e2] X.env)).any (·.1) = false := by rfl) : DI X G W (.Tuple elts kk tpos) (.Call (.Name "zip" p) [e, e2] [] pos) (mCallF pZip m) :=
  ⟨PI.imp (pi_zipA hg hm ha.pa hs hpl) fun σ H R ⟨F, ρ, Rp, hq⟩ => da_step (.refl Rp) hq fun ds ρ1 vs H1 F1 st dv q => by
    obtain ⟨zs, hz, q⟩ := At.prim q
    unfold pZip at hz
    split at hz
    · cases hz
      cases dv with
      | cons d1 d2 =>
        cases d2 with
        | cons d2 d3 =>
          cases d3; cases d1 with
          | lst h1 r1 =>
            cases d2 with
            | lst h2 r2 => exact ⟨_, _, _, _, rfl, .inl ⟨.of (st.rep.sub _ _ h1), .of (st.rep.sub _ _ h2), q _ H1 F1 st (itd_zipL h1 r1 h2 r2)⟩⟩
    · cases hz
      cases dv with
      | cons d1 d2 =>
        cases d2 with
        | cons d2 d3 =>
          cases d3; cases d1 with
          | tup h1 r1 =>
            cases d2 with
            | tup h2 r2 => exact ⟨_, _, _, _, rfl, .inr ⟨h1.sq st.rep.sub, h2.sq st.rep.sub, q _ H1 F1 st (itd_zipT h1 r1 h2 r2)⟩⟩
    · cases hz⟩
end
/-! ### for -/
/-- behind a loop's body: k the turns to come -/
def afterB (k : MS) : Rs Fl × Env' → Rs Fl × Env'
  | (.ok .nx, ρ2) => k ρ2
  | (.ok .ct, ρ2) => k ρ2
  | (.ok .bk, ρ2) => (.ok .nx, ρ2)
  | r => r
def forM (g : D → Env' → Option Env') (body : MS) : List D → MS
  | [] => .ret .nx
  | d :: ds => fun ρ => match g d ρ with
    | none => (.bad, ρ)
    | some ρ1 => afterB (forM g body ds) (body ρ1)
def mFor (mi : M (List D)) (g : D → Env' → Option Env') (body : MS) : MS := mi.bind (forM g body)
theorem getElem?_drop_cons {α : Type} {l : List α} {i : Nat} {d : α} (h : l[i]? = some d) : l.drop i = d :: l.drop (i + 1) := by
  obtain ⟨hl, e⟩ := List.getElem?_eq_some_iff.mp h
  rw [List.drop_eq_getElem_cons hl, e]
theorem for_rd {J : It} {js : List Nat} {g : D → Env' → Option Env'} {body : MS} {ds : List D} (R : Rep X G F H σ ρ) (hJ : ItD G.T J F ds) (hq : AtS X G W F E (forM g body ds ρ)) :
    ∃ W' : Nat → Nat → L2.St → Hp → Prop, (∃ m, W' 0 m σ H) ∧ ∀ i m σ H, W' i m σ H →
      (J.stop i H ∧ E.nx σ H) ∨ (J.go i H ∧ ∃ N : L2.St → Hp → Prop, (∀ σ' H', N σ' H' → ∃ m', m' < m ∧ W' (i + 1) m' σ' H') ∧ ∀ x H', J.yld i H x H' → rdG X G js g x σ H' fun σ2 H2 => rdS X G W body { E with nx := N, ct := N, bk := E.nx } σ2 H2) := by
  let P : Nat → L2.St → Hp → Prop := fun i σ H => ∃ F1 ρ1, Ex F F1 ∧ Rep X G F1 H σ ρ1 ∧ AtS X G W F1 E (forM g body (ds.drop i) ρ1)
  refine ⟨fun i m σ H => m = ds.length - i ∧ P i σ H, ⟨_, rfl, F, ρ, .refl F, R, hq⟩, ?_⟩
  rintro i m σ1 H1 ⟨rfl, F1, ρ1, e1, R1, q1⟩
  obtain ⟨j1, j2⟩ := hJ i F1 H1 e1 R1.sub R1.tabs
  cases hd : ds[i]? with
  | none =>
    have hl : ds.length ≤ i := List.getElem?_eq_none_iff.mp hd
    rw [List.drop_eq_nil_of_le hl] at q1
    exact .inl ⟨j1 hl, q1 σ1 H1 F1 (.refl F1) R1⟩
  | some d =>
    obtain ⟨go, yl⟩ := j2 d hd
    rw [getElem?_drop_cons hd] at q1
    have hi : i < ds.length := (List.getElem?_eq_some_iff.mp hd).1
    refine .inr ⟨go, P (i + 1), fun σ' H' h => ⟨ds.length - (i + 1), by omega, rfl, h⟩, fun x H2 hy => ?_⟩
    obtain ⟨F2, g2, dx⟩ := yl x H2 hy
    have R2 := R1.grow g2
    unfold forM at q1
    cases hg : g d ρ1 with
    | none => rw [hg] at q1; exact q1.elim
    | some ρ2 =>
      rw [hg] at q1
      refine ⟨F2, ρ1, d, ρ2, R2, dx, hg, fun σ3 R3 _ _ => ⟨F2, ρ2, R3, ?_⟩⟩
      have e2 : Ex F1 F2 := g2.f
      have q1 : AtS X G W F2 E (afterB (forM g body (ds.drop (i + 1))) (body ρ2)) := AtS.mono e2 q1
      cases hb : body ρ2 with
      | mk r ρ3 =>
        rw [hb] at q1
        have cont : AtS X G W F2 E (forM g body (ds.drop (i + 1)) ρ3) → ∀ σ' H' F', Ex F2 F' → Rep X G F' H' σ' ρ3 → P (i + 1) σ' H' := fun q σ' H' F' e R => ⟨F', ρ3, (e1.trans e2).trans e, R, AtS.mono e q⟩
        cases r with
        | ok f =>
          cases f with
          | nx => exact cont q1
          | ct => exact cont q1
          | bk => exact q1
          | rt d => exact q1
          | rtF xs => exact q1
        | exc c p => exact q1
        | bad => exact q1
theorem DS.for {tg iter : Expr} {body : List Stmt} {pos : Pos} {js : List Nat} {g : D → Env' → Option Env'} {mi : M (List D)} {mb : MS} (hp : PassesOwn (model X.prog X.w) X.A X.env X.xe) (hc : X.calm = true) (hi : DI X G W tg iter mi) (hg : DG X G tg js g) (hb : DSs X G W body mb)
    (hs : ∀ x, foldedSetIterable iter X.env x = pure x := by intro _; rfl) : DS X G W (.For tg iter body [] pos) (mFor mi g mb) :=
  ⟨PS.imp (ps_for hp hc hi.pi hg.pg hb.ps hs) fun E σ H ⟨F, ρ, R, hq⟩ => ⟨F, ρ, R, At.mono hq.at (.refl R) fun ds ρ1 _ q => fun J H1 F1 st hJ => for_rd st.rep hJ (AtS.mono st.f q)⟩⟩
/-! ### while -/
/-- at most n turns -/
def whM (c : M Bool) (body : MS) : Nat → MS
  | 0 => .fail
  | n + 1 => c.bind fun b => if b = true then fun ρ1 => afterB (whM c body n) (body ρ1) else .ret .nx
theorem DS.while {c : Expr} {body : List Stmt} {pos : Pos} {mc : M Bool} {mb : MS} (n : Nat) (hp : PassesOwn (model X.prog X.w) X.A X.env X.xe) (hc : DT X G W c mc) (hb : DSs X G W body mb) : DS X G W (.While c body [] pos) (whM mc mb n) :=
  ⟨PS.imp (ps_while hp hc.pt hb.ps) fun E σ H ⟨F, ρ, R, hq⟩ => by
    refine ⟨fun m σ H => ∃ F1 ρ1, Rep X G F1 H σ ρ1 ∧ AtS X G W F1 E (whM mc mb m ρ1), ⟨n, F, ρ, R, hq⟩, ?_⟩
    rintro m σ1 H1 ⟨F1, ρ1, R1, q1⟩
    cases m with
    | zero => exact q1.elim
    | succ m =>
      unfold whM at q1
      refine rst_step R1 q1 fun b ρ2 H2 F2 st q2 => ?_
      cases b with
      | false => exact q2 σ1 H2 F2 (.refl F2) st.rep
      | true =>
        show ∃ N : L2.St → Hp → Prop, _
        refine ⟨fun σ' H' => ∃ F1 ρ1, Rep X G F1 H' σ' ρ1 ∧ AtS X G W F1 E (whM mc mb m ρ1), fun σ' H' h => ⟨m, Nat.lt_succ_self m, h⟩, F2, ρ2, st.rep, ?_⟩
        have q2 : AtS X G W F2 E (afterB (whM mc mb m) (mb ρ2)) := q2
        cases hb : mb ρ2 with
        | mk r ρ3 =>
          rw [hb] at q2
          cases r with
          | ok f =>
            cases f with
            | nx => exact fun σ' H' F' e R => ⟨F', ρ3, R, AtS.mono e q2⟩
            | ct => exact fun σ' H' F' e R => ⟨F', ρ3, R, AtS.mono e q2⟩
            | bk => exact q2
            | rt d => exact q2
            | rtF xs => exact q2
          | exc c p => exact q2
          | bad => exact q2⟩
end
end
end DL

end
section
set_option maxRecDepth 100000
set_option maxHeartbeats 2000000
/-! Comprehensions. -/
namespace DL
noncomputable section
open PySem PySem.Spec L2 LamX NdefX
open PyProof.Rows hiding St
/-- within a block -/
def Gh.hid (G : Gh) : Gh := { G with nf := true }
abbrev W0 : WX := fun _ _ _ _ => False
section
variable {X Y : Cx} {G : Gh} {W : WX} {pins : List (Addr × Obj)} {σ σ2 : L2.St} {H F H0 F0 : Hp} {s : Shared} {ρ ρ0 ρ1 ρ2 : Env'} {E : Ends}
theorem SlOk.cx (hK : cxk X = cxk Y) {i : Nat} {sl : Slot} (o : SlOk X G.hid F H σ i sl) : SlOk Y G.hid F H σ i sl := by
  cases sl with
  | scr ns =>
    have hK' : X.K = Y.K := congrArg (fun c => c.2.2.1) hK
    unfold SlOk at o ⊢; rw [← hK']; exact o
  | fa g => unfold SlOk at o ⊢; rw [← hK]; exact o
  | fn g => exact absurd o.1 (by simp [Gh.hid])
  | clo js k => exact absurd o.1 (by simp [Gh.hid])
  | ex c f d => exact absurd o.1 (by simp [Gh.hid])
  | emp => trivial
  | dat d => exact o
  | own xs => exact o
  | bor xs => exact o
theorem Rep.cx (hK : cxk X = cxk Y) (R : Rep X G.hid F H σ ρ) : Rep Y G.hid F H σ ρ := ⟨R.gr, R.len, fun i sl h => (R.ok i sl h).cx hK, R.apart⟩
theorem Stp.cx (hK : cxk X = cxk Y) {F' H' : Hp} (a : Stp X G.hid F H σ ρ F' H' ρ1) : Stp Y G.hid F H σ ρ F' H' ρ1 := ⟨a.rep.cx hK, a.gr, a.ow⟩
theorem At.cx {α : Type} (hK : cxk X = cxk Y) (hm : X.mg = Y.mg) {r : Rs α × Env'} {k : α → Env' → Prop} (h : At X G.hid W F H σ ρ r k) : At Y G.hid W F H σ ρ r k := by
  obtain ⟨r, ρ'⟩ := r
  cases r with
  | ok a => exact h
  | exc c p => exact fun cls dd H' F' st x => h cls dd H' F' (st.cx hK.symm) (by rw [hm]; exact x)
  | bad => exact h
theorem At.imp {α : Type} {r : Rs α × Env'} {k k' : α → Env' → Prop} (h : At X G W F H σ ρ r k) (i : ∀ a ρ', k a ρ' → k' a ρ') : At X G W F H σ ρ r k' := by
  obtain ⟨r, ρ'⟩ := r
  cases r with
  | ok a => exact i a ρ' h
  | exc c p => exact h
  | bad => exact h
theorem rdE_cx (hK : cxk X = cxk Y) (hm : X.mg = Y.mg) {m : M D} {Q : VK} (h : rdE X G.hid W m σ H Q) : rdE Y G.hid W m σ H Q := by
  obtain ⟨F, ρ, R, q⟩ := h
  exact ⟨F, ρ, R.cx hK, (q.imp fun a ρ' z v H' F' st dv => z v H' F' (st.cx hK.symm) dv).cx hK hm⟩
theorem rdT_cx (hK : cxk X = cxk Y) (hm : X.mg = Y.mg) {m : M Bool} {Q : Bool → Hp → Prop} (h : rdT X G.hid W m σ H Q) : rdT Y G.hid W m σ H Q := by
  obtain ⟨F, ρ, R, q⟩ := h
  exact ⟨F, ρ, R.cx hK, (q.imp fun a ρ' z H' F' st => z H' F' (st.cx hK.symm)).cx hK hm⟩
theorem rdI_cx (hK : cxk X = cxk Y) (hm : X.mg = Y.mg) {m : M (List D)} {Q : It → Hp → Prop} (h : rdI X G.hid W m σ H Q) : rdI Y G.hid W m σ H Q := by
  obtain ⟨F, ρ, R, q⟩ := h
  exact ⟨F, ρ, R.cx hK, (q.imp fun a ρ' z J H' F' st => z J H' F' (st.cx hK.symm)).cx hK hm⟩
theorem rdG_cx (hK : cxk X = cxk Y) {js : List Nat} {g : D → Env' → Option Env'} {v : V} {Q : L2.St → Hp → Prop} (h : rdG X G.hid js g v σ H Q) : rdG Y G.hid js g v σ H Q := by
  obtain ⟨F, ρ, d, ρ', R, dv, e, q⟩ := h
  exact ⟨F, ρ, d, ρ', R.cx hK, dv, e, fun σ' R' => q σ' (R'.cx hK.symm)⟩
/-! ### into a block, out of it -/
def hideS : Slot → Slot
  | .fn _ => .emp
  | .clo _ _ => .emp
  | .ex _ _ _ => .emp
  | sl => sl
def wipeR (ρ : Env') : List Nat → Env'
  | [] => ρ
  | v :: vs => (wipeR ρ vs).set v .emp
def enterR (vs : List Nat) (ρ : Env') : Env' := wipeR (ρ.map hideS) vs
def leaveS (out inn : Slot) : Slot := match out with
  | .fn g => .fn g
  | .clo js k => .clo js k
  | .ex c f d => .ex c f d
  | _ => inn
def leaveR (vs : List Nat) (ρ ρ1 : Env') : Env' := ρ.mapIdx fun i sl => if i ∈ vs then sl else leaveS sl (ρ1.getD i .emp)
theorem wipeR_length : ∀ vs : List Nat, (wipeR ρ vs).length = ρ.length
  | [] => rfl
  | v :: vs => by unfold wipeR; rw [List.length_set, wipeR_length vs]
theorem wipeR_get : ∀ {vs : List Nat} {i : Nat} {sl : Slot}, (wipeR ρ vs)[i]? = some sl → sl = .emp ∨ (i ∉ vs ∧ ρ[i]? = some sl)
  | [], _, _, h => .inr ⟨by simp, h⟩
  | v :: vs, i, sl, h => by
    unfold wipeR at h
    rcases getset h with ⟨_, e⟩ | ⟨ne, h⟩
    · exact .inl e
    · rcases wipeR_get h with e | ⟨a, b⟩
      · exact .inl e
      · exact .inr ⟨by simp [Ne.symm ne, a], b⟩
theorem wipe_at {vs : List Nat} {i : Nat} (h : i ∉ vs) : (wipe σ vs)[i]? = σ[i]? := wipe_out h
theorem Rep.wipe (R : Rep X G F H σ ρ) (vs : List Nat) : Rep X G F H (L2.wipe σ vs) (wipeR ρ vs) := by
  refine ⟨R.gr, by rw [wipeR_length, wipe_length]; exact R.len, fun i sl h => ?_, fun a b s1 s2 p hab ha hb o1 o2 h1 h2 => ?_⟩
  · rcases wipeR_get h with rfl | ⟨ni, h⟩
    · trivial
    · exact (R.ok i sl h).at (wipe_at ni)
  · rcases wipeR_get ha with rfl | ⟨na, ha⟩
    · cases o1
    · rcases wipeR_get hb with rfl | ⟨nb, hb⟩
      · cases o2
      · rw [wipe_at na] at h1
        rw [wipe_at nb] at h2
        exact R.apart a b s1 s2 p hab ha hb o1 o2 h1 h2
theorem hideS_own {sl : Slot} : (hideS sl).isOwn = sl.isOwn := by cases sl <;> rfl
theorem Rep.hide (R : Rep X G F H σ ρ) : Rep X G.hid F H σ (ρ.map hideS) := by
  refine ⟨R.gr, by rw [List.length_map]; exact R.len, fun i sl h => ?_, fun a b s1 s2 p hab ha hb o1 o2 h1 h2 => ?_⟩
  · rw [List.getElem?_map] at h
    cases e : ρ[i]? with
    | none => rw [e] at h; cases h
    | some s0 =>
      rw [e] at h; cases h
      have o := R.ok i s0 e
      cases s0 with
      | fn g => trivial
      | clo js k => trivial
      | ex c f d => trivial
      | _ => exact o
  · rw [List.getElem?_map] at ha hb
    cases e : ρ[a]? with
    | none => rw [e] at ha; cases ha
    | some t1 =>
      cases e2 : ρ[b]? with
      | none => rw [e2] at hb; cases hb
      | some t2 =>
        rw [e] at ha; cases ha
        rw [e2] at hb; cases hb
        rw [hideS_own] at o1 o2
        exact R.apart a b t1 t2 p hab e e2 o1 o2 h1 h2
theorem Rep.enter (R : Rep X G F H σ ρ) (vs : List Nat) : Rep X G.hid F H (L2.wipe σ vs) (enterR vs ρ) := R.hide.wipe vs
theorem enter_own {vs : List Nat} {p : Addr} (h : OwnA (L2.wipe σ vs) (enterR vs ρ) p) : ∃ j sl, j ∉ vs ∧ ρ[j]? = some sl ∧ sl.isOwn = true ∧ σ[j]? = some (some (.ref p)) := by
  obtain ⟨j, sl, hj, oj, hq⟩ := h
  rcases wipeR_get hj with rfl | ⟨nj, hj⟩
  · cases oj
  · rw [List.getElem?_map] at hj
    cases e : ρ[j]? with
    | none => rw [e] at hj; cases hj
    | some s0 =>
      rw [e] at hj; cases hj
      rw [hideS_own] at oj
      rw [wipe_at nj] at hq
      exact ⟨j, s0, nj, e, oj, hq⟩
theorem leaveR_get {vs : List Nat} {i : Nat} {s' : Slot} (h : (leaveR vs ρ ρ1)[i]? = some s') : ∃ sl, ρ[i]? = some sl ∧ ((i ∈ vs ∧ s' = sl) ∨ (i ∉ vs ∧ s' = leaveS sl (ρ1.getD i .emp))) := by
  unfold leaveR at h
  rw [List.getElem?_mapIdx] at h
  cases e : ρ[i]? with
  | none => rw [e] at h; cases h
  | some sl =>
    rw [e] at h
    have h : (if i ∈ vs then sl else leaveS sl (ρ1.getD i .emp)) = s' := Option.some.inj h
    refine ⟨sl, rfl, ?_⟩
    by_cases hi : i ∈ vs
    · rw [if_pos hi] at h; exact .inl ⟨hi, h.symm⟩
    · rw [if_neg hi] at h; exact .inr ⟨hi, h.symm⟩
/-- a slot behind the block: as it was, or as the block left it -/
theorem leaveR_cases {vs : List Nat} {i : Nat} {s' : Slot} (hl : ρ1.length = ρ.length) (h : (leaveR vs ρ ρ1)[i]? = some s') : (ρ[i]? = some s' ∧ (i ∈ vs ∨ s'.isOwn = false)) ∨ (i ∉ vs ∧ ρ1[i]? = some s') := by
  obtain ⟨sl, e, ⟨hi, rfl⟩ | ⟨hi, h⟩⟩ := leaveR_get h
  · exact .inl ⟨e, .inl hi⟩
  · have hlt : i < ρ1.length := by rw [hl]; exact (List.getElem?_eq_some_iff.mp e).1
    have e1 : ρ1[i]? = some (ρ1.getD i .emp) := by
      rw [List.getD_eq_getElem?_getD, List.getElem?_eq_getElem hlt]; rfl
    cases sl with
    | fn g => exact .inl ⟨by rw [h]; exact e, .inr (by rw [h]; rfl)⟩
    | clo js k => exact .inl ⟨by rw [h]; exact e, .inr (by rw [h]; rfl)⟩
    | ex c f d => exact .inl ⟨by rw [h]; exact e, .inr (by rw [h]; rfl)⟩
    | _ => exact .inr ⟨hi, by rw [h]; exact e1⟩
theorem SlOk.unhid {vs : List Nat} {i : Nat} {sl : Slot} (hi : i ∉ vs) (o : SlOk X G.hid F H (L2.wipe σ vs) i sl) : SlOk X G F H σ i sl := by
  have o' := o.at (σ' := σ) (wipe_at hi).symm
  cases sl with
  | fn g => exact absurd o.1 (by simp [Gh.hid])
  | clo js k => exact absurd o.1 (by simp [Gh.hid])
  | ex c f d => exact absurd o.1 (by simp [Gh.hid])
  | emp => trivial
  | dat d => exact o'
  | own xs => exact o'
  | bor xs => exact o'
  | scr ns => exact o'
  | fa g => exact o'
theorem Rep.leave {vs : List Nat} (R : Rep X G F0 H0 σ ρ) (st : Stp X G.hid F0 H0 (L2.wipe σ vs) (enterR vs ρ) F H ρ1) : Stp X G F0 H0 σ ρ F H (leaveR vs ρ ρ1) := by
  have hl : ρ1.length = ρ.length := by rw [st.rep.len, wipe_length, R.len]
  have inn : ∀ {j : Nat} {sl : Slot} {p : Addr}, j ∉ vs → ρ1[j]? = some sl → sl.isOwn = true → σ[j]? = some (some (.ref p)) → ∃ k s', k ∉ vs ∧ ρ[k]? = some s' ∧ s'.isOwn = true ∧ σ[k]? = some (some (.ref p)) := fun {j sl p} nj hj oj hσ =>
    enter_own (st.ow p ⟨j, sl, hj, oj, by rw [wipe_at nj]; exact hσ⟩)
  refine ⟨⟨st.rep.gr, ?_, fun i sl h => ?_, fun a b s1 s2 p hab ha hb o1 o2 h1 h2 => ?_⟩, st.gr.more fun p h => ?_, fun p ⟨j, sl, hj, oj, hq⟩ => ?_⟩
  · unfold leaveR; rw [List.length_mapIdx]; exact R.len
  · rcases leaveR_cases hl h with ⟨e, hv⟩ | ⟨ni, e⟩
    · refine (R.ok i sl e).grow st.gr fun p ho hσ hB => ?_
      obtain ⟨j, s', nj, hj, oj, hq⟩ := enter_own hB
      rcases hv with hv | hv
      · exact R.apart i j sl s' p (fun z => nj (z ▸ hv)) e hj ho oj hσ hq
      · rw [hv] at ho; cases ho
    · exact (st.rep.ok i sl e).unhid ni
  · rcases leaveR_cases hl ha with ⟨e1, v1⟩ | ⟨n1, e1⟩
    · have v1 : a ∈ vs := v1.elim id fun z => by rw [z] at o1; cases o1
      rcases leaveR_cases hl hb with ⟨e2, v2⟩ | ⟨n2, e2⟩
      · exact R.apart a b s1 s2 p hab e1 e2 o1 o2 h1 h2
      · obtain ⟨k, s', nk, hk, ok, hq⟩ := inn n2 e2 o2 h2
        exact R.apart a k s1 s' p (fun z => nk (z ▸ v1)) e1 hk o1 ok h1 hq
    · rcases leaveR_cases hl hb with ⟨e2, v2⟩ | ⟨n2, e2⟩
      · have v2 : b ∈ vs := v2.elim id fun z => by rw [z] at o2; cases o2
        obtain ⟨k, s', nk, hk, ok, hq⟩ := inn n1 e1 o1 h1
        exact R.apart b k s2 s' p (fun z => nk (z ▸ v2)) e2 hk o2 ok h2 hq
      · exact st.rep.apart a b s1 s2 p hab e1 e2 o1 o2 (by rw [wipe_at n1]; exact h1) (by rw [wipe_at n2]; exact h2)
  · obtain ⟨j, s', nj, hj, oj, hq⟩ := enter_own h
    exact ⟨j, s', hj, oj, hq⟩
  · rcases leaveR_cases hl hj with ⟨e, _⟩ | ⟨n, e⟩
    · exact ⟨j, sl, e, oj, hq⟩
    · obtain ⟨k, s', nk, hk, ok, hq⟩ := inn n e oj hq
      exact ⟨k, s', hk, ok, hq⟩
/-! ### a list that lies apart is written -/
theorem Rep.bump {p : Addr} {vs ws : List V} (R : Rep X G F H σ ρ) (hp : H p = some (.lst vs)) (hF : F p = none) (h0 : G.H0 p = none) (no : ¬ OwnA σ ρ p) : Rep X G F (upd H p (.lst ws)) σ ρ := by
  have eF : Ex F (upd H p (.lst ws)) := fun a o q => by
    have ne : a ≠ p := by rintro rfl; rw [hF] at q; cases q
    rw [upd_ne ne]; exact R.sub a o q
  refine ⟨⟨R.gr.f, eF, R.gr.nf, fun a o q nb nt => ?_, fun a q => R.gr.there a (upd_back q), DL.TabsN.lst R.tabs hp, R.gr.nt⟩, R.len, fun j sl hj => ?_, R.apart⟩
  · have ne : a ≠ p := by rintro rfl; rw [h0] at q; cases q
    rw [upd_ne ne]; exact R.gr.old a o q nb nt
  · have o := R.ok j sl hj
    cases sl with
    | own zs =>
      obtain ⟨q, us, e, h, n, a, c⟩ := o
      have : q ≠ p := by rintro rfl; exact no ⟨j, _, hj, rfl, e⟩
      exact ⟨q, us, e, by rw [upd_ne this]; exact h, n, a, c⟩
    | bor zs =>
      obtain ⟨q, us, e, h, n, a, c⟩ := o
      have : q ≠ p := by rintro rfl; exact no ⟨j, _, hj, rfl, e⟩
      exact ⟨q, us, e, by rw [upd_ne this]; exact h, n, a, c⟩
    | _ => exact o
theorem Stp.bump {p : Addr} {vs ws : List V} (R : Rep X G F0 H0 σ ρ0) (st : Stp X G F0 H0 σ ρ0 F H ρ1) (hn : H0 p = none) (hp : H p = some (.lst vs)) (hF : F p = none) : Stp X G F0 H0 σ ρ0 F (upd H p (.lst ws)) ρ1 := by
  have no := st.noFresh R hn
  have eF : Ex F (upd H p (.lst ws)) := fun a o q => by
    have ne : a ≠ p := by rintro rfl; rw [hF] at q; cases q
    rw [upd_ne ne]; exact st.rep.sub a o q
  refine ⟨st.rep.bump hp hF (R.gr.there p hn) no, ⟨st.gr.f, eF, st.gr.nf, fun a o q nb nt => ?_, fun a q => st.gr.there a (upd_back q), DL.TabsN.lst st.gr.tabs hp, st.gr.nt⟩, st.ow⟩
  have ne : a ≠ p := by rintro rfl; rw [hn] at q; cases q
  rw [upd_ne ne]; exact st.gr.old a o q nb nt
theorem Stp.keepL {p : Addr} {vs : List V} {F' H' : Hp} (R : Rep X G F0 H0 σ ρ0) (a : Stp X G F0 H0 σ ρ0 F H ρ1) (st : Stp X G F H σ ρ1 F' H' ρ2) (hn : H0 p = none) (hp : H p = some (.lst vs)) (hF : F p = none) : H' p = some (.lst vs) ∧ F' p = none := by
  have no := a.noFresh R hn
  refine ⟨st.gr.old p _ hp no (by intro ps z; cases z), ?_⟩
  rcases st.gr.nf p hF with z | z | z
  · exact z
  · exact absurd hp (z _)
  · exact absurd z no
/-! ### the loop -/
theorem M.bind_ok {α β : Type} {m : M α} {f : α → M β} {b : β} {ρ' : Env'} (h : (m.bind f) ρ = (.ok b, ρ')) : ∃ a ρ1, m ρ = (.ok a, ρ1) ∧ f a ρ1 = (.ok b, ρ') := by
  unfold M.bind at h
  cases hm : m ρ with
  | mk r ρ1 =>
    rw [hm] at h
    cases r with
    | ok a => exact ⟨a, ρ1, rfl, h⟩
    | exc c p => cases h
    | bad => cases h
theorem M.lift_ok {α : Type} {r : Rs α} {b : α} {ρ' : Env'} (h : (M.lift r) ρ = (.ok b, ρ')) : r = .ok b ∧ ρ' = ρ := by
  unfold M.lift at h
  exact ⟨congrArg Prod.fst h, (congrArg Prod.snd h).symm⟩
theorem grdM_ok {c : Prop} [Decidable c] {u : Unit} {ρ' : Env'} (h : (M.lift (grd c (.ok ()))) ρ = (.ok u, ρ')) : c ∧ ρ' = ρ := by
  obtain ⟨a, b⟩ := M.lift_ok h
  exact ⟨(grd_ok a).1, b⟩
def wipeM (vs : List Nat) : M Unit := fun ρ => (.ok (), wipeR ρ vs)
/-- a loop whose turns each make the list longer -/
def lpB (vs : List Nat) (g : D → Env' → Option Env') (B : List D → M (List D)) : List D → List D → M (List D)
  | [], acc => .ret acc
  | d :: ds, acc => fun ρ => match g d ρ with
    | none => (.bad, ρ)
    | some ρ1 => ((B acc).bind fun a => (wipeM vs).bind fun _ => lpB vs g B ds a) ρ1
def bOne (mt : M Bool) (me : M D) (acc : List D) : M (List D) := mt.bind fun b => if b = true then me.bind fun y => (M.lift (grd (acc.length < 16777216) (.ok ()))).bind fun _ => .ret (acc ++ [y]) else .ret acc
def bTwo (mt : M Bool) (mi : M (List D)) (vs1 : List Nat) (g1 : D → Env' → Option Env') (mt1 : M Bool) (me : M D) (acc : List D) : M (List D) := mt.bind fun b => if b = true then mi.bind fun es => (wipeM vs1).bind fun _ => lpB vs1 g1 (bOne mt1 me) es acc else .ret acc
def runB (vs : List Nat) (m : M (List D)) : M (List D) := fun ρ => match m (enterR vs ρ) with
  | (.ok acc, ρ1) => (.ok acc, leaveR vs ρ ρ1)
  | _ => (.bad, ρ)
def mLc (mi : M (List D)) (vs : List Nat) (g : D → Env' → Option Env') (mt : M Bool) (me : M D) : M (List D) := mi.bind fun ds => runB vs (lpB vs g (bOne mt me) ds [])
def mLc2 (mi : M (List D)) (vs : List Nat) (g : D → Env' → Option Env') (mt : M Bool) (mi1 : M (List D)) (vs1 : List Nat) (g1 : D → Env' → Option Env') (mt1 : M Bool) (me : M D) : M (List D) := mi.bind fun ds => runB vs (lpB vs g (bTwo mt mi1 vs1 g1 mt1 me) ds [])
theorem At.okE {α : Type} {r : Rs α × Env'} {k : α → Env' → Prop} {a : α} {ρ' : Env'} (e : r = (.ok a, ρ')) (h : k a ρ') : At X G W F H σ ρ r k := by subst e; exact h
theorem wiped_at {τ : L2.St} {vs : List Nat} {i : Nat} (hi : i ∈ vs) (ht : i < τ.length) : (L2.wipe τ vs)[i]? = some none := by
  cases e : (L2.wipe τ vs)[i]? with
  | none => rw [List.getElem?_eq_none_iff, wipe_length] at e; omega
  | some o =>
    cases o with
    | none => rfl
    | some x => exact absurd hi (wipe_some e).2
theorem wipe_eq {js vs : List Nat} {σw : L2.St} (hjs : ∀ j ∈ js, j ∈ vs) (ha : ∀ j, j ∉ js → σ2[j]? = σw[j]?) (hl : σ2.length = σw.length) : L2.wipe σ2 vs = L2.wipe σw vs := by
  apply List.ext_getElem?
  intro i
  by_cases hi : i ∈ vs
  · by_cases h2 : i < σw.length
    · rw [wiped_at hi (hl ▸ h2), wiped_at hi h2]
    · rw [List.getElem?_eq_none (by rw [wipe_length]; omega), List.getElem?_eq_none (by rw [wipe_length]; omega)]
  · rw [wipe_at hi, wipe_at hi, ha i (fun z => hi (hjs i z))]
theorem wipe_wipe (σ : L2.St) (vs : List Nat) : L2.wipe (L2.wipe σ vs) vs = L2.wipe σ vs :=
  wipe_eq (js := vs) (fun _ h => h) (fun j hj => wipe_at hj) (wipe_length ..)
theorem wipe_sub (σ : L2.St) {vs vs1 : List Nat} (h : ∀ i ∈ vs1, i ∈ vs) : L2.wipe (L2.wipe σ vs1) vs = L2.wipe σ vs :=
  wipe_eq (js := vs1) h (fun j hj => wipe_at hj) (wipe_length ..)
/-- from one state of a body to a later one (whose names may be others'), the list at p written -/
structure StpP (X : Cx) (G : Gh) (p : Addr) (F H : Hp) (σ : L2.St) (ρ : Env') (F' H' : Hp) (σ' : L2.St) (ρ' : Env') : Prop where
  rep : Rep X G F' H' σ' ρ'
  gr : Grow G.T (fun x => OwnA σ ρ x ∨ x = p) F H F' H'
  ow : ∀ q, OwnA σ' ρ' q → OwnA σ ρ q
theorem Stp.p {F' H' : Hp} {p : Addr} (a : Stp X G F H σ ρ F' H' ρ1) : StpP X G p F H σ ρ F' H' σ ρ1 := ⟨a.rep, a.gr.more fun _ h => .inl h, a.ow⟩
theorem StpP.trans {σ3 : L2.St} {p : Addr} {F1 H1 F2 H2 : Hp} {ρ3 : Env'} (a : StpP X G p F H σ ρ F1 H1 σ2 ρ2) (b : StpP X G p F1 H1 σ2 ρ2 F2 H2 σ3 ρ3) : StpP X G p F H σ ρ F2 H2 σ3 ρ3 :=
  ⟨b.rep, a.gr.trans (b.gr.more fun x h => h.imp (a.ow x) id), fun q h => a.ow q (b.ow q h)⟩
theorem StpP.wipe {p : Addr} {F1 H1 : Hp} (a : StpP X G p F H σ ρ F1 H1 σ2 ρ2) (vs : List Nat) : StpP X G p F H σ ρ F1 H1 (L2.wipe σ2 vs) (wipeR ρ2 vs) :=
  ⟨a.rep.wipe vs, a.gr, fun q ⟨j, sl, hj, oj, hq⟩ => by
    rcases wipeR_get hj with rfl | ⟨nj, hj⟩
    · cases oj
    · exact a.ow q ⟨j, sl, hj, oj, by rw [← wipe_at (σ := σ2) nj]; exact hq⟩⟩
/-- the list at p, apart from what is told -/
structure Away (X : Cx) (G : Gh) (p : Addr) (F H : Hp) (σ : L2.St) (ρ : Env') (a : List D) : Prop where
  at' : ∃ ws, H p = some (.lst ws) ∧ DatAll F ws a
  nf : F p = none
  no : ¬ OwnA σ ρ p
  h0 : G.H0 p = none
theorem Away.stp {p : Addr} {F' H' : Hp} {a : List D} (w : Away X G p F H σ ρ a) (st : Stp X G F H σ ρ F' H' ρ1) : Away X G p F' H' σ ρ1 a := by
  obtain ⟨ws, hp, da⟩ := w.at'
  refine ⟨⟨ws, st.gr.old p _ hp w.no (by intro ps z; cases z), da.mono st.f⟩, ?_, fun h => w.no (st.ow p h), w.h0⟩
  rcases st.gr.nf p w.nf with z | z | z
  · exact z
  · exact absurd hp (z _)
  · exact absurd z w.no
/-- it is written -/
theorem Away.put {p : Addr} {a : List D} {ws : List V} {v : V} {d : D} (R : Rep X G F H σ ρ) (w : Away X G p F H σ ρ a) (hp : H p = some (.lst ws)) (dv : Dat F v d) (da : DatAll F ws a) :
    StpP X G p F H σ ρ F (upd H p (.lst (ws ++ [v]))) σ ρ ∧ Away X G p F (upd H p (.lst (ws ++ [v]))) σ ρ (a ++ [d]) := by
  have eF : Ex F (upd H p (.lst (ws ++ [v]))) := fun b o q => by
    have ne : b ≠ p := by rintro rfl; rw [w.nf] at q; cases q
    rw [upd_ne ne]; exact R.sub b o q
  refine ⟨⟨R.bump hp w.nf w.h0 w.no, ⟨.refl F, eF, fun _ q => .inl q, fun b o q nb _ => ?_, fun _ q => upd_back q, DL.TabsN.lst R.tabs hp, fun _ _ q => q⟩, fun _ h => h⟩, ⟨⟨_, upd_same, da.append (.cons dv .nil)⟩, w.nf, w.no, w.h0⟩⟩
  have ne : b ≠ p := fun z => nb (.inr z)
  rw [upd_ne ne]; exact q
/-- what a turn's body is to do -/
def BodyOk (X : Cx) (G : Gh) (p : Addr) (vs : List Nat) (B : List D → M (List D)) (rb : L2.St → Hp → (Hp → Prop) → Prop) : Prop :=
  ∀ (σ2 : L2.St) (F2 H2 : Hp) (ρ2 ρ3 : Env') (a a' : List D) (Nx : Hp → Prop), Rep X G F2 H2 σ2 ρ2 → Away X G p F2 H2 σ2 ρ2 a → B a ρ2 = (.ok a', ρ3) →
    (∀ F3 H3, StpP X G p F2 H2 σ2 ρ2 F3 H3 (L2.wipe σ2 vs) (wipeR ρ3 vs) → Away X G p F3 H3 (L2.wipe σ2 vs) (wipeR ρ3 vs) a' → Nx H3) → rb σ2 H2 Nx
theorem lp_rd {J : It} {js vs : List Nat} {g : D → Env' → Option Env'} {B : List D → M (List D)} {rb : L2.St → Hp → (Hp → Prop) → Prop} {ds a0 acc : List D} {ρf : Env'} {Qd : Hp → Prop} {σ : L2.St} {p : Addr}
    (R : Rep X G F0 H0 σ ρ0) (hσ : L2.wipe σ vs = σ) (hJ : ItD G.T J F0 ds) (ok : GOk js g) (hjs : ∀ j ∈ js, j ∈ vs) (hB : BodyOk X G p vs B rb) (hq : lpB vs g B ds a0 ρ0 = (.ok acc, ρf)) (w0 : Away X G p F0 H0 σ ρ0 a0)
    (fin : ∀ H F, StpP X G p F0 H0 σ ρ0 F H σ ρf → Away X G p F H σ ρf acc → Qd H) :
    ∃ W' : Nat → Nat → Hp → Prop, (∃ m, W' 0 m H0) ∧ ∀ i m H, W' i m H →
      (J.stop i H ∧ Qd H) ∨ (J.go i H ∧ ∃ Nx : Hp → Prop, (∀ H', Nx H' → ∃ m', m' < m ∧ W' (i + 1) m' H') ∧ ∀ x H', J.yld i H x H' → rdG X G js g x σ H' fun σ2 H2 => L2.wipe σ2 vs = σ ∧ rb σ2 H2 Nx) := by
  let P : Nat → Hp → Prop := fun i H => ∃ F1 ρ1 a, StpP X G p F0 H0 σ ρ0 F1 H σ ρ1 ∧ Away X G p F1 H σ ρ1 a ∧ lpB vs g B (ds.drop i) a ρ1 = (.ok acc, ρf)
  refine ⟨fun i m H => m = ds.length - i ∧ P i H, ⟨_, rfl, F0, ρ0, a0, (Stp.refl R).p, w0, hq⟩, ?_⟩
  rintro i m H1 ⟨rfl, F1, ρ1, a, st, w1, e1⟩
  obtain ⟨j1, j2⟩ := hJ i F1 H1 st.gr.f st.rep.sub st.rep.tabs
  cases hd : ds[i]? with
  | none =>
    have hl : ds.length ≤ i := List.getElem?_eq_none_iff.mp hd
    rw [List.drop_eq_nil_of_le hl] at e1
    have e1 : (Rs.ok a, ρ1) = (Rs.ok acc, ρf) := e1
    cases e1
    exact .inl ⟨j1 hl, fin H1 F1 st w1⟩
  | some d =>
    obtain ⟨go, yl⟩ := j2 d hd
    rw [getElem?_drop_cons hd] at e1
    have hi : i < ds.length := (List.getElem?_eq_some_iff.mp hd).1
    refine .inr ⟨go, P (i + 1), fun H' h => ⟨ds.length - (i + 1), by omega, rfl, h⟩, fun x H2 hy => ?_⟩
    obtain ⟨F2, g2, dx⟩ := yl x H2 hy
    have s2 := (Stp.refl st.rep).grow g2
    have st2 := st.trans s2.p
    have w2 := w1.stp s2
    unfold lpB at e1
    cases hg : g d ρ1 with
    | none => rw [hg] at e1; cases e1
    | some ρ2 =>
      rw [hg] at e1
      refine ⟨F2, ρ1, d, ρ2, st2.rep, dx, hg, fun σ2 R2 ha hl => ?_⟩
      have hw : L2.wipe σ2 vs = σ := by rw [wipe_eq hjs ha hl, hσ]
      refine ⟨hw, ?_⟩
      have back : ∀ q, OwnA σ2 ρ2 q → OwnA σ ρ1 q := fun q ⟨j, sl, hj, oj, hq⟩ => by
        rcases ok d ρ1 ρ2 hg j sl hj with ⟨nj, e⟩ | z
        · exact ⟨j, sl, e, oj, by rw [← ha j nj]; exact hq⟩
        · rw [z] at oj; cases oj
      obtain ⟨a', ρ3, eb, e2⟩ := M.bind_ok e1
      have e3 : lpB vs g B (ds.drop (i + 1)) a' (wipeR ρ3 vs) = (.ok acc, ρf) := e2
      refine hB σ2 F2 H2 ρ2 ρ3 a a' _ R2 ⟨w2.at', w2.nf, fun h => w2.no (back p h), w2.h0⟩ eb fun F3 H3 st3 w3 => ?_
      rw [hw] at st3 w3
      have j2 : StpP X G p F2 H2 σ ρ1 F2 H2 σ2 ρ2 := ⟨R2, Grow.more (B := No) (.refl R2.sub R2.tabs) fun _ z => z.elim, back⟩
      exact ⟨F3, _, a', st2.trans (j2.trans st3), w3, e3⟩
theorem body_one {p : Addr} {vs : List Nat} {mt : M Bool} {me : M D} : BodyOk X G p vs (bOne mt me) fun σ2 H2 Nx => rdT X G W0 mt σ2 H2 fun b H3 => if b = true then rdE X G W0 me σ2 H3 fun y H4 => ∃ acc, H4 p = some (.lst acc) ∧ acc.length < sizeLine ∧ Nx (upd H4 p (.lst (acc ++ [y]))) else Nx H3 := by
  intro σ2 F2 H2 ρ2 ρ3 a a' Nx R w e next
  obtain ⟨b, ρ4, eb, e2⟩ := M.bind_ok e
  refine ⟨F2, ρ2, R, At.okE eb fun H3 F3 st3 => ?_⟩
  have w3 := w.stp st3
  cases b with
  | false =>
    have e2 : (Rs.ok a, ρ4) = (Rs.ok a', ρ3) := e2
    cases e2
    refine next F3 H3 (st3.p.wipe vs) ⟨w3.at', w3.nf, fun h => w.no ((st3.p.wipe (p := p) vs).ow p h), w3.h0⟩
  | true =>
    show rdE X G W0 me σ2 H3 _
    have e2 : (me.bind fun y => (M.lift (grd (a.length < 16777216) (.ok ()))).bind fun _ => .ret (a ++ [y])) ρ4 = (.ok a', ρ3) := e2
    obtain ⟨y, ρ5, ey, e3⟩ := M.bind_ok e2
    obtain ⟨_, ρ6, eg, e4⟩ := M.bind_ok e3
    obtain ⟨hlen, rfl⟩ := grdM_ok eg
    have e4 : (Rs.ok (a ++ [y]), ρ6) = (Rs.ok a', ρ3) := e4
    cases e4
    refine ⟨F3, ρ4, st3.rep, At.okE ey fun v H4 F4 st4 dv => ?_⟩
    have w4 := w3.stp st4
    obtain ⟨ws, hp, da⟩ := w4.at'
    obtain ⟨p1, p2⟩ := w4.put st4.rep hp dv da
    have st5 := ((st3.trans st4).p (p := p)).trans p1
    refine ⟨ws, hp, by rw [da.length, sizeLine_eq]; exact hlen, next F4 _ (st5.wipe vs) ⟨p2.at', p2.nf, fun h => w.no ((st5.wipe vs).ow p h), p2.h0⟩⟩
theorem body_two {p : Addr} {vs vs1 js1 : List Nat} {mt mt1 : M Bool} {mi : M (List D)} {g1 : D → Env' → Option Env'} {me : M D} (ok1 : GOk js1 g1) (hj1 : ∀ j ∈ js1, j ∈ vs1) (hv : ∀ i ∈ vs1, i ∈ vs) :
    BodyOk X G p vs (bTwo mt mi vs1 g1 mt1 me) fun σ2 H2 Nx => rdT X G W0 mt σ2 H2 fun b H3 => if b = true then rdI X G W0 mi σ2 H3 fun J1 H4 => ∃ W1 : Nat → Nat → Hp → Prop, (∃ m, W1 0 m H4) ∧ ∀ j k H, W1 j k H →
      (J1.stop j H ∧ Nx H) ∨ (J1.go j H ∧ ∃ Nx1 : Hp → Prop, (∀ H', Nx1 H' → ∃ k', k' < k ∧ W1 (j + 1) k' H') ∧ ∀ x H', J1.yld j H x H' → rdG X G js1 g1 x (L2.wipe σ2 vs1) H' fun σ3 H5 => L2.wipe σ3 vs1 = L2.wipe σ2 vs1 ∧ rdT X G W0 mt1 σ3 H5 fun b H6 =>
        if b = true then rdE X G W0 me σ3 H6 fun y H7 => ∃ acc, H7 p = some (.lst acc) ∧ acc.length < sizeLine ∧ Nx1 (upd H7 p (.lst (acc ++ [y]))) else Nx1 H6) else Nx H3 := by
  intro σ2 F2 H2 ρ2 ρ3 a a' Nx R w e next
  obtain ⟨b, ρ4, eb, e2⟩ := M.bind_ok e
  refine ⟨F2, ρ2, R, At.okE eb fun H3 F3 st3 => ?_⟩
  have w3 := w.stp st3
  cases b with
  | false =>
    have e2 : (Rs.ok a, ρ4) = (Rs.ok a', ρ3) := e2
    cases e2
    refine next F3 H3 (st3.p.wipe vs) ⟨w3.at', w3.nf, fun h => w.no ((st3.p.wipe (p := p) vs).ow p h), w3.h0⟩
  | true =>
    show rdI X G W0 mi σ2 H3 _
    have e2 : (mi.bind fun es => (wipeM vs1).bind fun _ => lpB vs1 g1 (bOne mt1 me) es a) ρ4 = (.ok a', ρ3) := e2
    obtain ⟨es, ρ5, ey, e3⟩ := M.bind_ok e2
    have e4 : lpB vs1 g1 (bOne mt1 me) es a (wipeR ρ5 vs1) = (.ok a', ρ3) := e3
    refine ⟨F3, ρ4, st3.rep, At.okE ey fun J H4 F4 st4 hJ => ?_⟩
    have w4 := w3.stp st4
    have st5 := ((st3.trans st4).p (p := p)).wipe vs1
    refine lp_rd (σ := L2.wipe σ2 vs1) (Qd := Nx) st5.rep (wipe_wipe σ2 vs1) hJ ok1 hj1 body_one e4 ⟨w4.at', w4.nf, fun h => w.no (st5.ow p h), w4.h0⟩ fun H6 F6 st6 w6 => ?_
    have st7 := (st5.trans st6).wipe vs
    rw [wipe_sub σ2 hv] at st7
    exact next F6 H6 st7 ⟨w6.at', w6.nf, fun h => w.no (st7.ow p h), w6.h0⟩
/-! ### the rule -/
structure DTs (X : Cx) (G : Gh) (W : WX) (ifs : List Expr) (m : M Bool) : Prop where
  pt : PTs X ifs (rdT X G W m)
theorem PTs.imp {e : List Expr} {t t' : TT} (h : PTs X e t) (i : ∀ σ H Q, t' σ H Q → t σ H Q) : PTs X e t' := ⟨fun pins s σ H Q I q => h.run pins s σ H Q I (i σ H Q q)⟩
theorem DTs.nil : DTs X G W [] (.ret true) := ⟨PTs.imp pts_nil fun σ H Q ⟨F, ρ, R, hq⟩ => hq H F (.refl R)⟩
theorem DTs.one {c : Expr} {m : M Bool} (h : DT X G W c m) : DTs X G W [c] m := ⟨pts_one h.pt⟩
/-- of a block's parts -/
abbrev AllB (X : Cx) (scope : Scope) (P : Cx → Prop) : Prop := ∀ (s : Shared) (H : Hp) (C : Addr) (cl : List (Str × Addr)) (fp : List Addr), P (X.blk s H scope (compEnvC scope cl C X.env) fp)
theorem Grow.skip {T : List NTab} {B B' : Addr → Prop} {p : Addr} {F0 H0 F1 H1 F2 H2 : Hp} (a : Grow T B F0 H0 F1 H1) (b : Grow T (fun x => B' x ∨ x = p) F1 H1 F2 H2) (h : ∀ x, B' x → B x) (hp : H0 p = none) : Grow T B F0 H0 F2 H2 :=
  ⟨a.f.trans b.f, b.s, fun x hx => (a.nf x hx).elim (fun h1 => (b.nf x h1).elim .inl fun h2 => h2.elim (fun h2 => (Classical.em (B x)).elim (fun z => .inr (.inr z)) fun z => .inr (.inl fun xs q => h2 xs (a.old x _ q z (by intro ps w; cases w)))) fun h2 => h2.elim (fun h2 => .inr (.inr (h x h2))) fun h2 => .inr (.inl (h2 ▸ notL hp))) .inr,
    fun x o hx hb ht => b.old x o (a.old x o hx hb ht) (fun z => z.elim (fun z => hb (h x z)) fun z => by rw [z, hp] at hx; cases hx) ht, fun x hx => a.there x (b.there x hx), b.tabs, fun x ps hx => a.nt x ps (b.nt x ps hx)⟩
/-- the whole of a comprehension: T the reading of a turn -/
theorem lc_all {σ : L2.St} {J : It} {js vs : List Nat} {g : D → Env' → Option Env'} {B : List D → M (List D)} {rb : Addr → L2.St → Hp → (Hp → Prop) → Prop} {ds : List D} {ρa : Env'} {F1 H1 : Hp} {Q : VK} {p : Addr} (R : Rep X G F H σ ρ) (ok : GOk js g) (hjs : ∀ j ∈ js, j ∈ vs)
    (hB : BodyOk X G.hid p vs B (rb p)) (st : Stp X G F H σ ρ F1 H1 ρa) (hJ : ItD G.T J F1 ds) (hp : H1 p = none)
    (q : At X G W F H σ ρ (runB vs (lpB vs g B ds []) ρa) fun ds ρ' => ∀ p ws H' F', Stp X G F H σ ρ F' H' ρ' → H p = none → H' p = some (.lst ws) → F' p = none → DatAll F' ws ds → Q (.ref p) H') :
    ∃ W' : Nat → Nat → Hp → Prop, (∃ m, W' 0 m (upd H1 p (.lst []))) ∧ ∀ i m H, W' i m H →
      (J.stop i H ∧ Q (.ref p) H) ∨ (J.go i H ∧ ∃ Nx : Hp → Prop, (∀ H', Nx H' → ∃ m', m' < m ∧ W' (i + 1) m' H') ∧ ∀ x H', J.yld i H x H' → rdG X G.hid js g x (L2.wipe σ vs) H' fun σ2 H2 => L2.wipe σ2 vs = L2.wipe σ vs ∧ rb p σ2 H2 Nx) := by
  unfold runB at q
  cases e : lpB vs g B ds [] (enterR vs ρa) with
  | mk r ρf =>
    rw [e] at q
    cases r with
    | ok acc =>
      have q : ∀ p ws H' F', Stp X G F H σ ρ F' H' (leaveR vs ρa ρf) → H p = none → H' p = some (.lst ws) → F' p = none → DatAll F' ws acc → Q (.ref p) H' := q
      have R1 := st.rep.enter vs
      have g1 := Grow.fresh (o := .lst []) R1.sub R1.tabs hp
      have fp : F1 p = none := by
        cases e : F1 p with
        | none => rfl
        | some u => rw [st.rep.sub p u e] at hp; cases hp
      have no : ¬ OwnA (L2.wipe σ vs) (enterR vs ρa) p := fun h => by
        obtain ⟨ws, e⟩ := R1.own_there h
        rw [hp] at e; cases e
      refine lp_rd (G := G.hid) (Qd := fun H => Q (.ref p) H) (R1.grow g1) (wipe_wipe σ vs) hJ ok hjs hB e ⟨⟨[], upd_same, .nil⟩, fp, no, st.rep.gr.there p hp⟩ fun H2 F2 st2 w2 => ?_
      obtain ⟨ws, hpl, da⟩ := w2.at'
      have st3 : Stp X G.hid F1 H1 (L2.wipe σ vs) (enterR vs ρa) F2 H2 ρf := ⟨st2.rep, Grow.skip (g1.more fun _ z => z.elim) st2.gr (fun _ h => h) hp, st2.ow⟩
      exact q p ws H2 F2 (st.trans (Rep.leave st.rep st3)) (st.gr.there p hp) hpl w2.nf da
    | exc c p => exact q.elim
    | bad => exact q.elim
theorem lc_tLc {σ : L2.St} {mi : M (List D)} {js vs : List Nat} {g : D → Env' → Option Env'} {mt : M Bool} {me : M D} {Q : VK} (R : Rep X G F H σ ρ) (ok : GOk js g) (hjs : ∀ j ∈ js, j ∈ vs)
    (hq : At X G W F H σ ρ (mLc mi vs g mt me ρ) fun ds ρ' => ∀ p ws H' F', Stp X G F H σ ρ F' H' ρ' → H p = none → H' p = some (.lst ws) → F' p = none → DatAll F' ws ds → Q (.ref p) H') :
    tLc (rdI X G W mi) (rdG X G.hid js g) (rdT X G.hid W0 mt) (rdE X G.hid W0 me) vs σ H Q :=
  ⟨F, ρ, R, At.mono (At.bindM hq) (.refl R) fun ds ρa _ q => fun J H1 F1 st hJ p hp => lc_all (rb := fun p σ2 H2 Nx => rdT X G.hid W0 mt σ2 H2 fun b H3 => if b = true then rdE X G.hid W0 me σ2 H3 fun y H4 => ∃ acc, H4 p = some (.lst acc) ∧ acc.length < sizeLine ∧ Nx (upd H4 p (.lst (acc ++ [y]))) else Nx H3) R ok hjs body_one st hJ hp q⟩
theorem lc2_tLc {σ : L2.St} {mi mi1 : M (List D)} {js js1 vs vs1 : List Nat} {g g1 : D → Env' → Option Env'} {mt mt1 : M Bool} {me : M D} {Q : VK} (R : Rep X G F H σ ρ) (ok : GOk js g) (hjs : ∀ j ∈ js, j ∈ vs) (ok1 : GOk js1 g1) (hj1 : ∀ j ∈ js1, j ∈ vs1) (hv : ∀ i ∈ vs1, i ∈ vs)
    (hq : At X G W F H σ ρ (mLc2 mi vs g mt mi1 vs1 g1 mt1 me ρ) fun ds ρ' => ∀ p ws H' F', Stp X G F H σ ρ F' H' ρ' → H p = none → H' p = some (.lst ws) → F' p = none → DatAll F' ws ds → Q (.ref p) H') :
    tLc2 (rdI X G W mi) (rdG X G.hid js g) (rdT X G.hid W0 mt) (rdI X G.hid W0 mi1) (rdG X G.hid js1 g1) (rdT X G.hid W0 mt1) (rdE X G.hid W0 me) vs vs1 σ H Q :=
  ⟨F, ρ, R, At.mono (At.bindM hq) (.refl R) fun ds ρa _ q => fun J H1 F1 st hJ p hp => lc_all (rb := fun p σ2 H2 Nx => rdT X G.hid W0 mt σ2 H2 fun b H3 => if b = true then rdI X G.hid W0 mi1 σ2 H3 fun J1 H4 => ∃ W1 : Nat → Nat → Hp → Prop, (∃ m, W1 0 m H4) ∧ ∀ j k H, W1 j k H →
      (J1.stop j H ∧ Nx H) ∨ (J1.go j H ∧ ∃ Nx1 : Hp → Prop, (∀ H', Nx1 H' → ∃ k', k' < k ∧ W1 (j + 1) k' H') ∧ ∀ x H', J1.yld j H x H' → rdG X G.hid js1 g1 x (L2.wipe σ2 vs1) H' fun σ3 H5 => L2.wipe σ3 vs1 = L2.wipe σ2 vs1 ∧ rdT X G.hid W0 mt1 σ3 H5 fun b H6 =>
        if b = true then rdE X G.hid W0 me σ3 H6 fun y H7 => ∃ acc, H7 p = some (.lst acc) ∧ acc.length < sizeLine ∧ Nx1 (upd H7 p (.lst (acc ++ [y]))) else Nx1 H6) else Nx H3) R ok hjs (body_two ok1 hj1 hv) st hJ hp q⟩
section
variable {elt tg iter : Expr} {ifs : List Expr} {scope : Scope} {own : List (Str × Nat)} {pos spos : Pos} {mi : M (List D)} {js : List Nat} {g : D → Env' → Option Env'} {mt : M Bool} {me : M D}
theorem DF.lc (hc : X.calm = true) (hN : X.N.Nodup) (hi : DI X G W tg iter mi) (ok : BlkOk X.N X.env.scope scope own) (hjs : ∀ j ∈ js, j ∈ own.map (·.2))
    (hg : AllB X scope fun Y => DG Y G.hid tg js g) (ht : AllB X scope fun Y => DTs Y G.hid W0 ifs mt) (he : AllB X scope fun Y => DE Y G.hid W0 elt me) (hs : ∀ x, foldedSetIterable iter X.env x = pure x := by intro _; rfl) :
    DF X G W (.ListComp elt [⟨tg, iter, ifs, 0⟩] scope pos) (mLc mi (own.map (·.2)) g mt me) :=
  ⟨⟨fun pins s σ H Q I hh => (PE.imp (pe_lc (g := rdG X G.hid js g) (tt := rdT X G.hid W0 mt) (te := rdE X G.hid W0 me) hc hN hi.pi ok (fun s H C cl fp => PG.imp (hg s H C cl fp).pg fun v σ H Q h => rdG_cx (X := X) (Y := X.blk s _ scope (compEnvC scope cl C X.env) fp) rfl h)
    (fun s H C cl fp => PTs.imp (ht s H C cl fp).pt fun σ H Q h => rdT_cx (X := X) (Y := X.blk s _ scope (compEnvC scope cl C X.env) fp) rfl rfl h)
    (fun s H C cl fp => PE.imp (he s H C cl fp).pe fun σ H Q h => rdE_cx (X := X) (Y := X.blk s _ scope (compEnvC scope cl C X.env) fp) rfl rfl h) hs) fun σ H Q ⟨F, ρ, R, hq⟩ => lc_tLc R (hg s H 0 [] []).ok hjs hq).run pins s σ H Q I hh⟩⟩
section
variable {i : Nat} {y : Str} {py : Pos}
theorem DS.setLcF (hc : X.calm = true) (hN : X.N.Nodup) (hy : X.N[i]? = some y) (hyl : X.env.scope.names.lookup y = some .local)
    (hsw : swapsWith (.ListComp elt [⟨tg, iter, ifs, 0⟩] scope pos) (some (.Name y py)) spos.line X.env = pure true) (hi : DI X G W tg iter mi) (ok : BlkOk X.N X.env.scope scope own) (hjs : ∀ j ∈ js, j ∈ own.map (·.2))
    (hg : AllB X scope fun Y => DG Y G.hid tg js g) (ht : AllB X scope fun Y => DTs Y G.hid W0 ifs mt) (he : AllB X scope fun Y => DE Y G.hid W0 elt me) (hs : ∀ x, foldedSetIterable iter X.env x = pure x := by intro _; rfl) :
    DS X G W (.Assign [.Name y py] (.ListComp elt [⟨tg, iter, ifs, 0⟩] scope pos) spos) (mSetF i (mLc mi (own.map (·.2)) g mt me)) :=
  ⟨⟨fun pins s σ H E I hh => (PS.imp (ps_setLc (g := rdG X G.hid js g) (tt := rdT X G.hid W0 mt) (te := rdE X G.hid W0 me) hc hN hy hyl hsw hi.pi ok (fun s H C cl fp => PG.imp (hg s H C cl fp).pg fun v σ H Q h => rdG_cx (X := X) (Y := X.blk s _ scope (compEnvC scope cl C X.env) fp) rfl h)
    (fun s H C cl fp => PTs.imp (ht s H C cl fp).pt fun σ H Q h => rdT_cx (X := X) (Y := X.blk s _ scope (compEnvC scope cl C X.env) fp) rfl rfl h)
    (fun s H C cl fp => PE.imp (he s H C cl fp).pe fun σ H Q h => rdE_cx (X := X) (Y := X.blk s _ scope (compEnvC scope cl C X.env) fp) rfl rfl h) hs) fun E σ H ⟨F, ρ, R, hq⟩ =>
      lc_tLc R (hg s H 0 [] []).ok hjs (At.mono hq.at (.refl R) fun ds ρ1 _ q => fun p ws H1 F1 st hn hp hF da => q _ H1 F1 st.f (st.rep.storeOwn hp hF da (R.gr.there p hn) (st.noFresh R hn)))).run pins s σ H E I hh⟩⟩
theorem DS.setLc (hc : X.calm = true) (hN : X.N.Nodup) (hy : X.N[i]? = some y) (hyl : X.env.scope.names.lookup y = some .local)
    (hsw : swapsWith (.ListComp elt [⟨tg, iter, ifs, 0⟩] scope pos) (some (.Name y py)) spos.line X.env = pure true) (hi : DI X G W tg iter mi) (ok : BlkOk X.N X.env.scope scope own) (hjs : ∀ j ∈ js, j ∈ own.map (·.2))
    (hg : AllB X scope fun Y => DG Y G.hid tg js g) (ht : AllB X scope fun Y => DTs Y G.hid W0 ifs mt) (he : AllB X scope fun Y => DE Y G.hid W0 elt me) (hs : ∀ x, foldedSetIterable iter X.env x = pure x := by intro _; rfl) :
    DS X G W (.Assign [.Name y py] (.ListComp elt [⟨tg, iter, ifs, 0⟩] scope pos) spos) (mSet i (mL (mLc mi (own.map (·.2)) g mt me))) :=
  ⟨⟨fun pins s σ H E I hh => (PS.imp (ps_setLc (g := rdG X G.hid js g) (tt := rdT X G.hid W0 mt) (te := rdE X G.hid W0 me) hc hN hy hyl hsw hi.pi ok (fun s H C cl fp => PG.imp (hg s H C cl fp).pg fun v σ H Q h => rdG_cx (X := X) (Y := X.blk s _ scope (compEnvC scope cl C X.env) fp) rfl h)
    (fun s H C cl fp => PTs.imp (ht s H C cl fp).pt fun σ H Q h => rdT_cx (X := X) (Y := X.blk s _ scope (compEnvC scope cl C X.env) fp) rfl rfl h)
    (fun s H C cl fp => PE.imp (he s H C cl fp).pe fun σ H Q h => rdE_cx (X := X) (Y := X.blk s _ scope (compEnvC scope cl C X.env) fp) rfl rfl h) hs) fun E σ H ⟨F, ρ, R, hq⟩ =>
      lc_tLc R (hg s H 0 [] []).ok hjs (At.mono (At.ret hq.at) (.refl R) fun ds ρ1 _ q => fun p ws H1 F1 st hn hp hF da => by
        have st' := st.fresh_frz R hn hp hF
        have e : Ex F1 (upd F1 p (.lst ws)) := fun b o q => by rw [upd_ne (ne_of_none q hF)]; exact q
        exact q _ H1 _ st'.f (st'.rep.store (.lst upd_same (da.mono e))))).run pins s σ H E I hh⟩⟩
end
section
variable {tg1 iter1 : Expr} {ifs1 : List Expr} {mi1 : M (List D)} {js1 vs1 : List Nat} {g1 : D → Env' → Option Env'} {mt1 : M Bool} {i : Nat} {y : Str} {py : Pos}
theorem DF.lc2 (hc : X.calm = true) (hN : X.N.Nodup) (hi : DI X G W tg iter mi) (ok : BlkOk X.N X.env.scope scope own) (hjs : ∀ j ∈ js, j ∈ own.map (·.2)) (hj1 : ∀ j ∈ js1, j ∈ vs1) (hv : ∀ i ∈ vs1, i ∈ own.map (·.2))
    (hg : AllB X scope fun Y => DG Y G.hid tg js g) (ht : AllB X scope fun Y => DTs Y G.hid W0 ifs mt) (hi1 : AllB X scope fun Y => DI Y G.hid W0 tg1 iter1 mi1) (hg1 : AllB X scope fun Y => DG Y G.hid tg1 js1 g1) (ht1 : AllB X scope fun Y => DTs Y G.hid W0 ifs1 mt1) (he : AllB X scope fun Y => DE Y G.hid W0 elt me)
    (hs : ∀ x, foldedSetIterable iter X.env x = pure x := by intro _; rfl) (hs1 : ∀ env x, foldedSetIterable iter1 env x = pure x := by intro _ _; rfl) :
    DF X G W (.ListComp elt [⟨tg, iter, ifs, 0⟩, ⟨tg1, iter1, ifs1, 0⟩] scope pos) (mLc2 mi (own.map (·.2)) g mt mi1 vs1 g1 mt1 me) :=
  ⟨⟨fun pins s σ H Q I hh => (PE.imp (pe_lc2 (g := rdG X G.hid js g) (tt := rdT X G.hid W0 mt) (wi1 := rdI X G.hid W0 mi1) (g1 := rdG X G.hid js1 g1) (tt1 := rdT X G.hid W0 mt1) (te := rdE X G.hid W0 me) hc hN hi.pi ok hv
    (fun s H C cl fp => PG.imp (hg s H C cl fp).pg fun v σ H Q h => rdG_cx (X := X) (Y := X.blk s _ scope (compEnvC scope cl C X.env) fp) rfl h)
    (fun s H C cl fp => PTs.imp (ht s H C cl fp).pt fun σ H Q h => rdT_cx (X := X) (Y := X.blk s _ scope (compEnvC scope cl C X.env) fp) rfl rfl h)
    (fun s H C cl fp => PI.imp (hi1 s H C cl fp).pi fun σ H Q h => rdI_cx (X := X) (Y := X.blk s _ scope (compEnvC scope cl C X.env) fp) rfl rfl h)
    (fun s H C cl fp => PG.imp (hg1 s H C cl fp).pg fun v σ H Q h => rdG_cx (X := X) (Y := X.blk s _ scope (compEnvC scope cl C X.env) fp) rfl h)
    (fun s H C cl fp => PTs.imp (ht1 s H C cl fp).pt fun σ H Q h => rdT_cx (X := X) (Y := X.blk s _ scope (compEnvC scope cl C X.env) fp) rfl rfl h)
    (fun s H C cl fp => PE.imp (he s H C cl fp).pe fun σ H Q h => rdE_cx (X := X) (Y := X.blk s _ scope (compEnvC scope cl C X.env) fp) rfl rfl h) hs hs1) fun σ H Q ⟨F, ρ, R, hq⟩ =>
      lc2_tLc R (hg s H 0 [] []).ok hjs (hg1 s H 0 [] []).ok hj1 hv hq).run pins s σ H Q I hh⟩⟩
theorem DS.setLc2 (hc : X.calm = true) (hN : X.N.Nodup) (hy : X.N[i]? = some y) (hyl : X.env.scope.names.lookup y = some .local)
    (hsw : swapsWith (.ListComp elt [⟨tg, iter, ifs, 0⟩, ⟨tg1, iter1, ifs1, 0⟩] scope pos) (some (.Name y py)) spos.line X.env = pure true) (hi : DI X G W tg iter mi) (ok : BlkOk X.N X.env.scope scope own) (hjs : ∀ j ∈ js, j ∈ own.map (·.2)) (hj1 : ∀ j ∈ js1, j ∈ vs1) (hv : ∀ i ∈ vs1, i ∈ own.map (·.2))
    (hg : AllB X scope fun Y => DG Y G.hid tg js g) (ht : AllB X scope fun Y => DTs Y G.hid W0 ifs mt) (hi1 : AllB X scope fun Y => DI Y G.hid W0 tg1 iter1 mi1) (hg1 : AllB X scope fun Y => DG Y G.hid tg1 js1 g1) (ht1 : AllB X scope fun Y => DTs Y G.hid W0 ifs1 mt1) (he : AllB X scope fun Y => DE Y G.hid W0 elt me)
    (hs : ∀ x, foldedSetIterable iter X.env x = pure x := by intro _; rfl) (hs1 : ∀ env x, foldedSetIterable iter1 env x = pure x := by intro _ _; rfl) :
    DS X G W (.Assign [.Name y py] (.ListComp elt [⟨tg, iter, ifs, 0⟩, ⟨tg1, iter1, ifs1, 0⟩] scope pos) spos) (mSet i (mL (mLc2 mi (own.map (·.2)) g mt mi1 vs1 g1 mt1 me))) :=
  ⟨⟨fun pins s σ H E I hh => (PS.imp (ps_setLc2 (g := rdG X G.hid js g) (tt := rdT X G.hid W0 mt) (wi1 := rdI X G.hid W0 mi1) (g1 := rdG X G.hid js1 g1) (tt1 := rdT X G.hid W0 mt1) (te := rdE X G.hid W0 me) hc hN hy hyl hsw hi.pi ok hv
    (fun s H C cl fp => PG.imp (hg s H C cl fp).pg fun v σ H Q h => rdG_cx (X := X) (Y := X.blk s _ scope (compEnvC scope cl C X.env) fp) rfl h)
    (fun s H C cl fp => PTs.imp (ht s H C cl fp).pt fun σ H Q h => rdT_cx (X := X) (Y := X.blk s _ scope (compEnvC scope cl C X.env) fp) rfl rfl h)
    (fun s H C cl fp => PI.imp (hi1 s H C cl fp).pi fun σ H Q h => rdI_cx (X := X) (Y := X.blk s _ scope (compEnvC scope cl C X.env) fp) rfl rfl h)
    (fun s H C cl fp => PG.imp (hg1 s H C cl fp).pg fun v σ H Q h => rdG_cx (X := X) (Y := X.blk s _ scope (compEnvC scope cl C X.env) fp) rfl h)
    (fun s H C cl fp => PTs.imp (ht1 s H C cl fp).pt fun σ H Q h => rdT_cx (X := X) (Y := X.blk s _ scope (compEnvC scope cl C X.env) fp) rfl rfl h)
    (fun s H C cl fp => PE.imp (he s H C cl fp).pe fun σ H Q h => rdE_cx (X := X) (Y := X.blk s _ scope (compEnvC scope cl C X.env) fp) rfl rfl h) hs hs1) fun E σ H ⟨F, ρ, R, hq⟩ =>
      lc2_tLc R (hg s H 0 [] []).ok hjs (hg1 s H 0 [] []).ok hj1 hv (At.mono (At.ret hq.at) (.refl R) fun ds ρ1 _ q => fun p ws H1 F1 st hn hp hF da => by
        have st' := st.fresh_frz R hn hp hF
        have e : Ex F1 (upd F1 p (.lst ws)) := fun b o q => by rw [upd_ne (ne_of_none q hF)]; exact q
        exact q _ H1 _ st'.f (st'.rep.store (.lst upd_same (da.mono e))))).run pins s σ H E I hh⟩⟩
end
end
end
end
end DL

end
section
set_option maxRecDepth 100000
set_option maxHeartbeats 2000000
/-! Functions: promises, calls. -/
namespace DL
noncomputable section
open PySem PySem.Spec L2 LamX NdefX
open PyProof.Rows hiding St
inductive RV where
  | d (x : D) | l (xs : List D)
abbrev Sem' := List Slot → Rs RV × List D
section
variable {P : Program} {w : World} {K : PySem.W.Frag} {mg : Str → Option Value} {base : Heap} {T : List NTab}
/-- an argument at the entry -/
def ArgOk (P : Program) (w : World) (K : PySem.W.Frag) (mg : Str → Option Value) (base : Heap) (T : List NTab) (k : Nat) (h : Heap) (H F : Hp) (i : Nat) (v : V) : Slot → Prop
  | .emp => True
  | .dat d => Dat F v d
  | .bor xs => i = 0 ∧ ∃ p ws, v = .ref p ∧ H p = some (.lst ws) ∧ F p = none ∧ DatAll F ws xs
  | .scr ns => ∃ p, v = .ref p ∧ (Rd F p (.lst (ns.map V.int)) ∨ ∀ H, SqL K H p (ns.map V.int))
  | .fn g => ∃ f, v = .ref f ∧ FnAt P w K mg base T k h H F f g
  | .fa g => ∃ f, v = .ref f ∧ FaAt (P, w, K, mg, base) T k F f g
  | _ => False
def ArgsOk (P : Program) (w : World) (K : PySem.W.Frag) (mg : Str → Option Value) (base : Heap) (T : List NTab) (k : Nat) (h : Heap) (H F : Hp) (vs : List V) (sls : List Slot) : Prop :=
  ∀ (i : Nat) (v : V) (sl : Slot), vs[i]? = some v → sls[i]? = some sl → ArgOk P w K mg base T k h H F i v sl
def headB : List Slot → Option (List D)
  | .bor xs :: _ => some xs
  | _ => none
def headA : List V → Option Addr
  | .ref p :: _ => some p
  | _ => none
theorem headB_some {sls : List Slot} {xs : List D} (h : headB sls = some xs) : sls[0]? = some (.bor xs) := by
  unfold headB at h
  split at h
  · cases h; rfl
  · cases h
theorem headB_of {sls : List Slot} {xs : List D} (h : sls[0]? = some (.bor xs)) : headB sls = some xs := by
  cases sls with
  | nil => cases h
  | cons a r => cases h; rfl
theorem headA_some {vs : List V} {p : Addr} (h : headA vs = some p) : vs[0]? = some (.ref p) := by
  unfold headA at h
  split at h
  · cases h; rfl
  · cases h
theorem headA_of {vs : List V} {p : Addr} (h : vs[0]? = some (.ref p)) : headA vs = some p := by
  cases vs with
  | nil => cases h
  | cons a r => cases h; rfl
/-- the list that is lent -/
def borA (vs : List V) (sls : List Slot) (p : Addr) : Prop := headA vs = some p ∧ ∃ xs, headB sls = some xs
def FinB (vs : List V) (sls : List Slot) (F2 H2 : Hp) (ys : List D) : Prop := ∀ p, borA vs sls p → ∃ ws, H2 p = some (.lst ws) ∧ F2 p = none ∧ DatAll F2 ws ys
def PostF (T : List NTab) (mg : Str → Option Value) (F H : Hp) (vs : List V) (sls : List Slot) (r : Rs RV × List D) (Q : VK) (E : XK) : Prop :=
  match r.1 with
  | .ok (.d x) => ∀ v H2 F2, Grow T (borA vs sls) F H F2 H2 → Dat F2 v x → FinB vs sls F2 H2 r.2 → Q v H2
  | .ok (.l xs) => ∀ p ws H2 F2, Grow T (borA vs sls) F H F2 H2 → H p = none → H2 p = some (.lst ws) → F2 p = none → DatAll F2 ws xs → FinB vs sls F2 H2 r.2 → Q (.ref p) H2
  | .exc c q => ∀ cls dd H2 F2, Grow T (borA vs sls) F H F2 H2 → ExcV mg F2 H2 cls dd c q → FinB vs sls F2 H2 r.2 → E cls dd H2
  | .bad => False
/-- a def is worth sem -/
structure FnP (P : Program) (w : World) (K : PySem.W.Frag) (mg : Str → Option Value) (base : Heap) (T : List NTab) (kf k : Nat) (f : Addr) (fd : FuncData) (ps : List Str) (sem : Sem') : Prop where
  run : ∀ (A : Around) (outer : List Env) (s : Shared) (H F : Hp) (args : Args) (us : List Value) (vs : List V) (sls : List Slot) (Q : VK) (E : XK), Room k A → A.guards = some [] → Env0 P w K mg base A outer s H → BindsTo s fd args (ps.zip us) → Vals vs us → vs.length = ps.length → sls.length = ps.length →
    NoT F → Ex F H → TabsN T H → ArgsOk P w K mg base T kf s.heap H F vs sls → PostF T mg F H vs sls (sem sls) Q E → codeAny (model P w) A (.call (.ref f) args) (CR (L2.CX P w) outer P w H s Q E) s
theorem FnP.mono {kf j k : Nat} {f : Addr} {fd : FuncData} {ps : List Str} {sem : Sem'} (o : FnP P w K mg base T kf j f fd ps sem) (h : j ≤ k) : FnP P w K mg base T kf k f fd ps sem :=
  ⟨fun A outer s H F args us vs sls Q E hr => o.run A outer s H F args us vs sls Q E (hr.mono h)⟩
def rvOf : Rs Fl → Rs RV
  | .ok .nx => .ok (.d .none)
  | .ok (.rt d) => .ok (.d d)
  | .ok (.rtF xs) => .ok (.l xs)
  | .exc c p => .exc c p
  | _ => .bad
/-- a body with n names, run -/
def fnR (n : Nat) (m : MS) : Sem' := fun sls =>
  let q := m (sls ++ List.replicate (n - sls.length) .emp)
  match headB sls with
  | some _ => match headB q.2 with
    | some ys => (rvOf q.1, ys)
    | none => (.bad, [])
  | none => (rvOf q.1, [])
/-- the lent list, as the body's ground has it -/
def borL (vs : List V) (sls : List Slot) : List (Nat × Addr) := match headB sls, headA vs with
  | some _, some p => [(0, p)]
  | _, _ => []
theorem borL_mem {vs : List V} {sls : List Slot} {b : Nat × Addr} : b ∈ borL vs sls ↔ b.1 = 0 ∧ borA vs sls b.2 := by
  unfold borL borA
  obtain ⟨b1, b2⟩ := b
  cases h1 : headB sls with
  | none => simp
  | some xs =>
    cases h2 : headA vs with
    | none => simp
    | some p => simp [eq_comm]
def mkG (T : List NTab) (kf : Nat) (vs : List V) (sls : List Slot) (F H : Hp) (hB : ∀ b ∈ borL vs sls, H b.2 ≠ none) (nt : NoT F) : Gh := ⟨T, borL vs sls, F, H, hB, nt, kf, false⟩
section
variable {N ps : List Str} {kf k : Nat} {f : Addr} {name qual : Str} {params : Arguments} {body : List Stmt} {scope : Scope} {dV kV doc pm cdv ct oc : Value} {an od : Option Addr} {osl : Array (Option Value)}
theorem append_emp_get {sls : List Slot} {n i : Nat} {sl : Slot} (h : (sls ++ List.replicate n .emp)[i]? = some sl) : sls[i]? = some sl ∨ sl = .emp := by
  by_cases hi : i < sls.length
  · rw [List.getElem?_append_left hi] at h; exact .inl h
  · rw [List.getElem?_append_right (by omega), List.getElem?_replicate] at h
    split at h
    · cases h; exact .inr rfl
    · cases h
theorem start_get {vs : List V} {i : Nat} {v : V} (h : vs[i]? = some v) : (L2.start N vs)[i]? = some (some v) := by
  have hi : i < vs.length := (List.getElem?_eq_some_iff.mp h).1
  unfold L2.start
  rw [List.getElem?_append_left (by simpa using hi), List.getElem?_map, h]; rfl
/-- the slots at a body's entry -/
theorem rep_entry {X : Cx} {G : Gh} {H F : Hp} {σ : L2.St} {vs : List V} {sls : List Slot} {n : Nat} (hl : vs.length = sls.length) (hσ : ∀ (i : Nat) (v : V), vs[i]? = some v → σ[i]? = some (some v)) (hn : sls.length + n = σ.length) (eF : Ex F H) (hT : TabsN G.T H) (gF : G.F0 = F) (gH : G.H0 = H) (gB : G.B = borL vs sls) (gn : G.nf = false)
    (ha : ArgsOk X.prog X.w X.K X.mg X.base G.T G.k X.s_0.heap X.H_0 F vs sls) (hHH : X.H_0 = H) : Rep X G F H σ (sls ++ List.replicate n .emp) := by
  have vat : ∀ {i : Nat} {sl : Slot}, sls[i]? = some sl → ∃ v, vs[i]? = some v := fun {i sl} h => by
    have : i < vs.length := by rw [hl]; exact (List.getElem?_eq_some_iff.mp h).1
    exact ⟨_, List.getElem?_eq_getElem this⟩
  refine ⟨by rw [gF, gH]; exact .refl eF hT, by rw [List.length_append, List.length_replicate]; exact hn, fun i sl h => ?_, fun a b s1 s2 p hab h1 h2 o1 o2 _ _ => ?_⟩
  · rcases append_emp_get h with h | rfl
    · obtain ⟨v, hv⟩ := vat h
      have o := ha i v sl hv h
      have e := hσ i v hv
      cases sl with
      | emp => trivial
      | dat d => exact ⟨v, e, o⟩
      | own xs => exact o.elim
      | bor xs =>
        obtain ⟨rfl, p, ws, rfl, hp, hF, da⟩ := o
        refine ⟨p, ws, e, by rw [← hHH]; exact hp, hF, da, ?_⟩
        rw [gB]
        exact borL_mem.mpr ⟨rfl, headA_of hv, xs, headB_of h⟩
      | scr ns => obtain ⟨p, rfl, q⟩ := o; exact ⟨p, e, q⟩
      | fn g => obtain ⟨f, rfl, q⟩ := o; exact ⟨gn, f, e, q⟩
      | fa g => obtain ⟨f, rfl, q⟩ := o; exact ⟨f, e, q⟩
      | clo js k => exact o.elim
      | ex c f d => exact o.elim
    · trivial
  · have z : ∀ {i : Nat} {sl : Slot}, (sls ++ List.replicate n .emp)[i]? = some sl → sl.isOwn = true → i = 0 := fun {i sl} h ho => by
      rcases append_emp_get h with h | rfl
      · obtain ⟨v, hv⟩ := vat h
        have o := ha i v sl hv h
        cases sl with
        | own xs => exact o.elim
        | bor xs => exact o.1
        | _ => cases ho
      · cases ho
    exact hab ((z h1 o1).trans (z h2 o2).symm)
/-- how a body's end meets what is wanted of the call -/
theorem body_end {X : Cx} {G : Gh} {H F : Hp} {vs : List V} {sls : List Slot} {n : Nat} {m : MS} {Q : VK} {E : XK} (gF : G.F0 = F) (gH : G.H0 = H) (gB : G.B = borL vs sls) (post : PostF G.T X.mg F H vs sls (fnR n m sls) Q E) :
    AtS X G (fun cls d _ H => E cls d H) F { nx := fun _ H' => Q .non H', rt := Q } (m (sls ++ List.replicate (n - sls.length) .emp)) := by
  have grow : ∀ {F' H' : Hp} {σ' : L2.St} {ρ' : Env'}, Rep X G F' H' σ' ρ' → Grow G.T (borA vs sls) F H F' H' := fun {F' H' σ' ρ'} R => by
    have g := R.gr
    rw [gF, gH, gB] at g
    exact g.more fun p ⟨i, h⟩ => (borL_mem.mp h).2
  cases hm : m (sls ++ List.replicate (n - sls.length) .emp) with
  | mk r ρ' =>
    have key : ∃ ys, (fnR n m sls = (rvOf r, ys) ∧ ((headB sls).isSome = true → headB ρ' = some ys)) ∨ fnR n m sls = (.bad, ys) := by
      unfold fnR
      rw [hm]
      cases h1 : headB sls with
      | none => exact ⟨[], .inl ⟨rfl, fun z => nomatch z⟩⟩
      | some xs =>
        cases h2 : headB ρ' with
        | none => exact ⟨[], .inr (by dsimp only; rw [h2])⟩
        | some ys => exact ⟨ys, .inl ⟨by dsimp only; rw [h2], fun _ => rfl⟩⟩
    obtain ⟨ys, ⟨key, kb⟩ | key⟩ := key
    · rw [key] at post
      have fin : ∀ {F' H' : Hp} {σ' : L2.St}, Rep X G F' H' σ' ρ' → FinB vs sls F' H' ys := fun {F' H' σ'} R p hb => by
        obtain ⟨hv, xs, hs⟩ := hb
        have e := headB_some (kb (by rw [hs]; rfl))
        obtain ⟨p', ws, hσ, hp, hF, da, hB⟩ := R.ok 0 _ e
        rw [gB] at hB
        obtain ⟨_, hA, _⟩ := borL_mem.mp hB
        rw [hv] at hA
        cases hA
        exact ⟨ws, hp, hF, da⟩
      cases r with
      | ok fl =>
        cases fl with
        | nx => exact fun σ' H' F' _ R => post .non H' F' (grow R) .non (fin R)
        | rt d => exact fun v σ' H' F' _ R dv => post v H' F' (grow R) dv (fin R)
        | rtF xs => exact fun p ws σ' H' F' _ R hn hp hF da => post p ws H' F' (grow R) (by rw [← gH]; exact hn) hp hF da (fin R)
        | bk => exact post.elim
        | ct => exact post.elim
      | exc c p => exact fun cls dd σ' H' F' _ R x => post cls dd H' F' (grow R) x (fin R)
      | bad => exact post.elim
    · rw [key] at post; exact post.elim
/-- THE RULE: a def by its body -/
theorem FnP.of {m : MS} (lk : K.lookup f = some ⟨oc, od, .func (PySem.W.fnOf name qual params body scope dV kV doc pm an cdv ct), osl⟩) (hcd : PySem.W.codeIn K cdv qual = true) (S : FnScope N ps scope) (hps : ps.length ≤ N.length)
    (hbody : ∀ (A : Around) (outer : List Env) (s : Shared) (H : Hp) (E : XK) (G : Gh), Room k (A.deeper (envOfC qual scope s.heap.objs.size f cdv)) → A.guards = some [] → G.T = T → G.k = kf → G.nf = false → DSs (cxOf (L2.CX P w) P w K mg base N qual scope f cdv A outer s H E) G (fun cls d _ H => E cls d H) body m) :
    FnP P w K mg base T kf (k + 1) f (PySem.W.fnOf name qual params body scope dV kV doc pm an cdv ct) ps (fnR N.length m) := by
  refine ⟨fun A outer s H F args us vs sls Q E hr hg e0 hb r hl hl2 nt eF hT ha post => ?_⟩
  refine run_ofS lk hcd S hr e0 hb r hl fun hr2 => ?_
  have hB : ∀ b ∈ borL vs sls, H b.2 ≠ none := fun b hb => by
    obtain ⟨_, hA, xs, hs⟩ := borL_mem.mp hb
    obtain ⟨_, p, ws, e, hp, _⟩ := ha 0 _ _ (headA_some hA) (headB_some hs)
    cases e
    rw [hp]; simp
  refine ⟨_, (hbody A outer s H E (mkG T kf vs sls F H hB nt) hr2 hg rfl rfl rfl).ps, ?_⟩
  have hz : sls.length + (N.length - sls.length) = (L2.start N vs).length := by
    unfold L2.start
    rw [List.length_append, List.length_map, List.length_replicate]
    omega
  exact ⟨F, _, rep_entry (X := cxOf (L2.CX P w) P w K mg base N qual scope f cdv A outer s H E) (G := mkG T kf vs sls F H hB nt) (hl.trans hl2.symm) (fun i v h => start_get h) hz eF hT rfl rfl rfl rfl ha rfl, body_end (X := cxOf (L2.CX P w) P w K mg base N qual scope f cdv A outer s H E) rfl rfl rfl post⟩
theorem FnScope.le {N ps : List Str} {scope : Scope} (S : FnScope N ps scope) : ps.length ≤ N.length := by
  have q := congrArg List.length S.pre
  rw [List.length_take] at q
  omega
end
end
end
end DL

end
section
set_option maxRecDepth 100000
set_option maxHeartbeats 2000000
/-! Calls of one's own functions. -/
namespace DL
noncomputable section
open PySem PySem.Spec L2 LamX NdefX
open PyProof.Rows hiding St
/-- a written argument: data, a slot as it is, a function made here -/
inductive Ar where
  | d (x : D) | v (i : Nat) | l (js : List Nat) (k : List Cap → List D → Rs D)
  /-- .. that captures nothing -/
  | a (g : List D → Rs D)
section
variable {X : Cx} {G : Gh} {W : WX} {pins : List (Addr × Obj)} {σ : L2.St} {H F : Hp} {s : Shared} {ρ : Env'} {E : Ends}
/-- the function at f captures nothing -/
def AllAt (X : Cx) (G : Gh) (F : Hp) (f : Addr) (g : List D → Rs D) : Prop := ∀ (pins : List (Addr × Obj)) (s : Shared) (σ' : St) (H' F' : Hp), Inv X pins σ' H' s → NoT F' → Ex F F' → Ex F' H' → TabsN G.T H' → FaAt (cxk X) G.T G.k F' f g
theorem AllAt.later {X : Cx} {G : Gh} {F F1 : Hp} {f : Addr} {g : List D → Rs D} (a : AllAt X G F f g) (e : Ex F F1) : AllAt X G F1 f g := fun pins s σ' H' F' I nt e1 => a pins s σ' H' F' I nt (e.trans e1)
def ArAt (X : Cx) (G : Gh) (F : Hp) (σ : L2.St) (v : V) : Ar → Prop
  | .d x => Dat F v x
  | .v i => σ[i]? = some (some v)
  | .l js k => G.nf = false ∧ ∃ f, v = .ref f ∧ CloAt X G F f js k
  | .a g => ∃ f, v = .ref f ∧ AllAt X G F f g
theorem ArAt.mono {F1 : Hp} {v : V} {a : Ar} (h : ArAt X G F σ v a) (e : Ex F F1) : ArAt X G F1 σ v a := by
  cases a with
  | d x => exact Dat.mono e h
  | v i => exact h
  | l js k => obtain ⟨n, f, hv, c⟩ := h; exact ⟨n, f, hv, c.later e⟩
  | a g => obtain ⟨f, hv, c⟩ := h; exact ⟨f, hv, c.later e⟩
inductive ArAll (X : Cx) (G : Gh) (F : Hp) (σ : L2.St) : List V → List Ar → Prop
  | nil : ArAll X G F σ [] []
  | cons {v : V} {vs : List V} {a : Ar} {as : List Ar} : ArAt X G F σ v a → ArAll X G F σ vs as → ArAll X G F σ (v :: vs) (a :: as)
theorem ArAll.length : ∀ {vs : List V} {as : List Ar}, ArAll X G F σ vs as → vs.length = as.length
  | _, _, .nil => rfl
  | _, _, .cons _ r => congrArg Nat.succ (ArAll.length r)
theorem ArAll.get : ∀ {vs : List V} {as : List Ar} {i : Nat} {v : V} {a : Ar}, ArAll X G F σ vs as → vs[i]? = some v → as[i]? = some a → ArAt X G F σ v a
  | _, _, _, _, _, .nil, e, _ => by simp at e
  | _, _, 0, _, _, .cons h _, e, e2 => by simp at e e2; subst e e2; exact h
  | _, _, i + 1, _, _, .cons _ r, e, e2 => ArAll.get (i := i) r (by simpa using e) (by simpa using e2)
def rdR (X : Cx) (G : Gh) (W : WX) (m : M (List Ar)) : TA := fun σ H Q => ∃ F ρ, Rep X G F H σ ρ ∧ At X G W F H σ ρ (m ρ) fun as ρ' => ∀ vs H' F', Stp X G F H σ ρ F' H' ρ' → ArAll X G F' σ vs as → Q vs H'
structure DR (X : Cx) (G : Gh) (W : WX) (es : List Expr) (m : M (List Ar)) : Prop where
  pa : PA X es (rdR X G W m)
  len : ∀ ρ as ρ', m ρ = (.ok as, ρ') → as.length = es.length
def mAN : M (List Ar) := .ret []
def mAC (m : M D) (r : M (List Ar)) : M (List Ar) := m.bind fun d => r.bind fun as => .ret (.d d :: as)
/-- a slot that stands -/
def mRef (i : Nat) (r : M (List Ar)) : M (List Ar) := fun ρ => match ρ[i]? with
  | some .emp => (.bad, ρ)
  | some _ => (r.bind fun as => .ret (.v i :: as)) ρ
  | none => (.bad, ρ)
theorem DR.nil : DR X G W [] mAN := ⟨PA.imp pa_nil fun σ H Q ⟨F, ρ, R, hq⟩ => hq [] H F (.refl R) .nil, fun ρ as ρ' h => by cases h; rfl⟩
theorem ArAll.mono {F1 : Hp} (e : Ex F F1) : ∀ {vs : List V} {as : List Ar}, ArAll X G F σ vs as → ArAll X G F1 σ vs as
  | _, _, .nil => .nil
  | _, _, .cons h r => .cons (h.mono e) (ArAll.mono e r)
section
variable {e : Expr} {es : List Expr} {mr : M (List Ar)}
theorem DR.cons {ma : M D} (ha : DE X G W e ma) (hr : DR X G W es mr) (hs : starEach (e :: es) X.env = (false, eval e X.env) :: starEach es X.env := by rfl) : DR X G W (e :: es) (mAC ma mr) :=
  ⟨PA.imp (pa_cons ha.pe hr.pa hs) fun σ H Q ⟨F, ρ, R, hq⟩ => rd_step (.refl R) hq fun d ρ1 v H1 F1 st dv q1 =>
    ⟨F1, ρ1, st.rep, At.mono (At.bindM q1) st fun as ρ2 _ q2 => fun vs H2 F2 st2 sv => q2 (v :: vs) H2 F2 (st.trans st2) (.cons (show ArAt X G F2 σ v (.d d) from dv.mono st2.f) sv)⟩, fun ρ as ρ' h => by
    obtain ⟨d, ρ1, _, h⟩ := M.bind_ok h
    obtain ⟨as', ρ2, h1, h⟩ := M.bind_ok h
    cases h
    exact congrArg Nat.succ (hr.len _ _ _ h1)⟩
theorem Rep.at' {i : Nat} {sl : Slot} (R : Rep X G F H σ ρ) (h : ρ[i]? = some sl) (ne : sl ≠ .emp) : ∃ v, σ[i]? = some (some v) := by
  have o := R.ok i sl h
  cases sl with
  | emp => exact absurd rfl ne
  | dat d => exact ⟨_, o.choose_spec.1⟩
  | own xs => exact ⟨_, o.choose_spec.choose_spec.1⟩
  | bor xs => exact ⟨_, o.choose_spec.choose_spec.1⟩
  | scr ns => exact ⟨_, o.choose_spec.1⟩
  | fn g => exact ⟨_, o.2.choose_spec.1⟩
  | clo js k => exact ⟨_, o.2.choose_spec.1⟩
  | fa g => exact ⟨_, o.choose_spec.1⟩
  | ex c f d => obtain ⟨_, a, _, _, _, _, h1, _⟩ := o; exact ⟨_, h1⟩
theorem DR.ref {i : Nat} {x : Str} {p : Pos} (hN : X.N[i]? = some x) (hv : Vis X.env.scope x) (hr : DR X G W es mr) (hd : (x == ("__debug__" : Str)) = false := by decide) (hcd : (x == ("__classdict__" : Str)) = false := by decide)
    (hs : starEach (.Name x p :: es) X.env = (false, eval (.Name x p) X.env) :: starEach es X.env := by rfl) : DR X G W (.Name x p :: es) (mRef i mr) :=
  ⟨PA.imp (pa_cons (pe_var (pos := p) hN hv hd hcd) hr.pa hs) fun σ H Q ⟨F, ρ, R, hq⟩ => by
    unfold mRef at hq
    cases e : ρ[i]? with
    | none => rw [e] at hq; exact hq.elim
    | some sl =>
      have ne : sl ≠ .emp := by rintro rfl; rw [e] at hq; exact hq.elim
      obtain ⟨v, hσ⟩ := R.at' e ne
      have hq' : At X G W F H σ ρ ((mr.bind fun as => .ret (.v i :: as)) ρ) fun as ρ' => ∀ vs H' F', Stp X G F H σ ρ F' H' ρ' → ArAll X G F' σ vs as → Q vs H' := by
        rw [e] at hq
        cases sl <;> first | exact absurd rfl ne | exact hq
      exact ⟨v, hσ, F, ρ, R, At.mono (At.bindM hq') (.refl R) fun as ρ2 _ q2 => fun vs H2 F2 st2 sv => q2 (v :: vs) H2 F2 st2 (.cons (show ArAt X G F2 σ v (.v i) from hσ) sv)⟩, fun ρ as ρ' h => by
    unfold mRef at h
    cases e : ρ[i]? with
    | none => rw [e] at h; cases h
    | some sl =>
      rw [e] at h
      cases sl <;> first
        | cases h
        | (obtain ⟨as', ρ2, h1, h⟩ := M.bind_ok h
           cases h
           exact congrArg Nat.succ (hr.len _ _ _ h1))⟩
/-- a def of the module, handed over -/
theorem DR.glob {f : Addr} {x : Str} {p : Pos} {g : List D → Rs D} (hg : Gl X x) (hm : X.mg x = some (.ref f)) (nf : G.nf = false) (hc : CloAt X G (fun _ => none) f [] fun _ => g) (hr : DR X G W es mr) (hd : (x == ("__debug__" : Str)) = false := by decide)
    (hs : starEach (.Name x p :: es) X.env = (false, eval (.Name x p) X.env) :: starEach es X.env := by rfl) : DR X G W (.Name x p :: es) (mr.bind fun as => .ret (.l [] (fun _ => g) :: as)) :=
  ⟨PA.imp (pa_cons (pe_glob (v := .ref f) (pos := p) hg hm rfl hd) hr.pa hs) fun σ H Q ⟨F, ρ, R, hq⟩ => 
    ⟨F, ρ, R, At.mono (At.bindM hq) (.refl R) fun as ρ2 _ q2 => fun vs H2 F2 st2 sv => q2 (.ref f :: vs) H2 F2 st2 (.cons (show ArAt X G F2 σ (.ref f) (.l [] fun _ => g) from ⟨nf, f, rfl, hc.later fun _ _ z => nomatch z⟩) sv)⟩, fun ρ as ρ' h => by
    obtain ⟨as', ρ2, h1, h⟩ := M.bind_ok h
    cases h
    exact congrArg Nat.succ (hr.len _ _ _ h1)⟩
end
/-! ### what the slots hand over -/
def capV1 (ρ : Env') (j : Nat) : Cap := match ρ[j]? with
  | some (.dat d) => .d d
  | some (.fn g) => .f g
  | some (.fa g) => .f g
  | _ => .no
def capV (ρ : Env') (j : Nat) : Cap := match ρ[j]? with
  | some (.dat d) => .d d
  | some (.fn g) => .f g
  | some (.clo js k) => .f (k (js.map (capV1 ρ)))
  | some (.fa g) => .f g
  | _ => .no
/-- the function that slot i holds -/
def callee (ρ : Env') (i : Nat) : Option (List D → Rs D) := match ρ[i]? with
  | some (.fn g) => some g
  | some (.clo js k) => some (k (js.map (capV ρ)))
  | some (.fa g) => some g
  | _ => none
theorem keptC_of (I : Inv X pins σ H s) (nf : G.nf = false) (hex : G.nf = false → X.ex = []) : KeptC X.s_0.heap X.H_0 s.heap H := fun c v ⟨o, ho, hd⟩ n => by
  have nx : c ∉ X.ex := by rw [hex nf]; simp
  refine ⟨?_, I.base.free c o ho n nx⟩
  by_cases hf : c ∈ X.fs
  · obtain ⟨sl, e⟩ := I.base.slot c o ho n hf nx
    exact ⟨_, e, hd⟩
  · exact ⟨o, I.base.keep c o ho n hf nx, hd⟩
theorem cap1_ok (R : Rep X G F H σ ρ) (I : Inv X pins σ H s) (hex : G.nf = false → X.ex = []) (j : Nat) : CapOk X.prog X.w X.K X.mg X.base G.T G.k s.heap H F σ j (capV1 ρ j) := by
  unfold capV1
  cases e : ρ[j]? with
  | none => trivial
  | some sl =>
    have o := R.ok j sl e
    cases sl with
    | dat d => exact o
    | fn g =>
      obtain ⟨nf, f, hσ, a⟩ := o
      exact ⟨f, hσ, a.later (.refl F) (keptC_of I nf hex)⟩
    | fa g =>
      obtain ⟨f, hσ, a⟩ := o
      exact ⟨f, hσ, a _ _⟩
    | _ => trivial
theorem clo_at {f : Addr} {js : List Nat} {k : List Cap → List D → Rs D} (R : Rep X G F H σ ρ) (I : Inv X pins σ H s) (c : CloAt X G F f js k) (cv : Nat → Cap) (hcv : ∀ j, CapOk X.prog X.w X.K X.mg X.base G.T G.k s.heap H F σ j (cv j)) :
    FnAt X.prog X.w X.K X.mg X.base G.T G.k s.heap H F f (k (js.map cv)) :=
  c pins s σ H F (js.map cv) I R.noT (.refl F) R.sub R.tabs (by rw [List.length_map]) fun a j sl h1 h2 => by
    rw [List.getElem?_map, h1] at h2
    cases h2
    exact hcv j
theorem cap_ok (R : Rep X G F H σ ρ) (I : Inv X pins σ H s) (hex : G.nf = false → X.ex = []) (j : Nat) : CapOk X.prog X.w X.K X.mg X.base G.T G.k s.heap H F σ j (capV ρ j) := by
  unfold capV
  cases e : ρ[j]? with
  | none => trivial
  | some sl =>
    have o := R.ok j sl e
    cases sl with
    | dat d => exact o
    | fn g =>
      obtain ⟨nf, f, hσ, a⟩ := o
      exact ⟨f, hσ, a.later (.refl F) (keptC_of I nf hex)⟩
    | clo js k =>
      obtain ⟨_, f, hσ, c⟩ := o
      exact ⟨f, hσ, clo_at R I c _ fun j => cap1_ok R I hex j⟩
    | fa g =>
      obtain ⟨f, hσ, a⟩ := o
      exact ⟨f, hσ, a _ _⟩
    | _ => trivial
theorem fn_slot {i : Nat} {g : List D → Rs D} (R : Rep X G F H σ ρ) (I : Inv X pins σ H s) (hex : G.nf = false → X.ex = []) (h : callee ρ i = some g) : ∃ f, σ[i]? = some (some (.ref f)) ∧ FnAt X.prog X.w X.K X.mg X.base G.T G.k s.heap H F f g := by
  unfold callee at h
  cases e : ρ[i]? with
  | none => rw [e] at h; cases h
  | some sl =>
    rw [e] at h
    have o := R.ok i sl e
    cases sl with
    | fn g' =>
      cases h
      obtain ⟨nf, f, hσ, a⟩ := o
      exact ⟨f, hσ, a.later (.refl F) (keptC_of I nf hex)⟩
    | clo js k =>
      cases h
      obtain ⟨_, f, hσ, c⟩ := o
      exact ⟨f, hσ, clo_at R I c _ fun j => cap_ok R I hex j⟩
    | fa g' =>
      cases h
      obtain ⟨f, hσ, a⟩ := o
      exact ⟨f, hσ, a _ _⟩
    | _ => cases h
def lendAt (ρ : Env') (fst : Bool) : Option Slot → Slot
  | some (.dat d) => .dat d
  | some (.own xs) => if fst then .bor xs else .emp
  | some (.bor xs) => if fst then .bor xs else .emp
  | some (.scr ns) => .scr ns
  | some (.fn g) => .fn g
  | some (.clo js k) => .fn (k (js.map (capV ρ)))
  | some (.fa g) => .fa g
  | _ => .emp
/-- an argument as the callee's slot (fst: the first) -/
def arSl (ρ : Env') (fst : Bool) : Ar → Slot
  | .d x => .dat x
  | .l js k => .fn (k (js.map (capV ρ)))
  | .a g => .fa g
  | .v i => lendAt ρ fst ρ[i]?
def arSls (ρ : Env') : List Ar → List Slot
  | [] => []
  | a :: as => arSl ρ true a :: as.map (arSl ρ false)
theorem arSls_length (ρ : Env') : ∀ as : List Ar, (arSls ρ as).length = as.length
  | [] => rfl
  | _ :: _ => by simp [arSls]
theorem arSl_ok {i : Nat} {v : V} {a : Ar} {fst : Bool} (R : Rep X G F H σ ρ) (I : Inv X pins σ H s) (hex : G.nf = false → X.ex = []) (hf : fst = true → i = 0) (h : ArAt X G F σ v a) : ArgOk X.prog X.w X.K X.mg X.base G.T G.k s.heap H F i v (arSl ρ fst a) := by
  cases a with
  | d x => exact h
  | l js k =>
    obtain ⟨_, f, rfl, c⟩ := h
    exact ⟨f, rfl, clo_at R I c _ fun j => cap_ok R I hex j⟩
  | a g =>
    obtain ⟨f, rfl, c⟩ := h
    exact ⟨f, rfl, c _ _ _ _ _ I R.noT (.refl F) R.sub R.tabs⟩
  | v j =>
    have h : σ[j]? = some (some v) := h
    show ArgOk X.prog X.w X.K X.mg X.base G.T G.k s.heap H F i v (lendAt ρ fst ρ[j]?)
    cases e : ρ[j]? with
    | none => trivial
    | some sl =>
      have o := R.ok j sl e
      cases sl with
      | emp => trivial
      | dat d =>
        obtain ⟨v', hσ, dv⟩ := o
        rw [h] at hσ; cases hσ
        exact dv
      | own xs =>
        obtain ⟨p, ws, hσ, hp, hF, da, _⟩ := o
        rw [h] at hσ; cases hσ
        cases fst with
        | true => exact ⟨hf rfl, p, ws, rfl, hp, hF, da⟩
        | false => trivial
      | bor xs =>
        obtain ⟨p, ws, hσ, hp, hF, da, _⟩ := o
        rw [h] at hσ; cases hσ
        cases fst with
        | true => exact ⟨hf rfl, p, ws, rfl, hp, hF, da⟩
        | false => trivial
      | scr ns =>
        obtain ⟨p, hσ, q⟩ := o
        rw [h] at hσ; cases hσ
        exact ⟨p, rfl, q⟩
      | fn g =>
        obtain ⟨nf, f, hσ, a⟩ := o
        rw [h] at hσ; cases hσ
        exact ⟨f, rfl, a.later (.refl F) (keptC_of I nf hex)⟩
      | clo js k =>
        obtain ⟨_, f, hσ, c⟩ := o
        rw [h] at hσ; cases hσ
        exact ⟨f, rfl, clo_at R I c _ fun j => cap_ok R I hex j⟩
      | fa g =>
        obtain ⟨f, hσ, c⟩ := o
        rw [h] at hσ; cases hσ
        exact ⟨f, rfl, c⟩
      | ex c f d => trivial
theorem arSls_ok {vs : List V} {as : List Ar} (R : Rep X G F H σ ρ) (I : Inv X pins σ H s) (hex : G.nf = false → X.ex = []) (h : ArAll X G F σ vs as) : ArgsOk X.prog X.w X.K X.mg X.base G.T G.k s.heap H F vs (arSls ρ as) := by
  intro i v sl hv hs
  cases as with
  | nil => cases hs
  | cons a as =>
    cases i with
    | zero =>
      have hs : some (arSl ρ true a) = some sl := hs
      cases hs
      exact arSl_ok R I hex (fun _ => rfl) (h.get hv rfl)
    | succ i =>
      have hs : (as.map (arSl ρ false))[i]? = some sl := hs
      rw [List.getElem?_map] at hs
      cases ha : as[i]? with
      | none => rw [ha] at hs; cases hs
      | some a' =>
        rw [ha] at hs; cases hs
        exact arSl_ok R I hex (fun z => nomatch z) (h.get hv (show (a :: as)[i + 1]? = some a' from ha))
/-- behind the call: the lent list as the callee left it -/
def updB (ρ : Env') (as : List Ar) (ys : List D) : Env' := match as with
  | .v i :: _ => match getL ρ i with
    | some (_, b) => ρ.set i (ownSl b ys)
    | none => ρ
  | _ => ρ
theorem Rep.back {i : Nat} {b : Bool} {xs ys : List D} {p : Addr} {ws : List V} {B : Addr → Prop} {F3 H3 : Hp} (R : Rep X G F H σ ρ) (hi : ρ[i]? = some (ownSl b xs)) (hσ : σ[i]? = some (some (.ref p))) (hB : ∀ q, B q → q = p) (g : Grow G.T B F H F3 H3)
    (hp3 : H3 p = some (.lst ws)) (hF3 : F3 p = none) (dw : DatAll F3 ws ys) : Stp X G F H σ ρ F3 H3 (ρ.set i (ownSl b ys)) := by
  have key : (b = false → G.H0 p = none) ∧ (b = true → (i, p) ∈ G.B) := by
    have o := R.ok i _ hi
    cases b with
    | false => obtain ⟨q, vs, e, h, n, _, h0⟩ := o; rw [hσ] at e; cases e; exact ⟨fun _ => h0, fun z => nomatch z⟩
    | true => obtain ⟨q, vs, e, h, n, _, hb⟩ := o; rw [hσ] at e; cases e; exact ⟨(fun z => nomatch z), fun _ => hb⟩
  obtain ⟨h0, hbB⟩ := key
  have isOwn : OwnA σ ρ p := ⟨i, _, hi, ownSl_own, hσ⟩
  have ownset : ∀ q, OwnA σ (ρ.set i (ownSl b ys)) q → OwnA σ ρ q := fun q ⟨j, s', hj, oj, hq⟩ => by
    rcases getset hj with ⟨rfl, rfl⟩ | ⟨ne, hj⟩
    · exact ⟨i, _, hi, ownSl_own, hq⟩
    · exact ⟨j, s', hj, oj, hq⟩
  refine ⟨⟨?_, by rw [List.length_set]; exact R.len, fun j sl hj => ?_, fun a c s1 s2 q hac ha hc o1 o2 h1 h2 => ?_⟩, g.more fun q hq => hB q hq ▸ isOwn, ownset⟩
  · cases b with
    | true => exact R.gr.trans (g.more fun q hq => ⟨i, hB q hq ▸ hbB rfl⟩)
    | false => exact Grow.skip (B' := No) R.gr (g.more fun q hq => .inr (hB q hq)) (fun _ z => z.elim) (h0 rfl)
  · rcases getset hj with ⟨rfl, rfl⟩ | ⟨ne, hj⟩
    · cases b with
      | false => exact ⟨p, ws, hσ, hp3, hF3, dw, h0 rfl⟩
      | true => exact ⟨p, ws, hσ, hp3, hF3, dw, hbB rfl⟩
    · exact (R.ok j sl hj).grow g fun q ho hq hb => R.apart i j _ sl p ne hi hj ownSl_own ho hσ (hB q hb ▸ hq)
  · have key : ∀ {a : Nat} {s' : Slot}, (ρ.set i (ownSl b ys))[a]? = some s' → s'.isOwn = true → ∃ s0, ρ[a]? = some s0 ∧ s0.isOwn = true := fun {a s'} h ho => by
      rcases getset h with ⟨rfl, rfl⟩ | ⟨ne, h⟩
      · exact ⟨_, hi, ownSl_own⟩
      · exact ⟨s', h, ho⟩
    obtain ⟨t1, k1, k2⟩ := key ha o1
    obtain ⟨t2, k3, k4⟩ := key hc o2
    exact R.apart a c t1 t2 q hac k1 k3 k2 k4 h1 h2
/-- behind any call of one's own function -/
theorem call_back {vs : List V} {as : List Ar} {ys : List D} {F3 H3 : Hp} (R : Rep X G F H σ ρ) (h : ArAll X G F σ vs as) (g : Grow G.T (borA vs (arSls ρ as)) F H F3 H3) (fin : FinB vs (arSls ρ as) F3 H3 ys) : Stp X G F H σ ρ F3 H3 (updB ρ as ys) := by
  cases h with
  | nil =>
    have g' : Grow G.T No F H F3 H3 := g.more fun p hp => by
      have z := hp.1
      cases z
    exact (Stp.refl R).grow g'
  | cons h1 hr =>
    rename_i v vs a as
    have noB : (∀ xs, headB (arSls ρ (a :: as)) ≠ some xs) → Stp X G F H σ ρ F3 H3 ρ := fun nb => by
      have g' : Grow G.T No F H F3 H3 := g.more fun p ⟨_, xs, e⟩ => nb xs e
      exact (Stp.refl R).grow g'
    cases a with
    | d x => exact noB fun xs z => nomatch z
    | l js k => exact noB fun xs z => nomatch z
    | a g => exact noB fun xs z => nomatch z
    | v i =>
      show Stp X G F H σ ρ F3 H3 (match getL ρ i with
        | some (_, b) => ρ.set i (ownSl b ys)
        | none => ρ)
      cases e : getL ρ i with
      | none =>
        refine noB fun xs z => ?_
        have z : headB (lendAt ρ true ρ[i]? :: as.map (arSl ρ false)) = some xs := z
        unfold DL.getL at e
        cases e2 : ρ[i]? with
        | none => rw [e2] at z; cases z
        | some sl =>
          rw [e2] at z e
          cases sl with
          | own xs => exact nomatch (show some (xs, false) = none from e)
          | bor xs => exact nomatch (show some (xs, true) = none from e)
          | _ => cases z
      | some q =>
        obtain ⟨xs, b⟩ := q
        have hi := getL_some e
        have hσ : σ[i]? = some (some v) := h1
        have key : ∃ p, v = .ref p := by
          have o := R.ok i _ hi
          cases b with
          | false => obtain ⟨q, _, e, _⟩ := o; rw [hσ] at e; cases e; exact ⟨q, rfl⟩
          | true => obtain ⟨q, _, e, _⟩ := o; rw [hσ] at e; cases e; exact ⟨q, rfl⟩
        obtain ⟨p, rfl⟩ := key
        have hb : headB (arSls ρ (.v i :: as)) = some xs := by
          show headB (lendAt ρ true ρ[i]? :: as.map (arSl ρ false)) = some xs
          rw [hi]
          cases b <;> rfl
        obtain ⟨ws, hp3, hF3, dw⟩ := fin p ⟨rfl, xs, hb⟩
        exact R.back hi hσ (fun q ⟨hq, _⟩ => by cases hq; rfl) g hp3 hF3 dw
/-! ### the call -/
def mUser (sem : Sem') (m : M (List Ar)) : M RV := m.bind fun as => fun ρ =>
  let r := sem (arSls ρ as)
  (r.1, updB ρ as r.2)
def rdV (X : Cx) (G : Gh) (W : WX) (m : M RV) : TE := fun σ H Q => ∃ F ρ, Rep X G F H σ ρ ∧ At X G W F H σ ρ (m ρ) fun r ρ' => match r with
  | .d x => ∀ v H' F', Stp X G F H σ ρ F' H' ρ' → Dat F' v x → Q v H'
  | .l xs => ∀ p vs H' F', Stp X G F H σ ρ F' H' ρ' → H p = none → H' p = some (.lst vs) → F' p = none → DatAll F' vs xs → Q (.ref p) H'
structure DV (X : Cx) (G : Gh) (W : WX) (e : Expr) (m : M RV) : Prop where
  pe : PE X e (rdV X G W m)
def mVD (m : M RV) : M D := m.bind fun r => match r with
  | .d x => .ret x
  | .l xs => .ret (.list xs)
def mVF (m : M RV) : M (List D) := m.bind fun r => match r with
  | .d x => .fail
  | .l xs => .ret xs
theorem DF.ofV {e : Expr} {m : M RV} (h : DV X G W e m) : DF X G W e (mVF m) :=
  ⟨PE.imp h.pe fun σ H Q ⟨F, ρ, R, hq⟩ => ⟨F, ρ, R, (At.bindM hq).imp fun r ρ' q => by
    cases r with
    | d x => exact q.elim
    | l xs => exact q⟩⟩
theorem DE.ofV {e : Expr} {m : M RV} (h : DV X G W e m) : DE X G W e (mVD m) :=
  ⟨PE.imp h.pe fun σ H Q ⟨F, ρ, R, hq⟩ => ⟨F, ρ, R, (At.bindM hq).imp fun r ρ' q => by
    cases r with
    | d x => exact q
    | l xs =>
      have q : ∀ v H' F', Stp X G F H σ ρ F' H' ρ' → Dat F' v (.list xs) → Q v H' := q
      intro p vs H' F' st hn hp hF ha
      have st' := st.fresh_frz R hn hp hF
      have e : Ex F' (upd F' p (.lst vs)) := fun b o q => by rw [upd_ne (ne_of_none q hF)]; exact q
      exact q (.ref p) H' _ st' (.lst upd_same (ha.mono e))⟩⟩
/-- what the callee's reading gives this body's -/
theorem post_of {sem : Sem'} {vs : List V} {as : List Ar} {F0 H0 : Hp} {ρ0 : Env'} {Q : VK} (R0 : Rep X G F0 H0 σ ρ0) (st : Stp X G F0 H0 σ ρ0 F H ρ) (ha : ArAll X G F σ vs as)
    (hq : At X G W F0 H0 σ ρ0 ((sem (arSls ρ as)).1, updB ρ as (sem (arSls ρ as)).2) fun r ρ' => match r with
      | .d x => ∀ v H' F', Stp X G F0 H0 σ ρ0 F' H' ρ' → Dat F' v x → Q v H'
      | .l xs => ∀ p vs H' F', Stp X G F0 H0 σ ρ0 F' H' ρ' → H0 p = none → H' p = some (.lst vs) → F' p = none → DatAll F' vs xs → Q (.ref p) H') :
    PostF G.T X.mg F H vs (arSls ρ as) (sem (arSls ρ as)) Q (WE W σ) := by
  unfold PostF
  generalize sem (arSls ρ as) = q at hq
  obtain ⟨r, ys⟩ := q
  cases r with
  | ok r =>
    cases r with
    | d x => exact fun v H2 F2 g dv fin => hq v H2 F2 (st.trans (call_back st.rep ha g fin)) dv
    | l xs => exact fun p ws H2 F2 g hn hp hF da fin => hq p ws H2 F2 (st.trans (call_back st.rep ha g fin)) (st.gr.there p hn) hp hF da
  | exc c p => exact fun cls dd H2 F2 g x fin => hq cls dd H2 F2 (st.trans (call_back st.rep ha g fin)) x
  | bad => exact hq.elim
theorem run_P {k : Nat} {f : Addr} {fd : FuncData} {ps : List Str} {sem : Sem'} {args : Args} {us : List Value} {vs : List V} {as : List Ar} {F0 H0 : Hp} {ρ0 : Env'} {Q : VK} (P : FnP X.prog X.w X.K X.mg X.base G.T G.k k f fd ps sem) (hr : Room k X.A) (hg : X.A.guards = some []) (hex : G.nf = false → X.ex = []) (tk : Takes X W)
    (I : Inv X pins σ H s) (hb : BindsTo s fd args (ps.zip us)) (r : Vals vs us) (hl : vs.length = ps.length) (R0 : Rep X G F0 H0 σ ρ0) (st : Stp X G F0 H0 σ ρ0 F H ρ) (ha : ArAll X G F σ vs as)
    (hq : At X G W F0 H0 σ ρ0 ((sem (arSls ρ as)).1, updB ρ as (sem (arSls ρ as)).2) fun r ρ' => match r with
      | .d x => ∀ v H' F', Stp X G F0 H0 σ ρ0 F' H' ρ' → Dat F' v x → Q v H'
      | .l xs => ∀ p vs H' F', Stp X G F0 H0 σ ρ0 F' H' ρ' → H0 p = none → H' p = some (.lst vs) → F' p = none → DatAll F' vs xs → Q (.ref p) H') :
    wpAny (model X.prog X.w) X.A (call (.ref f) args.pos args.kw) (EP X pins σ Q) X.xe s := by
  refine wpAny_call (codeAny_mono (P.run X.A X.stack s H F args us vs (arSls ρ as) Q (WE W σ) hr hg I.env0 hb r hl (by rw [arSls_length, ← ha.length]; exact hl) st.rep.noT st.rep.sub st.rep.tabs (arSls_ok st.rep I hex ha) (post_of R0 st ha hq)) fun r s' hq => ?_)
  cases r with
  | error e => exact passAt tk σ pins H s e s' I hq
  | ok fl =>
    cases fl with
    | ret u => exact I.after hq
    | next => exact False.elim hq
    | brk => exact False.elim hq
    | cont => exact False.elim hq
/-- a def of the module: its name, parameters, what it is worth -/
structure Fun (P : Program) (w : World) (K : PySem.W.Frag) (mg : Str → Option Value) (base : Heap) (T : List NTab) (kf : Nat) (x : Str) (pa : Arguments) (ps : List Str) (k : Nat) (sem : Sem') : Prop where
  ex : ∃ (f : Addr) (y qual : Str) (bd : List Stmt) (sc : Scope) (kV doc pm cdv ct : Value) (an : Option Addr), mg x = some (.ref f) ∧ PySem.W.keepIn K (.ref f) = true ∧ (∃ oc od sl, K.lookup f = some ⟨oc, od, .func (PySem.W.fnOf y qual pa bd sc .none kV doc pm an cdv ct), sl⟩) ∧
    FnP P w K mg base T kf k f (PySem.W.fnOf y qual pa bd sc .none kV doc pm an cdv ct) ps sem
/-- how the arguments bind: j by position, those of the names ks; g puts them in the parameters' order -/
def BindsK (pa : Arguments) (ps : List Str) (n : Nat) (ks : List Str) (g : {α : Type} → List α → List α → List α) : Prop :=
  ∀ (y qual : Str) (bd : List Stmt) (sc : Scope) (kV doc pm cdv ct : Value) (an : Option Addr) (us ws : List Value), us.length = n → ws.length = ks.length → bindArgs (PySem.W.fnOf y qual pa bd sc .none kV doc pm an cdv ct) ⟨us, ks.zip ws⟩ = pure (ps.zip (g us ws))
abbrev BindsP (pa : Arguments) (ps : List Str) : Prop :=
  ∀ (y qual : Str) (bd : List Stmt) (sc : Scope) (kV doc pm cdv ct : Value) (an : Option Addr) (us : List Value), us.length = ps.length → bindArgs (PySem.W.fnOf y qual pa bd sc .none kV doc pm an cdv ct) ⟨us, []⟩ = pure (ps.zip us)
/-- what a body's calls want of its context -/
structure Ctx (X : Cx) (G : Gh) (W : WX) (k : Nat) : Prop where
  room : Room k X.A
  gd : X.A.guards = some []
  ex : G.nf = false → X.ex = []
  tk : Takes X W
section
variable {x : Str} {pa : Arguments} {ps : List Str} {k j : Nat} {sem : Sem'} {e : Expr} {es : List Expr} {p pos : Pos} {m : M (List Ar)}
theorem At.eq {α : Type} {r : Rs α × Env'} {k : α → Env' → Prop} (h : At X G W F H σ ρ r k) : At X G W F H σ ρ r fun a ρ' => r = (.ok a, ρ') ∧ k a ρ' := by
  obtain ⟨r, ρ'⟩ := r
  cases r with
  | ok a => exact ⟨rfl, h⟩
  | exc c p => exact h
  | bad => exact h
/-- the arguments are evaluated, then .. -/
theorem args_rd {α : Type} {m : M (List Ar)} {f : List Ar → M α} {kk : α → Env' → Prop} {F : Hp} {ρ : Env'} {n : Nat} (hl : ∀ ρ as ρ', m ρ = (.ok as, ρ') → as.length = n) (R : Rep X G F H σ ρ) (hq : At X G W F H σ ρ ((m.bind f) ρ) kk) :
    rdR X G W m σ H fun vs H1 => vs.length = n ∧ ∃ as F1 ρ1, Stp X G F H σ ρ F1 H1 ρ1 ∧ ArAll X G F1 σ vs as ∧ At X G W F H σ ρ (f as ρ1) kk :=
  ⟨F, ρ, R, At.mono (At.bindM hq).eq (.refl R) fun as ρ1 _ q => fun vs H1 F1 st sv => ⟨sv.length.trans (hl _ _ _ q.1), as, F1, ρ1, st, sv, q.2⟩⟩
theorem DV.call (Fn : Fun X.prog X.w X.K X.mg X.base G.T G.k x pa ps j sem) (hb : BindsP pa ps) (C : Ctx X G W k) (hk : j ≤ k) (hgl : Gl X x) (ha : DR X G W (e :: es) m) (hl : (e :: es).length = ps.length := by rfl) (hdb : (x == ("__debug__" : Str)) = false := by decide)
    (he : starEach (e :: es) X.env = (false, eval e X.env) :: starEach es X.env := by rfl) (hpl : (backTo pos (starEach es X.env)).any (·.1) = false := by rfl) : DV X G W (.Call (.Name x p) (e :: es) [] pos) (mUser sem m) := by
  obtain ⟨f, y, qual, bd, sc, kV, doc, pm, cdv, ct, an, hm, kp, _, Fp⟩ := Fn.ex
  refine ⟨⟨fun pins s σ H Q I ⟨F, ρ, R, hq⟩ => ?_⟩⟩
  refine wpAny_Call_Name_kw (ld_glob I hgl hm ?_ hdb)
  refine PySem.W.callWith_K (h₀ := X.base) I.ok.mod.kin kp (thn (ha.pa.run pos pins s σ H _ I (args_rd ha.len R hq)) fun us s1 ⟨vs, H1, I1, r, hlv, as, F1, ρ1, st, sv, q⟩ => ⟨I1.kIn, ?_⟩) he hpl
  have hlu : us.length = ps.length := by rw [← r.length, hlv]; exact hl
  exact run_P (args := ⟨us, []⟩) Fp (C.room.mono hk) C.gd C.ex C.tk I1 (.of_eq (hb _ _ _ _ _ _ _ _ _ _ us hlu)) r (hlv.trans hl) R st sv q
theorem DV.call0 (Fn : Fun X.prog X.w X.K X.mg X.base G.T G.k x pa [] j sem) (hb : BindsP pa []) (C : Ctx X G W k) (hk : j ≤ k) (hgl : Gl X x) (hdb : (x == ("__debug__" : Str)) = false := by decide) : DV X G W (.Call (.Name x p) [] [] pos) (mUser sem mAN) := by
  obtain ⟨f, y, qual, bd, sc, kV, doc, pm, cdv, ct, an, hm, kp, _, Fp⟩ := Fn.ex
  refine ⟨⟨fun pins s σ H Q I ⟨F, ρ, R, hq⟩ => ?_⟩⟩
  refine wpAny_Call_Name_kw (ld_glob I hgl hm ?_ hdb)
  exact PySem.W.callWith_K0 I.kIn kp (run_P (args := ⟨[], []⟩) (us := []) (vs := []) (as := []) Fp (C.room.mono hk) C.gd C.ex C.tk I (.of_eq (hb _ _ _ _ _ _ _ _ _ _ [] rfl)) .nil rfl R (.refl R) .nil hq)
/-! keywords -/
structure DK (X : Cx) (G : Gh) (W : WX) (kws : List Keyword) (m : M (List Ar)) : Prop where
  pk : PK X kws (rdR X G W m)
  len : ∀ ρ as ρ', m ρ = (.ok as, ρ') → as.length = kws.length
theorem PK.imp {e : List Keyword} {t t' : TA} (h : PK X e t) (i : ∀ σ H Q, t' σ H Q → t σ H Q) : PK X e t' := ⟨fun pos pins s σ H Q I q => h.run pos pins s σ H Q I (i σ H Q q)⟩
theorem DK.nil : DK X G W [] mAN := ⟨PK.imp pk_nil fun σ H Q ⟨F, ρ, R, hq⟩ => hq [] H F (.refl R) .nil, fun ρ as ρ' h => by cases h; rfl⟩
theorem DK.cons {nm : Option Str} {kpos : Pos} {kws : List Keyword} {ma : M D} {mr : M (List Ar)} (ha : DE X G W e ma) (hr : DK X G W kws mr) : DK X G W (⟨nm, e, kpos⟩ :: kws) (mAC ma mr) :=
  ⟨PK.imp (pk_cons ha.pe hr.pk) fun σ H Q ⟨F, ρ, R, hq⟩ => rd_step (.refl R) hq fun d ρ1 v H1 F1 st dv q1 =>
    ⟨F1, ρ1, st.rep, At.mono (At.bindM q1) st fun as ρ2 _ q2 => fun vs H2 F2 st2 sv => q2 (v :: vs) H2 F2 (st.trans st2) (.cons (show ArAt X G F2 σ v (.d d) from dv.mono st2.f) sv)⟩, fun ρ as ρ' h => by
    obtain ⟨d, ρ1, _, h⟩ := M.bind_ok h
    obtain ⟨as', ρ2, h1, h⟩ := M.bind_ok h
    cases h
    exact congrArg Nat.succ (hr.len _ _ _ h1)⟩
def mUserK (sem : Sem') (g : {α : Type} → List α → List α → List α) (m mk : M (List Ar)) : M RV := m.bind fun as => mk.bind fun bs => fun ρ =>
  let r := sem (arSls ρ (g as bs))
  (r.1, updB ρ (g as bs) r.2)
/-- g keeps relations -/
def Rearr (n k l : Nat) (g : {α : Type} → List α → List α → List α) : Prop := ∀ {α β : Type} (R : α → β → Prop) (as bs : List α) (cs ds : List β), as.length = n → bs.length = k → PySem.Paired R as cs → PySem.Paired R bs ds → PySem.Paired R (g as bs) (g cs ds) ∧ (g as bs).length = l
theorem arall_f2 : ∀ {vs : List V} {as : List Ar}, ArAll X G F σ vs as → PySem.Paired (ArAt X G F σ) vs as
  | _, _, .nil => .nil
  | _, _, .cons h r => .cons h (arall_f2 r)
theorem f2_arall : ∀ {vs : List V} {as : List Ar}, PySem.Paired (ArAt X G F σ) vs as → ArAll X G F σ vs as
  | _, _, .nil => .nil
  | _, _, .cons h r => .cons h (f2_arall r)
section
variable {ks : List Str} {g : {α : Type} → List α → List α → List α} {kws : List Keyword} {mk : M (List Ar)}
theorem DV.callK (Fn : Fun X.prog X.w X.K X.mg X.base G.T G.k x pa ps j sem) (hb : BindsK pa ps (e :: es).length ks g) (hR : Rearr (e :: es).length ks.length ps.length g) (C : Ctx X G W k) (hk : j ≤ k) (hgl : Gl X x) (ha : DR X G W (e :: es) m) (hkw : DK X G W kws mk) (hkl : kws.length = ks.length := by rfl)
    (hall : (backToKw pos (keywordEach kws X.env)).all (·.1.isSome) = true := by rfl) (hks : (backToKw pos (keywordEach kws X.env)).filterMap (·.1) = ks := by rfl)
    (hdb : (x == ("__debug__" : Str)) = false := by decide) (he : starEach (e :: es) X.env = (false, eval e X.env) :: starEach es X.env := by rfl)
    (hpl : ((backTo pos (starEach (e :: es) X.env)).any (·.1) || (backToKw pos (keywordEach kws X.env)).any (·.1.isNone)) = false := by rfl) :
    DV X G W (.Call (.Name x p) (e :: es) kws pos) (mUserK sem g m mk) := by
  obtain ⟨f, y, qual, bd, sc, kV, doc, pm, cdv, ct, an, hm, kp, _, Fp⟩ := Fn.ex
  refine ⟨⟨fun pins s σ H Q I ⟨F, ρ, R, hq⟩ => ?_⟩⟩
  refine wpAny_Call_Name_kw (ld_glob I hgl hm ?_ hdb)
  refine PySem.W.callWith_KW (h₀ := X.base) I.ok.mod.kin kp hall (thn (ha.pa.run pos pins s σ H _ I (args_rd ha.len R hq)) fun us s1 ⟨vs, H1, I1, r, hlv, as, F1, ρ1, st, sv, q⟩ => ?_) hpl he
  refine thn (hkw.pk.run pos pins s1 σ H1 _ I1 (args_rd (kk := _) hkw.len st.rep (At.mono q st fun _ _ _ z => z))) fun ws s2 ⟨zs, H2, I2, rz, hlz, bs, F2, ρ2, st2, sv2, q2⟩ => ⟨I2.kIn, ?_⟩
  rw [hks]
  have hlw : ws.length = ks.length := by rw [← rz.length, hlz, hkl]
  have hlu : us.length = (e :: es).length := by rw [← r.length, hlv]
  have hv := hR L2.RelV vs zs us ws hlv (hlz.trans hkl) r rz
  have hA := hR (ArAt X G F2 σ) vs zs as bs hlv (hlz.trans hkl) (arall_f2 (sv.mono st2.f)) (arall_f2 sv2)
  have hlz' : zs.length = ks.length := hlz.trans hkl
  refine run_P (args := ⟨us, ks.zip ws⟩) (us := g us ws) (vs := g vs zs) (as := g as bs) Fp (C.room.mono hk) C.gd C.ex C.tk I2 (.of_eq (hb _ _ _ _ _ _ _ _ _ _ us ws hlu hlw)) hv.1 hv.2 st.rep st2 (f2_arall hA.1) ?_
  refine At.imp q2 fun rv ρ3 z => ?_
  cases rv with
  | d x => exact fun v H' F' st3 dv => z v H' F' (st.trans st3) dv
  | l xs => exact fun p vs H' F' st3 hn => z p vs H' F' (st.trans st3) (st.gr.there p hn)
theorem DV.callK0 (Fn : Fun X.prog X.w X.K X.mg X.base G.T G.k x pa ps j sem) (hb : BindsK pa ps 0 ks g) (hR : Rearr 0 ks.length ps.length g) (C : Ctx X G W k) (hk : j ≤ k) (hgl : Gl X x) (hkw : DK X G W kws mk) (hkl : kws.length = ks.length := by rfl)
    (hall : (backToKw pos (keywordEach kws X.env)).all (·.1.isSome) = true := by rfl) (hks : (backToKw pos (keywordEach kws X.env)).filterMap (·.1) = ks := by rfl)
    (hdb : (x == ("__debug__" : Str)) = false := by decide)
    (hpl : ((backTo pos (starEach [] X.env)).any (·.1) || (backToKw pos (keywordEach kws X.env)).any (·.1.isNone)) = false := by rfl) :
    DV X G W (.Call (.Name x p) [] kws pos) (mUserK sem g mAN mk) := by
  obtain ⟨f, y, qual, bd, sc, kV, doc, pm, cdv, ct, an, hm, kp, _, Fp⟩ := Fn.ex
  refine ⟨⟨fun pins s σ H Q I ⟨F, ρ, R, hq⟩ => ?_⟩⟩
  refine wpAny_Call_Name_kw (ld_glob I hgl hm ?_ hdb)
  refine PySem.W.callWith_KW0 (h₀ := X.base) I.ok.mod.kin kp hall ?_ hpl
  refine thn (hkw.pk.run pos pins s σ H _ I (args_rd hkw.len R hq)) fun ws s2 ⟨zs, H2, I2, rz, hlz, bs, F2, ρ2, st2, sv2, q2⟩ => ⟨I2.kIn, ?_⟩
  rw [hks]
  have hlw : ws.length = ks.length := by rw [← rz.length, hlz, hkl]
  have hv := hR L2.RelV [] zs [] ws rfl (hlz.trans hkl) .nil rz
  have hA := hR (ArAt X G F2 σ) [] zs [] bs rfl (hlz.trans hkl) .nil (arall_f2 sv2)
  exact run_P (args := ⟨[], ks.zip ws⟩) (us := g [] ws) (vs := g [] zs) (as := g [] bs) Fp (C.room.mono hk) C.gd C.ex C.tk I2 (.of_eq (hb _ _ _ _ _ _ _ _ _ _ [] ws rfl hlw)) hv.1 hv.2 R st2 (f2_arall hA.1) q2
end
/-! ### calls of a function that a name holds -/
def mFnAt (i : Nat) : M Unit := fun ρ => match callee ρ i with
  | some _ => (.ok (), ρ)
  | none => (.bad, ρ)
def mCallV (i : Nat) (m : M (List D)) : M D := (mFnAt i).bind fun _ => m.bind fun ds => fun ρ => match callee ρ i with
  | some g => (g ds, ρ)
  | none => (.bad, ρ)
theorem fn_rd {i : Nat} {k : Unit → Env' → Prop} {ρ0 : Env'} {H0 F0 : Hp} (R : Rep X G F H σ ρ) (I : Inv X pins σ H s) (hex : G.nf = false → X.ex = []) (h : At X G W F0 H0 σ ρ0 (mFnAt i ρ) k) : ∃ g f, callee ρ i = some g ∧ σ[i]? = some (some (.ref f)) ∧ FnAt X.prog X.w X.K X.mg X.base G.T G.k s.heap H F f g ∧ k () ρ := by
  unfold mFnAt at h
  cases e : callee ρ i with
  | none => rw [e] at h; exact h.elim
  | some g =>
    rw [e] at h
    obtain ⟨f, hσ, a⟩ := fn_slot R I hex e
    exact ⟨g, f, rfl, hσ, a, h⟩
theorem DE.callFn {i : Nat} {ma : M (List D)} (hN : X.N[i]? = some x) (hv : Vis X.env.scope x) (C : Ctx X G W k) (hkf : G.k ≤ k) (ha : DA X G W (e :: es) ma) (hd : (x == ("__debug__" : Str)) = false := by decide) (hcd : (x == ("__classdict__" : Str)) = false := by decide)
    (he : starEach (e :: es) X.env = (false, eval e X.env) :: starEach es X.env := by rfl) (hpl : (backTo pos (starEach es X.env)).any (·.1) = false := by rfl) : DE X G W (.Call (.Name x p) (e :: es) [] pos) (mCallV i ma) := .of fun pins s σ H F ρ Q I R hq => by
  obtain ⟨g0, f, hc0, hσ, a0, q0⟩ := fn_rd R I C.ex (At.bindM hq)
  refine wpAny_Call_Name_kw (thn ((pe_var (pos := p) hN hv hd hcd).run pins s σ H (fun v H1 => v = .ref f ∧ H1 = H) I ⟨.ref f, hσ, rfl, rfl⟩) fun u s1 ⟨v, H1, I1, r1, q1⟩ => ?_)
  obtain ⟨ev, eH⟩ := q1
  subst ev
  rw [eH] at I1
  obtain rfl : u = Value.ref f := r1
  obtain ⟨f1, hσ1, a1⟩ := fn_slot R I1 C.ex hc0
  rw [hσ] at hσ1
  cases hσ1
  refine PySem.W.callWith_F (first := []) (a1.obj X.A X.stack s1 H F I1.env0 (.refl F) R.sub (.refl _ _)) (thn (ha.pa.run pos pins s1 σ H (fun vs H2 => ∃ ds F2 ρ2, Stp X G F H σ ρ F2 H2 ρ2 ∧ DatAll F2 vs ds ∧ At X G W F H σ ρ ((match callee ρ2 i with
    | some g => (g ds, ρ2)
    | none => (.bad, ρ2)) : Rs D × Env') fun d ρ' => ∀ v H' F', Stp X G F H σ ρ F' H' ρ' → Dat F' v d → Q v H') I1 ⟨F, ρ, R, At.mono (At.bindM q0) (.refl R) fun ds ρ2 _ q => fun vs H2 F2 st da => ⟨ds, F2, ρ2, st, da, q⟩⟩) fun us s2 ⟨vs, H2, I2, r, ds, F2, ρ2, st, da, q⟩ => ?_) he hpl
  cases hc : callee ρ2 i with
  | none => rw [hc] at q; exact q.elim
  | some g =>
    rw [hc] at q
    obtain ⟨f2, hσ2, a2⟩ := fn_slot st.rep I2 C.ex hc
    rw [hσ] at hσ2
    cases hσ2
    refine ⟨a2.obj X.A X.stack s2 H2 F2 I2.env0 (.refl F2) st.rep.sub (.refl _ _), ?_⟩
    show wpAny _ _ (call (.ref f) us) _ _ _
    have post : Post G.T X.mg F2 H2 (g ds) Q (WE W σ) := by
      unfold Post
      have q : At X G W F H σ ρ (g ds, ρ2) fun d ρ' => ∀ v H' F', Stp X G F H σ ρ F' H' ρ' → Dat F' v d → Q v H' := q
      cases hg : g ds with
      | ok d => rw [hg] at q; exact fun v H3 F3 gr dv => q v H3 F3 (st.grow gr) dv
      | exc c p => rw [hg] at q; exact fun cls dd H3 F3 gr ex => q cls dd H3 F3 (st.grow gr) ex
      | bad => rw [hg] at q; exact q.elim
    refine wpAny_call (codeAny_mono (a2.run X.A X.stack s2 H2 F2 us vs ds Q (WE W σ) (C.room.mono hkf) C.gd I2.env0 st.rep.noT (.refl F2) st.rep.sub (.refl _ _) st.rep.tabs r da post) fun r s' hq => ?_)
    cases r with
    | error e => exact passAt C.tk σ pins H2 s2 e s' I2 hq
    | ok fl =>
      cases fl with
      | ret u => exact I2.after hq
      | next => exact False.elim hq
      | brk => exact False.elim hq
      | cont => exact False.elim hq
/-! ### a def of the module, handed over -/
def pureOf (n : Nat) (sem : Sem') : List D → Rs D := fun ds => if ds.length = n then (match (sem (ds.map .dat)).1 with
  | .ok (.d x) => .ok x
  | .ok (.l xs) => .ok (.list xs)
  | .exc c p => .exc c p
  | .bad => .bad) else .bad
theorem headB_dat (ds : List D) : headB (ds.map Slot.dat) = none := by cases ds <;> rfl
theorem fun_at {P : Program} {w : World} {K : PySem.W.Frag} {mg : Str → Option Value} {base : Heap} {T : List NTab} {kf : Nat} (Fn : Fun P w K mg base T kf x pa ps j sem) (hb : BindsP pa ps) (hk : j ≤ kf) : ∃ f, mg x = some (.ref f) ∧ ∀ h H F, FnAt P w K mg base T kf h H F f (pureOf ps.length sem) := by
  obtain ⟨f, y, qual, bd, sc, kV, doc, pm, cdv, ct, an, hm, kp, ⟨oc, od, sl, lk⟩, Fp⟩ := Fn.ex
  refine ⟨f, hm, fun h H F => ⟨fun A outer s' H' F' e0 _ _ _ => ?_, fun A outer s' H' F' us vs ds Q E hr hg e0 nt e1 e2 c hT r da post => ?_⟩⟩
  · have KX : K.In s'.heap := e0.mod.kin.keeps fun b o e => (e0.bs b o e).1
    exact ⟨oc, od, _, sl, KX _ _ lk⟩
  · unfold pureOf at post
    by_cases hl : ds.length = ps.length
    · rw [if_pos hl] at post
      have hlv : vs.length = ps.length := da.length.trans hl
      refine Fp.run A outer s' H' F' ⟨us, []⟩ us vs (ds.map .dat) Q E (hr.mono hk) hg e0 (.of_eq (hb _ _ _ _ _ _ _ _ _ _ us (by rw [← r.length]; exact hlv))) r hlv (by rw [List.length_map]; exact hl) nt e2 hT (fun i v sl hv hs => ?_) ?_
      · rw [List.getElem?_map] at hs
        obtain ⟨d, hd, dv⟩ := da.getV hv
        rw [hd] at hs
        cases hs
        exact dv
      · have nb : ∀ p, ¬ borA vs (ds.map Slot.dat) p := fun p ⟨_, xs, z⟩ => by rw [headB_dat] at z; cases z
        unfold PostF
        cases hs : (sem (ds.map .dat)).1 with
        | ok rv =>
          rw [hs] at post
          cases rv with
          | d x => exact fun v H2 F2 g dv _ => post v H2 F2 (g.more fun p z => nb p z) dv
          | l xs =>
            exact fun p ws H2 F2 g hn hp hF da _ => by
              have e : Ex F2 (upd F2 p (.lst ws)) := fun b o q => by rw [upd_ne (ne_of_none q hF)]; exact q
              refine post (.ref p) H2 (upd F2 p (.lst ws)) ⟨g.f.trans e, fun b o q => ?_, fun b q => ?_, fun b o q _ => g.old b o q (nb b), g.there, g.tabs, fun b ps q => ?_⟩ (.lst upd_same (da.mono e))
              · by_cases hb : b = p
                · subst hb; rw [upd_same] at q; cases q; exact hp
                · rw [upd_ne hb] at q; exact g.s b o q
              · by_cases hb : b = p
                · subst hb; exact .inr (.inl (notL hn))
                · rw [upd_ne hb]
                  exact (g.nf b q).imp id fun z => z.imp id fun z => (nb b z).elim
              · by_cases hb : b = p
                · subst hb; rw [upd_same] at q; cases q
                · rw [upd_ne hb] at q; exact g.nt b ps q
        | exc c p =>
          rw [hs] at post
          exact fun cls dd H2 F2 g x _ => post cls dd H2 F2 (g.more fun p z => nb p z) x
        | bad => rw [hs] at post; exact post.elim
    · rw [if_neg hl] at post; exact post.elim
/-! ### a fresh list lent -/
theorem Stp.skip {F0 H0 F2 H2 : Hp} {ρ0 : Env'} {p : Addr} (R0 : Rep X G F0 H0 σ ρ0) (st : Stp X G F0 H0 σ ρ0 F H ρ) (hp : H0 p = none) (g : Grow G.T (fun x => x = p) F H F2 H2) : Stp X G F0 H0 σ ρ0 F2 H2 ρ := by
  have no := st.noFresh R0 hp
  refine ⟨⟨Grow.skip (B' := No) st.rep.gr (g.more fun q hq => .inr hq) (fun _ z => z.elim) (R0.gr.there p hp), st.rep.len, fun i sl h => (st.rep.ok i sl h).grow g fun q ho hq e => no ⟨i, sl, h, ho, e ▸ hq⟩, st.rep.apart⟩, Grow.skip (B' := No) st.gr (g.more fun q hq => .inr hq) (fun _ z => z.elim) hp, st.ow⟩
def mUser1F (sem : Sem') (mf : M (List D)) : M RV := mf.bind fun xs => .lift (sem [.bor xs]).1
theorem DV.call1F {mf : M (List D)} (Fn : Fun X.prog X.w X.K X.mg X.base G.T G.k x pa ps j sem) (hb : BindsP pa ps) (C : Ctx X G W k) (hk : j ≤ k) (hgl : Gl X x) (ha : DF X G W e mf) (hl : 1 = ps.length := by rfl) (hdb : (x == ("__debug__" : Str)) = false := by decide)
    (he : starEach [e] X.env = (false, eval e X.env) :: starEach [] X.env := by rfl) (hpl : (backTo pos (starEach [] X.env)).any (·.1) = false := by rfl) : DV X G W (.Call (.Name x p) [e] [] pos) (mUser1F sem mf) := by
  obtain ⟨f, y, qual, bd, sc, kV, doc, pm, cdv, ct, an, hm, kp, _, Fp⟩ := Fn.ex
  refine ⟨⟨fun pins s σ H Q I ⟨F, ρ, R, hq⟩ => ?_⟩⟩
  refine wpAny_Call_Name_kw (ld_glob I hgl hm ?_ hdb)
  refine PySem.W.callWith_K (h₀ := X.base) I.ok.mod.kin kp (thn ((pa_cons ha.pe pa_nil he).run pos pins s σ H (fun vs H1 => ∃ p ws xs F1 ρ1, vs = [.ref p] ∧ Stp X G F H σ ρ F1 H1 ρ1 ∧ H p = none ∧ H1 p = some (.lst ws) ∧ F1 p = none ∧ DatAll F1 ws xs ∧ At X G W F H σ ρ ((M.lift (sem [.bor xs]).1) ρ1) _) I
    ⟨F, ρ, R, At.mono (At.bindM hq) (.refl R) fun xs ρ1 _ q => fun p ws H1 F1 st hn hp hF da => ⟨p, ws, xs, F1, ρ1, rfl, st, hn, hp, hF, da, q⟩⟩) fun us s1 ⟨vs, H1, I1, r, p, ws, xs, F1, ρ1, ev, st, hn, hp, hF, da, q⟩ => ⟨I1.kIn, ?_⟩) he hpl
  subst ev
  have hlu : us.length = ps.length := by rw [← r.length]; exact hl
  have hargs : ArgsOk X.prog X.w X.K X.mg X.base G.T G.k s1.heap H1 F1 [.ref p] [.bor xs] := fun i v sl hv hs => by
    cases i with
    | zero => cases hv; cases hs; exact ⟨rfl, p, ws, rfl, hp, hF, da⟩
    | succ i => cases hv
  have nb : ∀ q, borA [.ref p] [.bor xs] q → q = p := fun q ⟨h, _⟩ => by cases h; rfl
  have post : PostF G.T X.mg F1 H1 [.ref p] [.bor xs] (sem [.bor xs]) Q (WE W σ) := by
    unfold PostF
    have q : At X G W F H σ ρ ((sem [.bor xs]).1, ρ1) fun r ρ' => match r with
      | .d x => ∀ v H' F', Stp X G F H σ ρ F' H' ρ' → Dat F' v x → Q v H'
      | .l xs => ∀ p vs H' F', Stp X G F H σ ρ F' H' ρ' → H p = none → H' p = some (.lst vs) → F' p = none → DatAll F' vs xs → Q (.ref p) H' := q
    cases hs : (sem [.bor xs]).1 with
    | ok rv =>
      rw [hs] at q
      cases rv with
      | d x => exact fun v H2 F2 g dv _ => q v H2 F2 (st.skip R hn (g.more nb)) dv
      | l ys => exact fun p2 ws2 H2 F2 g hn2 hp2 hF2 da2 _ => q p2 ws2 H2 F2 (st.skip R hn (g.more nb)) (st.gr.there _ hn2) hp2 hF2 da2
    | exc c z => rw [hs] at q; exact fun cls dd H2 F2 g x _ => q cls dd H2 F2 (st.skip R hn (g.more nb)) x
    | bad => rw [hs] at q; exact q.elim
  show wpAny _ _ (PySem.call (.ref f) us) _ _ _
  refine wpAny_call (codeAny_mono (Fp.run X.A X.stack s1 H1 F1 ⟨us, []⟩ us [.ref p] [.bor xs] Q (WE W σ) (C.room.mono hk) C.gd I1.env0 (.of_eq (hb _ _ _ _ _ _ _ _ _ _ us hlu)) r hl hl st.rep.noT st.rep.sub st.rep.tabs hargs post) fun r s' hq => ?_)
  cases r with
  | error e => exact passAt C.tk σ pins H1 s1 e s' I1 hq
  | ok fl =>
    cases fl with
    | ret u => exact I1.after hq
    | next => exact False.elim hq
    | brk => exact False.elim hq
    | cont => exact False.elim hq
end
end
end
end DL

end
section
set_option maxRecDepth 100000
set_option maxHeartbeats 2000000
/-! Functions made within a body. -/
namespace DL
noncomputable section
open PySem PySem.Spec L2 LamX NdefX
open PyProof.Rows hiding St
def capSl : Cap → Slot
  | .no => .emp
  | .d x => .dat x
  | .f g => .fn g
def rsD : Rs RV → Rs D
  | .ok (.d x) => .ok x
  | .ok (.l xs) => .ok (.list xs)
  | .exc c p => .exc c p
  | .bad => .bad
/-- the slots at the entry of a function made within a body -/
def nestE (n np : Nat) (caps : List Cap) (ds : List D) : Env' := ds.map .dat ++ (caps.map capSl ++ List.replicate (n - np - caps.length) .emp)
def nestR (n np : Nat) (m : MS) : List Cap → List D → Rs D := fun caps ds => if ds.length = np then rsD (rvOf (m (nestE n np caps ds)).1) else .bad
/-- .. of a lambda -/
def lamR (n np : Nat) (m : M D) : List Cap → List D → Rs D := fun caps ds => if ds.length = np then (m (nestE n np caps ds)).1 else .bad
section
variable {P : Program} {w : World} {K : PySem.W.Frag} {mg : Str → Option Value} {base : Heap} {T : List NTab}
theorem CellsAt.keep {cl : List (Str × Addr)} {fr : List Str} {ws : List (Option V)} {h h' : Heap} {H H' : Hp} (C : CellsAt cl fr ws h H) (k : KeptC h H h' H') : CellsAt cl fr ws h' H' := by
  refine ⟨C.len, fun y c e => ?_, C.inj, fun i y e => ?_⟩
  · obtain ⟨n, v, z⟩ := C.all y c e
    obtain ⟨z', n'⟩ := k c v z n
    exact ⟨n', v, z'⟩
  · obtain ⟨c, hc, hv⟩ := C.has i y e
    refine ⟨c, hc, fun v ev => ?_⟩
    obtain ⟨u, r, z⟩ := hv v ev
    exact ⟨u, r, (k c _ z (C.all y c hc).1).1⟩
/-- the entry of a function made within a body -/
theorem rep_nest {X : Cx} {G : Gh} {H F : Hp} {N ps fr : List Str} {vs : List V} {ws : List (Option V)} {ds : List D} {caps : List Cap} (hps : ps.length + fr.length ≤ N.length) (hl : vs.length = ps.length) (hw : ws.length = fr.length) (hcl : caps.length = fr.length) (eF : Ex F H) (hT : TabsN G.T H) (gF : G.F0 = F) (gH : G.H0 = H) (gn : G.nf = false) (da : DatAll F vs ds)
    (hc : ∀ (a : Nat) (c : Cap), caps[a]? = some c → match c with
      | .no => True
      | .d d => ∃ v, ws[a]? = some (some v) ∧ Dat F v d
      | .f g => ∃ f, ws[a]? = some (some (.ref f)) ∧ FnAt X.prog X.w X.K X.mg X.base G.T G.k X.s_0.heap X.H_0 F f g) : Rep X G F H (startF N vs ws) (nestE N.length ps.length caps ds) := by
  have hld := da.length
  refine ⟨by rw [gF, gH]; exact .refl eF hT, ?_, fun i sl h => ?_, fun a b s1 s2 p hab h1 h2 o1 o2 _ _ => ?_⟩
  · unfold nestE startF
    simp only [List.length_append, List.length_map, List.length_replicate]
    omega
  · unfold nestE at h
    by_cases h1 : i < ds.length
    · rw [List.getElem?_append_left (by simpa using h1), List.getElem?_map] at h
      cases hd : ds[i]? with
      | none => rw [hd] at h; cases h
      | some d =>
        rw [hd] at h; cases h
        obtain ⟨v, hv, dv⟩ := da.get hd
        refine ⟨v, ?_, dv⟩
        unfold startF
        rw [List.getElem?_append_left (by rw [List.length_map, hld]; exact h1), List.getElem?_map, hv]; rfl
    · rw [List.getElem?_append_right (by rw [List.length_map]; omega), List.length_map] at h
      by_cases h2 : i - ds.length < caps.length
      · rw [List.getElem?_append_left (by rw [List.length_map]; exact h2), List.getElem?_map] at h
        cases hd : caps[i - ds.length]? with
        | none => rw [hd] at h; cases h
        | some c =>
          rw [hd] at h; cases h
          have o := hc _ c hd
          have at_ : ∀ {v : V}, ws[i - ds.length]? = some (some v) → (startF N vs ws)[i]? = some (some v) := fun {v} e => by
            unfold startF
            rw [List.getElem?_append_right (by rw [List.length_map, hld]; omega), List.length_map, hld, List.getElem?_append_left (by rw [hw, ← hcl]; exact h2)]
            exact e
          cases c with
          | no => trivial
          | d d => obtain ⟨v, e, dv⟩ := o; exact ⟨v, at_ e, dv⟩
          | f g => obtain ⟨f, e, a⟩ := o; exact ⟨gn, f, at_ e, a⟩
      · rw [List.getElem?_append_right (by rw [List.length_map]; omega), List.getElem?_replicate] at h
        split at h
        · cases h; trivial
        · cases h
  · have z : ∀ {i : Nat} {sl : Slot}, (nestE N.length ps.length caps ds)[i]? = some sl → sl.isOwn = true → False := fun {i sl} h ho => by
      have hm := List.mem_of_getElem? h
      unfold nestE at hm
      rcases List.mem_append.mp hm with hm | hm
      · obtain ⟨d, _, rfl⟩ := List.mem_map.mp hm; cases ho
      · rcases List.mem_append.mp hm with hm | hm
        · obtain ⟨c, _, rfl⟩ := List.mem_map.mp hm; cases c <;> cases ho
        · obtain ⟨_, rfl⟩ := List.mem_replicate.mp hm; cases ho
    exact z h1 o1
/-- the ground of a function made within a body -/
def nestG (T : List NTab) (kf : Nat) (F H : Hp) (nt : NoT F) : Gh := ⟨T, [], F, H, (fun _ h => nomatch h), nt, kf, false⟩
theorem no_of_nil {F H F' H' F0 H0 : Hp} {B : List (Nat × Addr)} (hB : B = []) (g : Grow T (fun p => ∃ i, (i, p) ∈ B) F H F' H') : Grow T No F H F' H' := g.more fun p ⟨i, h⟩ => by rw [hB] at h; cases h
theorem nest_end {X : Cx} {G : Gh} {H F : Hp} {r : Rs Fl × Env'} {Q : VK} {E : XK} (gF : G.F0 = F) (gH : G.H0 = H) (gB : G.B = []) (post : Post G.T X.mg F H (rsD (rvOf r.1)) Q E) :
    AtS X G (fun cls d _ H => E cls d H) F { nx := fun _ H' => Q .non H', rt := Q } r := by
  have grow : ∀ {F' H' : Hp} {σ' : L2.St} {ρ' : Env'}, Rep X G F' H' σ' ρ' → Grow G.T No F H F' H' := fun {F' H' σ' ρ'} R => by
    have g := R.gr
    rw [gF, gH, gB] at g
    exact g.more fun p ⟨i, h⟩ => nomatch h
  obtain ⟨r, ρ'⟩ := r
  cases r with
  | ok fl =>
    cases fl with
    | nx => exact fun σ' H' F' _ R => post .non H' F' (grow R) .non
    | rt d => exact fun v σ' H' F' _ R dv => post v H' F' (grow R) dv
    | rtF xs =>
      refine fun p ws σ' H' F' _ R hn hp hF da => ?_
      have g := grow R
      have e : Ex F' (upd F' p (.lst ws)) := fun b o q => by rw [upd_ne (ne_of_none q hF)]; exact q
      refine post (.ref p) H' (upd F' p (.lst ws)) ⟨g.f.trans e, fun b o q => ?_, fun b q => ?_, g.old, g.there, g.tabs, fun b ps q => ?_⟩ (.lst upd_same (da.mono e))
      · by_cases hb : b = p
        · subst hb; rw [upd_same] at q; cases q; exact hp
        · rw [upd_ne hb] at q; exact g.s b o q
      · by_cases hb : b = p
        · subst hb; exact .inr (.inl (notL (by rw [← gH]; exact hn)))
        · rw [upd_ne hb]; exact g.nf b q
      · by_cases hb : b = p
        · subst hb; rw [upd_same] at q; cases q
        · rw [upd_ne hb] at q; exact g.nt b ps q
    | bk => exact post.elim
    | ct => exact post.elim
  | exc c p => exact fun cls dd σ' H' F' _ R x => post cls dd H' F' (grow R) x
  | bad => exact post.elim
section
variable {N ps fr : List Str} {Fn : NF} {f : Addr} {k : Nat}
theorem run_nest {A : Around} {outer : List Env} {s : Shared} {H : Hp} {us : List Value} {vs : List V} {ws : List (Option V)} {Q : VK} {E : XK} (S : NScope N ps fr Fn.scope) (hb : ∀ (doc pm ctv : Value) (us : List Value), us.length = ps.length → bindArgs (Fn.fd doc pm ctv) ⟨us, []⟩ = pure (ps.zip us))
    (hr : Room (k + 1) A) (e0 : Env0 P w K mg base A outer s H) (hf : H f = some (FnO f Fn)) (hc : H Fn.c = some (CodeO Fn.c Fn.qual)) (C : CellsAt Fn.cl fr ws s.heap H) (r : Vals vs us) (hl : vs.length = ps.length)
    (hbody : Room k (A.deeper (envF Fn f s.heap.objs.size)) → ∃ t, PSs (ncx (L2.CX P w) P w K mg base N Fn f A outer s H E) Fn.body t ∧ t { nx := fun _ H' => Q .non H', rt := Q } (startF N vs ws) H) :
    codeAny (model P w) A (.call (.ref f) ⟨us, []⟩) (CR (L2.CX P w) outer P w H s Q E) s := by
  have lim : s.heap.NoLimit := e0.mod.nolimit.keeps fun b o e => (e0.bs b o e).1
  obtain ⟨od, sl, doc, pm, ctv, ho⟩ := fnO_at e0.hok hf
  refine codeAny_call_function hr.depth ho rfl S.co S.gen rfl (codeO_at e0.hok hc) ?_
  rw [hb doc pm ctv us (by rw [← r.length]; exact hl)]
  refine wpAny_pure (wpAny_newFunctionEnv S.nocell (fun ⟨n, _⟩ hy => S.par n (List.of_mem_zip hy).1) (fun h₁ hns hsb => ⟨lim.fresh _ hsb, ?_⟩) S.kind)
  show codeAny _ _ (.func Fn.body (envF Fn f s.heap.objs.size)) _ _
  refine codeAny_func ?_
  have kp : ∀ b o, s.heap.get? b = some o → h₁.get? b = some o := fun b o e => hsb.extBut b o (Nat.ne_of_lt (Heap.lt_size e)) (Heap.get?_push_of_some _ e)
  obtain ⟨t, ht, hq⟩ := hbody (hr.deeper _)
  have I : Inv (ncx (L2.CX P w) P w K mg base N Fn f A outer s H E) [] (startF N vs ws) H { s with heap := h₁, toks := s.toks + (ps.zip us).length } := inv_startN S hr.hd e0 hl r C hns kp
  refine wpAny_mono (ht.run [] _ (startF N vs ws) H _ I hq) (fun fl s' hs => ?_) fun e s' hs => hs
  have fin : ∀ {σ' : L2.St} {H' : Hp} {v : V} {u : Value}, Inv (ncx (L2.CX P w) P w K mg base N Fn f A outer s H E) [] σ' H' s' → L2.RelV v u → Q v H' → CE outer P w H s Q u s' :=
    fun {σ' H' v u} J rv q => ⟨v, H', J.os, J.bare, J.base, J.hok, rv, q⟩
  cases fl with
  | ret u => obtain ⟨v, σ', H', J, rv, q⟩ := hs; exact fin J rv q
  | next => obtain ⟨σ', H', J, q⟩ := hs; exact fin (v := V.non) (u := Value.none) J rfl q
  | brk => obtain ⟨_, _, _, q⟩ := hs; exact False.elim q
  | cont => obtain ⟨_, _, _, q⟩ := hs; exact False.elim q
end
end
section
variable {X : Cx} {G : Gh} {W : WX} {pins : List (Addr × Obj)} {σ : L2.St} {H F : Hp} {s : Shared} {ρ : Env'} {E : Ends}
/-- how the maker's captured slots give the cells' values -/
theorem caps_at {js : List Nat} {σ' : L2.St} {a j : Nat} {v : V} (h : js[a]? = some j) (e : σ'[j]? = some (some v)) : (js.map (slotAt σ'))[a]? = some (some v) := by
  rw [List.getElem?_map, h]
  show some (slotAt σ' j) = _
  rw [slotAt_of e]
theorem clo_ndef {N ps fr : List Str} {js : List Nat} {f : Addr} {F1 : Hp} {Fn : NF} {m : MS} {k : Nat} (hcl : Fn.cl = cloFrom X.env.cells Fn.scope.names []) (hF : F1 f = some (FnO f Fn)) (hC : F1 Fn.c = some (CodeO Fn.c Fn.qual)) (S : NScope N ps fr Fn.scope)
    (hb : ∀ (doc pm ctv : Value) (us : List Value), us.length = ps.length → bindArgs (Fn.fd doc pm ctv) ⟨us, []⟩ = pure (ps.zip us)) (hnd : ndefB X.env.scope Fn.scope fr = true) (hjs : js.map (fun j => X.N[j]?) = fr.map some) (hk : k + 1 ≤ G.k)
    (hbody : ∀ (A : Around) (outer : List Env) (s : Shared) (H : Hp) (E : XK) (G' : Gh), Room k (A.deeper (envF Fn f s.heap.objs.size)) → A.guards = some [] → G'.T = G.T → G'.k = G.k → G'.nf = false → DSs (ncx (L2.CX X.prog X.w) X.prog X.w X.K X.mg X.base N Fn f A outer s H E) G' (fun cls d _ H => E cls d H) Fn.body m) :
    CloAt X G F1 f js (nestR N.length ps.length m) := by
  intro pins s σ' H' F' caps I nt e1 e2 hT hlc hcap
  have cp : Caps X Fn.cl fr js := by rw [hcl]; exact Caps.made I.ok (ndef_free hnd) (ndef_fr hnd) hjs
  have C := cells_of I cp
  have hjl : js.length = fr.length := by
    have q := congrArg List.length hjs
    rwa [List.length_map, List.length_map] at q
  refine ⟨fun A outer s'' H'' F'' e0 x1 x2 kc => ?_, fun A outer s'' H'' F'' us vs ds Q E hr hg e0 nt2 x1 x2 kc hT2 r da post => ?_⟩
  · obtain ⟨od, sl, doc, pm, ctv, ho⟩ := fnO_at e0.hok (x2 _ _ (x1 _ _ (e1 _ _ hF)))
    exact ⟨_, od, _, sl, ho⟩
  · unfold nestR at post
    by_cases hl : ds.length = ps.length
    · rw [if_pos hl] at post
      have hlv : vs.length = ps.length := da.length.trans hl
      refine run_nest (k := k) S hb (hr.mono hk) e0 (x2 _ _ (x1 _ _ (e1 _ _ hF))) (x2 _ _ (x1 _ _ (e1 _ _ hC))) (DL.CellsAt.keep C kc) r hlv fun hr2 => ?_
      refine ⟨_, (hbody A outer s'' H'' E (nestG G.T G.k F'' H'' nt2) hr2 hg rfl rfl rfl).ps, F'', _, ?_, nest_end (G := nestG G.T G.k F'' H'' nt2) (X := ncx (L2.CX X.prog X.w) X.prog X.w X.K X.mg X.base N Fn f A outer s'' H'' E) rfl rfl rfl post⟩
      have hpl : ps.length + fr.length ≤ N.length := by
        have q := congrArg List.length S.pre
        rw [List.length_take, List.length_append] at q
        omega
      refine rep_nest (G := nestG G.T G.k F'' H'' nt2) (X := ncx (L2.CX X.prog X.w) X.prog X.w X.K X.mg X.base N Fn f A outer s'' H'' E) hpl hlv (by rw [List.length_map]; exact hjl) (hlc.trans hjl) x2 hT2 rfl rfl rfl da fun a c hac => ?_
      have haj : a < js.length := by rw [← hlc]; exact (List.getElem?_eq_some_iff.mp hac).1
      have hj : js[a]? = some js[a] := List.getElem?_eq_getElem haj
      have o := hcap a _ c hj hac
      cases c with
      | no => trivial
      | d d => obtain ⟨v, e, dv⟩ := o; exact ⟨v, caps_at hj e, dv.mono x1⟩
      | f g => obtain ⟨f, e, at_⟩ := o; exact ⟨f, caps_at hj e, at_.later x1 kc⟩
    · rw [if_neg hl] at post; exact post.elim
theorem Rep.storeAny {i : Nat} {v : V} {sl : Slot} (R : Rep X G F H σ ρ) (o : ∀ σ' : L2.St, σ'[i]? = some (some v) → SlOk X G F H σ' i sl) (no : sl.isOwn = false) : Rep X G F H (σ.set i (some v)) (ρ.set i sl) := by
  refine ⟨R.gr, by rw [List.length_set, List.length_set]; exact R.len, fun j s' hj => ?_, fun a b s1 s2 q hab ha hb o1 o2 h1 h2 => ?_⟩
  · rcases getset hj with ⟨rfl, rfl⟩ | ⟨ne, hj⟩
    · have hlt : i < σ.length := by
        have := (List.getElem?_eq_some_iff.mp hj).1
        rw [List.length_set, R.len] at this
        exact this
      exact o _ (List.getElem?_set_self hlt)
    · exact (R.ok j s' hj).at (List.getElem?_set_ne ne)
  · rcases getset ha with ⟨rfl, rfl⟩ | ⟨ne, ha⟩
    · rw [no] at o1; cases o1
    · rcases getset hb with ⟨rfl, rfl⟩ | ⟨ne2, hb⟩
      · rw [no] at o2; cases o2
      · rw [List.getElem?_set_ne ne] at h1
        rw [List.getElem?_set_ne ne2] at h2
        exact R.apart a b s1 s2 q hab ha hb o1 o2 h1 h2
/-- the frozen part with a new function and its code object -/
def frzF (F H1 : Hp) (f c : Addr) : Hp := fun b => if b = f then H1 f else if b = c then H1 c else F b
theorem make_grow {f c : Addr} {H1 : Hp} {O C : HO} (eF : Ex F H) (nt : NoT F) (eN : ExtN H H1) (nn : ∀ b, H1 b = none → H b = none) (T1 : TabsN G.T H1) (f0 : H f = none) (f1 : H1 f = some O) (c1 : H1 c = some C) (hO : ∀ ps, O ≠ .tbl ps) (hC : ∀ ps, C ≠ .tbl ps) (hCl : ∀ xs, C ≠ .lst xs) :
    Grow G.T No F H (frzF F H1 f c) H1 := by
  have atf : frzF F H1 f c f = H1 f := if_pos rfl
  have atc : c ≠ f → frzF F H1 f c c = H1 c := fun h => by unfold frzF; rw [if_neg h, if_pos rfl]
  have atb : ∀ {b}, b ≠ f → b ≠ c → frzF F H1 f c b = F b := fun {b} h1 h2 => by unfold frzF; rw [if_neg h1, if_neg h2]
  have look : ∀ b, (b = f ∧ frzF F H1 f c b = some O) ∨ (b = c ∧ frzF F H1 f c b = some C) ∨ (b ≠ f ∧ b ≠ c ∧ frzF F H1 f c b = F b) := fun b => by
    by_cases h1 : b = f
    · subst h1; exact .inl ⟨rfl, atf.trans f1⟩
    · by_cases h2 : b = c
      · subst h2; exact .inr (.inl ⟨rfl, (atc h1).trans c1⟩)
      · exact .inr (.inr ⟨h1, h2, atb h1 h2⟩)
  refine ⟨fun b o q => ?_, fun b o q => ?_, fun b q => ?_, fun b o q _ n => eN b o q n, nn, T1, fun b ps q => ?_⟩
  · rcases look b with ⟨rfl, e⟩ | ⟨rfl, e⟩ | ⟨_, _, e⟩
    · rw [eF _ _ q] at f0; cases f0
    · have z := eN b o (eF _ _ q) fun ps z => nt b ps (by rw [q, z])
      rw [z] at c1; cases c1
      exact e
    · rw [e]; exact q
  · rcases look b with ⟨rfl, e⟩ | ⟨rfl, e⟩ | ⟨_, _, e⟩
    · rw [e] at q; rw [f1]; exact q
    · rw [e] at q; rw [c1]; exact q
    · rw [e] at q
      exact eN b o (eF _ _ q) fun ps z => nt b ps (by rw [q, z])
  · rcases look b with ⟨rfl, e⟩ | ⟨rfl, e⟩ | ⟨_, _, e⟩
    · exact .inr (.inl (notL f0))
    · refine .inr (.inl fun xs z => ?_)
      have z2 := eN b _ z (by intro ps w; cases w)
      rw [c1] at z2
      exact hCl xs (Option.some.inj z2)
    · exact .inl (e.trans q)
  · rcases look b with ⟨rfl, e⟩ | ⟨rfl, e⟩ | ⟨_, _, e⟩
    · rw [e] at q; exact absurd (Option.some.inj q) (hO ps)
    · rw [e] at q; exact absurd (Option.some.inj q) (hC ps)
    · rw [e] at q; exact q
theorem frzF_f {f c : Addr} {H1 : Hp} : frzF F H1 f c f = H1 f := if_pos rfl
theorem frzF_c {f c : Addr} {H1 : Hp} : frzF F H1 f c c = H1 c := by
  unfold frzF
  by_cases h : c = f
  · rw [if_pos h, h]
  · rw [if_neg h, if_pos rfl]
theorem codeO_nl {c : Addr} {q : Str} (xs : List V) : CodeO c q ≠ .lst xs := fun z => by
  unfold CodeO at z
  cases z
/-- a def within a body: the slot i holds it -/
theorem DS.ndef {st : Stmt} {nm : Nat → Nat → Str} {c P : Addr} {name : Str} {pos : Pos} {i k : Nat} {N ps fr : List Str} {js : List Nat} {m : MS} (hst : st = .FunctionDef name (C8.fnArgs st) (C8.fnBody st) [] none [] (C8.fnScope st) none name pos) (TB : TabB X.base X.mg c P) (hcode : X.env.code = .ref c) (hm : (P, nm) ∈ G.T) (hn : nm pos.line pos.col = X.env.qual ++ name)
    (hu : ∀ p ∈ G.T, p.1 = P → p.2 = nm) (hd0 : (C8.fnArgs st).defaults = []) (hk0 : (C8.fnArgs st).kw_defaults = []) (ha : annTrees (C8.fnArgs st) none X.env = []) (hN : X.N.Nodup) (hi : X.N[i]? = some name) (hx : Loc X.env.scope name) (hf : X.fn name = true ∨ X.env.scope.names.lookup name = some .local)
    (S : NScope N ps fr (C8.fnScope st)) (hb : ∀ (cl : List (Str × Addr)) (c' : Addr) (doc pm ctv : Value) (us : List Value), us.length = ps.length → bindArgs ((NF.of st name (X.env.qual ++ name) cl c').fd doc pm ctv) ⟨us, []⟩ = pure (ps.zip us)) (hnd : ndefB X.env.scope (C8.fnScope st) fr = true) (hjs : js.map (fun j => X.N[j]?) = fr.map some) (hk : k + 1 ≤ G.k) (nf : G.nf = false)
    (hbody : ∀ (f c' : Addr) (cl : List (Str × Addr)) (A : Around) (outer : List Env) (s : Shared) (H : Hp) (E : XK) (G' : Gh), Room k (A.deeper (envF (NF.of st name (X.env.qual ++ name) cl c') f s.heap.objs.size)) → A.guards = some [] → G'.T = G.T → G'.k = G.k → G'.nf = false → DSs (ncx (L2.CX X.prog X.w) X.prog X.w X.K X.mg X.base N (NF.of st name (X.env.qual ++ name) cl c') f A outer s H E) G' (fun cls d _ H => E cls d H) (C8.fnBody st) m) :
    DS X G W st (put i (.clo js (nestR N.length ps.length m))) :=
  ⟨PS.imp (ps_ndefMS hst TB hcode hm hn hu (ndef_free hnd) hd0 hk0 ha hN hi hx hf) fun E σ H ⟨F, ρ, R, hq⟩ => ⟨R.tabs, fun f c' H1 eN nn T1 f0 f1 c1 => by
    have g := make_grow (G := G) (F := F) R.sub R.noT eN nn T1 f0 f1 c1 (fun ps => fnO_ne ps) (fun ps => codeO_ne ps) (fun xs => codeO_nl xs)
    refine hq _ H1 _ g.f (Rep.storeAny (R.grow g) (fun σ' e => ⟨nf, f, e, ?_⟩) rfl)
    exact clo_ndef (Fn := NF.of st name (X.env.qual ++ name) (cloFrom X.env.cells (C8.fnScope st).names []) c') rfl (frzF_f.trans f1) (frzF_c.trans c1) S (fun doc pm ctv us => hb _ c' doc pm ctv us) hnd hjs hk (fun A outer s H E G' => hbody f c' _ A outer s H E G')⟩⟩
end
end
end DL

end
section
set_option maxRecDepth 100000
set_option maxHeartbeats 2000000
/-! More built-ins. -/
namespace DL
noncomputable section
open PySem PySem.Spec L2 LamX NdefX
open PyProof.Rows hiding St
section
variable {X : Cx} {G : Gh} {W : WX} {pins : List (Addr × Obj)} {σ : L2.St} {H F : Hp} {s : Shared} {ρ : Env'} {E : Ends}
/-! ### the script -/
def mScr (i : Nat) : M (List Int) := fun ρ => match ρ[i]? with
  | some (.scr ns) => (.ok ns, ρ)
  | _ => (.bad, ρ)
theorem Rep.scr {i : Nat} {k : List Int → Env' → Prop} {ρ0 : Env'} {H0 F0 : Hp} (R : Rep X G F H σ ρ) (h : At X G W F0 H0 σ ρ0 (mScr i ρ) k) : ∃ p ns, σ[i]? = some (some (.ref p)) ∧ (∀ H', Ex F H' → SqL X.K H' p (ns.map V.int)) ∧ k ns ρ := by
  unfold mScr at h
  cases e : ρ[i]? with
  | none => rw [e] at h; exact h.elim
  | some sl =>
    rw [e] at h
    cases sl with
    | scr ns =>
      obtain ⟨p, hσ, q⟩ := R.ok i _ e
      refine ⟨p, ns, hσ, fun H' eF => ?_, h⟩
      rcases q with q | q
      · rcases q with q | ⟨o, q⟩
        · exact .inl (.inl (eF _ _ q))
        · exact .inl (.inr ⟨o, eF _ _ q⟩)
      · exact q H'
    | _ => exact h.elim
section
variable {i : Nat} {x : Str} {p pos p2 : Pos}
theorem dat_ints (ns : List Int) : DatAll F (ns.map V.int) (ns.map PyData.int) := DatAll.ints ns
def mScrSl (i : Nat) (ml mh : M (Option Int)) : M (List D) := (mScr i).bind fun ns => ml.bind fun l => mh.bind fun h => .ret (cutD (ns.map PyData.int) l h)
theorem DF.scrSl {lo hi : Option Expr} {ml mh : M (Option Int)} (hN : X.N[i]? = some x) (hv : Vis X.env.scope x) (hl : DO' X G W lo ml) (hh : DO' X G W hi mh) (hd : (x == ("__debug__" : Str)) = false := by decide) (hcd : (x == ("__classdict__" : Str)) = false := by decide) :
    DF X G W (.Subscript (.Name x p) (.Slice lo hi none p2) pos) (mScrSl i ml mh) :=
  ⟨PE.imp (pe_slice sl_list (pe_var (pos := p) hN hv hd hcd) hl.po hh.po) fun σ H Q ⟨F, ρ, R, hq⟩ => by
    obtain ⟨a, ns, hσ, hs, q1⟩ := R.scr (At.bindM hq)
    refine ⟨.ref a, hσ, ro_step (.refl R) q1 fun l ρ1 H1 F1 st q2 => ro_step st q2 fun h ρ2 H2 F2 st2 q3 => ?_⟩
    have st3 := st.trans st2
    exact ⟨a, ns.map V.int, rfl, hs H2 fun b o z => st3.rep.sub b o (st3.f b o z), fun p hp => st3.alloc R hp ((dat_ints ns).cut l h) q3⟩⟩
def mScrIx (i : Nat) (mb : M D) : M D := (mScr i).bind fun ns => mb.bind fun k => match k with
  | .int k => match atI ns k with
    | some n => .ret (.int n)
    | none => .fail
  | _ => .fail
theorem atI_map {α β : Type} (f : α → β) (l : List α) (k : Int) : atI (l.map f) k = (atI l k).map f := by
  unfold L2.atI
  rw [List.length_map]
  cases ixN l.length k with
  | none => rfl
  | some j => exact List.getElem?_map
theorem DE.scrIx {b : Expr} {mb : M D} (hN : X.N[i]? = some x) (hv : Vis X.env.scope x) (hb : DE X G W b mb) (hs : PlainIx b) (hd : (x == ("__debug__" : Str)) = false := by decide) (hcd : (x == ("__classdict__" : Str)) = false := by decide) :
    DE X G W (.Subscript (.Name x p) b pos) (mScrIx i mb) :=
  ⟨PE.imp (pe_ix ix_list (pe_var (pos := p) hN hv hd hcd) hb.pe hs) fun σ H Q ⟨F, ρ, R, hq⟩ => by
    obtain ⟨a, ns, hσ, hs, q1⟩ := R.scr (At.bindM hq)
    refine ⟨.ref a, hσ, rd_step (.refl R) q1 fun d ρ1 v H1 F1 st dv q2 => ?_⟩
    cases d with
    | int k =>
      cases dv
      cases e : atI ns k with
      | none => simp only [e] at q2; exact q2.elim
      | some n =>
        simp only [e] at q2
        refine ⟨a, ns.map V.int, k, .int n, rfl, rfl, hs H1 fun b o z => st.rep.sub b o (st.f b o z), by rw [atI_map, e]; rfl, q2 _ H1 F1 st (.int n)⟩
    | _ => exact q2.elim⟩
def mScrLen (i : Nat) : M D := (mScr i).bind fun ns => .ret (.int ns.length)
theorem DE.scrLen {y : Str} {py : Pos} (hg : Gl X "len") (hm : X.mg "len" = none) (hN : X.N[i]? = some y) (hvi : Vis X.env.scope y) (hd : (y == ("__debug__" : Str)) = false := by decide) (hcd : (y == ("__classdict__" : Str)) = false := by decide) : DE X G W (.Call (.Name "len" p) [.Name y py] [] pos) (mScrLen i) :=
  ⟨PE.imp (pe_callB call_len_seq hg hm (by decide +kernel) (pa_cons (pe_var hN hvi hd hcd) pa_nil) (by decide) (by decide)) fun σ H Q ⟨F, ρ, R, hq⟩ => by
    obtain ⟨a, ns, hσ, hs, q1⟩ := R.scr (At.bindM hq)
    exact ⟨.ref a, hσ, a, ns.map V.int, rfl, .inl (hs H R.sub), by rw [List.length_map]; exact q1 _ H F (.refl R) (.int _)⟩⟩
/-! ### in, not in, a list of one's own -/
def mInW (neg : Bool) (ma : M D) (i : Nat) : M D := ma.bind fun x => (mPeek i).bind fun xs => .lift ((if neg then pNotIn else pIn) x (.list xs)).pure?
end
/-! ### max, min of the items -/
def alikeB (xs : List D) : Bool := xs.all (fun x => xs.all fun y => PySem.W.alike x y) && xs.all fun x => match x with
  | .none => false
  | _ => true
theorem alikeB_ok {xs : List D} (h : alikeB xs = true) : PySem.W.AlikeAll xs := by
  unfold alikeB at h
  rw [Bool.and_eq_true] at h
  refine ⟨fun x hx y hy => List.all_eq_true.mp (List.all_eq_true.mp h.1 x hx) y hy, fun x hx e => ?_⟩
  have := List.all_eq_true.mp h.2 x hx
  rw [e] at this
  cases this
def qMax (xs : List D) : Rs D := match xs with
  | [] => .bad
  | x :: r => grd (alikeB xs = true ∧ PyData.depthAll xs < 60) (.ok (PySem.W.maxD x r))
def qMin (xs : List D) : Rs D := match xs with
  | [] => .bad
  | x :: r => grd (alikeB xs = true ∧ PyData.depthAll xs < 60) (.ok (PySem.W.minD x r))
theorem fold_mem (f : D → D → Bool) : ∀ (xs : List D) (x : D), xs.foldl (fun a y => if f y a then y else a) x ∈ x :: xs
  | [], x => by simp
  | y :: r, x => by
    rw [List.foldl_cons]
    have := fold_mem f r (if f y x then y else x)
    rcases List.mem_cons.mp this with e | e
    · rw [e]
      by_cases h : f y x = true
      · rw [if_pos h]; simp
      · rw [if_neg h]; simp
    · simp [e]
theorem fold_mem2 (f : D → D → Bool) : ∀ (xs : List D) (x : D), xs.foldl (fun a y => if f a y then y else a) x ∈ x :: xs
  | [], x => by simp
  | y :: r, x => by
    rw [List.foldl_cons]
    have := fold_mem2 f r (if f x y then y else x)
    rcases List.mem_cons.mp this with e | e
    · rw [e]
      by_cases h : f x y = true
      · rw [if_pos h]; simp
      · rw [if_neg h]; simp
    · simp [e]
/-- the value found is a datum of the list -/
theorem pick_dat {I0 : Inv X pins σ H s} {vs : List V} {its : List Value} {ds as bs : List _} {i : Nat} {v : Value} {z : D} {h' : Heap} (eF : Ex F H) (da : DatAll F vs ds) (rv : Vals vs its) (hv : its[i]? = some v) (hz : z ∈ ds) (hal : ∀ x ∈ ds, ∀ y ∈ ds, PySem.W.alike x y = true) (hr : ReadsAll s.heap its ds as)
    (kp : ∀ b o, s.heap.get? b = some o → h'.get? b = some o) (hz' : Reads h' v z bs) : ∃ x, L2.RelV x v ∧ Dat F x z := by
  have hi : i < its.length := (List.getElem?_eq_some_iff.mp hv).1
  have hi' : i < vs.length := by rw [rv.length]; exact hi
  have hx : vs[i]? = some (vs[i]'hi') := List.getElem?_eq_getElem hi'
  obtain ⟨u, hu, ru⟩ := rv.get hx
  rw [hv] at hu; cases hu
  obtain ⟨d, hd, dd⟩ := da.getV hx
  obtain ⟨bs2, r2, h1, h2, _⟩ := PySem.W.readsAll_at hr i v hv
  have ed : ds.getD i .none = d := by rw [List.getD_eq_getElem?_getD, hd]; rfl
  rw [ed] at r2
  have := PySem.W.alike_unique d z v _ _ (hal d (List.mem_of_getElem? hd) z hz) (PySem.W.reads_keeps kp r2) hz'
  rw [← this]
  exact ⟨_, ru, dd⟩
theorem alike_all {xs : List D} (h : alikeB xs = true) : ∀ x ∈ xs, ∀ y ∈ xs, PySem.W.alike x y = true := (alikeB_ok h).1
section
variable {T : List NTab}
theorem lw_max (hc : X.calm = true) (hu : X.A.units + 64 < cLine) : ListW X T (.builtin "max") qMax := by
  intro pins s σ H F a vs xs z Q I eF hT h r hz q
  cases xs with
  | nil => cases hz
  | cons x xs =>
    obtain ⟨⟨ha, hd⟩, hz⟩ := grd_ok hz
    cases hz
    obtain ⟨its, rv, p, hl⟩ := I.list (SqL.of h)
    obtain ⟨as, hr⟩ := Dp.readsAll I (x :: xs) vs its (r.dp eF) rv
    refine PySem.W.max_list_data (I.ok.hd hc) p.isList (by simpa using hr) (alikeB_ok ha) (by omega) fun i v h' tk bs hv rd kp => ?_
    obtain ⟨w, rw', dw⟩ := pick_dat (I0 := I) eF r rv (by simpa using hv) (by unfold PySem.W.maxD; exact fold_mem (fun y a => PySem.W.dataLt a y) xs x) (alike_all ha) hr kp rd
    exact ⟨w, H, I.kept (t' := tk) kp, rw', q w H F (.refl eF hT) dw⟩
theorem tw_max (hc : X.calm = true) (hu : X.A.units + 64 < cLine) : TupW X T (.builtin "max") qMax := by
  intro pins s σ H F a vs xs z Q I eF hT h r hz q
  cases xs with
  | nil => cases hz
  | cons x xs =>
    obtain ⟨⟨ha, hd⟩, hz⟩ := grd_ok hz
    cases hz
    obtain ⟨its, rv, p, hl⟩ := I.tuple (h.sq eF)
    obtain ⟨as, hr⟩ := Dp.readsAll I (x :: xs) vs its (r.dp eF) rv
    refine PySem.W.max_tuple_data (I.ok.hd hc) (show s.heap.IsTuple a its.toArray from p) (by simpa using hr) (alikeB_ok ha) (by omega) fun i v h' tk bs hv rd kp => ?_
    obtain ⟨w, rw', dw⟩ := pick_dat (I0 := I) eF r rv (by simpa using hv) (by unfold PySem.W.maxD; exact fold_mem (fun y a => PySem.W.dataLt a y) xs x) (alike_all ha) hr kp rd
    exact ⟨w, H, I.kept (t' := tk) kp, rw', q w H F (.refl eF hT) dw⟩
theorem lw_min (hc : X.calm = true) (hu : X.A.units + 64 < cLine) : ListW X T (.builtin "min") qMin := by
  intro pins s σ H F a vs xs z Q I eF hT h r hz q
  cases xs with
  | nil => cases hz
  | cons x xs =>
    obtain ⟨⟨ha, hd⟩, hz⟩ := grd_ok hz
    cases hz
    obtain ⟨its, rv, p, hl⟩ := I.list (SqL.of h)
    obtain ⟨as, hr⟩ := Dp.readsAll I (x :: xs) vs its (r.dp eF) rv
    refine PySem.W.min_list_data (I.ok.hd hc) p.isList (by simpa using hr) (alikeB_ok ha) (by omega) fun i v h' tk bs hv rd kp => ?_
    obtain ⟨w, rw', dw⟩ := pick_dat (I0 := I) eF r rv (by simpa using hv) (by unfold PySem.W.minD; exact fold_mem (fun y a => PySem.W.dataLt y a) xs x) (alike_all ha) hr kp rd
    exact ⟨w, H, I.kept (t' := tk) kp, rw', q w H F (.refl eF hT) dw⟩
theorem tw_min (hc : X.calm = true) (hu : X.A.units + 64 < cLine) : TupW X T (.builtin "min") qMin := by
  intro pins s σ H F a vs xs z Q I eF hT h r hz q
  cases xs with
  | nil => cases hz
  | cons x xs =>
    obtain ⟨⟨ha, hd⟩, hz⟩ := grd_ok hz
    cases hz
    obtain ⟨its, rv, p, hl⟩ := I.tuple (h.sq eF)
    obtain ⟨as, hr⟩ := Dp.readsAll I (x :: xs) vs its (r.dp eF) rv
    refine PySem.W.min_tuple_data (I.ok.hd hc) (show s.heap.IsTuple a its.toArray from p) (by simpa using hr) (alikeB_ok ha) (by omega) fun i v h' tk bs hv rd kp => ?_
    obtain ⟨w, rw', dw⟩ := pick_dat (I0 := I) eF r rv (by simpa using hv) (by unfold PySem.W.minD; exact fold_mem (fun y a => PySem.W.dataLt y a) xs x) (alike_all ha) hr kp rd
    exact ⟨w, H, I.kept (t' := tk) kp, rw', q w H F (.refl eF hT) dw⟩
end
/-! ### xs[::-1] -/
theorem fm_congr {α β : Type} {f g : α → Option β} : ∀ {l : List α}, (∀ x ∈ l, f x = g x) → l.filterMap f = l.filterMap g
  | [], _ => rfl
  | a :: r, h => by
    rw [List.filterMap_cons, List.filterMap_cons, h a List.mem_cons_self, fm_congr fun x hx => h x (List.mem_cons_of_mem _ hx)]
theorem adjust_rev (n : Nat) : Builtin.Slice.sliceAdjust none none (-1) (n : Int) = ((n : Int) - 1, -1) := by
  unfold Builtin.Slice.sliceAdjust
  have h1 : ((-1 : Int) < 0) := by omega
  simp only [h1, if_true] <;> rfl
theorem places_rev (n : Nat) : Builtin.Slice.slicePlaces ((n : Int) - 1) (-1) (-1) = n := by
  unfold Builtin.Slice.slicePlaces
  have h1 : ¬ ((-1 : Int) > 0) := by omega
  have e : (- -1 : Int) = 1 := by decide
  simp only [h1, if_false, e, Int.ediv_one]
  split <;> omega
theorem getItem_tuple_rev {prog : Program} {w : World} {A : Around} {E : Value → Shared → Prop} {s : Shared} {t sl : Addr} {items : Array Value} {vl vu vs : Value} {Q : Value → Shared → Prop} (ht : IsTup s.heap t items) (hs : s.heap.IsSliceOf sl vl vu vs) (pl : IsPart vl none) (pu : IsPart vu none) (ps : IsPart vs (some (-1)))
    (h : Q (.ref s.heap.objs.size) { s with heap := s.heap.push { cls := .type "tuple", data := .seq items.toList.reverse.toArray } })
    (hsz : items.size ≤ sizeLine) : wpAny (model prog w) A (getItem (.ref t) (.ref sl)) Q E s := by
  have htake : sizeOk (.seq items.toList.reverse.toArray) := by
    show items.toList.reverse.toArray.size ≤ sizeLine
    rw [List.size_toArray, List.length_reverse, Array.length_toList]
    exact hsz
  obtain ⟨os, hos, hcs, hds⟩ := id hs
  have hTs : s.TypeIs (.ref sl) "slice" := ⟨os, hos, hcs⟩
  unfold getItem
  try with_reducible refine wpAny_holding ?_
  first | refine wpAny_bind (wpAny_pure ?_) | skip
  refine wpAny_bind (wpAny_sequenceKey ht.typeIs (by decide) ?_)
  refine wpAny_bind (wpAny_callSpecial?_slot (name := Str.ofString "__getitem__") ht.typeIs PyProof.Rows.slot_tuple_getitem
    (wpAny_call_entry PyProof.Rows.slot_tuple_getitem ht.typeIs entry_tuple_getitem ?_ (args_tuple_getitem _ _)))
  show wpAny _ _ (Builtin.Tuple.tupleItemsOf (.ref t) >>= _) _ _ s
  refine wpAny_bind (tupleItemsOf_ ht ?_)
  refine wpAny_bind (wpAny_typeOf hTs ?_)
  rw [if_pos (by decide)]
  have app : ∀ {Q' : Int × Int × Nat → Shared → Prop}, Q' ((items.size : Int) - 1, -1, items.size) s → wpAny (model prog w) A.in1 (Builtin.Slice.sliceApplied (.ref sl) (pure (items.size : Int))) Q' E s := fun {Q'} q => by
    unfold Builtin.Slice.sliceApplied Builtin.Slice.sliceFields
    refine wpAny_bind (wpAny_bind (wpAny_field hos hds (x := vl) rfl (wpAny_bind (wpAny_field hos hds (x := vu) rfl (wpAny_bind (wpAny_field hos hds (x := vs) rfl (wpAny_pure ?_)))))))
    refine wpAny_bind (HT.slicePart_ ps ?_)
    show wpAny _ _ (if ((-1 : Int) == 0) = true then _ else _) _ _ s
    rw [if_neg (by decide)]
    refine wpAny_bind (HT.slicePart_ pl (wpAny_bind (HT.slicePart_ pu (wpAny_bind (wpAny_pure ?_)))))
    show wpAny _ _ (match Builtin.Slice.sliceAdjust none none (-1) (items.size : Int) with | (lo, hi) => pure (lo, (-1 : Int), Builtin.Slice.slicePlaces lo hi (-1))) _ _ s
    rw [adjust_rev]
    show wpAny _ _ (pure ((items.size : Int) - 1, (-1 : Int), Builtin.Slice.slicePlaces ((items.size : Int) - 1) (-1) (-1))) _ _ s
    rw [places_rev]
    exact wpAny_pure q
  refine wpAny_bind (app ?_)
  have hno : ¬ ((((items.size : Int) - 1) == 0 && (-1 : Int) == 1 && items.size == items.size) = true) := by
    intro q
    rw [Bool.and_eq_true, Bool.and_eq_true] at q
    exact absurd q.1.2 (by decide)
  show wpAny _ _ (if (((items.size : Int) - 1) == 0 && (-1 : Int) == 1 && items.size == items.size) = true then _ else _) _ _ s
  have e : ((List.range items.size).filterMap fun (k : Nat) => items[(((items.size : Int) - 1) + (k : Int) * -1).toNat]?).toArray = items.toList.reverse.toArray := by
    have e1 : ((List.range items.size).filterMap fun (k : Nat) => items[(((items.size : Int) - 1) + (k : Int) * -1).toNat]?) = ((List.range items.size).map fun k => items.size - 1 - k).filterMap (items[·]?) := by
      rw [List.filterMap_map]
      refine fm_congr fun k hk => ?_
      have := List.mem_range.mp hk
      have e2 : (((items.size : Int) - 1) + (k : Int) * -1).toNat = items.size - 1 - k := by omega
      rw [e2]; rfl
    rw [e1, PySem.W.krv_range, List.filterMap_reverse, PySem.W.krv_all]
  rw [if_neg hno, e]
  first
    | exact wpAny_bind (m := Builtin.Tuple.tupleExact _) (wpAny_newObj_type (wpAny_pure ⟨_, rfl, wpAny_pure h⟩) htake)
    | exact wpAny_bind (m := Builtin.Tuple.tupleExact _) (wpAny_newObj_type (wpAny_bind (wpAny_pure (wpAny_pure ⟨_, rfl, wpAny_pure h⟩))) htake)
    | exact wpAny_bind (wpAny_bind (m := Builtin.Tuple.tupleExact _) (wpAny_newObj_type (wpAny_pure (wpAny_pure ⟨_, rfl, wpAny_pure h⟩)) htake))
    | exact wpAny_bind (wpAny_bind (m := Builtin.Tuple.tupleExact _) (wpAny_newObj_type (wpAny_pure ⟨_, rfl, wpAny_pure h⟩) htake))
def pRev : D → Rs D
  | .list xs => .ok (.list xs.reverse)
  | .tuple xs => .ok (.tuple xs.reverse)
  | _ => .bad
def mRev (m : M D) : M D := m.bind fun x => .lift (pRev x).pure?
theorem DE.rev {e : Expr} {k : Nat} {p1 p2 p3 pos : Pos} {m : M D} (he : DE X G W e m) : DE X G W (.Subscript e (.Slice none none (some (.UnaryOp .USub (.Constant (.int 1) k p1) p2)) p3) pos) (mRev m) := .of fun pins s σ H F ρ Q I R hq => by
  refine Subscript_ (he.step I R hq fun d ρ1 v x s1 H1 F1 I1 R1 r1 dx q1 => ?_)
  obtain ⟨z, hz, q⟩ := q1.prim
  have hst : PO X (some (.UnaryOp .USub (.Constant (.int 1) k p1) p2)) (tPart (tUn (rU fun i => .int (-i)) (tC (.int 1)))) := po_some (pe_un un_neg pe_int)
  refine wpAny_Slice (thn (po_none.run pins s1 σ H1 (fun o H2 => o = none ∧ H2 = H1) I1 ⟨rfl, rfl⟩) fun vl s2 ⟨l, H2, I2, pl, el, e2⟩ => ?_)
  subst el e2
  refine thn (po_none.run pins s2 σ H2 (fun o H3 => o = none ∧ H3 = H2) I2 ⟨rfl, rfl⟩) fun vu s3 ⟨u, H3, I3, pu, eu, e3⟩ => ?_
  subst eu e3
  refine thn (hst.run pins s3 σ H3 (fun o H4 => o = some (-1) ∧ H4 = H3) I3 ⟨1, rfl, -1, rfl, rfl, rfl⟩) fun vs s4 ⟨o, H4, I4, ps, eo, e4⟩ => ?_
  subst eo e4
  have I5 : Inv X pins σ H4 { s4 with heap := s4.heap.push { cls := .type "slice", data := .fields #[vl, vu, vs] } } := I4.kept (t' := s4.toks) fun b ob q => Heap.get?_push_of_some _ q
  show wpAny (model X.prog X.w) X.A (subscriptTail e (.Slice none none (some (.UnaryOp .USub (.Constant (.int 1) k p1) p2)) p3) v (.ref s4.heap.objs.size)) (EP X pins σ Q) X.xe { s4 with heap := s4.heap.push { cls := .type "slice", data := .fields #[vl, vu, vs] } }
  cases dx with
  | lst h1 rr =>
    rename_i a xs ds
    cases hz
    cases r1
    obtain ⟨its, r, ht, hz⟩ := I5.list (SqL.of (R1.rep.sub _ _ h1))
    refine tail_any (ops := [.ref a, .ref s4.heap.objs.size]) ht.isList.typeIs (PySem.slot_list_getitem.lookup) ?_ (by with_unfolding_all rfl)
    refine wpAny_getItem_list_slice ht.isList (Heap.IsSliceOf.new _ vl vu vs) pl pu ps (by decide) ?_ (by rw [List.size_toArray]; have := r.length; omega)
    rw [PySem.W.krv_pick]
    have hp := I5.hok.fresh (Nat.le_refl _)
    have g := Grow.new (o := .lst xs.reverse) R1.rep.sub R1.rep.tabs hp
    refine ⟨.ref _, _, I5.laid (t' := s4.toks) (o := .lst xs.reverse) (fun b ob q => Heap.get?_push_of_some _ q) (Nat.le_refl _) ?_, rfl, q _ _ _ (R1.grow g) (.lst upd_same (rr.rev.mono g.f))⟩
    exact ⟨by rw [List.length_reverse]; exact hz, _, 0, r.reverse, Heap.get?_push_size _ rfl⟩
  | tup h1 rr =>
    rename_i a xs ds
    cases hz
    cases r1
    obtain ⟨its, r, ht, hz⟩ := I5.tuple (h1.sq R1.rep.sub)
    refine tail_any (ops := [.ref a, .ref s4.heap.objs.size]) ht.typeIs PyProof.Rows.slot_tuple_getitem.lookup ?_ (by with_unfolding_all rfl)
    refine getItem_tuple_rev ht (Heap.IsSliceOf.new _ vl vu vs) pl pu ps ?_ (by rw [List.size_toArray]; have := r.length; omega)
    have z := pushT (t := s4.toks) I5 (xs := xs.reverse) (its := its.reverse) (by rw [List.length_reverse]; exact hz) r.reverse (Q := Q) fun H' hn => by
      obtain ⟨F', g, h3⟩ := hn.grow R1.rep.sub R1.rep.tabs
      exact q _ _ _ (R1.grow g) (.tup h3 (rr.rev.mono g.f))
    simpa using z
  | _ => cases hz
/-! ### in, not in, a list of one's own -/
theorem Grow.less {T : List NTab} {F F' F2 H H' : Hp} (e : Ex F F') (g : Grow T No F' H F2 H') : Grow T No F H F H' :=
  ⟨.refl F, fun b o q => g.s b o (g.f b o (e b o q)), fun _ q => .inl q, g.old, g.there, g.tabs, fun _ _ q => q⟩
section
variable {a : Expr} {y : Str} {py pos : Pos} {i : Nat} {ma : M D}
theorem cmpW {op : CmpOp} {p : D → D → Rs D} (ho : OpD X G.T (compareOp op) p) (hb : ∀ d e z, p d e = .ok z → ∃ b, z = .bool b) (hN : X.N[i]? = some y) (hv : Vis X.env.scope y) (ha : DE X G W a ma) (hm : behindInMarks op (.Name y py) = false) (hd : (y == ("__debug__" : Str)) = false := by decide) (hcd : (y == ("__classdict__" : Str)) = false := by decide) :
    DE X G W (.Compare a [op] [.Name y py] pos) (ma.bind fun x => (mPeek i).bind fun xs => .lift (p x (.list xs)).pure?) := .of fun pins s σ H F ρ Q I R hq => by
  refine wpAny_Compare1 (ha.step I R hq fun d ρ1 u v s1 H1 F1 I1 R1 r1 dv q1 => ?_) hm
  obtain ⟨a, vs, xs, hσ, hp, ha', q2⟩ := R1.rep.peek (At.bindM q1)
  obtain ⟨z, hz, q⟩ := At.prim q2
  refine thn ((pe_var (pos := py) hN hv hd hcd).run pins s1 σ H1 (fun v H2 => v = .ref a ∧ H2 = H1) I1 ⟨.ref a, hσ, rfl, rfl⟩) fun u2 s2 ⟨v2, H2, I2, r2, q3⟩ => ?_
  obtain ⟨e1, e2⟩ := q3
  subst e1
  rw [e2] at I2
  let F' : Hp := fun b => if b = a then some (.lst vs) else F1 b
  have e : Ex F1 F' := fun b o q => by
    show (if b = a then some (.lst vs) else F1 b) = some o
    by_cases hb : b = a
    · subst hb
      rw [if_pos rfl]
      have := R1.rep.sub _ _ q
      rw [hp] at this
      exact this
    · rw [if_neg hb]; exact q
  have eH : Ex F' H1 := fun b o q => by
    have q : (if b = a then some (.lst vs) else F1 b) = some o := q
    by_cases hb : b = a
    · subst hb
      rw [if_pos rfl] at q; cases q
      exact hp
    · rw [if_neg hb] at q; exact R1.rep.sub _ _ q
  obtain ⟨b, rfl⟩ := hb _ _ _ hz
  exact ho pins s2 σ H1 F' u u2 v (.ref a) d (.list xs) (.bool b) Q I2 r1 r2 eH R1.rep.tabs (dv.mono e) (.lst (if_pos rfl) (ha'.mono e)) hz fun w H' F2 g dw => by
    cases dw
    exact q _ H' F1 (R1.grow (Grow.less e g)) (.bl b)
theorem DE.inW (hu : X.A.units + 65 < cLine) (hN : X.N[i]? = some y) (hv : Vis X.env.scope y) (ha : DE X G W a ma) (hm : behindInMarks .In (.Name y py) = false) (hd : (y == ("__debug__" : Str)) = false := by decide) (hcd : (y == ("__classdict__" : Str)) = false := by decide) :
    DE X G W (.Compare a [.In] [.Name y py] pos) (mInW false ma i) := cmpW (p := pIn) (od_in hu) (fun d e z h => by obtain ⟨b, _, h⟩ := bind_ok h; cases h; exact ⟨b, rfl⟩) hN hv ha hm hd hcd
theorem DE.notInW (hu : X.A.units + 65 < cLine) (hN : X.N[i]? = some y) (hv : Vis X.env.scope y) (ha : DE X G W a ma) (hm : behindInMarks .NotIn (.Name y py) = false) (hd : (y == ("__debug__" : Str)) = false := by decide) (hcd : (y == ("__classdict__" : Str)) = false := by decide) :
    DE X G W (.Compare a [.NotIn] [.Name y py] pos) (mInW true ma i) := cmpW (p := pNotIn) (od_notIn hu) (fun d e z h => by obtain ⟨b, _, h⟩ := bind_ok h; cases h; exact ⟨!b, rfl⟩) hN hv ha hm hd hcd
end
/-! ### list(range(..)), tuple(range(..)) -/
section
variable {a b e : Expr} {p p1 pos pos1 : Pos} {ma mb : M D}
def mRg1 (ma : M D) : M (Int × Int) := ma.bind fun x => match x with
  | .int j => .ret (0, j)
  | _ => .fail
def mRg2 (ma mb : M D) : M (Int × Int) := ma.bind fun x => mb.bind fun y => match x, y with
  | .int i, .int j => .ret (i, j)
  | _, _ => .fail
def rdRg (X : Cx) (G : Gh) (W : WX) (m : M (Int × Int)) : L2.St → Hp → (Int → Int → Hp → Prop) → Prop := fun σ H Q => ∃ F ρ, Rep X G F H σ ρ ∧ At X G W F H σ ρ (m ρ) fun ij ρ' => ∀ H' F', Stp X G F H σ ρ F' H' ρ' → Q ij.1 ij.2 H'
structure DRg (X : Cx) (G : Gh) (W : WX) (e : Expr) (m : M (Int × Int)) : Prop where
  pr : PRg X e (rdRg X G W m)
theorem PRg.imp {e : Expr} {t t' : L2.St → Hp → (Int → Int → Hp → Prop) → Prop} (h : PRg X e t) (i : ∀ σ H Q, t' σ H Q → t σ H Q) : PRg X e t' := fun pins s σ H Q I q => h pins s σ H Q I (i σ H Q q)
theorem DRg.one (hg : Gl X "range") (hm : X.mg "range" = none) (ha : DE X G W a ma) (na : starEach [a] X.env = (false, eval a X.env) :: starEach [] X.env := by rfl) : DRg X G W (.Call (.Name "range" p) [a] [] pos) (mRg1 ma) :=
  ⟨PRg.imp (prg_1 hg hm ha.pe na) fun σ H Q ⟨F, ρ, R, hq⟩ => rd_step (.refl R) hq fun d ρ1 v H1 F1 st dv q => by
    cases dv with
    | int j => exact ⟨j, rfl, q H1 F1 st⟩
    | _ => exact q.elim⟩
theorem DRg.two (hg : Gl X "range") (hm : X.mg "range" = none) (ha : DE X G W a ma) (hb : DE X G W b mb) (na : starEach [a, b] X.env = (false, eval a X.env) :: starEach [b] X.env := by rfl)
    (nb : starEach [b] X.env = (false, eval b X.env) :: starEach [] X.env := by rfl) (hp : (backTo pos (starEach [b] X.env)).any (·.1) = false := by rfl) : DRg X G W (.Call (.Name "range" p) [a, b] [] pos) (mRg2 ma mb) :=
  ⟨PRg.imp (prg_2 hg hm ha.pe hb.pe na nb hp) fun σ H Q ⟨F, ρ, R, hq⟩ => rd_step (.refl R) hq fun d ρ1 v H1 F1 st dv q => rd_step st q fun d2 ρ2 v2 H2 F2 st2 dv2 q2 => by
    cases dv with
    | int i =>
      cases dv2 with
      | int j => exact ⟨i, j, rfl, rfl, q2 H2 F2 (st.trans st2)⟩
      | _ => exact q2.elim
    | _ => cases dv2 <;> exact q2.elim⟩
def rgG (i j : Int) : Prop := -(2 ^ 62) ≤ i ∧ i < 2 ^ 62 ∧ -(2 ^ 62) ≤ j ∧ j < 2 ^ 62 ∧ (j - i).toNat ≤ 2 ^ 24
instance (i j : Int) : Decidable (rgG i j) := by unfold rgG; infer_instance
def mLRg (m : M (Int × Int)) : M (List D) := m.bind fun ij => .lift (grd (rgG ij.1 ij.2) (.ok (rngL ij.1 (ij.2 - ij.1).toNat))).pure?
def mTRg (m : M (Int × Int)) : M D := m.bind fun ij => .lift (grd (rgG ij.1 ij.2) (.ok (.tuple (rngL ij.1 (ij.2 - ij.1).toNat)))).pure?
theorem rg_dat (i j : Int) : DatAll F (rgV i j) (rngL i (j - i).toNat) := by
  unfold rgV rngL
  generalize List.range (j - i).toNat = l
  induction l with
  | nil => exact .nil
  | cons k r ih => exact .cons (.int _) ih
theorem rg_step {α : Type} {ma : M (Int × Int)} {k : Int × Int → M α} {ρ0 : Env'} {H0 F0 : Hp} {kk : α → Env' → Prop} (R : Stp X G F0 H0 σ ρ0 F H ρ) (hq : At X G W F0 H0 σ ρ0 ((ma.bind k) ρ) kk) {Q : Int → Int → Hp → Prop}
    (next : ∀ ij ρ1 H1 F1, Stp X G F H σ ρ F1 H1 ρ1 → At X G W F0 H0 σ ρ0 (k ij ρ1) kk → Q ij.1 ij.2 H1) : rdRg X G W ma σ H Q :=
  ⟨F, ρ, R.rep, At.mono (At.bindM hq) R fun d ρ1 _ q => fun H1 F1 st => next d ρ1 H1 F1 st q⟩
theorem DF.listRg {m : M (Int × Int)} (hc : X.calm = true) (hg : Gl X "list") (hm : X.mg "list" = none) (he : DRg X G W e m) (na : starEach [e] X.env = (false, eval e X.env) :: starEach [] X.env := by rfl) : DF X G W (.Call (.Name "list" p1) [e] [] pos1) (mLRg m) :=
  ⟨PE.imp (pe_listRg hc hg hm he.pr na) fun σ H Q ⟨F, ρ, R, hq⟩ => rg_step (.refl R) hq fun ij ρ1 H1 F1 st q => by
    obtain ⟨z, hz, q⟩ := At.prim q
    obtain ⟨hg, hz⟩ := grd_ok hz
    cases hz
    exact ⟨hg, fun p hp => st.alloc R hp (rg_dat ij.1 ij.2) q⟩⟩
theorem DE.tupRg {m : M (Int × Int)} (hc : X.calm = true) (hg : Gl X "tuple") (hm : X.mg "tuple" = none) (he : DRg X G W e m) (na : starEach [e] X.env = (false, eval e X.env) :: starEach [] X.env := by rfl) : DE X G W (.Call (.Name "tuple" p1) [e] [] pos1) (mTRg m) :=
  ⟨PE.imp (pe_tupRgS hc hg hm he.pr na) fun σ H Q ⟨F, ρ, R, hq⟩ => rg_step (.refl R) hq fun ij ρ1 H1 F1 st q => by
    obtain ⟨z, hz, q⟩ := At.prim q
    obtain ⟨hg, hz⟩ := grd_ok hz
    cases hz
    refine ⟨hg, fun p H2 hn => ?_⟩
    obtain ⟨F', g, h3⟩ := hn.grow st.rep.sub st.rep.tabs
    exact q _ _ _ (st.grow g) (.tup h3 ((rg_dat ij.1 ij.2).mono g.f))⟩
end
end
end
end DL

end
section
set_option maxRecDepth 100000
set_option maxHeartbeats 2000000
/-! The end of a law's row, for the promises of this layer (after HandS.EndTab, which asks promises in every surrounding; here the caller's own: no guards). -/
namespace DL
noncomputable section
open PySem PySem.Spec L2 LamX NdefX
open PyProof.Rows hiding St
theorem law_callD {P : Program} {w : World} {K : PySem.W.Frag} {mg mb : Str → Option Value} {T : List NTab} {kf k : Nat} {fa a : Addr} {cs : List (Addr × Addr)} {fd : FuncData} {x : Str} {sem : Sem'} {s₁ : Shared} {vs : List Value} {ns : List Int}
    (KX : K.In s₁.heap) (hns : s₁.heap.Ns mainGlobals mg) (hb : s₁.heap.Ns builtinsNs mb) (hbb : ∀ x : Str, x ≠ "__name__" → mb x = bootBuiltins x) (hlim : s₁.heap.NoLimit) (hg : s₁.gens = #[])
    (hT : ∀ p ∈ cs, s₁.heap.get? p.2 = some { cls := .none, data := .fields #[] }) (nT : ∀ p ∈ cs, K.lookup p.2 = none) (C : ∀ p ∈ cs, PySem.W.CodeHd s₁.heap p.1 p.2)
    (hbm : ∃ (bm : Addr) (ob : Obj), mg "__builtins__" = some (.ref bm) ∧ bm ≠ builtinsNs ∧ s₁.heap.get? bm = some ob ∧ ob.cls = .type "module" ∧ ob.dict = some builtinsNs ∧ ob.data = .plain)
    (ha : s₁.heap.get? a = some { cls := .type "list", data := .seq vs.toArray }) (hi : IntsAre vs ns) (hl : ns.length ≤ sizeLine) (hr : Room k callerA) (hTs : ∀ p ∈ T, p.1 ∈ cs.map (·.2))
    (F : ∀ base : Heap, K.In base → base.Ns mainGlobals mg → (∀ p ∈ cs, TabB base mg p.1 p.2) → FnP P w K mg base T kf k fa fd [x] sem) (hbind : ∀ (s : Shared) (u : Value), BindsTo s fd ⟨[u], []⟩ [(x, u)])
    (hsem : (sem [.scr ns]).1 = .ok (.d (.bool true))) :
    codeAny (model P w) callerA (.call (.ref fa) ⟨[.ref a], []⟩) (fun r s' => r = .ok (.ret (.bool true)) ∧ OldK s₁.heap s'.heap ∧ s'.os = s₁.os ∧ AllBare s'.gens) s₁ := by
  have rv := vals_ints hi
  have lenV := hi.length
  have isT : ∀ b : Addr, b ∈ cs.map (·.2) → s₁.heap.get? b = some { cls := .none, data := .fields #[] } := fun b hb => by
    obtain ⟨p, hp, e⟩ := List.mem_map.mp hb
    rw [← e]
    exact hT p hp
  have aT : a ∉ cs.map (·.2) := fun z => by
    have q := isT a z
    rw [ha] at q
    have z' : Data.seq vs.toArray _ = Data.fields #[] := congrArg Obj.data (Option.some.inj q)
    cases z'
  have memT : ∀ p ∈ cs, p.2 ∈ cs.map (·.2) := fun p hp => List.mem_map.mpr ⟨p, hp, rfl⟩
  have core : ∀ H F0 : Hp, (∀ p ∈ cs, H p.2 = some (.tbl #[])) → (∀ b, H b = none ∨ b ∈ cs.map (·.2) ∨ ∃ o xs, H b = some (.frz o (.lst xs))) → Ex F0 H → NoT F0 → (Rd F0 a (.lst (ns.map V.int)) ∨ ∀ H, SqL K H a (ns.map V.int)) → HOk P w H s₁.heap → (∀ b, H b ≠ none → b = a ∨ b ∈ cs.map (·.2)) → (H a ≠ none → K.lookup a = none) →
      codeAny (model P w) callerA (.call (.ref fa) ⟨[.ref a], []⟩) (fun r s' => r = .ok (.ret (.bool true)) ∧ OldK s₁.heap s'.heap ∧ s'.os = s₁.os ∧ AllBare s'.gens) s₁ := by
    intro H F0 hH hO eF nt hS hok hA hK
    have base_of : ∀ {b : Addr} {o : Obj}, s₁.heap.get? b = some o → H b = none → (hidT s₁.heap H).get? b = some o := fun e n => hidT_get e n
    have noD : ∀ {b : Addr} {o : Obj}, s₁.heap.get? b = some o → (∀ vs n, o.data ≠ .seq vs n) → o.data ≠ .fields #[] → H b = none := fun {b o} e h1 h2 => by
      cases q : H b with
      | none => rfl
      | some u =>
        rcases hA b (by rw [q]; simp) with e' | e'
        · rw [e', ha] at e
          cases e
          exact (h1 _ _ rfl).elim
        · rw [isT b e'] at e
          cases e
          exact (h2 rfl).elim
    have noA : ∀ {b : Addr} {o : Obj} {es : Array DictEntry} {ep : Nat}, s₁.heap.get? b = some o → o.data = .dict es ep → H b = none := fun {b o es ep} e d => by
      refine noD e (fun vs n z => ?_) fun z => ?_
      · rw [d] at z
        cases z
      · rw [d] at z
        cases z
    have nsK : ∀ {b : Addr} {m : Str → Option Value}, s₁.heap.Ns b m → (hidT s₁.heap H).Ns b m := fun {b m} ⟨o, es, ep, e, d, r⟩ => ⟨o, es, ep, base_of e (noA e d), d, r⟩
    have hKb : K.In (hidT s₁.heap H) := fun b o e => base_of (KX b o e) (by
      cases q : H b with
      | none => rfl
      | some u =>
        rcases hA b (by rw [q]; simp) with e' | e'
        · rw [e'] at e q
          rw [hK (by rw [q]; simp)] at e
          cases e
        · obtain ⟨p, hp, ep⟩ := List.mem_map.mp e'
          rw [← ep, nT p hp] at e
          cases e)
    have hM : L2.Mod K mg (hidT s₁.heap H) := ⟨hKb, nsK hns, ⟨mb, nsK hb, hbb⟩, let ⟨mc, h1, h2⟩ := hlim; ⟨mc, nsK h1, h2⟩⟩
    have TB : ∀ p ∈ cs, TabB (hidT s₁.heap H) mg p.1 p.2 := fun p hp => by
      have hTp := hT p hp
      refine ⟨?_, ?_, fun z => ?_⟩
      · obtain ⟨o, us, file, tf, flags, tg, inF, text, tt, e1, r1, r2, r3, r4, r5, r6, r7, r8, hne⟩ := C p hp
        refine ⟨o, us, file, tf, flags, tg, inF, text, tt, base_of e1 (noD e1 (fun vs n z => ?_) fun z => ?_), r1, r2, r3, r4, r5, r6, r7, r8, hne⟩
        · rw [r2] at z
          cases z
        · rw [r2] at z
          cases z
          simp at r3
      · obtain ⟨bm, ob, b1, b2, b3, b4, b5, b6⟩ := hbm
        have nG : bm ≠ mainGlobals := fun q => by
          obtain ⟨o, es, ep, e, hd, _⟩ := hns
          rw [q, e] at b3
          cases b3
          rw [hd] at b6
          cases b6
        have nP : bm ≠ p.2 := fun q => by
          rw [q, hTp] at b3
          cases b3
          cases b6
        refine ⟨bm, ob, b1, b2, nG, nP, base_of b3 (noD b3 (fun vs n z => ?_) fun z => ?_), b4, b5, b6⟩
        · rw [b6] at z
          cases z
        · rw [b6] at z
          cases z
      · obtain ⟨o, es, ep, e, hd, _⟩ := hns
        rw [z, hTp] at e
        cases e
        cases hd
    have e0 : Env0 P w K mg (hidT s₁.heap H) callerA [] s₁ H := ⟨rfl, hM, fun b o e => of_hidT e, Nat.le_of_eq (hidT_size _ _), trivial, fun b hb => absurd (show b ∈ ([] : List Addr) from hb) (by simp), hok, .of_eq hg⟩
    have hTN : TabsN T H := fun p hp => by
      obtain ⟨q, hq, e⟩ := List.mem_map.mp (hTs p hp)
      exact TabN.nil (by rw [← e]; exact hH q hq)
    have post : PostF T mg F0 H [.ref a] [.scr ns] (sem [.scr ns]) (fun v _ => v = .bl true) (fun _ _ _ => False) := by
      unfold PostF
      rw [hsem]
      exact fun v H2 F2 g dv _ => by cases dv; rfl
    refine codeAny_mono ((F _ hKb (nsK hns) TB).run callerA [] s₁ H F0 ⟨[.ref a], []⟩ [.ref a] [.ref a] [.scr ns] _ _ hr rfl e0 (hbind s₁ (.ref a)) (.cons rfl .nil) rfl rfl nt eF hTN (fun i v sl hv hs => ?_) post) fun r s' h => ?_
    · cases i with
      | zero =>
        cases hv
        cases hs
        exact ⟨a, rfl, hS⟩
      | succ i => cases hv
    cases r with
    | error e =>
      have h : L2.CX P w [] H s₁ (fun _ _ _ => False) e s' := h
      obtain ⟨_, _, _, _, _, _, _, _, _, _, _, _, z⟩ := h
      exact z.elim
    | ok fl =>
      cases fl with
      | next => exact False.elim h
      | brk => exact False.elim h
      | cont => exact False.elim h
      | ret u =>
        obtain ⟨v, H', os, bare, un, hok', r', q⟩ := h
        have q' : v = .bl true := q
        subst q'
        obtain rfl : u = Value.bool true := r'
        have key : ∀ b o, b ∉ cs.map (·.2) → s₁.heap.get? b = some o → s'.heap.get? b = some o := fun b o nb e => by
          cases q : H b with
          | none => exact un.keep b o e q (by intro z; exact absurd (show b ∈ ([] : List Addr) from z) (by simp)) (by simp)
          | some u =>
            rcases hO b with z | z | ⟨ob, xs, z⟩
            · rw [q] at z; cases z
            · exact absurd z nb
            · have z2 := un.frzs b ob _ z
              obtain ⟨e1, _⟩ := hok b _ z
              obtain ⟨e2, _⟩ := hok' b _ z2
              rw [e] at e1; cases e1
              exact e2
        have grown : ∀ p ∈ cs, ∃ more : Array Value, s'.heap.get? p.2 = some { cls := .none, data := .fields more } := fun p hp => by
          obtain ⟨more, z⟩ := un.tbls p.2 #[] (hH p hp)
          exact ⟨_, hok' p.2 _ z⟩
        refine ⟨rfl, ⟨fun b o e => ?_, fun b o e => ?_⟩, os, bare⟩
        · by_cases hb : b ∈ cs.map (·.2)
          · obtain ⟨p, hp, ep⟩ := List.mem_map.mp hb
            obtain ⟨more, hm⟩ := grown p hp
            rw [← ep] at e ⊢
            rw [hT p hp] at e
            cases e
            exact .inr (.inl ⟨((C p hp).tab (hT p hp)).isCodeTable, rfl, #[], more, rfl, by rw [Array.empty_append]; exact hm⟩)
          · exact .inl (key b o hb e)
        · by_cases hb : b ∈ cs.map (·.2)
          · obtain ⟨p, hp, ep⟩ := List.mem_map.mp hb
            obtain ⟨more, hm⟩ := grown p hp
            rw [← ep]
            exact ⟨_, hm⟩
          · exact ⟨o, key b o hb e⟩
  cases hk : K.lookup a with
  | some o =>
    have e := KX a o hk
    rw [ha] at e
    cases e
    refine core (fun b => if b ∈ cs.map (·.2) then some (.tbl #[]) else none) (fun _ => none) (fun p hp => if_pos (memT p hp)) (fun b => ?_) (fun _ _ z => nomatch z) (fun _ _ z => nomatch z) (.inr fun H => .inr ⟨_, vs.toArray, _, hk, rfl, rfl, rfl, by rw [List.size_toArray, lenV]; exact hl, by simpa using rv⟩) (fun b u z => ?_) (fun b z => ?_) fun z => absurd (show (if a ∈ cs.map (·.2) then some (HO.tbl #[]) else none) = none from if_neg aT) z
    · by_cases hb : b ∈ cs.map (·.2)
      · exact .inr (.inl hb)
      · exact .inl (if_neg hb)
    · by_cases hb : b ∈ cs.map (·.2)
      · have z' := (if_pos hb).symm.trans z
        cases z'
        exact isT b hb
      · have z' := (if_neg hb).symm.trans z
        cases z'
    · by_cases hb : b ∈ cs.map (·.2)
      · exact .inr hb
      · exact absurd (if_neg hb) z
  | none =>
    refine core (fun b => if b = a then some (.frz { cls := .type "list", data := .seq vs.toArray } (.lst (ns.map V.int))) else if b ∈ cs.map (·.2) then some (.tbl #[]) else none) (fun b => if b = a then some (.frz { cls := .type "list", data := .seq vs.toArray } (.lst (ns.map V.int))) else none)
      (fun p hp => (if_neg (show ¬ p.2 = a from fun z => aT (by rw [← z]; exact memT p hp))).trans (if_pos (memT p hp))) (fun b => ?_) (fun b o z => ?_) (fun b ps z => ?_)
      (.inl (.inr ⟨{ cls := .type "list", data := .seq vs.toArray }, if_pos rfl⟩)) (fun b u z => ?_) (fun b z => ?_) fun _ => hk
    · by_cases hb : b = a
      · exact .inr (.inr ⟨_, _, if_pos hb⟩)
      · by_cases hb2 : b ∈ cs.map (·.2)
        · exact .inr (.inl hb2)
        · exact .inl ((if_neg hb).trans (if_neg hb2))
    · by_cases hb : b = a
      · exact (if_pos hb).trans ((if_pos hb).symm.trans z)
      · exact nomatch (if_neg hb).symm.trans z
    · by_cases hb : b = a
      · exact nomatch (if_pos hb).symm.trans z
      · exact nomatch (if_neg hb).symm.trans z
    · by_cases hb : b = a
      · have z' := (if_pos hb).symm.trans z
        cases z'
        rw [hb]
        exact ⟨ha, by rw [List.length_map]; exact Nat.le_trans (Nat.le_of_eq rfl) hl, vs, _, rv, ha⟩
      · have z1 := (if_neg hb).symm.trans z
        by_cases hb2 : b ∈ cs.map (·.2)
        · have z' := (if_pos hb2).symm.trans z1
          cases z'
          exact isT b hb2
        · have z' := (if_neg hb2).symm.trans z1
          cases z'
    · by_cases hb : b = a
      · exact .inl hb
      · by_cases hb2 : b ∈ cs.map (·.2)
        · exact .inr hb2
        · exact absurd ((if_neg hb).trans (if_neg hb2)) z
/-- a law by such a promise -/
theorem walk_D {l : PySem.W.OpenLaw} {n k kf : Nat} {q : Program} {loose : List Str} {XP : (Str → Option Value) → Heap → Prop} {YP : World → Heap → Prop} {d : DefRec} {x : Str}
    (hn : l.most = some n) (hn2 : n ≤ sizeLine) (hdf : d.params.defaults = []) (hr : Room k callerA)
    (F : ∀ (w : World) (mg : Str → Option Value) (fa : Addr) (h : Heap), YP w h → h.Ns mainGlobals mg → mg d.name = some (.ref fa) → ∃ (K : PySem.W.Frag) (fd : FuncData) (cs : List (Addr × Addr)) (T : List NTab) (sem : Sem'), K.In h ∧ (∀ p ∈ cs, h.get? p.2 = some { cls := .none, data := .fields #[] }) ∧ (∀ p ∈ cs, K.lookup p.2 = none) ∧ (∀ p ∈ cs, PySem.W.CodeHd h p.1 p.2) ∧ (∀ p ∈ T, p.1 ∈ cs.map (·.2)) ∧
      (∀ (s : Shared) (u : Value), BindsTo s fd ⟨[u], []⟩ [(x, u)]) ∧ (∀ ns : List Int, ns.length ≤ n → (∀ z ∈ ns, Builtin.Int.intBits z ≤ 1048576) → (sem [.scr ns]).1 = .ok (.d (.bool true))) ∧
      ∀ base : Heap, K.In base → base.Ns mainGlobals mg → (∀ p ∈ cs, TabB base mg p.1 p.2) → FnP l.prog w K mg base T kf k fa fd [x] sem) :
    PySem.W.WalkO q loose XP YP l.row.toRowW d [] (fun f vs => PySem.call f vs) := by
  refine Att.attach_callB hn hdf fun w s₀ s₁ mg mb fa o pm cd doc a vs ns G Y ho hd hcd hmg hobj hints hlen hbits hg => ?_
  obtain ⟨K, fd, cs, T, sem, KX, hT, nT, C, hTs, hb, hsem, hF⟩ := F w mg fa _ Y G.T.g hmg
  exact law_callD KX G.T.g G.T.b G.T.builtins G.T.nolimit hg hT nT C G.T.bmain hobj hints (Nat.le_trans hlen hn2) hr hTs hF hb (hsem ns hlen hbits)
end
end DL

end
section
set_option maxRecDepth 100000
set_option maxHeartbeats 2000000
/-! What a law's own text uses. -/
namespace DL
noncomputable section
open PySem PySem.Spec L2 LamX NdefX
open PyProof.Rows hiding St
section
variable {P : Program} {w : World} {K : PySem.W.Frag} {mg : Str → Option Value} {base : Heap} {T : List NTab} {kf k : Nat} {N ps : List Str} {qual : Str} {scope : Scope} {f : Addr} {cdv : Value} {A : Around} {outer : List Env} {s : Shared} {H : Hp} {E : XK} {G : Gh}
theorem ctx_fn (hr : Room k (A.deeper (envOfC qual scope s.heap.objs.size f cdv))) (hg : A.guards = some []) : Ctx (cxOf (L2.CX P w) P w K mg base N qual scope f cdv A outer s H E) G (fun cls d _ H => E cls d H) k :=
  ⟨hr, hg, fun _ => rfl, takes_of rfl rfl rfl rfl⟩
theorem own_fn : PassesOwn (model P w) (A.deeper (envOfC qual scope s.heap.objs.size f cdv)) (envOfC qual scope s.heap.objs.size f cdv) (cxOf (L2.CX P w) P w K mg base N qual scope f cdv A outer s H E).xe := PassesOwn.leaving
theorem ctx_nest {Fn : NF} (hr : Room k (A.deeper (envF Fn f s.heap.objs.size))) (hg : A.guards = some []) : Ctx (ncx (L2.CX P w) P w K mg base N Fn f A outer s H E) G (fun cls d _ H => E cls d H) k :=
  ⟨hr, hg, fun _ => rfl, takes_of rfl rfl rfl rfl⟩
theorem own_nest {Fn : NF} : PassesOwn (model P w) (A.deeper (envF Fn f s.heap.objs.size)) (envF Fn f s.heap.objs.size) (ncx (L2.CX P w) P w K mg base N Fn f A outer s H E).xe := PassesOwn.leaving
theorem takes_W0 {X : Cx} : Takes X W0 := LamX.takes0
theorem Ctx.blk {X : Cx} {W : WX} {s : Shared} {H : Hp} {sc : Scope} {env : Env} {fp : List Addr} (C : Ctx X G W k) : Ctx (X.blk s H sc env fp) G.hid W0 k := ⟨C.room, C.gd, (fun h => nomatch h), takes_W0⟩
theorem Room.u64 {A : Around} (r : Room k A) : A.units + 65 < cLine := by have := r.un; omega
theorem Ctx.u64 {X : Cx} {W : WX} (C : Ctx X G W k) : X.A.units + 64 < cLine := by have := C.room.un; omega
theorem Ctx.u65 {X : Cx} {W : WX} (C : Ctx X G W k) : X.A.units + 65 < cLine := by have := C.room.un; omega
/-- a def of the top by its body -/
theorem fun_of {d : He.DefD} {m : MS} (F : ∃ fd, FunD K d.name d.qual d.params d.body d.scope (d.dvs K) (d.kws K) (He.fAd K d.at_) fd) (hm : mg d.name = some (.ref (He.fAd K d.at_))) (h1 : d.dvs K = []) (S : FnScope N ps d.scope)
    (hbody : ∀ (f : Addr) (cdv : Value) (A : Around) (outer : List Env) (s : Shared) (H : Hp) (E : XK) (G : Gh), Room k (A.deeper (envOfC d.qual d.scope s.heap.objs.size f cdv)) → A.guards = some [] → G.T = T → G.k = kf → G.nf = false → cdv = .ref (He.codeOf K d.at_) → DSs (cxOf (L2.CX P w) P w K mg base N d.qual d.scope f cdv A outer s H E) G (fun cls d _ H => E cls d H) d.body m) :
    Fun P w K mg base T kf d.name d.params ps (k + 1) (fnR N.length m) := by
  obtain ⟨fd, F⟩ := F
  obtain ⟨oc, od, dV, kV, doc, pm, an, cdv, ct, osl, rfl, lk, hcd, hD, hK⟩ := F.ex
  have ed : dV = .none := by
    rcases hD with ⟨_, e⟩ | ⟨e, _⟩
    · exact e
    · exact absurd h1 e
  subst ed
  obtain ⟨c, rfl⟩ := He.codeIn_ref hcd
  have ec := He.codeOf_eq (p := d.at_) lk rfl
  exact ⟨_, d.name, d.qual, d.body, d.scope, kV, doc, pm, .ref c, ct, an, hm, F.kp, ⟨oc, od, osl, lk⟩, FnP.of lk hcd S (DL.FnScope.le S) fun A outer s H E G hr hg hT hk hnf => hbody _ _ A outer s H E G hr hg hT hk hnf (by rw [ec])⟩
/-- the tables told -/
def tabsOf (K : PySem.W.Frag) (l : List (He.Defn × (Nat → Nat → Str))) : List NTab := l.map fun q => ((He.cT K q.1).2, q.2)
theorem tabs_u {l : List (He.Defn × (Nat → Nat → Str))} (hn : (l.map fun q => (He.cT K q.1).2).Nodup) {q : He.Defn × (Nat → Nat → Str)} (hq : q ∈ l) : ∀ p ∈ tabsOf K l, p.1 = (He.cT K q.1).2 → p.2 = q.2 := by
  intro p hp e
  obtain ⟨r, hr, rfl⟩ := List.mem_map.mp hp
  have : r = q := by
    clear hp
    induction l with
    | nil => cases hq
    | cons a l ih =>
      rw [List.map_cons, List.nodup_cons] at hn
      rcases List.mem_cons.mp hq with h1 | h1
      · rcases List.mem_cons.mp hr with h2 | h2
        · rw [h1, h2]
        · exact absurd (List.mem_map.mpr ⟨r, h2, by rw [← h1]; exact e⟩ : _ ∈ l.map fun q => (He.cT K q.1).2) hn.1
      · rcases List.mem_cons.mp hr with h2 | h2
        · exact absurd (List.mem_map.mpr ⟨q, h1, by rw [← h2]; exact e.symm⟩ : _ ∈ l.map fun q => (He.cT K q.1).2) hn.1
        · exact ih hn.2 h1 h2
  rw [this]
end
end
end DL
namespace DL
noncomputable section
open PySem PySem.Spec L2 LamX NdefX
/-- positional values, then keywords', put in order -/
def permL (l : List Nat) {α : Type} (as bs : List α) : List α := l.filterMap fun i => (as ++ bs)[i]?
theorem paired_app {α β : Type} {R : α → β → Prop} : ∀ {as : List α} {cs : List β} {bs : List α} {ds : List β}, PySem.Paired R as cs → PySem.Paired R bs ds → PySem.Paired R (as ++ bs) (cs ++ ds)
  | _, _, _, _, .nil, q => q
  | _, _, _, _, .cons h r, q => .cons h (paired_app r q)
theorem paired_get {α β : Type} {R : α → β → Prop} : ∀ {as : List α} {cs : List β} {i : Nat}, PySem.Paired R as cs → i < as.length → ∃ a c, as[i]? = some a ∧ cs[i]? = some c ∧ R a c
  | _, _, _, .nil, h => absurd h (Nat.not_lt_zero _)
  | _, _, 0, .cons (a := a) (b := b) h _, _ => ⟨a, b, rfl, rfl, h⟩
  | _, _, i + 1, .cons _ r, h => by
    obtain ⟨a, c, h1, h2, h3⟩ := paired_get (i := i) r (by simpa using h)
    exact ⟨a, c, by simpa using h1, by simpa using h2, h3⟩
theorem rearr_perm {n k : Nat} (l : List Nat) (h : ∀ i ∈ l, i < n + k) : Rearr n k l.length (fun {_} => permL l) := by
  intro α β R as bs cs ds h1 h2 p q
  have pq := paired_app p q
  show PySem.Paired R (permL l as bs) (permL l cs ds) ∧ (permL l as bs).length = l.length
  unfold permL
  induction l with
  | nil => exact ⟨.nil, rfl⟩
  | cons i l ih =>
    obtain ⟨i1, i2⟩ := ih fun j hj => h j (List.mem_cons_of_mem _ hj)
    have hi : i < (as ++ bs).length := by
      rw [List.length_append, h1, h2]
      exact h i List.mem_cons_self
    obtain ⟨a, c, e1, e2, r⟩ := paired_get pq hi
    rw [List.filterMap_cons, List.filterMap_cons, e1, e2]
    exact ⟨.cons r i1, congrArg Nat.succ i2⟩
theorem Fun.to {P : Program} {w : World} {K : PySem.W.Frag} {mg : Str → Option Value} {base : Heap} {T T' : List NTab} {kf kf' : Nat} {x : Str} {pa : Arguments} {ps : List Str} {k : Nat} {sem : Sem'}
    (F : Fun P w K mg base T kf x pa ps k sem) (hT : T' = T) (hK : kf' = kf) : Fun P w K mg base T' kf' x pa ps k sem := by subst hT; subst hK; exact F
end
end DL

end
section
set_option maxRecDepth 100000
set_option maxHeartbeats 2000000
/-! Lambdas given to functions. -/
namespace DL
noncomputable section
open PySem PySem.Spec L2 LamX NdefX
open PyProof.Rows hiding St
def LamO (f : Addr) (F : NF) (b : Expr) : HO := .ext fun h => ∃ (od : Option Addr) (sl : Array (Option Value)) (pm ctv : Value), h.get? f = some (⟨.type "function", od, .func (PySem.W.kla_fn F.name F.qual F.params b F.scope F.cl pm (.ref F.c) ctv), sl⟩ : Obj)
theorem lamO_ne {f : Addr} {F : NF} {b : Expr} (ps : Array Value) : LamO f F b ≠ .tbl ps := fun z => by
  unfold LamO at z
  cases z
theorem lamO_at {P : Program} {w : World} {H : Hp} {h : Heap} {f : Addr} {F : NF} {b : Expr} (hok : HOk P w H h) (e : H f = some (LamO f F b)) : ∃ (od : Option Addr) (sl : Array (Option Value)) (pm ctv : Value), h.get? f = some (⟨.type "function", od, .func (PySem.W.kla_fn F.name F.qual F.params b F.scope F.cl pm (.ref F.c) ctv), sl⟩ : Obj) := (hok f _ e).1
section
variable {X : Cx} {G : Gh} {W : WX} {pins : List (Addr × Obj)} {σ : L2.St} {H F : Hp} {s : Shared} {ρ : Env'} {E : Ends}
theorem inv_lam {F : NF} {b : Expr} {o : Obj} {t' : Nat} {pm ctv : Value} (I : Inv X pins σ H s) (ho : o = { cls := .type "function", data := .func (PySem.W.kla_fn F.name F.qual F.params b F.scope F.cl pm (.ref F.c) ctv) }) :
    Inv X pins σ (upd H s.heap.objs.size (LamO s.heap.objs.size F b)) { s with heap := s.heap.push o, toks := t' } := by
  subst ho
  refine I.laid (a := s.heap.objs.size) (fun b u e => Heap.get?_push_of_some _ e) (Nat.le_refl _) ?_
  have e : (s.heap.push ({ cls := .type "function", data := .func (PySem.W.kla_fn F.name F.qual F.params b F.scope F.cl pm (.ref F.c) ctv) } : Obj)).get? s.heap.objs.size = some ({ cls := .type "function", data := .func (PySem.W.kla_fn F.name F.qual F.params b F.scope F.cl pm (.ref F.c) ctv) } : Obj) := Heap.get?_push_size _ rfl
  exact ⟨⟨_, _, pm, ctv, e⟩, ⟨_, e⟩, fun h1 h2 ⟨od, sl, p, t, z⟩ st => ⟨od, sl, p, t, st _ z⟩⟩
theorem lam_makeN {T : List NTab} {nm : Nat → Nat → Str} {c P : Addr} {params : Arguments} {body : Expr} {scope : Scope} {pos : Pos} {E : Value → Shared → Prop} {Q : Value → Shared → Prop} (I : Inv X pins σ H s) (TB : TabB X.base X.mg c P) (hcode : X.env.code = .ref c)
    (hm : (P, nm) ∈ T) (hn : nm pos.line pos.col = X.env.qual ++ "<lambda>") (hu : ∀ p ∈ T, p.1 = P → p.2 = nm) (hT : TabsN T H) (hdef : defaultsOf params X.env = ([], [])) (hfree : ∀ y ∈ scope.names, y.2 = .free → ∃ c, X.env.cells.lookup y.1 = some c)
    (h : ∀ (f c' : Addr) (H1 : Hp) (s' : Shared), Inv X pins σ H1 s' → ExtN H H1 → (∀ b, H1 b = Option.none → H b = Option.none) → TabsN T H1 → H f = none → H1 f = some (LamO f ⟨"<lambda>", X.env.qual ++ "<lambda>", params, [], scope, cloFrom X.env.cells scope.names [], c'⟩ body) → H1 c' = some (CodeO c' (X.env.qual ++ "<lambda>")) → Q (.ref f) s') :
    wpAny (model X.prog X.w) X.A (eval (.Lambda params body scope pos) X.env) Q E s := by
  obtain ⟨ps, hP, ht, ha⟩ := (show TabN H P nm from hT _ hm)
  refine PySem.W.kla_eval hdef ?_
  have bP : s.heap.BuiltinsAt X.mg P := TB.bm.keeps I.bk
  have hP' : s.heap.get? P = some { cls := .none, data := .fields ps } := I.hok P _ hP
  cases hc : codeAmong pos ps.toList with
  | none =>
    refine PySem.W.kla_makeFunction (mg := X.mg) (c := c) (P := P) (ps := ps) (closure_ok hfree) I.ok.glob (I.mod.glob.keeps I.bk) hcode (TB.code.keeps I.bk) hP' ht hc TB.gP bP fun c' ctv h' tk hx hge hlt hrec htb => ?_
    obtain ⟨c2, oc, vs, t, e2, hoc, hd, hv⟩ := hrec
    cases e2
    have nC : H c' = none := I.hok.fresh hge
    have I1 := inv_table (t' := tk) (more := #[rawInt pos.line, rawInt pos.col, .ref c']) (h' := h') I hP (fun b o hb e => hx b o hb e) htb hge ⟨oc, vs, t, hoc, hd, hv⟩
    have hE : ExtN H (upd (upd H P (.tbl (ps ++ #[rawInt pos.line, rawInt pos.col, .ref c']))) c' (CodeO c' (X.env.qual ++ "<lambda>"))) := fun b o e n => by
      rw [upd_ne (ne_of_none e nC), upd_ne (fun z => n ps (Option.some.inj (e.symm.trans (by rw [z]; exact hP))))]
      exact e
    have eL : (ps ++ #[rawInt pos.line, rawInt pos.col, .ref c']).toList = ps.toList ++ [rawInt pos.line, rawInt pos.col, .ref c'] := by simp
    have T1 : TabsN T (upd (upd H P (.tbl (ps ++ #[rawInt pos.line, rawInt pos.col, .ref c']))) c' (CodeO c' (X.env.qual ++ "<lambda>"))) := fun p hp => by
      by_cases hb : p.1 = P
      · rw [hu p hp hb, hb]
        refine ⟨_, by rw [upd_ne (ne_of_none hP nC), upd_same], by rw [eL]; exact PySem.TriplesOk_snoc _ _ _ _ ht, fun p' cv hcv => ?_⟩
        rw [eL] at hcv
        rcases among_app2 _ ht hcv with z | ⟨z, z1, z2⟩
        · obtain ⟨c0, e1, e2⟩ := ha p' cv z
          exact ⟨c0, e1, hE _ _ e2 codeO_ne⟩
        · refine ⟨c', z, ?_⟩
          rw [← z1, ← z2, hn]
          exact upd_same
      · obtain ⟨ps', a1, a2, a3⟩ := hT p hp
        refine ⟨ps', by rw [upd_ne (ne_of_none a1 nC), upd_ne hb]; exact a1, a2, fun p' cv hcv => ?_⟩
        obtain ⟨c0, e1, e2⟩ := a3 p' cv hcv
        exact ⟨c0, e1, hE _ _ e2 codeO_ne⟩
    have nF := I1.hok.fresh (Nat.le_refl _)
    have I2 := inv_lam (F := ⟨"<lambda>", X.env.qual ++ "<lambda>", params, [], scope, cloFrom X.env.cells scope.names [], c'⟩) (b := body) (t' := tk) (pm := (X.mg "__name__").getD .none) (ctv := ctv) I1 rfl
    refine h h'.objs.size c' _ _ I2 (fun b o e n => ?_) (fun b e => upd_none (upd_none (upd_none e))) (T1.ext fun b o e => ?_) (I.hok.fresh (Nat.le_trans hge (Nat.le_of_lt hlt))) upd_same ?_
    · have e1 := hE b o e n
      exact (upd_ne (ne_of_none e1 nF)).trans e1
    · exact (upd_ne (ne_of_none e nF)).trans e
    · exact (upd_ne (Nat.ne_of_lt hlt)).trans upd_same
  | some cv =>
    obtain ⟨c', e, hco⟩ := ha pos cv hc
    subst e
    rw [hn] at hco
    refine PySem.W.kla_makeFunctionHit (mg := X.mg) (c := c) (P := P) (ps := ps) (closure_ok hfree) I.ok.glob (I.mod.glob.keeps I.bk) hcode (TB.code.keeps I.bk) hP' ht hc bP fun ctv h' tk hx hsz => ?_
    have I1 : Inv X pins σ H { s with heap := h', toks := tk } := I.kept hx
    have nF : H h'.objs.size = none := I1.hok.fresh (Nat.le_refl _)
    have I2 := inv_lam (F := ⟨"<lambda>", X.env.qual ++ "<lambda>", params, [], scope, cloFrom X.env.cells scope.names [], c'⟩) (b := body) (t' := tk) (pm := (X.mg "__name__").getD .none) (ctv := ctv) I1 rfl
    refine h h'.objs.size c' _ _ I2 (fun b o e n => ?_) (fun b e => upd_none e) (hT.ext fun b o e => ?_) nF upd_same ?_
    · exact (upd_ne (ne_of_none e nF)).trans e
    · exact (upd_ne (ne_of_none e nF)).trans e
    · exact (upd_ne (ne_of_none hco nF)).trans hco
def tLamN (T : List NTab) (mk : Addr → NF) (b : Expr) : TE := fun σ H Q => TabsN T H ∧ ∀ (f c' : Addr) (H1 : Hp), ExtN H H1 → (∀ b, H1 b = Option.none → H b = Option.none) → TabsN T H1 → H f = none → H1 f = some (LamO f (mk c') b) → H1 c' = some (CodeO c' (mk c').qual) → Q (.ref f) H1
theorem pe_lamN {T : List NTab} {nm : Nat → Nat → Str} {c P : Addr} {params : Arguments} {body : Expr} {scope : Scope} {pos : Pos} (TB : TabB X.base X.mg c P) (hcode : X.env.code = .ref c) (hm : (P, nm) ∈ T) (hn : nm pos.line pos.col = X.env.qual ++ "<lambda>") (hu : ∀ p ∈ T, p.1 = P → p.2 = nm)
    (hdef : defaultsOf params X.env = ([], [])) (hfree : ∀ y ∈ scope.names, y.2 = .free → X.env.scope.names.lookup y.1 = some .cell ∨ X.env.scope.names.lookup y.1 = some .free) :
    PE X (.Lambda params body scope pos) (tLamN T (fun c' => ⟨"<lambda>", X.env.qual ++ "<lambda>", params, [], scope, cloFrom X.env.cells scope.names [], c'⟩) body) := by
  refine ⟨fun pins s σ H Q I ⟨hT, h⟩ => ?_⟩
  have hfr : ∀ y ∈ scope.names, y.2 = .free → ∃ c, X.env.cells.lookup y.1 = some c := fun y hy e => (hfree y hy e).elim (fun z => I.ok.has _ (.inl z)) fun z => I.ok.has _ (.inr z)
  exact lam_makeN I TB hcode hm hn hu hT hdef hfr fun f c' H1 s' I1 eN nn T1 f0 f1 c1 => ⟨.ref f, H1, I1, rfl, h f c' H1 eN nn T1 f0 f1 c1⟩
end
section
variable {P : Program} {w : World} {K : PySem.W.Frag} {mg : Str → Option Value} {base : Heap} {N ps fr : List Str} {Fn : NF} {f : Addr} {k : Nat}
theorem run_lam {A : Around} {outer : List Env} {s : Shared} {H : Hp} {us : List Value} {vs : List V} {ws : List (Option V)} {Q : VK} {E : XK} {b : Expr} (S : NScope N ps fr Fn.scope) (hb : ∀ (pm ctv : Value) (us : List Value), us.length = ps.length → bindArgs (PySem.W.kla_fn Fn.name Fn.qual Fn.params b Fn.scope Fn.cl pm (.ref Fn.c) ctv) ⟨us, []⟩ = pure (ps.zip us))
    (hr : Room (k + 1) A) (e0 : Env0 P w K mg base A outer s H) (hf : H f = some (LamO f Fn b)) (hc : H Fn.c = some (CodeO Fn.c Fn.qual)) (C : CellsAt Fn.cl fr ws s.heap H) (r : Vals vs us) (hl : vs.length = ps.length)
    (hbody : Room k (A.deeper (envF Fn f s.heap.objs.size)) → ∃ t, PE (ncx (L2.CX P w) P w K mg base N Fn f A outer s H E) b t ∧ t (startF N vs ws) H Q) :
    codeAny (model P w) A (.call (.ref f) ⟨us, []⟩) (CR (L2.CX P w) outer P w H s Q E) s := by
  have lim : s.heap.NoLimit := e0.mod.nolimit.keeps fun b o e => (e0.bs b o e).1
  obtain ⟨od, sl, pm, ctv, ho⟩ := lamO_at e0.hok hf
  refine PySem.W.kla_callFunE hr.depth ho rfl S.co S.gen rfl (codeO_at e0.hok hc) ?_
  rw [hb pm ctv us (by rw [← r.length]; exact hl)]
  refine wpAny_pure (wpAny_newFunctionEnv S.nocell (fun ⟨n, _⟩ hy => S.par n (List.of_mem_zip hy).1) (fun h₁ hns hsb => ⟨lim.fresh _ hsb, ?_⟩) S.kind)
  show codeAny _ _ (.expr b (envF Fn f s.heap.objs.size)) _ _
  have kp : ∀ b o, s.heap.get? b = some o → h₁.get? b = some o := fun b o e => hsb.extBut b o (Nat.ne_of_lt (Heap.lt_size e)) (Heap.get?_push_of_some _ e)
  obtain ⟨t, ht, hq⟩ := hbody (hr.deeper _)
  have I : Inv (ncx (L2.CX P w) P w K mg base N Fn f A outer s H E) [] (startF N vs ws) H { s with heap := h₁, toks := s.toks + (ps.zip us).length } := inv_startN S hr.hd e0 hl r C hns kp
  refine PySem.W.kla_codeExpr (wpAny_mono (ht.run [] _ (startF N vs ws) H Q I hq) (fun u s' hs => ?_) fun e s' hs => hs)
  obtain ⟨v, H', J, rv, q⟩ := hs
  exact ⟨v, H', J.os, J.bare, J.base, J.hok, rv, q⟩
end
theorem lam_end {X : Cx} {G : Gh} {H F : Hp} {σ : L2.St} {ρ : Env'} {r : Rs D × Env'} {Q : VK} {E : XK} (gF : G.F0 = F) (gH : G.H0 = H) (gB : G.B = []) (post : Post G.T X.mg F H r.1 Q E) :
    At X G (fun cls d _ H => E cls d H) F H σ ρ r fun d ρ' => ∀ v H' F', Stp X G F H σ ρ F' H' ρ' → Dat F' v d → Q v H' := by
  have grow : ∀ {F' H' : Hp} {ρ' : Env'}, Rep X G F' H' σ ρ' → Grow G.T No F H F' H' := fun {F' H' ρ'} R => by
    have g := R.gr
    rw [gF, gH, gB] at g
    exact g.more fun p ⟨i, h⟩ => nomatch h
  obtain ⟨r, ρ'⟩ := r
  cases r with
  | ok d => exact fun v H' F' st dv => post v H' F' (grow st.rep) dv
  | exc c p => exact fun cls dd H' F' st x => post cls dd H' F' (grow st.rep) x
  | bad => exact post.elim
section
variable {X : Cx} {G : Gh} {W : WX} {pins : List (Addr × Obj)} {σ : L2.St} {H F : Hp} {s : Shared} {ρ : Env'} {E : Ends}
theorem clo_lam {N ps fr : List Str} {js : List Nat} {f : Addr} {F1 : Hp} {Fn : NF} {b : Expr} {m : M D} {k : Nat} (hcl : Fn.cl = cloFrom X.env.cells Fn.scope.names []) (hF : F1 f = some (LamO f Fn b)) (hC : F1 Fn.c = some (CodeO Fn.c Fn.qual)) (S : NScope N ps fr Fn.scope)
    (hb : ∀ (pm ctv : Value) (us : List Value), us.length = ps.length → bindArgs (PySem.W.kla_fn Fn.name Fn.qual Fn.params b Fn.scope Fn.cl pm (.ref Fn.c) ctv) ⟨us, []⟩ = pure (ps.zip us)) (hnd : ndefB X.env.scope Fn.scope fr = true) (hjs : js.map (fun j => X.N[j]?) = fr.map some) (hk : k + 1 ≤ G.k)
    (hbody : ∀ (A : Around) (outer : List Env) (s : Shared) (H : Hp) (E : XK) (G' : Gh), Room k (A.deeper (envF Fn f s.heap.objs.size)) → A.guards = some [] → G'.T = G.T → G'.k = G.k → G'.nf = false → DE (ncx (L2.CX X.prog X.w) X.prog X.w X.K X.mg X.base N Fn f A outer s H E) G' (fun cls d _ H => E cls d H) b m) :
    CloAt X G F1 f js (lamR N.length ps.length m) := by
  intro pins s σ' H' F' caps I nt e1 e2 hT hlc hcap
  have cp : Caps X Fn.cl fr js := by rw [hcl]; exact Caps.made I.ok (ndef_free hnd) (ndef_fr hnd) hjs
  have C := cells_of I cp
  have hjl : js.length = fr.length := by
    have q := congrArg List.length hjs
    rwa [List.length_map, List.length_map] at q
  refine ⟨fun A outer s'' H'' F'' e0 x1 x2 kc => ?_, fun A outer s'' H'' F'' us vs ds Q E hr hg e0 nt2 x1 x2 kc hT2 r da post => ?_⟩
  · obtain ⟨od, sl, pm, ctv, ho⟩ := lamO_at e0.hok (x2 _ _ (x1 _ _ (e1 _ _ hF)))
    exact ⟨_, od, _, sl, ho⟩
  · unfold lamR at post
    by_cases hl : ds.length = ps.length
    · rw [if_pos hl] at post
      have hlv : vs.length = ps.length := da.length.trans hl
      refine run_lam (k := k) S hb (hr.mono hk) e0 (x2 _ _ (x1 _ _ (e1 _ _ hF))) (x2 _ _ (x1 _ _ (e1 _ _ hC))) (DL.CellsAt.keep C kc) r hlv fun hr2 => ?_
      have hpl : ps.length + fr.length ≤ N.length := by
        have q := congrArg List.length S.pre
        rw [List.length_take, List.length_append] at q
        omega
      have R : Rep (ncx (L2.CX X.prog X.w) X.prog X.w X.K X.mg X.base N Fn f A outer s'' H'' E) (nestG G.T G.k F'' H'' nt2) F'' H'' (startF N vs (js.map (slotAt σ'))) (nestE N.length ps.length caps ds) := by
        refine rep_nest (G := nestG G.T G.k F'' H'' nt2) (X := ncx (L2.CX X.prog X.w) X.prog X.w X.K X.mg X.base N Fn f A outer s'' H'' E) hpl hlv (by rw [List.length_map]; exact hjl) (hlc.trans hjl) x2 hT2 rfl rfl rfl da fun a c hac => ?_
        have haj : a < js.length := by rw [← hlc]; exact (List.getElem?_eq_some_iff.mp hac).1
        have hj : js[a]? = some js[a] := List.getElem?_eq_getElem haj
        have o := hcap a _ c hj hac
        cases c with
        | no => trivial
        | d d => obtain ⟨v, e, dv⟩ := o; exact ⟨v, caps_at hj e, dv.mono x1⟩
        | f g => obtain ⟨f, e, at_⟩ := o; exact ⟨f, caps_at hj e, at_.later x1 kc⟩
      exact ⟨_, (hbody A outer s'' H'' E (nestG G.T G.k F'' H'' nt2) hr2 hg rfl rfl rfl).pe, F'', _, R, lam_end (G := nestG G.T G.k F'' H'' nt2) (X := ncx (L2.CX X.prog X.w) X.prog X.w X.K X.mg X.base N Fn f A outer s'' H'' E) rfl rfl rfl post⟩
    · rw [if_neg hl] at post; exact post.elim
def mLam (js : List Nat) (k : List Cap → List D → Rs D) (r : M (List Ar)) : M (List Ar) := r.bind fun as => .ret (.l js k :: as)
theorem DR.lam {nm : Nat → Nat → Str} {c P : Addr} {params : Arguments} {body : Expr} {scope : Scope} {pos : Pos} {k : Nat} {N ps fr : List Str} {js : List Nat} {m : M D} {es : List Expr} {mr : M (List Ar)} (TB : TabB X.base X.mg c P) (hcode : X.env.code = .ref c) (hm : (P, nm) ∈ G.T) (hn : nm pos.line pos.col = X.env.qual ++ "<lambda>")
    (hu : ∀ p ∈ G.T, p.1 = P → p.2 = nm) (hdef : defaultsOf params X.env = ([], []))
    (S : NScope N ps fr scope) (hb : ∀ (qual : Str) (cl : List (Str × Addr)) (c' : Addr) (pm ctv : Value) (us : List Value), us.length = ps.length → bindArgs (PySem.W.kla_fn "<lambda>" qual params body scope cl pm (.ref c') ctv) ⟨us, []⟩ = pure (ps.zip us)) (hnd : ndefB X.env.scope scope fr = true) (hjs : js.map (fun j => X.N[j]?) = fr.map some) (hk : k + 1 ≤ G.k) (nf : G.nf = false)
    (hbody : ∀ (f c' : Addr) (cl : List (Str × Addr)) (A : Around) (outer : List Env) (s : Shared) (H : Hp) (E : XK) (G' : Gh), Room k (A.deeper (envF ⟨"<lambda>", X.env.qual ++ "<lambda>", params, [], scope, cl, c'⟩ f s.heap.objs.size)) → A.guards = some [] → G'.T = G.T → G'.k = G.k → G'.nf = false → DE (ncx (L2.CX X.prog X.w) X.prog X.w X.K X.mg X.base N ⟨"<lambda>", X.env.qual ++ "<lambda>", params, [], scope, cl, c'⟩ f A outer s H E) G' (fun cls d _ H => E cls d H) body m)
    (hr : DR X G W es mr) (hs : starEach (.Lambda params body scope pos :: es) X.env = (false, eval (.Lambda params body scope pos) X.env) :: starEach es X.env := by rfl) :
    DR X G W (.Lambda params body scope pos :: es) (mLam js (lamR N.length ps.length m) mr) :=
  ⟨PA.imp (pa_cons (pe_lamN TB hcode hm hn hu hdef (ndef_free hnd)) hr.pa hs) fun σ H Q ⟨F, ρ, R, hq⟩ => ⟨R.tabs, fun f c' H1 eN nn T1 f0 f1 c1 => by
    have g := make_grow (G := G) (F := F) R.sub R.noT eN nn T1 f0 f1 c1 (fun ps => lamO_ne ps) (fun ps => codeO_ne ps) (fun xs => codeO_nl xs)
    have st : Stp X G F H σ ρ (frzF F H1 f c') H1 ρ := (Stp.refl R).grow g
    have clo : CloAt X G (frzF F H1 f c') f js (lamR N.length ps.length m) := clo_lam (Fn := ⟨"<lambda>", X.env.qual ++ "<lambda>", params, [], scope, cloFrom X.env.cells scope.names [], c'⟩) rfl (frzF_f.trans f1) (frzF_c.trans c1) S (fun pm ctv us => hb _ _ c' pm ctv us) hnd hjs hk (fun A outer s H E G' => hbody f c' _ A outer s H E G')
    unfold mLam at hq
    exact ⟨frzF F H1 f c', ρ, st.rep, At.mono (At.bindM hq) st fun as ρ2 _ q2 => fun vs H2 F2 st2 sv => q2 (.ref f :: vs) H2 F2 (st.trans st2) (.cons ⟨nf, f, rfl, clo.later st2.f⟩ sv)⟩⟩, fun ρ as ρ' h => by
    unfold mLam at h
    obtain ⟨as', ρ2, h1, h⟩ := M.bind_ok h
    cases h
    exact congrArg Nat.succ (hr.len _ _ _ h1)⟩
theorem cells_none {cells : List (Str × Addr)} {names : List (Str × NameKind)} {cl : List (Str × Addr)} (hcl : cl = cloFrom cells names []) (hno : (names.all fun p => decide (p.2 ≠ .free)) = true) (h' : Heap) (H' : Hp) : CellsAt cl [] [] h' H' := by
  have no : ∀ (y : Str) (c : Addr), ¬ cl.lookup y = some c := fun y c e => by
    rw [hcl] at e
    rcases cloFrom_mem (PySem.mem_of_lookup e) with z | ⟨z, _⟩
    · cases z
    · have := List.all_eq_true.mp hno _ z
      simp at this
  exact ⟨rfl, fun y c e => absurd e (no y c), fun y z c e => absurd e (no y c), fun i y e => by simp at e⟩
theorem all_lam {N ps : List Str} {f : Addr} {F1 : Hp} {Fn : NF} {b : Expr} {m : M D} {k : Nat} (hcl : Fn.cl = cloFrom X.env.cells Fn.scope.names []) (hF : F1 f = some (LamO f Fn b)) (hC : F1 Fn.c = some (CodeO Fn.c Fn.qual)) (S : NScope N ps [] Fn.scope)
    (hb : ∀ (pm ctv : Value) (us : List Value), us.length = ps.length → bindArgs (PySem.W.kla_fn Fn.name Fn.qual Fn.params b Fn.scope Fn.cl pm (.ref Fn.c) ctv) ⟨us, []⟩ = pure (ps.zip us)) (hno : (Fn.scope.names.all fun p => decide (p.2 ≠ .free)) = true) (hnd : ndefB X.env.scope Fn.scope [] = true) (hk : k + 1 ≤ G.k)
    (hbody : ∀ (A : Around) (outer : List Env) (s : Shared) (H : Hp) (E : XK) (G' : Gh), Room k (A.deeper (envF Fn f s.heap.objs.size)) → A.guards = some [] → G'.T = G.T → G'.k = G.k → G'.nf = false → DE (ncx (L2.CX X.prog X.w) X.prog X.w X.K X.mg X.base N Fn f A outer s H E) G' (fun cls d _ H => E cls d H) b m) :
    AllAt X G F1 f (lamR N.length ps.length m []) := by
  intro pins s σ' H' F' I nt e1 e2 hT h0 H0
  refine ⟨fun A outer s'' H'' F'' e0 x1 x2 kc => ?_, fun A outer s'' H'' F'' us vs ds Q E hr hg e0 nt2 x1 x2 kc hT2 r da post => ?_⟩
  · obtain ⟨od, sl, pm, ctv, ho⟩ := lamO_at e0.hok (x2 _ _ (x1 _ _ (e1 _ _ hF)))
    exact ⟨_, od, _, sl, ho⟩
  · unfold lamR at post
    by_cases hl : ds.length = ps.length
    · rw [if_pos hl] at post
      have hlv : vs.length = ps.length := da.length.trans hl
      refine run_lam (k := k) S hb (hr.mono hk) e0 (x2 _ _ (x1 _ _ (e1 _ _ hF))) (x2 _ _ (x1 _ _ (e1 _ _ hC))) (cells_none hcl hno _ _) r hlv fun hr2 => ?_
      have hpl : ps.length + ([] : List Str).length ≤ N.length := by
        have q := congrArg List.length S.pre
        rw [List.length_take, List.length_append] at q
        omega
      have R : Rep (ncx (L2.CX X.prog X.w) X.prog X.w X.K X.mg X.base N Fn f A outer s'' H'' E) (nestG G.T G.k F'' H'' nt2) F'' H'' (startF N vs (([] : List Nat).map (slotAt σ'))) (nestE N.length ps.length [] ds) := by
        refine rep_nest (G := nestG G.T G.k F'' H'' nt2) (X := ncx (L2.CX X.prog X.w) X.prog X.w X.K X.mg X.base N Fn f A outer s'' H'' E) hpl hlv rfl rfl x2 hT2 rfl rfl rfl da fun a c hac => by cases hac
      exact ⟨_, (hbody A outer s'' H'' E (nestG G.T G.k F'' H'' nt2) hr2 hg rfl rfl rfl).pe, F'', _, R, lam_end (G := nestG G.T G.k F'' H'' nt2) (X := ncx (L2.CX X.prog X.w) X.prog X.w X.K X.mg X.base N Fn f A outer s'' H'' E) rfl rfl rfl post⟩
    · rw [if_neg hl] at post; exact post.elim
def mLam0 (g : List D → Rs D) (r : M (List Ar)) : M (List Ar) := r.bind fun as => .ret (.a g :: as)
theorem DR.lam0 {nm : Nat → Nat → Str} {c P : Addr} {params : Arguments} {body : Expr} {scope : Scope} {pos : Pos} {k : Nat} {N ps : List Str} {m : M D} {es : List Expr} {mr : M (List Ar)} (TB : TabB X.base X.mg c P) (hcode : X.env.code = .ref c) (hm : (P, nm) ∈ G.T) (hn : nm pos.line pos.col = X.env.qual ++ "<lambda>")
    (hu : ∀ p ∈ G.T, p.1 = P → p.2 = nm) (hdef : defaultsOf params X.env = ([], []))
    (S : NScope N ps [] scope) (hb : ∀ (qual : Str) (cl : List (Str × Addr)) (c' : Addr) (pm ctv : Value) (us : List Value), us.length = ps.length → bindArgs (PySem.W.kla_fn "<lambda>" qual params body scope cl pm (.ref c') ctv) ⟨us, []⟩ = pure (ps.zip us)) (hno : (scope.names.all fun p => decide (p.2 ≠ .free)) = true) (hnd : ndefB X.env.scope scope [] = true) (hk : k + 1 ≤ G.k)
    (hbody : ∀ (f c' : Addr) (cl : List (Str × Addr)) (A : Around) (outer : List Env) (s : Shared) (H : Hp) (E : XK) (G' : Gh), Room k (A.deeper (envF ⟨"<lambda>", X.env.qual ++ "<lambda>", params, [], scope, cl, c'⟩ f s.heap.objs.size)) → A.guards = some [] → G'.T = G.T → G'.k = G.k → G'.nf = false → DE (ncx (L2.CX X.prog X.w) X.prog X.w X.K X.mg X.base N ⟨"<lambda>", X.env.qual ++ "<lambda>", params, [], scope, cl, c'⟩ f A outer s H E) G' (fun cls d _ H => E cls d H) body m)
    (hr : DR X G W es mr) (hs : starEach (.Lambda params body scope pos :: es) X.env = (false, eval (.Lambda params body scope pos) X.env) :: starEach es X.env := by rfl) :
    DR X G W (.Lambda params body scope pos :: es) (mLam0 (lamR N.length ps.length m []) mr) :=
  ⟨PA.imp (pa_cons (pe_lamN TB hcode hm hn hu hdef (ndef_free hnd)) hr.pa hs) fun σ H Q ⟨F, ρ, R, hq⟩ => ⟨R.tabs, fun f c' H1 eN nn T1 f0 f1 c1 => by
    have g := make_grow (G := G) (F := F) R.sub R.noT eN nn T1 f0 f1 c1 (fun ps => lamO_ne ps) (fun ps => codeO_ne ps) (fun xs => codeO_nl xs)
    have st : Stp X G F H σ ρ (frzF F H1 f c') H1 ρ := (Stp.refl R).grow g
    have clo : AllAt X G (frzF F H1 f c') f (lamR N.length ps.length m []) := all_lam (Fn := ⟨"<lambda>", X.env.qual ++ "<lambda>", params, [], scope, cloFrom X.env.cells scope.names [], c'⟩) rfl (frzF_f.trans f1) (frzF_c.trans c1) S (fun pm ctv us => hb _ _ c' pm ctv us) hno hnd hk (fun A outer s H E G' => hbody f c' _ A outer s H E G')
    unfold mLam0 at hq
    exact ⟨frzF F H1 f c', ρ, st.rep, At.mono (At.bindM hq) st fun as ρ2 _ q2 => fun vs H2 F2 st2 sv => q2 (.ref f :: vs) H2 F2 (st.trans st2) (.cons ⟨f, rfl, clo.later st2.f⟩ sv)⟩⟩, fun ρ as ρ' h => by
    unfold mLam0 at h
    obtain ⟨as', ρ2, h1, h⟩ := M.bind_ok h
    cases h
    exact congrArg Nat.succ (hr.len _ _ _ h1)⟩
end
end
end DL

end
section
set_option maxRecDepth 100000
set_option maxHeartbeats 2000000
/-! What the mirrors give: the plain side. -/
namespace DL
noncomputable section
open PySem PySem.Spec L2 LamX NdefX
open PyProof.Rows hiding St
/-! ### repr -/
structure Rp (k n : Nat) (d : D) : Prop where
  sh : shp k d = true
  sw : d.showable = true
  lf : d.leavesShort 13 = true
  bk : d.bulk ≤ n
theorem Rp.int {k n : Nat} {i : Int} (h : i.natAbs < 10 ^ 12) : Rp k n (.int i) := by
  refine ⟨by cases k <;> simp [shp], ?_, ?_, by simp [PyData.bulk]⟩
  · simp only [PyData.showable, decide_eq_true_eq]
    by_cases z : i.natAbs = 0
    · rw [z]; decide
    · exact (Nat.log2_lt z).mpr (Nat.lt_trans h (by decide))
  · simp only [PyData.leavesShort, decide_eq_true_eq]
    exact PyData.shown_int_le h
theorem Rp.bool {k n : Nat} {b : Bool} : Rp k n (.bool b) := ⟨by cases k <;> simp [shp], by simp [PyData.showable], by simp [PyData.leavesShort], by simp [PyData.bulk]⟩
theorem Rp.none {k n : Nat} : Rp k n .none := ⟨by cases k <;> simp [shp], by simp [PyData.showable], by simp [PyData.leavesShort], by simp [PyData.bulk]⟩
theorem Rp.all {k m : Nat} : ∀ {xs : List D}, (∀ x ∈ xs, Rp k m x) → xs.all (shp k) = true ∧ PyData.showableAll xs = true ∧ PyData.leavesShortAll 13 xs = true ∧ PyData.bulkAll xs ≤ xs.length * (m + 1)
  | [], _ => by simp [PyData.showableAll, PyData.leavesShortAll, PyData.bulkAll]
  | x :: xs, h => by
    obtain ⟨h1, h2, h3, h4⟩ := Rp.all fun y hy => h y (List.mem_cons_of_mem _ hy)
    obtain ⟨g1, g2, g3, g4⟩ := h x List.mem_cons_self
    refine ⟨by rw [List.all_cons, g1, h1]; rfl, by simp [PyData.showableAll, g2, h2], by simp [PyData.leavesShortAll, g3, h3], ?_⟩
    simp only [PyData.bulkAll, List.length_cons, Nat.add_mul]
    omega
theorem Rp.list {k m n : Nat} {xs : List D} (h : ∀ x ∈ xs, Rp k m x) (hn : xs.length * (m + 1) ≤ n) : Rp (k + 1) n (.list xs) := by
  obtain ⟨h1, h2, h3, h4⟩ := Rp.all h
  exact ⟨by simpa [shp] using h1, by simpa [PyData.showable] using h2, by simpa [PyData.leavesShort] using h3, by simp only [PyData.bulk]; omega⟩
theorem Rp.tup {k m n : Nat} {xs : List D} (h : ∀ x ∈ xs, Rp k m x) (hn : xs.length * (m + 1) ≤ n) : Rp (k + 1) n (.tuple xs) := by
  obtain ⟨h1, h2, h3, h4⟩ := Rp.all h
  exact ⟨by simpa [shp] using h1, by simpa [PyData.showable] using h2, by simpa [PyData.leavesShort] using h3, by simp only [PyData.bulk]; omega⟩
theorem repr_ok {n : Nat} {d : D} (h : Rp 20 n d) (hn : n ≤ 1000000) : pRepr [d] = .ok (.str d.shown) := by
  have e := PyData.shown_le_bulk 13 (by decide) d h.lf
  have b := h.bk
  exact if_pos ⟨h.sh, h.sw, by omega⟩
/-! ### loops -/
theorem bindR {α β : Type} {m : M α} {f : α → M β} {ρ ρ' : Env'} {a : α} (h : m ρ = (.ok a, ρ')) : (m.bind f) ρ = f a ρ' := by
  unfold M.bind
  rw [h]
theorem forM_inv {g : D → Env' → Option Env'} {body : MS} (I : List D → Env' → Prop) (all : List D) : ∀ (ds done : List D) (ρ : Env'), all = done ++ ds → I done ρ →
    (∀ (done : List D) (d : D) (rest : List D), all = done ++ d :: rest → ∀ ρ : Env', I done ρ → ∃ ρ1 ρ2, g d ρ = some ρ1 ∧ (body ρ1 = (.ok .nx, ρ2) ∨ body ρ1 = (.ok .ct, ρ2)) ∧ I (done ++ [d]) ρ2) → ∃ ρ', forM g body ds ρ = (.ok .nx, ρ') ∧ I all ρ'
  | [], done, ρ, e, h, _ => ⟨ρ, rfl, by rw [e, List.append_nil]; exact h⟩
  | d :: ds, done, ρ, e, h, step => by
    obtain ⟨ρ1, ρ2, e1, e2, h2⟩ := step done d ds e ρ h
    obtain ⟨ρ', e3, h3⟩ := forM_inv I all ds (done ++ [d]) ρ2 (by rw [e, List.append_assoc]; rfl) h2 step
    refine ⟨ρ', ?_, h3⟩
    show (match g d ρ with | none => (Rs.bad, ρ) | some ρ1 => afterB (forM g body ds) (body ρ1)) = _
    rw [e1]
    show afterB (forM g body ds) (body ρ1) = _
    rcases e2 with e2 | e2 <;> rw [e2] <;> exact e3
/-- a loop, by what holds after the turns done -/
theorem for_inv {mi : M (List D)} {g : D → Env' → Option Env'} {body : MS} {ds : List D} {ρ ρ1 : Env'} (I : List D → Env' → Prop) (hi : mi ρ = (.ok ds, ρ1)) (h0 : I [] ρ1)
    (step : ∀ (done : List D) (d : D) (rest : List D), ds = done ++ d :: rest → ∀ ρ : Env', I done ρ → ∃ ρ1 ρ2, g d ρ = some ρ1 ∧ (body ρ1 = (.ok .nx, ρ2) ∨ body ρ1 = (.ok .ct, ρ2)) ∧ I (done ++ [d]) ρ2) : ∃ ρ', mFor mi g body ρ = (.ok .nx, ρ') ∧ I ds ρ' := by
  obtain ⟨ρ', e, h⟩ := forM_inv (g := g) (body := body) I ds ds [] ρ1 rfl h0 step
  refine ⟨ρ', ?_, h⟩
  unfold mFor
  rw [bindR hi]
  exact e
theorem wipeR_get' (vs : List Nat) (ρ : Env') (i : Nat) (hi : i ∉ vs) : (wipeR ρ vs)[i]? = ρ[i]? := by
  induction vs with
  | nil => rfl
  | cons v vs ih =>
    unfold wipeR
    rw [List.getElem?_set_ne (fun z => hi (by rw [z]; exact List.mem_cons_self))]
    exact ih fun z => hi (List.mem_cons_of_mem _ z)
theorem leave_enter (vs : List Nat) (ρ : Env') : leaveR vs ρ (enterR vs ρ) = ρ := by
  apply List.ext_getElem?
  intro i
  unfold leaveR
  rw [List.getElem?_mapIdx]
  cases e : ρ[i]? with
  | none => rfl
  | some sl =>
    show some (if i ∈ vs then sl else leaveS sl ((enterR vs ρ).getD i .emp)) = some sl
    split
    · rfl
    · rename_i hi
      have e2 : (enterR vs ρ)[i]? = some (hideS sl) := by
        unfold enterR
        rw [wipeR_get' vs _ i hi, List.getElem?_map, e]; rfl
      rw [List.getD_eq_getElem?_getD, e2]
      cases sl <;> rfl
theorem lpB_pure {vs : List Nat} {g : D → Env' → Option Env'} {mt : M Bool} {me : M D} {ρ : Env'} (t : D → Bool) (f : D → D) : ∀ (ds acc : List D), acc.length + ds.length ≤ 16777216 →
    (∀ d ∈ ds, ∃ ρd, g d ρ = some ρd ∧ wipeR ρd vs = ρ ∧ mt ρd = (.ok (t d), ρd) ∧ (t d = true → me ρd = (.ok (f d), ρd))) → lpB vs g (bOne mt me) ds acc ρ = (.ok (acc ++ (ds.filter t).map f), ρ)
  | [], acc, _, _ => by rw [List.filter_nil, List.map_nil, List.append_nil]; rfl
  | d :: ds, acc, hl, h => by
    obtain ⟨ρd, e1, e2, e3, e4⟩ := h d List.mem_cons_self
    have hl' : acc.length + (ds.length + 1) ≤ 16777216 := hl
    have ih := fun acc' (hh : acc'.length + ds.length ≤ 16777216) => lpB_pure (vs := vs) (g := g) (mt := mt) (me := me) (ρ := ρ) t f ds acc' hh fun x hx => h x (List.mem_cons_of_mem _ hx)
    show (match g d ρ with | none => (Rs.bad, ρ) | some ρ1 => ((bOne mt me acc).bind fun a => (wipeM vs).bind fun _ => lpB vs g (bOne mt me) ds a) ρ1) = _
    rw [e1]
    show ((bOne mt me acc).bind fun a => (wipeM vs).bind fun _ => lpB vs g (bOne mt me) ds a) ρd = _
    cases ht : t d with
    | false =>
      have q : bOne mt me acc ρd = (.ok acc, ρd) := by
        unfold bOne M.bind
        rw [e3, ht]; rfl
      unfold M.bind
      rw [q]
      show lpB vs g (bOne mt me) ds acc (wipeR ρd vs) = _
      rw [e2, ih acc (by omega), List.filter_cons_of_neg (by rw [ht]; decide)]
    | true =>
      have q : bOne mt me acc ρd = (.ok (acc ++ [f d]), ρd) := by
        have lt : acc.length < 16777216 := by omega
        have e5 : (M.lift (grd (acc.length < 16777216) (.ok ()))) ρd = (.ok (), ρd) := by
          unfold M.lift grd
          rw [if_pos lt]
        rw [ht] at e3
        unfold bOne
        rw [bindR e3, if_pos rfl, bindR (e4 ht), bindR e5]
        rfl
      unfold M.bind
      rw [q]
      show lpB vs g (bOne mt me) ds (acc ++ [f d]) (wipeR ρd vs) = _
      rw [e2, ih _ (by rw [List.length_append]; simp only [List.length_singleton]; omega), List.filter_cons_of_pos ht, List.map_cons, List.append_assoc]; rfl
/-- a comprehension whose parts change nothing -/
theorem lc_pure {mi : M (List D)} {vs : List Nat} {g : D → Env' → Option Env'} {mt : M Bool} {me : M D} {ρ ρ1 : Env'} {ds : List D} (t : D → Bool) (f : D → D) (hi : mi ρ = (.ok ds, ρ1)) (hl : ds.length ≤ 16777216)
    (h : ∀ d ∈ ds, ∃ ρd, g d (enterR vs ρ1) = some ρd ∧ wipeR ρd vs = enterR vs ρ1 ∧ mt ρd = (.ok (t d), ρd) ∧ (t d = true → me ρd = (.ok (f d), ρd))) : mLc mi vs g mt me ρ = (.ok ((ds.filter t).map f), ρ1) := by
  unfold mLc
  rw [bindR hi]
  unfold runB
  rw [lpB_pure t f ds [] (by simpa using hl) h]
  show (Rs.ok _, leaveR vs ρ1 (enterR vs ρ1)) = _
  rw [leave_enter]
  rfl
theorem lpB2_pure {vs vs1 : List Nat} {g g1 : D → Env' → Option Env'} {mt mt1 : M Bool} {mi : M (List D)} {me : M D} {ρ : Env'} {m : Nat} (t : D → Bool) (es : D → List D) (t1 : D → D → Bool) (f : D → D → D) : ∀ (ds acc : List D), acc.length + ds.length * m ≤ 16777216 →
    (∀ d ∈ ds, ∃ ρd, g d ρ = some ρd ∧ wipeR ρd vs = ρ ∧ mt ρd = (.ok (t d), ρd) ∧ (t d = true → mi ρd = (.ok (es d), ρd) ∧ (es d).length ≤ m ∧ wipeR (wipeR ρd vs1) vs = ρ ∧ ∀ e ∈ es d, ∃ ρe, g1 e (wipeR ρd vs1) = some ρe ∧ wipeR ρe vs1 = wipeR ρd vs1 ∧ mt1 ρe = (.ok (t1 d e), ρe) ∧ (t1 d e = true → me ρe = (.ok (f d e), ρe)))) →
    lpB vs g (bTwo mt mi vs1 g1 mt1 me) ds acc ρ = (.ok (acc ++ (ds.filter t).flatMap fun d => ((es d).filter (t1 d)).map (f d)), ρ)
  | [], acc, _, _ => by rw [List.filter_nil, List.flatMap_nil, List.append_nil]; rfl
  | d :: ds, acc, hl, h => by
    obtain ⟨ρd, e1, e2, e3, e4⟩ := h d List.mem_cons_self
    have hl' : acc.length + (ds.length + 1) * m ≤ 16777216 := hl
    have hl2 : (ds.length + 1) * m = ds.length * m + m := by rw [Nat.add_mul, Nat.one_mul]
    have ih := fun acc' (hh : acc'.length + ds.length * m ≤ 16777216) => lpB2_pure (vs := vs) (vs1 := vs1) (g := g) (g1 := g1) (mt := mt) (mt1 := mt1) (mi := mi) (me := me) (ρ := ρ) (m := m) t es t1 f ds acc' hh fun x hx => h x (List.mem_cons_of_mem _ hx)
    show (match g d ρ with | none => (Rs.bad, ρ) | some ρ1 => ((bTwo mt mi vs1 g1 mt1 me acc).bind fun a => (wipeM vs).bind fun _ => lpB vs g (bTwo mt mi vs1 g1 mt1 me) ds a) ρ1) = _
    rw [e1]
    show ((bTwo mt mi vs1 g1 mt1 me acc).bind fun a => (wipeM vs).bind fun _ => lpB vs g (bTwo mt mi vs1 g1 mt1 me) ds a) ρd = _
    cases ht : t d with
    | false =>
      have q : bTwo mt mi vs1 g1 mt1 me acc ρd = (.ok acc, ρd) := by
        rw [ht] at e3
        unfold bTwo
        rw [bindR e3]; rfl
      rw [bindR q]
      show lpB vs g _ ds acc (wipeR ρd vs) = _
      rw [e2, ih acc (by omega), List.filter_cons_of_neg (by rw [ht]; decide)]
    | true =>
      obtain ⟨e5, e6, e7, e8⟩ := e4 ht
      have hk : (((es d).filter (t1 d)).map (f d)).length ≤ m := by rw [List.length_map]; exact Nat.le_trans (List.length_filter_le _ _) e6
      have q : bTwo mt mi vs1 g1 mt1 me acc ρd = (.ok (acc ++ ((es d).filter (t1 d)).map (f d)), wipeR ρd vs1) := by
        rw [ht] at e3
        unfold bTwo
        rw [bindR e3, if_pos rfl, bindR e5]
        show lpB vs1 g1 (bOne mt1 me) (es d) acc (wipeR ρd vs1) = _
        exact lpB_pure (t1 d) (f d) (es d) acc (by omega) e8
      rw [bindR q]
      show lpB vs g _ ds _ (wipeR (wipeR ρd vs1) vs) = _
      rw [e7, ih _ (by rw [List.length_append]; omega), List.filter_cons_of_pos ht, List.flatMap_cons, List.append_assoc]
theorem lc2_pure {mi : M (List D)} {vs vs1 : List Nat} {g g1 : D → Env' → Option Env'} {mt mt1 : M Bool} {mi1 : M (List D)} {me : M D} {ρ ρ1 : Env'} {ds : List D} {m : Nat} (t : D → Bool) (es : D → List D) (t1 : D → D → Bool) (f : D → D → D) (hi : mi ρ = (.ok ds, ρ1)) (hl : ds.length * m ≤ 16777216)
    (h : ∀ d ∈ ds, ∃ ρd, g d (enterR vs ρ1) = some ρd ∧ wipeR ρd vs = enterR vs ρ1 ∧ mt ρd = (.ok (t d), ρd) ∧ (t d = true → mi1 ρd = (.ok (es d), ρd) ∧ (es d).length ≤ m ∧ wipeR (wipeR ρd vs1) vs = enterR vs ρ1 ∧ ∀ e ∈ es d, ∃ ρe, g1 e (wipeR ρd vs1) = some ρe ∧ wipeR ρe vs1 = wipeR ρd vs1 ∧ mt1 ρe = (.ok (t1 d e), ρe) ∧ (t1 d e = true → me ρe = (.ok (f d e), ρe)))) :
    mLc2 mi vs g mt mi1 vs1 g1 mt1 me ρ = (.ok ((ds.filter t).flatMap fun d => ((es d).filter (t1 d)).map (f d)), ρ1) := by
  unfold mLc2
  rw [bindR hi]
  unfold runB
  rw [lpB2_pure t es t1 f ds [] (by simpa using hl) h]
  show (Rs.ok _, leaveR vs ρ1 (enterR vs ρ1)) = _
  rw [leave_enter]
  rfl
theorem ite_ap {α β : Type} {c : Prop} [Decidable c] (f g : α → β) (x : α) : (if c then f else g) x = if c then f x else g x := by
  split <;> rfl
theorem at3_0 {a b c : D} : atI [a, b, c] 0 = some a := rfl
theorem at3_1 {a b c : D} : atI [a, b, c] 1 = some b := rfl
theorem at3_2 {a b c : D} : atI [a, b, c] 2 = some c := rfl
theorem at2_0 {a b : D} : atI [a, b] 0 = some a := rfl
theorem at2_1 {a b : D} : atI [a, b] 1 = some b := rfl
theorem ix3_0 : ixN 3 0 = some 0 := rfl
theorem ix3_1 : ixN 3 1 = some 1 := rfl
theorem ix3_2 : ixN 3 2 = some 2 := rfl
theorem grd_t {α : Type} {c : Prop} [Decidable c] {r : Rs α} (h : c) : grd c r = r := if_pos h
/-- a product with a small number -/
theorem mul_ok {i j : Int} (h : (-(2 ^ 64) < i ∧ i < 2 ^ 64) ∨ (-(2 ^ 64) < j ∧ j < 2 ^ 64)) : pMul (.int i) (.int j) = .ok (.int (i * j)) := if_pos h
theorem mulR {i j : Int} (h1 : -1000000000000 < j := by decide) (h2 : j < 1000000000000 := by decide) : pMul (.int i) (.int j) = .ok (.int (i * j)) := if_pos (.inr ⟨by omega, by omega⟩)
theorem mulL {i j : Int} (h1 : -1000000000000 < i := by decide) (h2 : i < 1000000000000 := by decide) : pMul (.int i) (.int j) = .ok (.int (i * j)) := if_pos (.inl ⟨by omega, by omega⟩)
theorem add_ii {i j : Int} : pAdd (.int i) (.int j) = .ok (.int (i + j)) := rfl
theorem sub_ii {i j : Int} : pSub (.int i) (.int j) = .ok (.int (i - j)) := rfl
theorem gt_ii {i j : Int} : pGt (.int i) (.int j) = .ok (.bool (decide (j < i))) := rfl
theorem lt_ii {i j : Int} : pLt (.int i) (.int j) = .ok (.bool (decide (i < j))) := rfl
theorem ge_ii {i j : Int} : pGe (.int i) (.int j) = .ok (.bool (decide (j ≤ i))) := rfl
theorem le_ii {i j : Int} : pLe (.int i) (.int j) = .ok (.bool (decide (i ≤ j))) := rfl
theorem ix_l {xs : List D} {i : Int} : pIx (.list xs) (.int i) = ofO (atI xs i) .ok := rfl
theorem ix_t {xs : List D} {i : Int} : pIx (.tuple xs) (.int i) = ofO (atI xs i) .ok := rfl
theorem ofO_s {α β : Type} {a : α} {f : α → Rs β} : ofO (some a) f = f a := rfl
theorem int_i {i : Int} : pInt [.int i] = .ok (.int i) := rfl
theorem len_l {xs : List D} : pLen [.list xs] = .ok (.int xs.length) := rfl
theorem len_t {xs : List D} : pLen [.tuple xs] = .ok (.int xs.length) := rfl
theorem modR {i j : Int} (h : 0 < j) : pMod (.int i) (.int j) = .ok (.int (i % j)) := by
  show grd (j ≠ 0) (Rs.ok (PyData.int (i.fmod j))) = _
  rw [grd_t (by omega), Int.fmod_eq_emod_of_nonneg _ (by omega)]
theorem fdR {i j : Int} (h : 0 < j) (h2 : j < 1000000000) : pFdiv (.int i) (.int j) = .ok (.int (i / j)) := by
  show grd (j ≠ 0 ∧ j.natAbs < 1073741824) (Rs.ok (PyData.int (i.fdiv j))) = _
  rw [grd_t (by omega), Int.fdiv_eq_ediv_of_nonneg _ (by omega)]
theorem mulMod {i x m k : Int} (h1 : 0 < m) (h2 : m < 1000000000) (h3 : 0 ≤ k) (h4 : k < 1000000000) : pMul (.int i) (.int (x % m + k)) = .ok (.int (i * (x % m + k))) := by
  have a := Int.emod_nonneg x (show m ≠ 0 by omega)
  have b := Int.emod_lt_of_pos x h1
  exact if_pos (.inr ⟨by omega, by omega⟩)
theorem mulModL {i x m : Int} (h1 : 0 < m) (h2 : m < 10000000000) : pMul (.int (x % m)) (.int i) = .ok (.int (x % m * i)) := by
  have a := Int.emod_nonneg x (show m ≠ 0 by omega)
  have b := Int.emod_lt_of_pos x h1
  exact if_pos (.inl ⟨by omega, by omega⟩)
theorem seqR {m1 m2 : MS} {ρ ρ1 : Env'} (h : m1 ρ = (.ok .nx, ρ1)) : mSeq m1 m2 ρ = m2 ρ1 := by
  unfold mSeq
  rw [bindR h]
theorem fnR_bor {n : Nat} {m : MS} {xs ys : List D} {sls : List Slot} {r : Rs Fl} {ρ' : Env'} (h : m (.bor xs :: (sls ++ List.replicate (n - (sls.length + 1)) Slot.emp)) = (r, .bor ys :: ρ')) : fnR n m (.bor xs :: sls) = (rvOf r, ys) := by
  unfold fnR
  show (match headB (m (.bor xs :: (sls ++ List.replicate (n - (sls.length + 1)) Slot.emp))).2 with | some ys => (rvOf (m (.bor xs :: (sls ++ List.replicate (n - (sls.length + 1)) Slot.emp))).1, ys) | none => (.bad, [])) = _
  rw [h]
  rfl
theorem fnR_non {n : Nat} {m : MS} {sls : List Slot} {r : Rs Fl} {ρ' : Env'} (hb : headB sls = none) (h : m (sls ++ List.replicate (n - sls.length) .emp) = (r, ρ')) : fnR n m sls = (rvOf r, []) := by
  unfold fnR
  rw [h, hb]
theorem rng1_ok {j : Int} (h : j < 1000000000) (h0 : -1000000000 < j) : pRng1 [.int j] = .ok (rngL 0 j.toNat) := by
  show grd (-(2 ^ 62) ≤ j ∧ j < 2 ^ 62) _ = _
  exact grd_t ⟨by omega, by omega⟩
theorem rng2_ok {i j : Int} (h0 : -1000000000 < i) (h1 : i < 1000000000) (h : j < 1000000000) (h2 : -1000000000 < j) : pRng2 [.int i, .int j] = .ok (rngL i (j - i).toNat) := by
  show grd (-(2 ^ 62) ≤ i ∧ i < 2 ^ 62 ∧ -(2 ^ 62) ≤ j ∧ j < 2 ^ 62) _ = _
  exact grd_t ⟨by omega, by omega, by omega, by omega⟩
theorem mem_rng {lo : Int} {n : Nat} {d : D} : d ∈ rngL lo n ↔ ∃ i : Nat, i < n ∧ d = .int (lo + i) := by
  unfold rngL
  rw [List.mem_map]
  exact ⟨fun ⟨i, h, e⟩ => ⟨i, List.mem_range.mp h, e.symm⟩, fun ⟨i, h, e⟩ => ⟨i, List.mem_range.mpr h, e.symm⟩⟩
theorem rng_len {lo : Int} {n : Nat} : (rngL lo n).length = n := by
  unfold rngL
  rw [List.length_map, List.length_range]
theorem int_num (i : Int) : PyData.int i = .int i := rfl
/-! ### values -/
theorem bls_map {α : Type} {f : α → D} (g : α → Bool) : ∀ {l : List α}, (∀ x ∈ l, f x = .bool (g x)) → blsOf (l.map f) = some (l.map g)
  | [], _ => rfl
  | x :: xs, h => by
    rw [List.map_cons, List.map_cons, h x List.mem_cons_self]
    show (blsOf (xs.map f)).map (g x :: ·) = _
    rw [bls_map g fun y hy => h y (List.mem_cons_of_mem _ hy)]; rfl
theorem qAll_map {α : Type} {l : List α} {f : α → D} (g : α → Bool) (h : ∀ x ∈ l, f x = .bool (g x)) : qAll (l.map f) = .ok (.bool (l.all g)) := by
  unfold qAll
  rw [bls_map g h]
  show Rs.ok (PyData.bool ((l.map g).all id)) = _
  rw [List.all_map]; rfl
theorem qAny_map {α : Type} {l : List α} {f : α → D} (g : α → Bool) (h : ∀ x ∈ l, f x = .bool (g x)) : qAny (l.map f) = .ok (.bool (l.any g)) := by
  unfold qAny
  rw [bls_map g h]
  show Rs.ok (PyData.bool ((l.map g).any id)) = _
  rw [List.any_map]; rfl
theorem eqv_ii {i j : Int} : PyData.eqv (.int i) (.int j) = decide (i = j) := by
  rw [Bool.eq_iff_iff]
  simp [PyData.eqv]
theorem eq_of {d e : D} (h : eqB d e = grd (shp 20 d = true ∧ shp 20 e = true) (.ok (PyData.eqv d e))) (h1 : shp 20 d = true) (h2 : shp 20 e = true) : pEq d e = .ok (.bool (PyData.eqv d e)) := by
  unfold pEq
  rw [h, grd_t ⟨h1, h2⟩]; rfl
theorem ne_of {d e : D} (h : eqB d e = grd (shp 20 d = true ∧ shp 20 e = true) (.ok (PyData.eqv d e))) (h1 : shp 20 d = true) (h2 : shp 20 e = true) : pNe d e = .ok (.bool (!PyData.eqv d e)) := by
  unfold pNe
  rw [h, grd_t ⟨h1, h2⟩]; rfl
theorem eq_ii {i j : Int} : pEq (.int i) (.int j) = .ok (.bool (decide (i = j))) := by rw [eq_of rfl (by simp [shp]) (by simp [shp]), eqv_ii]
theorem ne_ii {i j : Int} : pNe (.int i) (.int j) = .ok (.bool (!decide (i = j))) := by rw [ne_of rfl (by simp [shp]) (by simp [shp]), eqv_ii]
theorem ne_ss {x : Str} : pNe (.str x) (.str x) = .ok (.bool false) := by
  show (Rs.ok (decide (x = x))).bind _ = _
  rw [decide_eq_true rfl]; rfl
theorem eq_ll {xs ys : List D} (h1 : xs.all (shp 19) = true) (h2 : ys.all (shp 19) = true) : pEq (.list xs) (.list ys) = .ok (.bool (PyData.eqvAll xs ys)) := by
  rw [eq_of rfl (by simpa [shp] using h1) (by simpa [shp] using h2), PyData.eqv]
theorem eq_tt {xs ys : List D} (h1 : xs.all (shp 19) = true) (h2 : ys.all (shp 19) = true) : pEq (.tuple xs) (.tuple ys) = .ok (.bool (PyData.eqvAll xs ys)) := by
  rw [eq_of rfl (by simpa [shp] using h1) (by simpa [shp] using h2), PyData.eqv]
theorem eqv_nil {xs : List D} : PyData.eqvAll xs [] = xs.isEmpty := by cases xs <;> simp [PyData.eqvAll]
theorem eq_l0 {xs : List D} (h1 : xs.all (shp 19) = true) : pEq (.list xs) (.list []) = .ok (.bool xs.isEmpty) := by rw [eq_ll h1 (by rfl), eqv_nil]
theorem eq_t0 {xs : List D} (h1 : xs.all (shp 19) = true) : pEq (.tuple xs) (.tuple []) = .ok (.bool xs.isEmpty) := by rw [eq_tt h1 (by rfl), eqv_nil]
theorem cut_ok {xs : List D} {i j : Nat} : cutD xs (some (i : Int)) (some (j : Int)) = (xs.drop (min i xs.length)).take (min j xs.length - min i xs.length) := by
  unfold cutD
  rw [HT.sIx_nat, HT.sIx_nat]
theorem cut_to {xs : List D} {j : Nat} : cutD xs none (some (j : Int)) = xs.take (min j xs.length) := by
  unfold cutD
  rw [HT.sIx_none, HT.sIx_nat, List.drop_zero, Nat.sub_zero]
theorem at_ok {xs : List D} {i : Nat} (h : i < xs.length) : atI xs (i : Int) = some xs[i] := by
  unfold atI ixN
  rw [if_pos (by omega), if_pos (by omega), Int.toNat_natCast]
  exact List.getElem?_eq_getElem h
theorem enum_get {xs : List D} {d : D} {done rest : List D} (h : enumL xs = done ++ d :: rest) : ∃ (hi : done.length < xs.length), d = .tuple [.int done.length, xs[done.length]] := by
  have hl : (enumL xs).length = xs.length := by simp [enumL]
  have hi : done.length < xs.length := by
    rw [← hl, h, List.length_append, List.length_cons]; omega
  refine ⟨hi, ?_⟩
  have e : (enumL xs)[done.length]? = some d := by rw [h]; simp
  unfold enumL at e
  rw [List.getElem?_map, List.getElem?_zipIdx, List.getElem?_eq_getElem hi] at e
  simpa using e.symm
end
end DL

end
section
set_option maxRecDepth 100000
set_option maxHeartbeats 2000000
/-! sorted of a list or a tuple of alike data. -/
namespace DL
open PySem PySem.Calls PyProof.Rows PySem.W
section
variable {prog : Program} {w : World} {A : Around} {E : Value → Shared → Prop} {s : Shared}
theorem sorted_seq {R : Value → PyData → Prop} {l : Addr} {T : String} {o : Obj} {n : Nat} {vs : List Value} {bs : List PyData} {Q : Value → Shared → Prop} (hT : T = "list" ∨ T = "tuple") (ho : s.heap.get? l = some o) (hc : o.cls = .type T) (hd : o.data = .seq vs.toArray n)
    (e : EachIs R vs bs) (er : EachIs (fun v b => ∃ as, Reads s.heap v b as) vs bs) (hal : AllAlike bs) (hk : Sortable bs) (hL : bs.length ≤ sizeLine) (hu : ∀ b ∈ bs, A.units + 2 + b.depth < cLine)
    (h : ∀ h' p c (out : List Value), (∀ b o, s.heap.get? b = some o → h'.get? b = some o) → s.heap.get? p = none → h'.get? p = some (seqObj "list" out.toArray c) → out.length = bs.length → EachIs R out (bs.mergeSort (dataLe false id)) → Q (.ref p) { s with heap := h' }) :
    wpAny (model prog w) A (call (.builtin "sorted") [.ref l]) Q E s := by
  have hL' : vs.length ≤ sizeLine := by rw [e.length]; exact hL
  refine call_function_entry_kw kind_sorted plain_sorted entry_sorted (args_sorted1 _) ?_
  unfold Builtin.«sorted»
  refine wpAny_bind (m := checkCount "sorted" 1 1 _) (wpAny_pure ?_)
  refine wpAny_bind (wpAny_collect_seq l hT ho hc hd (fun h1 k1 => ?_) hL')
  refine wpAny_bind (wpAny_newList ?_ hL')
  have hat : (h1.push (seqObj "list" vs.toArray 0)).get? h1.objs.size = some (seqObj "list" vs.toArray 0) := Heap.get?_push_size _ rfl
  have k2 : ∀ b o, s.heap.get? b = some o → (h1.push (seqObj "list" vs.toArray 0)).get? b = some o := fun b o q => Heap.get?_push_of_some _ (k1 b o q)
  have fresh : s.heap.get? h1.objs.size = none := by
    cases q : s.heap.get? h1.objs.size with
    | none => rfl
    | some o => exact absurd (Heap.lt_size (k1 _ _ q)) (Nat.lt_irrefl _)
  have nb : ∀ b o, s.heap.get? b = some o → b ≠ h1.objs.size := fun b o q z => by rw [z, fresh] at q; cases q
  refine wpAny_bind (wpAny_holding (wpAny_call_entry_kw slot_list_sort ⟨_, hat, rfl⟩ entry_list_sort ?body (args_list_sort _)))
  case body =>
    have k3 : ∀ b o, s.heap.get? b = some o → (sortingHeap (h1.push (seqObj "list" vs.toArray 0)) h1.objs.size vs).get? b = some o := fun b o q => sortingHeap_old (nb b o q) (k2 b o q)
    have er' : EachIs (fun v b => ∃ as, Reads (sortingHeap (h1.push (seqObj "list" vs.toArray 0)) h1.objs.size vs) v b as) vs bs := er.mono fun _ _ ⟨as, r⟩ => ⟨as, PyProof.Rows.Reads.keeps k3 r⟩
    show wpAny (model prog w) A.in1.in1 (Builtin.«list.sort» ⟨[.ref h1.objs.size], []⟩) _ _ _
    refine list_sort_vals (s := { s with heap := h1.push (seqObj "list" vs.toArray 0) }) (κ := dataKind (sortingHeap (h1.push (seqObj "list" vs.toArray 0)) h1.objs.size vs) bs) hat (SortsAt.data er' hal hk hu) hL' ⟨_, rfl, wpAny_pure ⟨_, rfl, ?_⟩⟩
    have hs := sortVals_data (h' := sortingHeap (h1.push (seqObj "list" vs.toArray 0)) h1.objs.size vs) (enc := id) false e er' (by rw [List.map_id]; exact hal)
    rw [List.map_id] at hs
    obtain ⟨c, hc2⟩ := sortedHeap_at (vs := vs) (out := (sortVals (dataKind (sortingHeap (h1.push (seqObj "list" vs.toArray 0)) h1.objs.size vs) bs) false vs vs).toArray) hat
    refine h _ _ c _ (fun b o q => ?_) fresh hc2 (by rw [sortVals_length false rfl]; exact e.length) hs
    rw [sortedHeap_old (nb b o q) (Heap.lt_size (k2 b o q))]
    exact k2 b o q
end
end DL

end
section
set_option maxRecDepth 100000
set_option maxHeartbeats 2000000
/-! sorted; in, not in a list of one's own as tests. -/
namespace DL
noncomputable section
open PySem PySem.Spec L2 LamX NdefX
open PyProof.Rows hiding St
section
variable {X : Cx} {G : Gh} {W : WX} {pins : List (Addr × Obj)} {σ : L2.St} {H F : Hp} {s : Shared} {ρ : Env'}
theorem each_of : ∀ {vs : List V} {us : List Value} {ds : List D}, Vals vs us → DatAll F vs ds → PySem.W.EachIs (fun u d => ∃ x, L2.RelV x u ∧ Dat F x d) us ds
  | _, _, _, .nil, .nil => .nil
  | _, _, _, .cons r rs, .cons d ds => .cons ⟨_, r, d⟩ (each_of rs ds)
theorem of_each : ∀ {us : List Value} {ds : List D}, PySem.W.EachIs (fun u d => ∃ x, L2.RelV x u ∧ Dat F x d) us ds → ∃ vs, Vals vs us ∧ DatAll F vs ds
  | _, _, .nil => ⟨[], .nil, .nil⟩
  | _, _, .cons ⟨x, r, d⟩ h => by
    obtain ⟨vs, rs, ds⟩ := of_each h
    exact ⟨x :: vs, .cons r rs, .cons d ds⟩
def sortableB (xs : List D) : Bool := (xs.all fun x => match x with
  | .tuple (_ :: _) => true
  | _ => false) || xs.all fun x => match x with
  | .tuple _ => false
  | .none => false
  | _ => true
theorem sortableB_ok {xs : List D} (h : sortableB xs = true) : PySem.W.Sortable xs := by
  unfold sortableB at h
  rw [Bool.or_eq_true] at h
  rcases h with h | h
  · refine .inl fun d hd => ?_
    have := List.all_eq_true.mp h d hd
    split at this
    · exact ⟨_, _, rfl⟩
    · cases this
  · refine .inr fun d hd => ?_
    have := List.all_eq_true.mp h d hd
    split at this
    · cases this
    · cases this
    · rename_i h1 h2
      exact ⟨fun z => h2 z, fun ys z => h1 ys z⟩
def qSort (xs : List D) : Rs (List D) := grd (alikeB xs = true ∧ sortableB xs = true ∧ PyData.depthAll xs < 60) (.ok (xs.mergeSort (PySem.W.dataLe false id)))
theorem depth_all : ∀ {xs : List D} {d : D}, d ∈ xs → d.depth ≤ PyData.depthAll xs
  | x :: xs, d, h => by
    unfold PyData.depthAll
    rcases List.mem_cons.mp h with rfl | h
    · omega
    · have := depth_all h
      omega
variable {T : List NTab}
theorem obj_some {P : Program} {w : World} {h : Heap} {a : Addr} {o : HO} (x : ObjOk P w H h a o) : ∃ u, h.get? a = some u := by
  cases o with
  | lst _ => exact ⟨_, x.2.choose_spec.choose_spec.2⟩
  | tup _ => obtain ⟨_, _, _, _, e, _⟩ := x; exact ⟨_, e⟩
  | dK _ => obtain ⟨_, _, _, _, _, _, _, e, _⟩ := x; exact ⟨_, e⟩
  | dT _ => obtain ⟨_, _, _, _, _, _, _, e, _⟩ := x; exact ⟨_, e⟩
  | set _ _ => obtain ⟨_, _, _, _, e, _⟩ := x; exact ⟨_, e⟩
  | ins _ _ _ => exact ⟨_, x.2.2.2.1⟩
  | own _ => exact x
  | xd _ => obtain ⟨_, ⟨_, _, _, e, _⟩, _⟩ := x; exact ⟨_, e⟩
  | rng _ _ => obtain ⟨_, _, _, e⟩ := x; exact ⟨_, e⟩
  | frz _ _ => exact ⟨_, x.1⟩
  | tbl _ => exact ⟨_, show h.get? a = some _ from x⟩
  | met _ _ => exact ⟨_, show h.get? a = some _ from x⟩
  | ext _ => exact x.2.1
theorem srt_end (I : Inv X pins σ H s) {Q : VK} {zs : List D} {h' : Heap} {p : Addr} {c : Nat} {out : List Value} (hz : zs.length ≤ sizeLine) (kp : ∀ b o, s.heap.get? b = some o → h'.get? b = some o) (hp : s.heap.get? p = none)
    (hn : h'.get? p = some (seqObj "list" out.toArray c)) (e : PySem.W.EachIs (fun u d => ∃ x, L2.RelV x u ∧ Dat F x d) out zs) (q : ∀ a ws, H a = none → DatAll F ws zs → Q (.ref a) (upd H a (.lst ws))) : EP X pins σ Q (.ref p) { s with heap := h' } := by
  obtain ⟨ws, rw', dw⟩ := of_each e
  have hH : H p = none := by
    cases z : H p with
    | none => rfl
    | some o =>
      obtain ⟨u, hu⟩ := obj_some (I.hok p o z)
      rw [hp] at hu; cases hu
  exact ⟨.ref p, _, I.laidN (t' := s.toks) (o := .lst ws) kp hp hH ⟨by rw [dw.length]; exact hz, out, c, rw', hn⟩, rfl, q _ ws hH dw⟩
theorem srt_go {a : Addr} {TT : String} {o : Obj} {n : Nat} {its : List Value} {vs : List V} {xs zs : List D} {Q : VK} (hu : X.A.units + 64 < cLine) (I : Inv X pins σ H s) (eF : Ex F H) (hT : TT = "list" ∨ TT = "tuple") (ho : s.heap.get? a = some o) (hc : o.cls = .type TT) (hd : o.data = .seq its.toArray n)
    (rv : Vals vs its) (r : DatAll F vs xs) (hl : xs.length ≤ sizeLine) (hz : qSort xs = .ok zs) (q : ∀ a ws, H a = none → DatAll F ws zs → Q (.ref a) (upd H a (.lst ws))) : wpAny (model X.prog X.w) X.A (call (.builtin "sorted") [.ref a]) (EP X pins σ Q) X.xe s := by
  obtain ⟨⟨h1, h2, h3⟩, hz⟩ := grd_ok hz
  cases hz
  obtain ⟨as, hr⟩ := Dp.readsAll I xs vs its (r.dp eF) rv
  have er := PySem.W.readsAll_each id (by rw [List.map_id]; exact hr)
  refine sorted_seq hT ho hc hd (each_of rv r) er (fun d hd d' hd' => alike_all h1 d hd d' hd') (sortableB_ok h2) hl (fun b hb => ?_) fun h' p c out kp hp hn he e => srt_end I (by rw [List.length_mergeSort]; exact hl) kp hp hn e q
  have := depth_all hb
  omega
theorem lf_sorted (hu : X.A.units + 64 < cLine) : ListWF X T (.builtin "sorted") qSort := by
  intro pins s σ H F a vs xs zs Q I eF hT h r hz q
  obtain ⟨hl, its, n, rv, ho⟩ := I.hok a _ h
  exact srt_go hu I eF (.inl rfl) ho rfl rfl rv r (by rw [← r.length]; exact hl) hz q
theorem tf_sorted (hu : X.A.units + 64 < cLine) : TupWF X T (.builtin "sorted") qSort := by
  intro pins s σ H F a vs xs zs Q I eF hT h r hz q
  obtain ⟨hl, its, rv, o, ho, hc, n, hd⟩ := (h.mono eF).rd.ok I.hok
  exact srt_go hu I eF (.inr rfl) ho hc hd rv r (by rw [← r.length]; exact hl) hz q
/-! tests in a list of one's own -/
section
variable {a : Expr} {y : Str} {py pos : Pos} {i : Nat} {ma : M D}
theorem cmpWT {op : CmpOp} {p : D → D → Rs D} (ho : OpD X G.T (compareOp op) p) (hb : ∀ d e z, p d e = .ok z → ∃ b, z = .bool b) (hN : X.N[i]? = some y) (hv : Vis X.env.scope y) (ha : DE X G W a ma) (hm : behindInMarks op (.Name y py) = false) (hd : (y == ("__debug__" : Str)) = false := by decide) (hcd : (y == ("__classdict__" : Str)) = false := by decide) :
    DT X G W (.Compare a [op] [.Name y py] pos) (mBl (ma.bind fun x => (mPeek i).bind fun xs => .lift (p x (.list xs)).pure?)) := ⟨⟨fun pins s σ H Q I ⟨F, ρ, R, hq⟩ => by
  refine wpAny_isTrue_Compare1 (ha.step I R (At.bind2 hq) fun d ρ1 u v s1 H1 F1 I1 R1 r1 dv q1 => ?_) hm
  obtain ⟨a, vs, xs, hσ, hp, ha', q2⟩ := R1.rep.peek (At.bindM (At.bind2 q1))
  obtain ⟨z, hz, q⟩ := At.prim (At.bindM q2)
  refine thn ((pe_var (pos := py) hN hv hd hcd).run pins s1 σ H1 (fun v H2 => v = .ref a ∧ H2 = H1) I1 ⟨.ref a, hσ, rfl, rfl⟩) fun u2 s2 ⟨v2, H2, I2, r2, q3⟩ => ?_
  obtain ⟨e1, e2⟩ := q3
  subst e1
  rw [e2] at I2
  let F' : Hp := fun b => if b = a then some (.lst vs) else F1 b
  have e : Ex F1 F' := fun b o q => by
    show (if b = a then some (.lst vs) else F1 b) = some o
    by_cases hb : b = a
    · subst hb
      have := R1.rep.sub _ _ q
      rw [hp] at this
      rw [if_pos rfl]
      exact this
    · rw [if_neg hb]; exact q
  have eH : Ex F' H1 := fun b o q => by
    have q : (if b = a then some (.lst vs) else F1 b) = some o := q
    by_cases hb : b = a
    · subst hb
      rw [if_pos rfl] at q; cases q
      exact hp
    · rw [if_neg hb] at q; exact R1.rep.sub _ _ q
  obtain ⟨b, rfl⟩ := hb _ _ _ hz
  obtain ⟨b2, hb2, q⟩ := At.prim q
  cases pBl_ok hb2
  refine thn (ho pins s2 σ H1 F' u u2 v (.ref a) d (.list xs) (.bool b) (fun v H' => v = .bl b ∧ ∃ F2, Grow G.T No F' H1 F2 H') I2 r1 r2 eH R1.rep.tabs (dv.mono e) (.lst (if_pos rfl) (ha'.mono e)) hz fun w H' F2 g dw => by
    cases dw
    exact ⟨rfl, F2, g⟩) fun c s3 ⟨v3, H3, I3, r3, q4⟩ => ?_
  obtain ⟨e3, F2, g⟩ := q4
  subst e3
  cases r3
  exact wpAny_truthy_bool ⟨H3, I3, q _ F1 (R1.grow (Grow.less e g))⟩⟩⟩
theorem DT.inW (hu : X.A.units + 65 < cLine) (hN : X.N[i]? = some y) (hv : Vis X.env.scope y) (ha : DE X G W a ma) (hm : behindInMarks .In (.Name y py) = false) (hd : (y == ("__debug__" : Str)) = false := by decide) (hcd : (y == ("__classdict__" : Str)) = false := by decide) :
    DT X G W (.Compare a [.In] [.Name y py] pos) (mBl (mInW false ma i)) := cmpWT (p := pIn) (od_in hu) (fun d e z h => by obtain ⟨b, _, h⟩ := bind_ok h; cases h; exact ⟨b, rfl⟩) hN hv ha hm hd hcd
theorem DT.notInW (hu : X.A.units + 65 < cLine) (hN : X.N[i]? = some y) (hv : Vis X.env.scope y) (ha : DE X G W a ma) (hm : behindInMarks .NotIn (.Name y py) = false) (hd : (y == ("__debug__" : Str)) = false := by decide) (hcd : (y == ("__classdict__" : Str)) = false := by decide) :
    DT X G W (.Compare a [.NotIn] [.Name y py] pos) (mBl (mInW true ma i)) := cmpWT (p := pNotIn) (od_notIn hu) (fun d e z h => by obtain ⟨b, _, h⟩ := bind_ok h; cases h; exact ⟨!b, rfl⟩) hN hv ha hm hd hcd
end
/-! a built-in called with one keyword -/
def CallKD (X : Cx) (T : List NTab) (f : Value) (kw : Str) (p : List D → D → Rs D) : Prop :=
  ∀ (pins : List (Addr × Obj)) (s : Shared) (σ : L2.St) (H F : Hp) (us : List Value) (vs : List V) (ds : List D) (v : V) (u : Value) (d z : D) (Q : VK), Inv X pins σ H s → Vals vs us → L2.RelV v u → Ex F H → TabsN T H → DatAll F vs ds → Dat F v d → p ds d = .ok z →
    (∀ w H' F', Grow T No F H F' H' → Dat F' w z → Q w H') → wpAny (model X.prog X.w) X.A (call f us [(kw, u)]) (EP X pins σ Q) X.xe s
def rKD (T : List NTab) (p : List D → D → Rs D) : List V → List V → Hp → VK → Prop := fun vs zs H Q => ∃ F ds v d z, zs = [v] ∧ Ex F H ∧ TabsN T H ∧ DatAll F vs ds ∧ Dat F v d ∧ p ds d = .ok z ∧ ∀ w H' F', Grow T No F H F' H' → Dat F' w z → Q w H'
theorem CallKD.r {f : Value} {kw : Str} {p : List D → D → Rs D} (h : CallKD X T f kw p) : CallRK X f [kw] (rKD T p) := fun pins s σ H vs zs us ws Q I r rz ⟨F, ds, v, d, z, e, eF, hT, da, dv, hz, q⟩ => by
  subst e
  cases rz with
  | cons r1 r2 =>
    cases r2
    exact h pins s σ H F us vs ds v _ d z Q I r r1 eF hT da dv hz q
def mCallK (p : List D → D → Rs D) (m : M (List D)) (md : M D) : M D := m.bind fun ds => md.bind fun d => .lift (p ds d).pure?
theorem DE.callKd {id : String} {x nm : Str} {p kpos pos : Pos} {e e2 : Expr} {es : List Expr} {f : List D → D → Rs D} {m : M (List D)} {md : M D} (hc : CallKD X G.T (.builtin id) nm f) (hg : Gl X x) (hm : X.mg x = none) (hv : bootBuiltins x = some (.builtin id)) (ha : DA X G W (e :: es) m) (hd : DE X G W e2 md) (hn : x ≠ "__name__" := by decide) (hdb : (x == ("__debug__" : Str)) = false := by decide)
    (he : backTo pos (starEach (e :: es) X.env) = (false, eval e X.env) :: backTo pos (starEach es X.env) := by rfl) (hpl : (backTo pos (starEach (e :: es) X.env)).any (·.1) = false := by rfl)
    (hall : (backToKw pos (keywordEach [⟨some nm, e2, kpos⟩] X.env)).all (·.1.isSome) = true := by rfl) (hnone : (backToKw pos (keywordEach [⟨some nm, e2, kpos⟩] X.env)).any (·.1.isNone) = false := by rfl) (hks : (backToKw pos (keywordEach [⟨some nm, e2, kpos⟩] X.env)).filterMap (·.1) = [nm] := by rfl) :
    DE X G W (.Call (.Name x p) (e :: es) [⟨some nm, e2, kpos⟩] pos) (mCallK f m md) :=
  ⟨PE.imp (pe_callBK hc.r hg hm hv ha.pa (pk_cons hd.pe pk_nil) hn hdb he hpl hall hnone hks) fun σ H Q ⟨F, ρ, R, hq⟩ =>
    ⟨F, ρ, R, At.mono (At.bindM hq) (.refl R) fun ds ρ1 _ q1 => fun vs H1 F1 st da => rd_step st q1 fun d ρ2 v H2 F2 st2 dv q2 => by
      obtain ⟨z, hz, q⟩ := At.prim q2
      exact ⟨F2, ds, v, d, z, rfl, st2.rep.sub, st2.rep.tabs, da.mono st2.f, dv, hz, fun w H' F' g dw => q w H' F' ((st.trans st2).grow g) dw⟩⟩⟩
def qMaxD (xs : List D) (d : D) : Rs D := match xs with
  | [] => .ok d
  | x :: r => qMax (x :: r)
def pMaxD : List D → D → Rs D
  | [.list xs], d => qMaxD xs d
  | [.tuple xs], d => qMaxD xs d
  | _, _ => .bad
theorem maxd_go {I : Inv X pins σ H s} {xs : List D} {vs : List V} {its : List Value} {d z : D} {v : V} {u : Value} {Q : VK} (eF : Ex F H) (hT : TabsN T H) (da : DatAll F vs xs) (rv : Vals vs its) (r1 : L2.RelV v u) (dv : Dat F v d) (hz : qMaxD xs d = .ok z) (q : ∀ w H' F', Grow T No F H F' H' → Dat F' w z → Q w H') :
    (∀ x ∈ xs, x ≠ .none) ∧ (∀ x ∈ xs, ∀ y ∈ xs, PySem.W.alike x y = true) ∧ PyData.depthAll xs < 60 ∧ (xs = [] → ∀ h' tk, (∀ b o, s.heap.get? b = some o → h'.get? b = some o) → EP X pins σ Q u { s with heap := h', toks := tk }) ∧
      (∀ (as : List Addr), ReadsAll s.heap its xs as → ∀ (y : D) (ys : List D) (i : Nat) v h' tk bs, xs = y :: ys → its[i]? = some v → Reads h' v (PySem.W.maxD y ys) bs → (∀ b o, s.heap.get? b = some o → h'.get? b = some o) → EP X pins σ Q v { s with heap := h', toks := tk }) := by
  cases xs with
  | nil =>
    cases hz
    exact ⟨(fun x hx => nomatch hx), (fun x hx => nomatch hx), by decide, fun _ h' tk kp => ⟨v, H, I.kept (t' := tk) kp, r1, q v H F (.refl eF hT) dv⟩, (fun _ _ y ys i v h' tk bs e => nomatch e)⟩
  | cons x xs =>
    obtain ⟨⟨ha, hd⟩, hz⟩ := grd_ok hz
    cases hz
    refine ⟨(alikeB_ok ha).2, alike_all ha, hd, (fun e => nomatch e), fun as hr y ys i v h' tk bs e hv rd kp => ?_⟩
    cases e
    obtain ⟨w, rw', dw⟩ := pick_dat (I0 := I) eF da rv hv (by unfold PySem.W.maxD; exact fold_mem (fun y a => PySem.W.dataLt a y) xs x) (alike_all ha) hr kp rd
    exact ⟨w, H, I.kept (t' := tk) kp, rw', q w H F (.refl eF hT) dw⟩
theorem kd_max (hc : X.calm = true) (hu : X.A.units + 64 < cLine) : CallKD X T (.builtin "max") (Str.ofString "default") pMaxD := by
  intro pins s σ H F us vs ds v u d z Q I r r1 eF hT da dv hz q
  unfold pMaxD at hz
  split at hz
  · cases da with
    | cons d1 d2 =>
      cases d2
      cases d1 with
      | lst h1 r2 =>
        rename_i a ws
        obtain rfl := Vals.ref1 r
        obtain ⟨its, rv, p, hl⟩ := I.list (SqL.of (eF _ _ h1))
        obtain ⟨as, hr⟩ := Dp.readsAll I _ ws its (r2.dp eF) rv
        obtain ⟨k1, k2, k3, k4, k5⟩ := maxd_go (I := I) eF hT r2 rv r1 dv hz q
        exact PySem.W.max_list_default (I.ok.hd hc) p.isList (by simpa using hr) ⟨k2, k1⟩ (by omega) k4 fun y ys i v h' tk bs e hv => k5 as hr y ys i v h' tk bs e (by simpa using hv)
  · cases da with
    | cons d1 d2 =>
      cases d2
      cases d1 with
      | tup h1 r2 =>
        rename_i a ws
        obtain rfl := Vals.ref1 r
        obtain ⟨its, rv, p, hl⟩ := I.tuple (h1.sq eF)
        obtain ⟨as, hr⟩ := Dp.readsAll I _ ws its (r2.dp eF) rv
        obtain ⟨k1, k2, k3, k4, k5⟩ := maxd_go (I := I) eF hT r2 rv r1 dv hz q
        exact PySem.W.max_tuple_default (I.ok.hd hc) (show s.heap.IsTuple a its.toArray from p) (by simpa using hr) ⟨k2, k1⟩ (by omega) k4 fun y ys i v h' tk bs e hv => k5 as hr y ys i v h' tk bs e (by simpa using hv)
  · cases hz
/-! stars in displays -/
def mStar (ma : M D) (mr : M (List D)) : M (List D) := ma.bind fun x => match x with
  | .list xs => mr.bind fun ys => .ret (xs ++ ys)
  | .tuple xs => mr.bind fun ys => .ret (xs ++ ys)
  | _ => .fail
theorem DA.star {e : Expr} {p : Pos} {es : List Expr} {ma : M D} {mr : M (List D)} (ha : DE X G W e ma) (hr : DA X G W es mr) (hs : starEach (.Starred e p :: es) X.env = (true, eval e X.env) :: starEach es X.env := by rfl) : DA X G W (.Starred e p :: es) (mStar ma mr) :=
  ⟨PA.imp (StX.pa_star ha.pe hr.pa hs) fun σ H Q ⟨F, ρ, R, hq⟩ => rd_step (.refl R) hq fun d ρ1 v H1 F1 st dv q => by
    cases dv with
    | lst h1 r1 =>
      exact ⟨_, _, rfl, .inr (.of (st.rep.sub _ _ h1)), F1, ρ1, st.rep, At.mono (At.bindM q) st fun ys ρ2 _ q2 => fun vs H2 F2 st2 da => q2 _ H2 F2 (st.trans st2) ((r1.mono st2.f).append da)⟩
    | tup h1 r1 =>
      exact ⟨_, _, rfl, .inl (h1.sq st.rep.sub), F1, ρ1, st.rep, At.mono (At.bindM q) st fun ys ρ2 _ q2 => fun vs H2 F2 st2 da => q2 _ H2 F2 (st.trans st2) ((r1.mono st2.f).append da)⟩
    | _ => exact q.elim⟩
end
end
end DL

end
section
set_option maxRecDepth 100000
set_option maxHeartbeats 2000000
/-! index, count on lists. -/
namespace DL
noncomputable section
open PySem PySem.Spec L2 LamX NdefX
open PyProof.Rows hiding St
section
variable {X : Cx} {G : Gh} {W : WX} {pins : List (Addr × Obj)} {σ : L2.St} {H F : Hp} {s : Shared} {ρ : Env'} {T : List NTab}
def MthL (X : Cx) (T : List NTab) (id : String) (p : List D → D → Rs D) : Prop :=
  ∀ (pins : List (Addr × Obj)) (s : Shared) (σ : L2.St) (H F : Hp) (a : Addr) (vs : List V) (xs : List D) (y : V) (u : Value) (d z : D) (Q : VK), Inv X pins σ H s → Ex F H → TabsN T H → H a = some (.lst vs) → DatAll F vs xs → L2.RelV y u → Dat F y d → p xs d = .ok z →
    (∀ w H' F', Grow T No F H F' H' → Dat F' w z → Q w H') → wpAny (model X.prog X.w) X.A (call (.builtin id) [.ref a, u]) (EP X pins σ Q) X.xe s
def mMeth (p : List D → D → Rs D) (mo ma : M D) : M D := mo.bind fun x => match x with
  | .list xs => ma.bind fun y => .lift (p xs y).pure?
  | .tuple xs => ma.bind fun y => .lift (p xs y).pure?
  | _ => .fail
def rMth (T : List NTab) (p : List D → D → Rs D) : V → List V → Hp → VK → Prop := fun x ys H Q => ∃ F a vs xs y d z, x = .ref a ∧ ys = [y] ∧ Ex F H ∧ TabsN T H ∧ H a = some (.lst vs) ∧ DatAll F vs xs ∧ Dat F y d ∧ p xs d = .ok z ∧ ∀ w H' F', Grow T No F H F' H' → Dat F' w z → Q w H'
theorem MthL.r {id : String} {p : List D → D → Rs D} (h : MthL X T id p) : MtR X id (rMth T p) := fun pins s σ H x ys v us Q I rx rys ⟨F, a, vs, xs, y, d, z, e1, e2, eF, hT, ha, da, dy, hz, q⟩ => by
  subst e1 e2
  cases rx
  cases rys with
  | cons r1 r2 =>
    cases r2
    exact h pins s σ H F a vs xs y _ d z Q I eF hT ha da r1 dy hz q
/-- on a tuple -/
def MthT (X : Cx) (T : List NTab) (id : String) (p : List D → D → Rs D) : Prop :=
  ∀ (pins : List (Addr × Obj)) (s : Shared) (σ : L2.St) (H F : Hp) (a : Addr) (vs : List V) (xs : List D) (y : V) (u : Value) (d z : D) (Q : VK), Inv X pins σ H s → Ex F H → TabsN T H → TupS H a vs → DatAll F vs xs → L2.RelV y u → Dat F y d → p xs d = .ok z →
    (∀ w H' F', Grow T No F H F' H' → Dat F' w z → Q w H') → wpAny (model X.prog X.w) X.A (call (.builtin id) [.ref a, u]) (EP X pins σ Q) X.xe s
def rMthT (T : List NTab) (p : List D → D → Rs D) : V → List V → Hp → VK → Prop := fun x ys H Q => ∃ F a vs xs y d z, x = .ref a ∧ ys = [y] ∧ Ex F H ∧ TabsN T H ∧ TupS H a vs ∧ DatAll F vs xs ∧ Dat F y d ∧ p xs d = .ok z ∧ ∀ w H' F', Grow T No F H F' H' → Dat F' w z → Q w H'
theorem MthT.r {id : String} {p : List D → D → Rs D} (h : MthT X T id p) : MtR X id (rMthT T p) := fun pins s σ H x ys v us Q I rx rys ⟨F, a, vs, xs, y, d, z, e1, e2, eF, hT, ha, da, dy, hz, q⟩ => by
  subst e1 e2
  cases rx
  cases rys with
  | cons r1 r2 =>
    cases r2
    exact h pins s σ H F a vs xs y _ d z Q I eF hT ha da r1 dy hz q
def tBMA (K : PySem.W.Frag) (r r2 : V → List V → Hp → VK → Prop) (to : TE) (t : TA) : TE := fun σ H Q => to σ H fun x H1 => (tyV K "list" x H1 ∧ t σ H1 fun xs H2 => r x xs H2 Q) ∨ ((∃ a xs, x = .ref a ∧ TupS H1 a xs) ∧ t σ H1 fun xs H2 => r2 x xs H2 Q)
/-- a method of a list or of a tuple whose object is known -/
theorem pe_bmA {o e : Expr} {es : List Expr} {to : TE} {t : TA} {name : Str} {apos cpos : Pos} {id id2 : String} {r r2 : V → List V → Hp → VK → Prop} (slot : PySem.Slot "list" name id) (hty : typeOf (.builtin id) = pure (.type "method_descriptor"))
    (slot2 : PySem.Slot "tuple" name id2) (hty2 : typeOf (.builtin id2) = pure (.type "method_descriptor")) (hm : MtR X id r) (hm2 : MtR X id2 r2) (ho : PE X o to) (ha : PA X (e :: es) t)
    (hbase : attributeBase o name X.env (eval o X.env) = eval o X.env := by rfl)
    (hfew : ((backTo cpos (starEach (e :: es) X.env)).all (fun x => !x.1) && (backToKw cpos (keywordEach [] X.env)).all (fun x => x.1.isSome)
      && decide ((e :: es).length + ([] : List Keyword).length + (if ([] : List Keyword).isEmpty then 0 else 1) < 30)) = true := by rfl)
    (hline : (apos.endLine == cpos.line) = true := by rfl) (hs : starEach (e :: es) X.env = (false, eval e X.env) :: starEach es X.env := by rfl) (hplain : (backTo cpos (starEach es X.env)).any (·.1) = false := by rfl) :
    PE X (.Call (.Attribute o name apos) (e :: es) [] cpos) (tBMA X.K r r2 to t) := by
  refine ⟨fun pins s σ H Q I h => ?_⟩
  refine wpAny_Call_method_late hbase hfew hline rfl (thn (ho.run pins s σ H _ I h) fun v s1 ⟨x, H1, I1, r1, q⟩ => ?_)
  rcases q with ⟨ty, q1⟩ | ⟨⟨a, xs, ex, hS⟩, q1⟩
  · obtain ⟨h1, h2⟩ := tyV_is I1 r1 ty
    refine ⟨"list", id, PySem.F.plainAttrs_list, slot, hty, h1, h2, ?_⟩
    have hA := ha.run cpos pins s1 σ H1 _ I1 q1
    rw [hs] at hA ⊢
    refine Calls.callWith_builtin (by show (false || (backTo cpos (starEach es X.env)).any (·.1)) = false; rw [hplain] <;> rfl) (Calls.evalArgs_plain ?_)
    exact thn hA fun us s2 ⟨vs, H2, I2, r2', q2⟩ => hm pins s2 σ H2 x vs v us Q I2 r1 r2' q2
  · subst ex
    cases r1
    obtain ⟨ob, hF, hd⟩ := hS
    obtain ⟨hob, hz, its, rv, o', ho', hc, n, hdt⟩ := (show ObjOk X.prog X.w H1 s1.heap a (.frz ob (.tup xs)) from I1.hok a _ hF)
    rw [hob] at ho'
    cases ho'
    refine ⟨"tuple", id2, PySem.F.plainAttrs_tuple, slot2, hty2, ⟨_, hob, hc⟩, fun b e => by cases e; exact ⟨_, hob, hd⟩, ?_⟩
    have hA := ha.run cpos pins s1 σ H1 _ I1 q1
    rw [hs] at hA ⊢
    refine Calls.callWith_builtin (by show (false || (backTo cpos (starEach es X.env)).any (·.1)) = false; rw [hplain] <;> rfl) (Calls.evalArgs_plain ?_)
    exact thn hA fun us s2 ⟨vs, H2, I2, r2', q2⟩ => hm2 pins s2 σ H2 (.ref a) vs (.ref a) us Q I2 rfl r2' q2
theorem DE.meth {name : Str} {id id2 : String} {o e : Expr} {apos cpos : Pos} {p : List D → D → Rs D} {mo ma : M D} (sl : PySem.Slot "list" name id) (tl : typeOf (.builtin id) = pure (.type "method_descriptor")) (sl2 : PySem.Slot "tuple" name id2) (tl2 : typeOf (.builtin id2) = pure (.type "method_descriptor")) (hl : MthL X G.T id p) (hl2 : MthT X G.T id2 p)
    (ho : DE X G W o mo) (ha : DE X G W e ma) (hbase : attributeBase o name X.env (eval o X.env) = eval o X.env := by rfl)
    (hfew : ((backTo cpos (starEach (e :: []) X.env)).all (fun x => !x.1) && (backToKw cpos (keywordEach [] X.env)).all (fun x => x.1.isSome)
      && decide ((e :: []).length + ([] : List Keyword).length + (if ([] : List Keyword).isEmpty then 0 else 1) < 30)) = true := by rfl)
    (hline : (apos.endLine == cpos.line) = true := by rfl) (hs : starEach (e :: []) X.env = (false, eval e X.env) :: starEach [] X.env := by rfl) :
    DE X G W (.Call (.Attribute o name apos) [e] [] cpos) (mMeth p mo ma) :=
  ⟨PE.imp (pe_bmA sl tl sl2 tl2 hl.r hl2.r ho.pe (pa_cons ha.pe pa_nil hs) hbase hfew hline hs rfl) fun σ H Q ⟨F, ρ, R, hq⟩ => rd_step (.refl R) hq fun d ρ1 v H1 F1 st dv q1 => by
    cases dv with
    | lst h1 rr =>
      rename_i a vs ds
      refine .inl ⟨.inl ⟨rfl, _, .of (st.rep.sub _ _ h1)⟩, rd_step st q1 fun d2 ρ2 y H2 F2 st2 dy q2 => ?_⟩
      obtain ⟨z, hz, q⟩ := At.prim q2
      exact ⟨F2, a, vs, ds, y, d2, z, rfl, rfl, st2.rep.sub, st2.rep.tabs, st2.rep.sub _ _ (st2.f _ _ h1), rr.mono st2.f, dy, hz, fun w H' F' g dw => q w H' F' ((st.trans st2).grow g) dw⟩
    | tup h1 rr =>
      rename_i a vs ds
      refine .inr ⟨⟨a, vs, rfl, h1.mono st.rep.sub⟩, rd_step st q1 fun d2 ρ2 y H2 F2 st2 dy q2 => ?_⟩
      obtain ⟨z, hz, q⟩ := At.prim q2
      exact ⟨F2, a, vs, ds, y, d2, z, rfl, rfl, st2.rep.sub, st2.rep.tabs, (h1.mono st2.f).mono st2.rep.sub, rr.mono st2.f, dy, hz, fun w H' F' g dw => q w H' F' ((st.trans st2).grow g) dw⟩
    | _ => exact q1.elim⟩
theorem TupS.is (I : Inv X pins σ H s) {a : Addr} {vs : List V} (h : TupS H a vs) : ∃ its : List Value, Vals vs its ∧ s.heap.IsTuple a its.toArray ∧ vs.length ≤ sizeLine := by
  obtain ⟨its, rv, p, hz⟩ := I.tuple (h.sq (Ex.refl H))
  exact ⟨its, rv, p, hz⟩
def pIdx (xs : List D) : D → Rs D
  | .int k => match intsOf xs with
    | some ns => grd (k ∈ ns) (.ok (.int (ns.idxOf k : Nat)))
    | none => .bad
  | _ => .bad
theorem vals_map_ints {its : List Value} {ns : List Int} {vs : List V} (da : DatAll F vs (ns.map PyData.int)) (rv : Vals vs its) : PyProof.Rows.IntsAre its ns := by
  induction ns generalizing vs its with
  | nil => cases da; cases rv; exact .nil
  | cons n ns ih =>
    cases da with
    | cons d ds =>
      cases d
      cases rv with
      | cons r rs =>
        obtain ⟨t, rfl⟩ := r
        exact .cons n t (ih ds rs)
theorem ml_index : MthL X T "list.index" pIdx := by
  intro pins s σ H F a vs xs y u d z Q I eF hT h da r dy hz q
  unfold pIdx at hz
  split at hz
  · rename_i k
    split at hz
    · rename_i ns hi
      obtain ⟨hk, hz⟩ := grd_ok hz
      cases hz
      cases dy
      obtain ⟨t, rfl⟩ := r
      have e := intsOf_some hi
      subst e
      obtain ⟨its, rv, pl, hl⟩ := I.list (SqL.of h)
      refine PySem.SeqAt.list_index_ints pl.isList (vals_map_ints da rv) (by have := da.length; rw [List.length_map] at this; omega) hk ?_
      exact ⟨.int (ns.idxOf k : Nat), H, I.kept (t' := s.toks + 1) (fun _ _ e => e), ⟨_, rfl⟩, q _ H F (.refl eF hT) (.int _)⟩
    · cases hz
  · cases hz
def pCnt (xs : List D) : D → Rs D
  | .int k => match intsOf xs with
    | some _ => .ok (.int (xs.countP fun y => PyData.eqv y (.int k) : Nat))
    | none => .bad
  | .tuple ds => grd (PyData.plainAll xs = true ∧ PyData.plain (.tuple ds) = true ∧ PyData.depth (.tuple ds) ≤ 60) (.ok (.int (xs.countP fun y => PyData.eqv y (.tuple ds) : Nat)))
  | _ => .bad
theorem plain_ints : ∀ ns : List Int, PyData.plainAll (ns.map PyData.int) = true
  | [] => by simp [PyData.plainAll]
  | n :: ns => by
    rw [List.map_cons, PyData.plainAll, plain_ints ns]
    simp [PyData.plain]
theorem ml_count (hu : X.A.units + 64 < cLine) : MthL X T "list.count" pCnt := by
  intro pins s σ H F a vs xs y u d z Q I eF hT h da r dy hz q
  unfold pCnt at hz
  split at hz
  · rename_i k
    split at hz
    · rename_i ns hi
      cases hz
      cases dy
      obtain ⟨t, rfl⟩ := r
      have e := intsOf_some hi
      obtain ⟨its, rv, pl, hl⟩ := I.list (SqL.of h)
      obtain ⟨as, hr⟩ := Dp.readsAll I xs vs its (da.dp eF) rv
      have e2 := PySem.W.depth_ints ns
      rw [← e] at e2
      have e3 := plain_ints ns
      rw [← e] at e3
      refine PySem.SeqAt.count_list_data pl.isList (by simpa using hr) (.int k t) e3 (by simp [PyData.plain]) (by rw [e2]; omega) ?_
      exact ⟨.int _, H, I.kept (t' := s.toks + 1) (fun _ _ e => e), ⟨_, rfl⟩, q _ H F (.refl eF hT) (.int _)⟩
    · cases hz
  · rename_i ds
    obtain ⟨hc, hz⟩ := grd_ok hz
    cases hz
    obtain ⟨its, rv, pl, hl⟩ := I.list (SqL.of h)
    obtain ⟨as, hr⟩ := Dp.readsAll I xs vs its (da.dp eF) rv
    obtain ⟨bs, hy⟩ := Dat.reads I eF dy r
    refine PySem.SeqAt.count_list_data pl.isList (by simpa using hr) hy hc.1 hc.2.1 (by have := hc.2.2; omega) ?_
    exact ⟨.int _, H, I.kept (t' := s.toks + 1) (fun _ _ e => e), ⟨_, rfl⟩, q _ H F (.refl eF hT) (.int _)⟩
  · cases hz
theorem mt_index : MthT X T "tuple.index" pIdx := by
  intro pins s σ H F a vs xs y u d z Q I eF hT h da r dy hz q
  unfold pIdx at hz
  split at hz
  · rename_i k
    split at hz
    · rename_i ns hi
      obtain ⟨hk, hz⟩ := grd_ok hz
      cases hz
      cases dy
      obtain ⟨t, rfl⟩ := r
      have e := intsOf_some hi
      subst e
      obtain ⟨its, rv, pl, hl⟩ := TupS.is I h
      refine PySem.SeqAt.tuple_index_ints pl (vals_map_ints da rv) hk ?_
      exact ⟨.int (ns.idxOf k : Nat), H, I.kept (t' := s.toks + 1) (fun _ _ e => e), ⟨_, rfl⟩, q _ H F (.refl eF hT) (.int _)⟩
    · cases hz
  · cases hz
theorem mt_count (hu : X.A.units + 64 < cLine) : MthT X T "tuple.count" pCnt := by
  intro pins s σ H F a vs xs y u d z Q I eF hT h da r dy hz q
  unfold pCnt at hz
  split at hz
  · rename_i k
    split at hz
    · rename_i ns hi
      cases hz
      cases dy
      obtain ⟨t, rfl⟩ := r
      have e := intsOf_some hi
      obtain ⟨its, rv, pl, hl⟩ := TupS.is I h
      obtain ⟨as, hr⟩ := Dp.readsAll I xs vs its (da.dp eF) rv
      have e2 := PySem.W.depth_ints ns
      rw [← e] at e2
      have e3 := plain_ints ns
      rw [← e] at e3
      refine PySem.SeqAt.count_tuple_data pl (by simpa using hr) (.int k t) e3 (by simp [PyData.plain]) (by rw [e2]; omega) ?_
      exact ⟨.int _, H, I.kept (t' := s.toks + 1) (fun _ _ e => e), ⟨_, rfl⟩, q _ H F (.refl eF hT) (.int _)⟩
    · cases hz
  · rename_i ds
    obtain ⟨hc, hz⟩ := grd_ok hz
    cases hz
    obtain ⟨its, rv, pl, hl⟩ := TupS.is I h
    obtain ⟨as, hr⟩ := Dp.readsAll I xs vs its (da.dp eF) rv
    obtain ⟨bs, hy⟩ := Dat.reads I eF dy r
    refine PySem.SeqAt.count_tuple_data pl (by simpa using hr) hy hc.1 hc.2.1 (by have := hc.2.2; omega) ?_
    exact ⟨.int _, H, I.kept (t' := s.toks + 1) (fun _ _ e => e), ⟨_, rfl⟩, q _ H F (.refl eF hT) (.int _)⟩
  · cases hz
theorem tw_sum (hc : X.calm = true) : TupW X T (.builtin "sum") qSum := by
  intro pins s σ H F a vs xs z Q I eF hT h r hz q
  obtain ⟨ns, e, hz⟩ := ofO_ok hz
  cases hz
  have ex := intsOf_some e
  subst ex
  have ev := r.int_inv
  subst ev
  obtain ⟨its, rv, p, _⟩ := I.tuple (h.sq eF)
  have hi : PyProof.Rows.IntsAre its ns := rv.ints
  have hl : s.heap.IsTuple a its.toArray := p
  obtain ⟨xs, hx⟩ := hi.allInts.items
  have hn : numsOf its.toArray.toList = ns := by rw [show its.toArray.toList = its from rfl, hi.numsOf]
  rw [hx] at hl hn
  rw [nums_intItems] at hn
  refine PySem.W.ktm_sumG (I.ok.hd hc) hl fun h' tk t' hk => ?_
  have q1 := q (.int ns.sum) H F (.refl eF hT) (.int _)
  rw [preSum_eq, List.take_of_length_le (by simp), hn]
  exact ⟨.int _, H, I.kept hk, ⟨_, rfl⟩, q1⟩
end
end
end DL

end
section
set_option maxRecDepth 100000
set_option maxHeartbeats 3200000
/-! max(xs, key=lambda x: ..) of a list of ints. -/
namespace DL
noncomputable section
open PySem PySem.Spec L2 LamX NdefX
open PyProof.Rows hiding St
theorem valsV : ∀ {xs : List V} {us : List Value} {i : Nat} {v : Value}, Vals xs us → us[i]? = some v → ∃ x, xs[i]? = some x ∧ RelV x v
  | _, _, _, _, .nil, e => by simp at e
  | _, _, 0, _, .cons r _, e => by
    simp only [List.getElem?_cons_zero, Option.some.injEq] at e
    subst e
    exact ⟨_, rfl, r⟩
  | _, _, i + 1, _, .cons _ t, e => by
    rw [List.getElem?_cons_succ] at e
    obtain ⟨x, h1, h2⟩ := valsV t e
    exact ⟨x, by rw [List.getElem?_cons_succ]; exact h1, h2⟩
/-! ### a list is taken out of what is tracked, and put back -/
def dropA (H : Hp) (l : Addr) : Hp := fun b => if b = l then none else H b
theorem dropA_same {H : Hp} {l : Addr} : dropA H l l = none := if_pos rfl
theorem dropA_ne {H : Hp} {l b : Addr} (h : b ≠ l) : dropA H l b = H b := if_neg h
theorem dropA_none {H : Hp} {l b : Addr} (h : H b = none) : dropA H l b = none := by
  unfold dropA
  split
  · rfl
  · exact h
theorem dropA_some {H : Hp} {l b : Addr} {o : HO} (h : dropA H l b = some o) : b ≠ l ∧ H b = some o := by
  unfold dropA at h
  split at h
  · cases h
  · rename_i z; exact ⟨z, h⟩
section
variable {X : Cx} {G : Gh} {W : WX} {pins : List (Addr × Obj)} {σ : L2.St} {H F : Hp} {s : Shared} {ρ : Env'}
theorem Inv.nofsT {l : Addr} {u : HO} (I : Inv X pins σ H s) (hl : H l = some u) : l ∉ X.fs := fun hb => by
  obtain ⟨_, ob, e, _⟩ := I.ok.funs.mem hb
  have q := I.base.free l ob e (I.ok.frf l hb) (fun z => I.ok.exfs l z hb)
  rw [hl] at q; cases q
theorem Inv.neL {l : Addr} {u : HO} (I : Inv X pins σ H s) (hl : H l = some u) : l ≠ X.env.locals := fun z => by
  have q := I.free
  rw [← z, hl] at q; cases q
theorem Inv.unlist {l : Addr} {vs : List V} (I : Inv X pins σ H s) (hl : H l = some (.lst vs)) : Inv X pins σ (dropA H l) s := by
  refine ⟨I.ok, I.os, I.bare, ⟨I.base.keep, I.base.slot, fun b ob e n hx => dropA_none (I.base.free b ob e n hx), I.base.there, fun b xs e => ?_, fun b ob u e => ?_, fun b ps e => ?_⟩, I.loc, I.cell, dropA_none I.free, fun x c e => dropA_none (I.freeC x c e), fun p hp => ?_, fun b u e => ?_, I.len⟩
  · have q := I.base.tups b xs e
    rw [dropA_ne (L2.ne_of q hl (by intro z; cases z))]; exact q
  · have q := I.base.frzs b ob u e
    rw [dropA_ne (L2.ne_of q hl (by intro z; cases z))]; exact q
  · obtain ⟨more, q⟩ := I.base.tbls b ps e
    exact ⟨more, by rw [dropA_ne (L2.ne_of q hl (by intro z; cases z))]; exact q⟩
  · obtain ⟨a1, a2, a3⟩ := I.pin p hp
    exact ⟨a1, dropA_none a2, a3⟩
  · obtain ⟨ne, e⟩ := dropA_some e
    exact (I.hok b u e).stay (fun c v _ q => q) (fun c q => by rw [dropA_ne (L2.ne_of q hl (by intro z; cases z))]; exact q) fun c xs q => by rw [dropA_ne (L2.ne_of q hl (by intro z; cases z))]; exact q
/-- back again: I1 the state ahead, at which it was tracked -/
theorem Inv.relist {l : Addr} {vs : List V} {s1 : Shared} {H1 H2 : Hp} (I1 : Inv X pins σ H1 s1) (h1 : H1 l = some (.lst vs)) (I : Inv X pins σ H2 s) (h2 : H2 l = none) (ok : ∀ H', ObjOk X.prog X.w H' s.heap l (.lst vs)) : Inv X pins σ (upd H2 l (.lst vs)) s := by
  have ne : ∀ b, H1 b = none → b ≠ l := fun b e z => by rw [z, h1] at e; cases e
  have k2 : ∀ b u, H2 b = some u → upd H2 l (.lst vs) b = some u := fun b u e => by rw [upd_ne (ne_of_none e h2)]; exact e
  refine ⟨I.ok, I.os, I.bare, ⟨I.base.keep, I.base.slot, fun b ob e n hx => ?_, I.base.there, fun b xs e => k2 _ _ (I.base.tups b xs e), fun b ob u e => k2 _ _ (I.base.frzs b ob u e), fun b ps e => ?_⟩, I.loc, I.cell, ?_, fun x c e => ?_, fun p hp => ?_, fun b u e => ?_, I.len⟩
  · rw [upd_ne (ne b (I1.base.free b ob e n hx))]
    exact I.base.free b ob e n hx
  · obtain ⟨more, q⟩ := I.base.tbls b ps e
    exact ⟨more, k2 _ _ q⟩
  · rw [upd_ne (ne _ I1.free)]; exact I.free
  · rw [upd_ne (ne _ (I1.freeC x c e))]; exact I.freeC x c e
  · obtain ⟨a1, a2, a3⟩ := I.pin p hp
    refine ⟨a1, ?_, a3⟩
    rw [upd_ne (ne _ (I1.pin p hp).2.1)]; exact a2
  · by_cases hb : b = l
    · subst hb
      rw [upd_same] at e
      cases e
      exact ok _
    · rw [upd_ne hb] at e
      exact (I.hok b u e).stay (fun c v _ q => q) (fun c q => k2 _ _ q) fun c xs q => k2 _ _ q
/-! ### flat data do not lean on lists -/
def isI : D → Bool
  | .int _ => true
  | _ => false
def flatB : D → Bool
  | .int _ => true
  | .tuple xs => xs.all isI
  | _ => false
theorem dat_intsF {F F' : Hp} : ∀ {vs : List V} {xs : List D}, DatAll F vs xs → xs.all isI = true → DatAll F' vs xs
  | _, _, .nil, _ => .nil
  | _, _, .cons (d := d) h r, e => by
    rw [List.all_cons, Bool.and_eq_true] at e
    refine .cons ?_ (dat_intsF r e.2)
    cases h with
    | int i => exact .int i
    | _ => cases e.1
theorem Dat.drop {l : Addr} {ws : List V} {v : V} {d : D} (h : Dat F v d) (hl : F l = some (.lst ws)) (e : flatB d = true) : Dat (dropA F l) v d := by
  cases h with
  | int i => exact .int i
  | @tup a xs ds hs r =>
    obtain ⟨o, ho, hd⟩ := hs
    exact .tup ⟨o, by rw [dropA_ne (L2.ne_of ho hl (by intro z; cases z))]; exact ho, hd⟩ (dat_intsF r e)
  | _ => cases e
/-! ### the keys -/
def keyOf (g : List D → Rs D) (n : Int) : Option Int := match g [.int n] with
  | .ok (.int k) => some k
  | _ => none
def keysOf (g : List D → Rs D) : List Int → Option (List Int)
  | [] => some []
  | n :: ns => match keyOf g n, keysOf g ns with
    | some k, some ks => some (k :: ks)
    | _, _ => none
theorem keysOf_get {g : List D → Rs D} : ∀ {ns kz : List Int}, keysOf g ns = some kz → ∀ i n, ns[i]? = some n → g [.int n] = .ok (.int (kz.getD i 0))
  | [], kz, h, i, n, e => by simp at e
  | m :: ns, kz, h, i, n, e => by
    unfold keysOf at h
    cases h1 : keyOf g m with
    | none => rw [h1] at h; cases h
    | some k =>
      cases h2 : keysOf g ns with
      | none => rw [h1, h2] at h; cases h
      | some ks =>
        rw [h1, h2] at h
        cases h
        cases i with
        | zero =>
          simp only [List.getElem?_cons_zero, Option.some.injEq] at e
          subst e
          unfold keyOf at h1
          split at h1
          · rename_i k' hk
            cases h1
            exact hk
          · cases h1
        | succ i =>
          rw [List.getElem?_cons_succ] at e
          exact keysOf_get h2 i n e
def bestI (ns kz : List Int) : Int := ns.getD (argBest (fun i j => decide (kz.getD i 0 > kz.getD j 0)) (ns.length - 1)) 0
def capsB (caps : List Cap) : Bool := caps.all fun c => match c with
  | .d d => flatB d
  | _ => false
def maxK (g : List D → Rs D) : D → Rs D
  | .list xs => match intsOf xs with
    | some ns => match keysOf g ns with
      | some kz => if ns = [] then .bad else .ok (.int (bestI ns kz))
      | none => .bad
    | none => .bad
  | _ => .bad
def mMaxK (ma : M D) (js : List Nat) (k : List Cap → List D → Rs D) : M D := ma.bind fun x => fun ρ => if capsB (js.map (capV ρ)) = true then (maxK (k (js.map (capV ρ))) x, ρ) else (.bad, ρ)
/-! ### the turns -/
/-- what holds at each turn: S, It are the walk's own -/
def KJ (X : Cx) (G : Gh) (pins : List (Addr × Obj)) (σ : L2.St) (F0 H0 : Hp) (l : Addr) (ol : Obj) (S It : Addr) (s : Shared) : Prop :=
  ∃ H', Inv X pins σ H' s ∧ Grow G.T No F0 H0 F0 H' ∧ H' S = none ∧ H' It = none ∧ H' l = none ∧ s.heap.get? l = some ol
/-- fresh addresses -/
structure Frs (X : Cx) (pins : List (Addr × Obj)) (a : Addr) : Prop where
  sz : X.s_0.heap.objs.size ≤ a
  nl : a ≠ X.env.locals
  nc : ∀ x c, X.env.cells.lookup x = some c → c ≠ a
  np : ∀ p ∈ X.pn ++ pins, p.1 ≠ a
theorem Inv.frs {a : Addr} (I : Inv X pins σ H s) (h : s.heap.objs.size ≤ a) : Frs X pins a := by
  refine ⟨Nat.le_trans I.sz h, fun z => ?_, fun x c e z => ?_, fun p hp z => ?_⟩
  · have := I.lt
    rw [← z] at this
    exact absurd (Nat.lt_of_lt_of_le this h) (Nat.lt_irrefl _)
  · obtain ⟨v, o, ho, _⟩ := I.cell x c e
    have := Heap.lt_size ho
    rw [z] at this
    exact absurd (Nat.lt_of_lt_of_le this h) (Nat.lt_irrefl _)
  · have := Heap.lt_size (I.pin p hp).1
    rw [z] at this
    exact absurd (Nat.lt_of_lt_of_le this h) (Nat.lt_irrefl _)
theorem Frs.nofs {a : Addr} (h : Frs X pins a) (I : Inv X pins σ H s) : a ∉ X.fs := fun hb => by
  obtain ⟨_, o, ho, _⟩ := I.ok.funs.mem hb
  exact absurd (Nat.lt_of_lt_of_le (Heap.lt_size ho) h.sz) (Nat.lt_irrefl _)
theorem KJ.keep {F0 H0 : Hp} {l S It : Addr} {ol : Obj} (fS : Frs X pins S) (fI : Frs X pins It) (nS : l ≠ S) (nI : l ≠ It) {s s' : Shared} (J : KJ X G pins σ F0 H0 l ol S It s) (m : Moved (S :: [It]) (fun a b => b = a) s s') : KJ X G pins σ F0 H0 l ol S It s' := by
  obtain ⟨H', I, g, n1, n2, n3, hl⟩ := J
  obtain ⟨hp, gs, dr, tk, os⟩ := s'
  have e1 : gs = s.gens := m.gens
  have e2 : os = s.os := m.os
  have mh : ∀ b o, b ∉ [S, It] → s.heap.get? b = some o → hp.get? b = some o := m.heap
  subst e1 e2
  have nin : ∀ b, b ≠ S → b ≠ It → b ∉ [S, It] := fun b h1 h2 z => by
    rcases List.mem_cons.mp z with z | z
    · exact h1 z
    · exact h2 (List.mem_singleton.mp z)
  refine ⟨H', I.step (h' := hp) (g' := s.gens) (d' := dr) (t' := tk) (ch := [S, It]) (fun b hb => ?_) (fun b o _ _ hc e _ => mh b o hc e) (fun b o _ _ hc e _ => ⟨o.slots, mh b o hc e⟩) (fun b o _ _ e => e) (fun b o hc e => ⟨o, mh b o hc e⟩) (fun b xs e => e) (fun b o u e => e) (fun b ps e => ⟨#[], by rw [Array.append_empty]; exact e⟩) (fun m' ⟨o, es, ep, ho, hd, r⟩ => ⟨o, es, ep, mh _ _ (nin _ (fun z => fS.nl z.symm) fun z => fI.nl z.symm) ho, hd, r⟩) (fun b u e => ?_) I.bare, g, n1, n2, n3, mh _ _ (nin _ nS nI) hl⟩
  · rcases List.mem_cons.mp hb with rfl | hb
    · exact ⟨.inr fS.sz, fS.nl, fS.nc, fS.np⟩
    · rw [List.mem_singleton.mp hb]
      exact ⟨.inr fI.sz, fI.nl, fI.nc, fI.np⟩
  · have ne : ∀ c v, H' c = some v → c ∉ [S, It] := fun c v q => nin c (fun z => by rw [z, n1] at q; cases q) fun z => by rw [z, n2] at q; cases q
    refine (I.hok b u e).stay (fun c v hc q => mh c v ?_ q) (fun _ q => q) fun _ _ q => q
    rcases hc with rfl | hc
    · exact ne _ _ e
    · exact ne _ _ hc
def MK (X : Cx) (G : Gh) (σ : L2.St) (x y : V) (H : Hp) (Q : VK) : Prop := ∃ (l f : Addr) (vs : List V) (ns kz : List Int) (F : Hp) (js : List Nat) (k : List Cap → List D → Rs D) (caps : List Cap), x = .ref l ∧ y = .ref f ∧ Ex F H ∧ NoT F ∧ TabsN G.T H ∧ F l = some (.lst (ns.map V.int)) ∧ ns ≠ [] ∧
  CloAt X G (dropA F l) f js k ∧ caps.length = js.length ∧ (∀ (a j : Nat) (c : Cap), js[a]? = some j → caps[a]? = some c → ∃ d v, c = .d d ∧ σ[j]? = some (some v) ∧ Dat (dropA F l) v d) ∧ keysOf (k caps) ns = some kz ∧ ∀ H', Grow G.T No F H F H' → Q (.int (bestI ns kz)) H'
theorem call_maxK (hc : X.calm = true) (hr : Room (G.k + 1) X.A) (hg : X.A.guards = some []) (x y : V) (u w : Value) (Q : VK) (I : Inv X pins σ H s) (rx : RelV x u) (ry : RelV y w) (h : MK X G σ x y H Q) :
    wpAny (model X.prog X.w) X.A (call (.builtin "max") [u] [(Str.ofString "key", w)]) (EP X pins σ Q) X.xe s := by
  obtain ⟨l, f, _, ns, kz, F, js, k, caps, rfl, rfl, eF, nt, hT, hl, hne, clo, hlc, hcap, hk, q⟩ := h
  obtain rfl : u = Value.ref l := rx
  obtain rfl : w = Value.ref f := ry
  have hlH := eF _ _ hl
  have I0 := Inv.unlist I hlH
  have hol := I.hok l _ hlH
  obtain ⟨hz, its, n, rv, ho⟩ := hol
  have hlen : its.length = ns.length := by rw [← rv.length, List.length_map]
  have hls : s.heap.IsList l its.toArray := ⟨_, ho, rfl, n, rfl⟩
  have eF0 : Ex (dropA F l) (dropA H l) := fun b o e => by
    obtain ⟨ne, e⟩ := dropA_some e
    rw [dropA_ne ne]; exact eF b o e
  have nt0 : NoT (dropA F l) := fun b ps e => nt b ps (dropA_some e).2
  have hT0 : TabsN G.T (dropA H l) := fun p hp => by
    obtain ⟨ps, a1, a2, a3⟩ := hT p hp
    refine ⟨ps, by rw [dropA_ne (L2.ne_of a1 hlH (by intro z; cases z))]; exact a1, a2, fun pos cv hcv => ?_⟩
    obtain ⟨c, e1, e2⟩ := a3 pos cv hcv
    exact ⟨c, e1, by rw [dropA_ne (L2.ne_of e2 hlH (codeO_nl _))]; exact e2⟩
  have nst : l ∉ frs X.stack := fun z => by
    have e := I.stkFree l z
    rw [hlH] at e; cases e
  have lts : l < s.heap.objs.size := Heap.lt_size ho
  refine PySem.call_max_walkK (PySem.W.iter_listW (show X.A.in1.handled = none from I.ok.hd hc) hls fun s₂ es W hst hfp hold hkeep => ⟨_, _, _, _, its.toArray.size, _, _, KJ X G pins σ (dropA F l) (dropA H l) l { cls := .type "list", data := .seq its.toArray n } s₂.heap.objs.size s.heap.objs.size, fun i k _ => ∃ t, k = .int (kz.getD i 0) t, fun i j => decide (kz.getD i 0 > kz.getD j 0), rfl, W, hst, hfp, ?_, ?_, ?_, ?_⟩)
  · rw [List.size_toArray, hlen]
    exact List.length_pos_iff.mpr hne
  · have sz2 : s.heap.objs.size < s₂.heap.objs.size := hfp _ List.mem_cons_self
    have fS : Frs X pins s₂.heap.objs.size := Inv.frs I (Nat.le_of_lt sz2)
    have fI : Frs X pins s.heap.objs.size := Inv.frs I (Nat.le_refl _)
    refine ⟨fun s1 s2 J m => KJ.keep fS fI (Nat.ne_of_lt (Nat.lt_trans lts sz2)) (Nat.ne_of_lt lts) J m, fun i k s1 s2 h _ => h, fun i v s1 o Q1 E1 hi hP hJ hSt hSo hq => ?_, fun i j ki kj s1 Q1 E1 _ hki hkj hq => ?_⟩
    · obtain ⟨H', I', g, nS, nI, nl, hol1⟩ := hJ
      obtain ⟨⟨oI, hoI, hcI, hdI⟩, _⟩ := id hSt
      have hPv : its[i]? = some v := by simpa using hP
      obtain ⟨m, hm, rm⟩ := valsV rv hPv
      rw [List.getElem?_map] at hm
      cases hn : ns[i]? with
      | none => rw [hn] at hm; simp at hm
      | some nn =>
        rw [hn] at hm
        have em : V.int nn = m := Option.some.inj hm
        subst em
        have hkey := keysOf_get hk i nn hn
        have A := clo pins s1 σ H' (dropA F l) caps I' nt0 (.refl _) g.s g.tabs hlc fun a j c h1 h2 => by
          obtain ⟨d, v, rfl, e1, e2⟩ := hcap a j c h1 h2
          exact ⟨v, e1, e2⟩
        have post : Post G.T X.mg (dropA F l) H' (k caps [.int nn]) (fun w H2 => ∃ F2, Grow G.T No (dropA F l) H' F2 H2 ∧ Dat F2 w (.int (kz.getD i 0))) (fun _ _ _ => False) := by
          unfold Post
          rw [hkey]
          exact fun w H2 F2 gr dv => ⟨F2, gr, dv⟩
        have e0 : Env0 X.prog X.w X.K X.mg X.base X.A.in1 X.stack s1 H' := ⟨I'.env0.frames, I'.env0.mod, I'.env0.bs, I'.env0.bsz, I'.env0.funs, I'.env0.frf, I'.env0.hok, I'.env0.bare⟩
        refine wpAny_call (codeAny_mono (A.run X.A.in1 X.stack s1 H' (dropA F l) [v] [V.int nn] [.int nn] _ _ hr.in1 hg e0 nt0 (.refl _) g.s (.refl _ _) g.tabs (.cons rm .nil) (.cons (.int nn) .nil) post) fun r s' hr' => ?_)
        cases r with
        | error e =>
          obtain ⟨a, B, H2, cls, d, ea, fl, hok, ub, na, os, ag, he⟩ := hr'
          exact he.elim
        | ok fl =>
          cases fl with
          | ret u =>
            obtain ⟨w, H2, os, bare, un, hok, rw_, F2, gr, dv⟩ := hr'
            cases dv
            obtain ⟨t, rfl⟩ := rw_
            have nsS : s₂.heap.objs.size ∉ frs X.stack := fun z => by
              rcases List.mem_cons.mp (I'.stkSub _ z) with z | z
              · exact fS.nl z
              · exact fS.nofs I' z
            have nsI : s.heap.objs.size ∉ frs X.stack := fun z => by
              rcases List.mem_cons.mp (I'.stkSub _ z) with z | z
              · exact fI.nl z
              · exact fI.nofs I' z
            have hS' := un.keep _ _ hSo nS nsS (fun z => nomatch z)
            have hI' := un.keep _ _ hoI nI nsI (fun z => nomatch z)
            have hl' := un.keep _ _ hol1 nl nst (fun z => nomatch z)
            refine hq _ s' ⟨H2, ?_, ⟨.refl _, gr.f.trans gr.s, fun b e => .inl e, fun b o e hb ht => gr.old b o (g.old b o e hb ht) hb ht, fun b e => g.there b (gr.there b e), gr.tabs, fun b ps e => e⟩, un.free _ _ hSo nS (fun z => nomatch z), un.free _ _ hoI nI (fun z => nomatch z), un.free _ _ hol1 nl (fun z => nomatch z), hl'⟩ ⟨⟨oI, hI', hcI, hdI⟩, ⟨_, hl', rfl, n, rfl⟩⟩ hS' ⟨t, rfl⟩ fun j k' z => z
            obtain ⟨hh, gg, dd, tt, os'⟩ := s'
            obtain rfl : os' = s1.os := os
            exact I'.call (h' := hh) (g' := gg) (d' := dd) (t' := tt) (ch := []) un hok bare (fun b z => absurd z (by simp))
          | next => exact False.elim hr'
          | brk => exact False.elim hr'
          | cont => exact False.elim hr'
    · obtain ⟨t1, rfl⟩ := hki
      obtain ⟨t2, rfl⟩ := hkj
      exact CmpOf.ints_gt (prog := X.prog) (w := X.w) (A := X.A.in1) (P := fun i v => ∃ t, v = .int (kz.getD i 0) t) (fun i => kz.getD i 0) (fun i v h => h) i j _ _ _ _ _ ⟨t1, rfl⟩ ⟨t2, rfl⟩ hq
  · subst es
    refine ⟨dropA H l, I0.kept (t' := s.toks) fun b u e => Heap.get?_push_of_some _ e, .refl eF0 hT0, ?_, ?_, dropA_same, Heap.get?_push_of_some _ ho⟩
    · exact dropA_none (I.hok.fresh (by
        show s.heap.objs.size ≤ (s.heap.push _).objs.size
        rw [Heap.size_push]; exact Nat.le_succ _))
    · exact dropA_none (I.hok.fresh (Nat.le_refl _))
  · intro v s' hP hJ
    obtain ⟨H', I', g, nS, nI, nl, hol1⟩ := hJ
    have hPv : its[argBest (fun i j => decide (kz.getD i 0 > kz.getD j 0)) (its.toArray.size - 1)]? = some v := by simpa using hP
    obtain ⟨m, hm, rm⟩ := valsV rv hPv
    rw [List.size_toArray, hlen] at hm
    rw [List.getElem?_map] at hm
    cases hn : ns[argBest (fun i j => decide (kz.getD i 0 > kz.getD j 0)) (ns.length - 1)]? with
    | none => rw [hn] at hm; simp at hm
    | some nn =>
      rw [hn] at hm
      have em : V.int nn = m := Option.some.inj hm
      subst em
      have eb : bestI ns kz = nn := by
        unfold bestI
        rw [List.getD_eq_getElem?_getD, hn]; rfl
      have I2 := Inv.relist I hlH I' nl fun H'' => ⟨hz, its, n, rv, hol1⟩
      have q2 := q (upd H' l (.lst (ns.map V.int))) ⟨.refl F, fun b o e => ?_, fun b e => .inl e, fun b o e hb ht => ?_, fun b e => ?_, TabsN.upd g.tabs (.inl nl), fun b ps e => e⟩
      · rw [eb] at q2
        exact ⟨_, _, I2, rm, q2⟩
      · by_cases hb : b = l
        · subst hb
          rw [hl] at e; cases e
          exact upd_same
        · rw [upd_ne hb]
          exact g.s b o (by rw [dropA_ne hb]; exact e)
      · by_cases hb2 : b = l
        · subst hb2
          rw [hlH] at e; cases e
          exact upd_same
        · rw [upd_ne hb2]
          exact g.old b o (by rw [dropA_ne hb2]; exact e) hb ht
      · have hb : b ≠ l := fun z => by rw [z, upd_same] at e; cases e
        rw [upd_ne hb] at e
        have := g.there b e
        rwa [dropA_ne hb] at this
/-! ### the rule -/
theorem pe_call1K {id : String} {x nm : Str} {p kpos pos : Pos} {e e2 : Expr} {te tk : TE} {M : L2.St → V → V → Hp → VK → Prop}
    (hc : ∀ (pins : List (Addr × Obj)) (s : Shared) (σ : L2.St) (H : Hp) (y z : V) (u w : Value) (Q : VK), Inv X pins σ H s → RelV y u → RelV z w → M σ y z H Q → wpAny (model X.prog X.w) X.A (call (.builtin id) [u] [(nm, w)]) (EP X pins σ Q) X.xe s)
    (hg : Gl X x) (hm : X.mg x = none) (hv : bootBuiltins x = some (.builtin id)) (he : PE X e te) (hk : PE X e2 tk) (hn : x ≠ "__name__" := by decide) (hdb : (x == ("__debug__" : Str)) = false := by decide) (na : starEach [e] X.env = (false, eval e X.env) :: starEach [] X.env := by rfl)
    (hb : backTo pos (starEach [e] X.env) = (false, eval e X.env) :: backTo pos (starEach [] X.env) := by rfl) (hpl : (backTo pos (starEach [e] X.env)).any (·.1) = false := by rfl)
    (hall : (backToKw pos (keywordEach [⟨some nm, e2, kpos⟩] X.env)).all (·.1.isSome) = true := by rfl) (hnone : (backToKw pos (keywordEach [⟨some nm, e2, kpos⟩] X.env)).any (·.1.isNone) = false := by rfl) (hks : (backToKw pos (keywordEach [⟨some nm, e2, kpos⟩] X.env)).filterMap (·.1) = [nm] := by rfl) :
    PE X (.Call (.Name x p) [e] [⟨some nm, e2, kpos⟩] pos) (fun σ H Q => te σ H fun y H1 => tk σ H1 fun z H2 => M σ y z H2 Q) := by
  refine ⟨fun pins s σ H Q I h => ?_⟩
  refine wpAny_Call_Name_kw (ld_blt I hg hm hv ?_ hn hdb)
  refine PyProof.Rows.callWith_kw (thn ((pa_cons he pa_nil na).run pos pins s σ H (fun vs H1 => match vs with
    | [y] => tk σ H1 fun z H2 => M σ y z H2 Q
    | _ => False) I h) fun us s1 ⟨vs, H1, I1, r1, q1⟩ => ?_) hb hpl hall hnone
  match vs, r1, q1 with
  | [], _, q1 => exact q1.elim
  | _ :: _ :: _, _, q1 => exact q1.elim
  | [y], r1, q1 =>
    obtain ⟨u, rfl, ru⟩ := vals1 r1
    refine thn ((pk_cons (nm := some nm) (kpos := kpos) hk pk_nil).run pos pins s1 σ H1 (fun zs H2 => match zs with
      | [z] => M σ y z H2 Q
      | _ => False) I1 q1) fun ws s2 ⟨zs, H2, I2, r2, q2⟩ => ?_
    match zs, r2, q2 with
    | [], _, q2 => exact q2.elim
    | _ :: _ :: _, _, q2 => exact q2.elim
    | [z], r2, q2 =>
      obtain ⟨w, rfl, rw_⟩ := vals1 r2
      rw [hks]
      exact hc pins s2 σ H2 y z u w Q I2 ru rw_ q2
theorem lamO_nl {f : Addr} {F : NF} {b : Expr} (xs : List V) : LamO f F b ≠ .lst xs := fun z => by
  unfold LamO at z
  cases z
theorem capV_dat {ρ : Env'} {j : Nat} {d : D} (h : capV ρ j = .d d) : ρ[j]? = some (.dat d) := by
  unfold capV at h
  cases e : ρ[j]? with
  | none => rw [e] at h; cases h
  | some sl =>
    rw [e] at h
    cases sl with
    | dat d' => cases h; rfl
    | _ => cases h
theorem DE.maxKey {nm : Nat → Nat → Str} {c P : Addr} {params : Arguments} {body : Expr} {scope : Scope} {lpos p kpos pos : Pos} {k kk : Nat} {N ps fr : List Str} {js : List Nat} {m ma : M D} {e : Expr} (TB : TabB X.base X.mg c P) (hcode : X.env.code = .ref c) (hm : (P, nm) ∈ G.T) (hn : nm lpos.line lpos.col = X.env.qual ++ "<lambda>")
    (hu : ∀ p ∈ G.T, p.1 = P → p.2 = nm) (hdef : defaultsOf params X.env = ([], []))
    (S : NScope N ps fr scope) (hb : ∀ (qual : Str) (cl : List (Str × Addr)) (c' : Addr) (pm ctv : Value) (us : List Value), us.length = ps.length → bindArgs (PySem.W.kla_fn "<lambda>" qual params body scope cl pm (.ref c') ctv) ⟨us, []⟩ = pure (ps.zip us)) (hnd : ndefB X.env.scope scope fr = true) (hjs : js.map (fun j => X.N[j]?) = fr.map some) (hk : k + 1 ≤ G.k)
    (hbody : ∀ (f c' : Addr) (cl : List (Str × Addr)) (A : Around) (outer : List Env) (s : Shared) (H : Hp) (E : XK) (G' : Gh), Room k (A.deeper (envF ⟨"<lambda>", X.env.qual ++ "<lambda>", params, [], scope, cl, c'⟩ f s.heap.objs.size)) → A.guards = some [] → G'.T = G.T → G'.k = G.k → G'.nf = false → DE (ncx (L2.CX X.prog X.w) X.prog X.w X.K X.mg X.base N ⟨"<lambda>", X.env.qual ++ "<lambda>", params, [], scope, cl, c'⟩ f A outer s H E) G' (fun cls d _ H => E cls d H) body m)
    (hc : X.calm = true) (C : Ctx X G W kk) (hkk : G.k + 1 ≤ kk) (hgm : Gl X "max") (hmm : X.mg "max" = none) (he : DE X G W e ma) (na : starEach [e] X.env = (false, eval e X.env) :: starEach [] X.env := by rfl)
    (hbk : backTo pos (starEach [e] X.env) = (false, eval e X.env) :: backTo pos (starEach [] X.env) := by rfl) (hpl : (backTo pos (starEach [e] X.env)).any (·.1) = false := by rfl)
    (hall : (backToKw pos (keywordEach [⟨some ("key" : Str), .Lambda params body scope lpos, kpos⟩] X.env)).all (·.1.isSome) = true := by rfl) (hnone : (backToKw pos (keywordEach [⟨some ("key" : Str), .Lambda params body scope lpos, kpos⟩] X.env)).any (·.1.isNone) = false := by rfl) (hks : (backToKw pos (keywordEach [⟨some ("key" : Str), .Lambda params body scope lpos, kpos⟩] X.env)).filterMap (·.1) = [("key" : Str)] := by rfl) :
    DE X G W (.Call (.Name "max" p) [e] [⟨some ("key" : Str), .Lambda params body scope lpos, kpos⟩] pos) (mMaxK ma js (lamR N.length ps.length m)) :=
  ⟨PE.imp (pe_call1K (M := MK X G) (fun pins s σ H y z u w Q I ry rz h => call_maxK hc (C.room.mono hkk) C.gd y z u w Q I ry rz h) hgm hmm (by decide +kernel) he.pe (pe_lamN TB hcode hm hn hu hdef (ndef_free hnd)) (by decide) (by decide) na hbk hpl hall hnone hks) fun σ H Q ⟨F, ρ, R, hq⟩ => rd_step (.refl R) hq fun d ρ1 v H1 F1 st dv q => ⟨st.rep.tabs, fun f c' H2 eN nn T1 f0 f1 c1 => by
    have g := make_grow (G := G) (F := F1) st.rep.sub st.rep.noT eN nn T1 f0 f1 c1 (fun ps => lamO_ne ps) (fun ps => codeO_ne ps) (fun xs => codeO_nl xs)
    have st2 : Stp X G F1 H1 σ ρ1 (frzF F1 H2 f c') H2 ρ1 := (Stp.refl st.rep).grow g
    have q : At X G W F H σ ρ (if capsB (js.map (capV ρ1)) = true then (maxK (lamR N.length ps.length m (js.map (capV ρ1))) d, ρ1) else (.bad, ρ1)) fun d ρ' => ∀ v H' F', Stp X G F H σ ρ F' H' ρ' → Dat F' v d → Q v H' := q
    by_cases hcaps : capsB (js.map (capV ρ1)) = true
    · rw [if_pos hcaps] at q
      cases dv with
      | @lst l vs xs h1 r1 =>
        have q : At X G W F H σ ρ (((match intsOf xs with
          | some ns => match keysOf (lamR N.length ps.length m (js.map (capV ρ1))) ns with
            | some kz => if ns = [] then .bad else .ok (.int (bestI ns kz))
            | none => .bad
          | none => .bad) : Rs D), ρ1) fun d ρ' => ∀ v H' F', Stp X G F H σ ρ F' H' ρ' → Dat F' v d → Q v H' := q
        cases hi : intsOf xs with
        | none => rw [hi] at q; exact q.elim
        | some ns =>
          rw [hi] at q
          have q : At X G W F H σ ρ (((match keysOf (lamR N.length ps.length m (js.map (capV ρ1))) ns with
            | some kz => if ns = [] then .bad else .ok (.int (bestI ns kz))
            | none => .bad) : Rs D), ρ1) fun d ρ' => ∀ v H' F', Stp X G F H σ ρ F' H' ρ' → Dat F' v d → Q v H' := q
          cases hkz : keysOf (lamR N.length ps.length m (js.map (capV ρ1))) ns with
          | none => rw [hkz] at q; exact q.elim
          | some kz =>
            rw [hkz] at q
            have q : At X G W F H σ ρ (if ns = [] then .bad else .ok (.int (bestI ns kz)), ρ1) fun d ρ' => ∀ v H' F', Stp X G F H σ ρ F' H' ρ' → Dat F' v d → Q v H' := q
            by_cases hne : ns = []
            · rw [if_pos hne] at q; exact q.elim
            · rw [if_neg hne] at q
              have q5 : ∀ v H' F', Stp X G F H σ ρ F' H' ρ1 → Dat F' v (.int (bestI ns kz)) → Q v H' := q
              have ex := intsOf_some hi
              subst ex
              have ev := DatAll.int_inv r1
              subst ev
              have hl2 := g.f _ _ h1
              have hF : dropA (frzF F1 H2 f c') l f = some (LamO f ⟨"<lambda>", X.env.qual ++ "<lambda>", params, [], scope, cloFrom X.env.cells scope.names [], c'⟩ body) := by
                rw [dropA_ne (L2.ne_of (frzF_f.trans f1) hl2 (lamO_nl _))]
                exact frzF_f.trans f1
              have hC : dropA (frzF F1 H2 f c') l c' = some (CodeO c' (X.env.qual ++ "<lambda>")) := by
                rw [dropA_ne (L2.ne_of (frzF_c.trans c1) hl2 (codeO_nl _))]
                exact frzF_c.trans c1
              have clo : CloAt X G (dropA (frzF F1 H2 f c') l) f js (lamR N.length ps.length m) := clo_lam (Fn := ⟨"<lambda>", X.env.qual ++ "<lambda>", params, [], scope, cloFrom X.env.cells scope.names [], c'⟩) rfl hF hC S (fun pm ctv us => hb _ _ c' pm ctv us) hnd hjs hk (fun A outer s H E G' => hbody f c' _ A outer s H E G')
              refine ⟨l, f, [], ns, kz, frzF F1 H2 f c', js, lamR N.length ps.length m, js.map (capV ρ1), rfl, rfl, st2.rep.sub, st2.rep.noT, st2.rep.tabs, hl2, hne, clo, List.length_map _, fun a j c e1 e2 => ?_, hkz, fun H' gr => q5 _ H' _ ((st.trans st2).grow gr) (.int _)⟩
              rw [List.getElem?_map, e1] at e2
              have ec : capV ρ1 j = c := Option.some.inj e2
              have hcb := List.all_eq_true.mp hcaps c (by rw [← ec]; exact List.mem_map.mpr ⟨j, List.mem_of_getElem? e1, rfl⟩)
              cases c with
              | d d =>
                obtain ⟨v, hv, dv2⟩ := st2.rep.ok j _ (capV_dat ec)
                exact ⟨d, v, rfl, hv, dv2.drop hl2 hcb⟩
              | no => cases hcb
              | f g => cases hcb
      | _ => exact q.elim
    · rw [if_neg hcaps] at q; exact q.elim⟩⟩
end
end
end DL

end
section
set_option maxRecDepth 100000
set_option maxHeartbeats 3200000
/-! sorted(xs, key=lambda ..). The turns follow KE.SortKeyHeap, under what the walk keeps. -/
namespace DL
noncomputable section
open PySem PySem.Spec L2 LamX NdefX
open PyProof.Rows hiding St
open PySem.W PySem.Calls
/-! ### the sort, under an invariant of the walk's own -/
/-- all but the objects at a, b is kept -/
def Keeps2 (a b : Addr) (h h' : Heap) : Prop := ∀ c o, c ≠ a → c ≠ b → h.get? c = some o → h'.get? c = some o
section
variable {prog : Program} {w : World} {A : Around} {E : Value → Shared → Prop} {s : Shared} {a kS : Addr} {b : Bool} {vs : List Value} {keys : Array Value} {e e1 : Nat} {P : PySem.Fin → Shared → Prop} {kz : List PyData}
theorem freed_get {h : Heap} {k : Addr} : (h.update k fun o => { o with data := .freed }).get? k = none := by
  exact PyProof.Rows.TI.get?_update_freed h k
theorem keyJ_rest {f : Value} {J : List Value → Shared → Prop}
    (up : ∀ ks s h' tk, J ks s → Keeps2 a kS s.heap h' → J ks { s with heap := h', toks := tk })
    (turn : ∀ i v, vs[i]? = some v → ∀ ks s oS oA, ks.length = i → J ks s → s.heap.get? kS = some oS → s.heap.get? a = some oA → wpAny (model prog w) A (call f [v]) (fun k s' => J (ks ++ [k]) s' ∧ s'.heap.get? kS = some oS ∧ s'.heap.get? a = some oA) (fun _ _ => False) s)
    (fin : ∀ ks s, J ks s → ks.length = vs.length → EachIs (fun v k => ∃ as, Reads s.heap v k as) ks kz)
    (j0 : J [] s) (nk : s.heap.get? kS = some (seqObj "list" #[] 0)) (na : s.heap.get? a = some (seqObj "list" #[] e1)) (hka : kS ≠ a) (hlen : kz.length = vs.length) (hZ : vs.length ≤ sizeLine) (hal : AllAlike kz) (hsk : Sortable kz) (hu : ∀ d, d ∈ kz → A.units + d.depth < cLine)
    (h : ∀ ks s' h' tk out c, J ks s' → Keeps2 a kS s'.heap h' → h'.get? a = some (seqObj "list" (List.toArray out) c) → KeyedOut b kz vs out → P (.done (.ret .none)) { s' with heap := h', toks := tk }) :
    wpAny (model prog w) A (ksk_rest a f b vs.toArray e1 (.ref kS)) P E s := by
  unfold ksk_rest
  refine wpAny_bind (wpAny_rule ?_)
  first
    | rw [List.forIn_toArray]
    | (rw [← Array.forIn_toList]; simp only [List.toList_toArray])
    | rw [← Array.forIn_toList]
  refine wpAny_bind (ksk_fold (fun i s' => ∃ kA e, s'.heap.get? kS = some (seqObj "list" kA e) ∧ s'.heap.get? a = some (seqObj "list" #[] e1) ∧ kA.toList.length = i ∧ J kA.toList s') vs 0 s
    ⟨#[], 0, nk, na, rfl, j0⟩ ?step ?done)
  case step =>
    rintro j x s' hx ⟨kA, e, nk', na', hl, hJ⟩
    simp only [Nat.zero_add] at hl ⊢
    have hj : j < vs.length := (List.getElem?_eq_some_iff.mp hx).1
    have hz : kA.size ≤ vs.length := by
      rw [Array.length_toList] at hl
      omega
    refine wpAny_bind (wpAny_attempt (wpAny_mono (turn j x hx _ s' _ _ hl hJ nk' na') (fun v s'' he => ?_) fun _ _ hF => hF.elim))
    obtain ⟨J2, nk2, na2⟩ := he
    try dsimp only
    have s1 := Heap.SameBut.update s''.heap kS (Obj.mapSeq (·.push v))
    obtain ⟨c2, hc2⟩ : ∃ c2, (s''.heap.update kS (Obj.mapSeq (·.push v))).get? kS = some (seqObj "list" (kA.push v) c2) := ⟨_, get?_update_seq nk2 (·.push v)⟩
    have ea : (kA.push v).toList = kA.toList ++ [v] := by simp
    refine wpAny_bind (listUpdate_at nk2 rfl ?_ (Nat.le_trans hz hZ) (Nat.le_trans (Nat.le_of_eq (Array.size_push ..)) (Nat.succ_le_succ (Nat.le_trans hz hZ))))
    refine wpAny_pure ⟨rfl, kA.push v, c2, hc2, (s1.2 a hka.symm).trans na2, ?_, ?_⟩
    · rw [ea, List.length_append, hl]; rfl
    · rw [ea]
      exact up _ s'' _ _ J2 fun c o hca hcS q => (s1.2 c hcS).trans q
  case done =>
    rintro s' ⟨kA, e, nk', na', hl, hJ⟩
    have hk' := fin _ s' hJ (by rw [hl]; exact Nat.zero_add _)
    have hsz : kA.size = vs.length := by
      rw [Array.length_toList] at hl
      omega
    try dsimp only
    refine wpAny_bind (listItems_at nk' rfl ?_)
    refine keyH_end (κ := dataKind s'.heap kz) (h₁ := s'.heap.update kS fun o => { o with data := .freed }) (fun c o hc q => ?_) freed_get nk' na' hka (SortsAt.data hk' hal hsk hu) hsz hZ fun h3 tk3 c k3 n3 => h _ s' h3 tk3 _ c hJ (fun c o hca hcS q => k3 c o hca ?_) n3 ⟨s'.heap, kA.toList, hal, rfl, hk'⟩
    · by_cases hcS : c = kS
      · subst hcS
        rw [freed_get] at q; cases q
      · rw [Heap.get?_update_ne _ _ _ _ hcS] at q; exact q
    · rw [Heap.get?_update_ne _ _ _ _ hcS]; exact q
theorem keyJ_sorted {l : Addr} {f : Value} {J : List Value → Shared → Prop} {Q : Value → Shared → Prop} {kw : List (Str × Value)} (hl : s.heap.IsList l vs.toArray) (hlen : kz.length = vs.length) (hZ : vs.length ≤ sizeLine) (hal : AllAlike kz) (hsk : Sortable kz) (hu : ∀ d, d ∈ kz → A.units + 2 + d.depth < cLine)
    (ha1 : argsOk "sorted" ⟨[.ref l], kw⟩) (ha2 : ∀ x, argsOk "list.sort" ⟨[.ref x], kw⟩) (ht : ∀ x, Builtin.«list.sort» ⟨[.ref x], kw⟩ = ksk_tree x f b)
    (up : ∀ ks s1 h' tk, J ks s1 → Keeps2 (s.heap.objs.size + 1) (s.heap.objs.size + 3) s1.heap h' → J ks { s1 with heap := h', toks := tk })
    (turn : ∀ i v, vs[i]? = some v → ∀ ks s1 oS oA, ks.length = i → J ks s1 → s1.heap.get? (s.heap.objs.size + 3) = some oS → s1.heap.get? (s.heap.objs.size + 1) = some oA → wpAny (model prog w) A.in1.in1 (call f [v]) (fun k s' => J (ks ++ [k]) s' ∧ s'.heap.get? (s.heap.objs.size + 3) = some oS ∧ s'.heap.get? (s.heap.objs.size + 1) = some oA) (fun _ _ => False) s1)
    (fin : ∀ ks s1, J ks s1 → ks.length = vs.length → EachIs (fun v k => ∃ as, Reads s1.heap v k as) ks kz)
    (j0 : ∀ h' tk, (∀ c o, s.heap.get? c = some o → h'.get? c = some o) → J [] { s with heap := h', toks := tk })
    (h : ∀ ks s' h' tk out c, J ks s' → Keeps2 (s.heap.objs.size + 1) (s.heap.objs.size + 3) s'.heap h' → h'.get? (s.heap.objs.size + 1) = some (seqObj "list" (List.toArray out) c) → KeyedOut b kz vs out → Q (.ref (s.heap.objs.size + 1)) { s' with heap := h', toks := tk }) :
    wpAny (model prog w) A (call (.builtin "sorted") [.ref l] kw) Q E s := by
  have sz : (copyHeap s.heap vs).objs.size = s.heap.objs.size + 2 := by
    unfold copyHeap
    rw [size_push', Heap.size_update, size_push']
  refine sorted_of_sort hl hZ ha1 ha2 fun E' => ?_
  rw [ht]
  have ho := copyHeap_at s.heap vs
  obtain ⟨e1, ho1⟩ : ∃ e1, ((copyHeap s.heap vs).update (s.heap.objs.size + 1) (Obj.mapSeq fun _ => (#[] : Array Value))).get? (s.heap.objs.size + 1) = some (seqObj "list" #[] e1) := ⟨_, get?_update_seq ho fun _ => #[]⟩
  have hkS : (((copyHeap s.heap vs).update (s.heap.objs.size + 1) (Obj.mapSeq fun _ => (#[] : Array Value))).push (seqObj "tuple" vs.toArray 0)).objs.size = s.heap.objs.size + 3 := by rw [size_push', Heap.size_update, sz]
  unfold ksk_tree
  refine wpAny_bind (listItems_at (s := { s with heap := copyHeap s.heap vs }) ho rfl ?_)
  refine wpAny_bind (listUpdate_at (s := { s with heap := copyHeap s.heap vs }) ho rfl ?_ (by rw [List.size_toArray]; exact hZ) (Nat.zero_le _))
  refine wpAny_bind (seqEpoch_at ho1 rfl ?_)
  refine wpAny_bind (wpAny_newTuple ?_ (by show vs.length ≤ _; exact hZ))
  refine wpAny_bind (wpAny_newList ?_ (Nat.zero_le _))
  refine wpAny_holding ?_
  have kp : ∀ c o, s.heap.get? c = some o → (sortingHeap (copyHeap s.heap vs) (s.heap.objs.size + 1) vs).get? c = some o := fun c o q => sortingHeap_old (Nat.ne_of_lt (Nat.lt_succ_of_lt (Heap.lt_size q))) (copyHeap_old q)
  have key := keyJ_rest (prog := prog) (w := w) (A := A.in1.in1) (E := E') (P := fun f s' => f = .done (.ret .none) ∧ Q (.ref (s.heap.objs.size + 1)) s') (kz := kz) (b := b) (f := f) (a := s.heap.objs.size + 1) (kS := s.heap.objs.size + 3) (vs := vs) (e1 := e1) (J := J)
    (s := { s with heap := (((copyHeap s.heap vs).update (s.heap.objs.size + 1) (Obj.mapSeq fun _ => (#[] : Array Value))).push (seqObj "tuple" vs.toArray 0)).push (seqObj "list" #[] 0) }) up turn fin (j0 _ _ kp) (by rw [← hkS]; exact Heap.get?_push_size _ rfl) (Heap.get?_push_of_some _ (Heap.get?_push_of_some _ ho1)) (fun z => absurd (show s.heap.objs.size + 3 = s.heap.objs.size + 1 from z) (by omega)) hlen hZ hal hsk hu fun ks s' h' tk out c hJ hk hn ko => ⟨rfl, h ks s' h' tk out c hJ hk hn ko⟩
  rw [← hkS] at key
  rw [hkS] at key ⊢
  exact key
end
/-! ### what holds at each turn -/
def SJ (X : Cx) (G : Gh) (pins : List (Addr × Obj)) (σ : L2.St) (F0 H0 : Hp) (a kS : Addr) (kz : List D) (ks : List Value) (s : Shared) : Prop :=
  ∃ F' H' ws, Inv X pins σ H' s ∧ Grow G.T No F0 H0 F' H' ∧ H' a = none ∧ H' kS = none ∧ Vals ws ks ∧ DatAll F' ws (kz.take ks.length)
section
variable {X : Cx} {G : Gh} {W : WX} {pins : List (Addr × Obj)} {σ : L2.St} {H F : Hp} {s : Shared} {ρ : Env'}
theorem Inv.keeps2 {a kS : Addr} {h' : Heap} {t' : Nat} (fS : Frs X pins a) (fI : Frs X pins kS) (I : Inv X pins σ H s) (n1 : H a = none) (n2 : H kS = none) (mh : Keeps2 a kS s.heap h') : Inv X pins σ H { s with heap := h', toks := t' } := by
  have nin : ∀ b, b ∉ [a, kS] → b ≠ a ∧ b ≠ kS := fun b z => ⟨fun e => z (by rw [e]; exact List.mem_cons_self), fun e => z (by rw [e]; exact List.mem_cons_of_mem _ List.mem_cons_self)⟩
  refine I.step (h' := h') (g' := s.gens) (d' := s.drawn) (t' := t') (ch := [a, kS]) (fun b hb => ?_) (fun b o _ _ hc e _ => mh b o (nin b hc).1 (nin b hc).2 e) (fun b o _ _ hc e _ => ⟨o.slots, mh b o (nin b hc).1 (nin b hc).2 e⟩) (fun b o _ _ e => e) (fun b o hc e => ⟨o, mh b o (nin b hc).1 (nin b hc).2 e⟩) (fun b xs e => e) (fun b o u e => e) (fun b ps e => ⟨#[], by rw [Array.append_empty]; exact e⟩)
    (fun m' ⟨o, es, ep, ho, hd, r⟩ => ⟨o, es, ep, mh _ _ (fun z => fS.nl z.symm) (fun z => fI.nl z.symm) ho, hd, r⟩) (fun b u e => ?_) I.bare
  · rcases List.mem_cons.mp hb with rfl | hb
    · exact ⟨.inr fS.sz, fS.nl, fS.nc, fS.np⟩
    · rw [List.mem_singleton.mp hb]
      exact ⟨.inr fI.sz, fI.nl, fI.nc, fI.np⟩
  · have ne : ∀ c v, H c = some v → c ≠ a ∧ c ≠ kS := fun c v q => ⟨(fun z => by rw [z, n1] at q; cases q), (fun z => by rw [z, n2] at q; cases q)⟩
    refine (I.hok b u e).stay (fun c v hc q => ?_) (fun _ q => q) fun _ _ q => q
    have hn : c ≠ a ∧ c ≠ kS := by
      rcases hc with rfl | hc
      · exact ne _ _ e
      · exact ne _ _ hc
    exact mh c v hn.1 hn.2 q
/-- a fresh list is tracked -/
theorem Inv.putL {l : Addr} {vs : List V} (I : Inv X pins σ H s) (h2 : H l = none) (f : Frs X pins l) (ok : ∀ H', ObjOk X.prog X.w H' s.heap l (.lst vs)) : Inv X pins σ (upd H l (.lst vs)) s := by
  have k2 : ∀ b u, H b = some u → upd H l (.lst vs) b = some u := fun b u e => by rw [upd_ne (ne_of_none e h2)]; exact e
  refine ⟨I.ok, I.os, I.bare, ⟨I.base.keep, I.base.slot, fun b ob e n hx => ?_, I.base.there, fun b xs e => k2 _ _ (I.base.tups b xs e), fun b ob u e => k2 _ _ (I.base.frzs b ob u e), fun b ps e => ?_⟩, I.loc, I.cell, ?_, fun x c e => ?_, fun p hp => ?_, fun b u e => ?_, I.len⟩
  · rw [upd_ne (fun z => absurd (Nat.lt_of_lt_of_le (Heap.lt_size e) f.sz) (by rw [z]; exact Nat.lt_irrefl _))]
    exact I.base.free b ob e n hx
  · obtain ⟨more, q⟩ := I.base.tbls b ps e
    exact ⟨more, k2 _ _ q⟩
  · rw [upd_ne (fun z => f.nl z.symm)]; exact I.free
  · rw [upd_ne (f.nc x c e)]; exact I.freeC x c e
  · obtain ⟨a1, a2, a3⟩ := I.pin p hp
    refine ⟨a1, ?_, a3⟩
    rw [upd_ne (f.np p hp)]; exact a2
  · by_cases hb : b = l
    · subst hb
      rw [upd_same] at e
      cases e
      exact ok _
    · rw [upd_ne hb] at e
      exact (I.hok b u e).stay (fun c v _ q => q) (fun c q => k2 _ _ q) fun c xs q => k2 _ _ q
theorem Room.in2 {k : Nat} {A : Around} (r : Room (k + 1) A) : Room k A.in1.in1 :=
  ⟨r.hd, by have := r.dp; show A.depth + 3 * k + 5 < _; omega, by have := r.un; show A.units + 1 + 1 + 16 * k + 200 < _; omega⟩
/-! ### the mirror -/
def keyD (g : List D → Rs D) (x : D) : D := match g [x] with
  | .ok d => d
  | _ => .none
def okB (g : List D → Rs D) (xs : List D) : Bool := xs.all fun x => match g [x] with
  | .ok _ => true
  | _ => false
theorem okB_get {g : List D → Rs D} {xs : List D} (h : okB g xs = true) {x : D} (hx : x ∈ xs) : g [x] = .ok (keyD g x) := by
  have := List.all_eq_true.mp h x hx
  unfold keyD
  split at this
  · rename_i d e; rw [e]
  · cases this
def qSortK (g : List D → Rs D) (xs : List D) : Rs (List D) := if okB g xs = true then grd (alikeB (xs.map (keyD g)) = true ∧ sortableB (xs.map (keyD g)) = true ∧ PyData.depthAll (xs.map (keyD g)) < 60) (.ok (xs.mergeSort (PySem.W.dataLe false (keyD g)))) else .bad
def sortKL (g : List D → Rs D) : D → Rs (List D)
  | .list xs => qSortK g xs
  | _ => .bad
def mSortK (ma : M D) (js : List Nat) (k : List Cap → List D → Rs D) : M (List D) := ma.bind fun x => fun ρ => if capsB (js.map (capV ρ)) = true then (sortKL (k (js.map (capV ρ))) x, ρ) else (.bad, ρ)
/-! ### the call -/
def SK (X : Cx) (G : Gh) (σ : L2.St) (x y : V) (H : Hp) (Q : VK) : Prop := ∃ (l f : Addr) (vs : List V) (xs zs : List D) (F : Hp) (js : List Nat) (k : List Cap → List D → Rs D) (caps : List Cap), x = .ref l ∧ y = .ref f ∧ Ex F H ∧ NoT F ∧ TabsN G.T H ∧ F l = some (.lst vs) ∧ DatAll F vs xs ∧
  CloAt X G F f js k ∧ caps.length = js.length ∧ (∀ (a j : Nat) (c : Cap), js[a]? = some j → caps[a]? = some c → ∃ d v, c = .d d ∧ σ[j]? = some (some v) ∧ Dat F v d) ∧ qSortK (k caps) xs = .ok zs ∧ ∀ a ws F' H', Grow G.T No F H F' H' → H' a = none → DatAll F' ws zs → Q (.ref a) (upd H' a (.lst ws))
theorem call_sortK (hr : Room (G.k + 1) X.A) (hg : X.A.guards = some []) (x y : V) (u w : Value) (Q : VK) (I : Inv X pins σ H s) (rx : RelV x u) (ry : RelV y w) (h : SK X G σ x y H Q) :
    wpAny (model X.prog X.w) X.A (call (.builtin "sorted") [u] [(Str.ofString "key", w)]) (EP X pins σ Q) X.xe s := by
  obtain ⟨l, f, vs, xs, zs, F, js, k, caps, rfl, rfl, eF, nt, hT, hl, da, clo, hlc, hcap, hz, q⟩ := h
  obtain rfl : u = Value.ref l := rx
  obtain rfl : w = Value.ref f := ry
  have hlH := eF _ _ hl
  obtain ⟨hzl, its, n, rv, ho⟩ := I.hok l _ hlH
  have hlen : its.length = xs.length := by rw [← rv.length, da.length]
  have hls : s.heap.IsList l its.toArray := ⟨_, ho, rfl, n, rfl⟩
  unfold qSortK at hz
  by_cases hok : okB (k caps) xs = true
  · rw [if_pos hok] at hz
    obtain ⟨⟨h1, h2, h3⟩, hz⟩ := grd_ok hz
    cases hz
    have fa : Frs X pins (s.heap.objs.size + 1) := Inv.frs I (Nat.le_succ _)
    have fk : Frs X pins (s.heap.objs.size + 3) := Inv.frs I (Nat.le_add_right _ _)
    refine keyJ_sorted (b := false) (f := .ref f) (kz := xs.map (keyD (k caps))) (J := SJ X G pins σ F H (s.heap.objs.size + 1) (s.heap.objs.size + 3) (xs.map (keyD (k caps)))) hls (by rw [List.length_map, hlen]) (by rw [← rv.length]; exact hzl) (fun d hd d' hd' => alike_all h1 d hd d' hd') (sortableB_ok h2) (fun d hd => ?_)
      (ksk_s1 _ _) (fun _ => ksk_l1 _ _) (fun _ => ksk_t1 _ _) ?_ ?_ ?_ ?_ ?_
    · have := depth_all hd
      have := hr.un
      omega
    · rintro ks s1 h' tk ⟨F', H', ws, I', g, n1, n2, rw_, dw⟩ hk
      exact ⟨F', H', ws, Inv.keeps2 fa fk I' n1 n2 hk, g, n1, n2, rw_, dw⟩
    · rintro i v hv ks s1 oS oA hi ⟨F', H', ws, I', g, n1, n2, rw_, dw⟩ hS hA
      obtain ⟨m, hm, rm⟩ := valsV rv hv
      obtain ⟨dx, hdx, dm⟩ : ∃ dx, xs[i]? = some dx ∧ Dat F m dx := by
        have hli : i < xs.length := by rw [← da.length]; exact (List.getElem?_eq_some_iff.mp hm).1
        obtain ⟨v', h4, h5⟩ := da.get (List.getElem?_eq_getElem hli)
        rw [hm] at h4
        cases h4
        exact ⟨_, List.getElem?_eq_getElem hli, h5⟩
      have hkey := okB_get hok (List.mem_of_getElem? hdx)
      have A := clo pins s1 σ H' F' caps I' (g.noT nt) g.f g.s g.tabs hlc fun a j c e1 e2 => by
        obtain ⟨d, v, rfl, e3, e4⟩ := hcap a j c e1 e2
        exact ⟨v, e3, e4.mono g.f⟩
      have post : Post G.T X.mg F' H' (k caps [dx]) (fun w H2 => ∃ F2, Grow G.T No F' H' F2 H2 ∧ Dat F2 w (keyD (k caps) dx)) (fun _ _ _ => False) := by
        unfold Post
        rw [hkey]
        exact fun w H2 F2 gr dv => ⟨F2, gr, dv⟩
      have e0 : Env0 X.prog X.w X.K X.mg X.base X.A.in1.in1 X.stack s1 H' := ⟨I'.env0.frames, I'.env0.mod, I'.env0.bs, I'.env0.bsz, I'.env0.funs, I'.env0.frf, I'.env0.hok, I'.env0.bare⟩
      refine wpAny_call (codeAny_mono (A.run X.A.in1.in1 X.stack s1 H' F' [v] [m] [dx] _ _ (Room.in2 hr) hg e0 (g.noT nt) (.refl _) g.s (.refl _ _) g.tabs (.cons rm .nil) (.cons (dm.mono g.f) .nil) post) fun r s' hr' => ?_)
      cases r with
      | error e =>
        obtain ⟨a, B, H2, cls, d, ea, fl, hok, ub, na, os, ag, he⟩ := hr'
        exact he.elim
      | ok fl =>
        cases fl with
        | ret u =>
          obtain ⟨w, H2, os, bare, un, hok2, ru, F2, gr, dv⟩ := hr'
          have nsS : (s.heap.objs.size + 3) ∉ frs X.stack := fun z => by
            rcases List.mem_cons.mp (I'.stkSub _ z) with z | z
            · exact fk.nl z
            · exact fk.nofs I' z
          have nsA : (s.heap.objs.size + 1) ∉ frs X.stack := fun z => by
            rcases List.mem_cons.mp (I'.stkSub _ z) with z | z
            · exact fa.nl z
            · exact fa.nofs I' z
          have hS' := un.keep _ _ hS n2 nsS (fun z => nomatch z)
          have hA' := un.keep _ _ hA n1 nsA (fun z => nomatch z)
          refine ⟨⟨F2, H2, ws ++ [w], ?_, g.trans gr, un.free _ _ hA n1 (fun z => nomatch z), un.free _ _ hS n2 (fun z => nomatch z), rw_.append (.cons ru .nil), ?_⟩, hS', hA'⟩
          · obtain ⟨hh, gg, dd, tt, os'⟩ := s'
            obtain rfl : os' = s1.os := os
            exact I'.call (h' := hh) (g' := gg) (d' := dd) (t' := tt) (ch := []) un hok2 bare (fun b z => absurd z (by simp))
          · have et : (xs.map (keyD (k caps))).take (ks ++ [u]).length = (xs.map (keyD (k caps))).take ks.length ++ [keyD (k caps) dx] := by
              rw [List.length_append, List.length_singleton, List.take_add_one, List.getElem?_map, hi, hdx]; rfl
            rw [et]
            exact (dw.mono gr.f).append (.cons dv .nil)
        | next => exact False.elim hr'
        | brk => exact False.elim hr'
        | cont => exact False.elim hr'
    · rintro ks s1 ⟨F', H', ws, I', g, n1, n2, rw_, dw⟩ hks
      have et : (xs.map (keyD (k caps))).take ks.length = xs.map (keyD (k caps)) := List.take_of_length_le (by rw [List.length_map, hks, hlen]; exact Nat.le_refl _)
      rw [et] at dw
      obtain ⟨as, hr2⟩ := Dp.readsAll I' _ ws ks (dw.dp g.s) rw_
      have er := PySem.W.readsAll_each id (by rw [List.map_id]; exact hr2)
      exact er
    · intro h' tk kp
      refine ⟨F, H, [], I.kept (t' := tk) kp, .refl eF hT, I.hok.fresh (Nat.le_succ _), I.hok.fresh (Nat.le_add_right _ _), .nil, ?_⟩
      rw [List.length_nil, List.take_zero]
      exact .nil
    · rintro ks s1 h' tk out c ⟨F', H', ws, I', g, n1, n2, rw_, dw⟩ hk hn ko
      have I2 := Inv.keeps2 (t' := tk) fa fk I' n1 n2 hk
      have eo := PySem.W.keyedOut_each (keyD (k caps)) ko (each_of rv da)
      obtain ⟨ws2, rw2, dw2⟩ := of_each eo
      have lz : ws2.length ≤ sizeLine := by
        rw [dw2.length, List.length_mergeSort, ← da.length]; exact hzl
      have I3 := Inv.putL (vs := ws2) I2 n1 fa fun H'' => ⟨lz, out, c, rw2, hn⟩
      exact ⟨.ref _, _, I3, rfl, q _ ws2 F' H' g n1 (dw2.mono g.f)⟩
  · rw [if_neg hok] at hz
    cases hz
/-! ### the rule -/
theorem DF.sortKey {nm : Nat → Nat → Str} {c P : Addr} {params : Arguments} {body : Expr} {scope : Scope} {lpos p kpos pos : Pos} {k kk : Nat} {N ps fr : List Str} {js : List Nat} {m ma : M D} {e : Expr} (TB : TabB X.base X.mg c P) (hcode : X.env.code = .ref c) (hm : (P, nm) ∈ G.T) (hn : nm lpos.line lpos.col = X.env.qual ++ "<lambda>")
    (hu : ∀ p ∈ G.T, p.1 = P → p.2 = nm) (hdef : defaultsOf params X.env = ([], []))
    (S : NScope N ps fr scope) (hb : ∀ (qual : Str) (cl : List (Str × Addr)) (c' : Addr) (pm ctv : Value) (us : List Value), us.length = ps.length → bindArgs (PySem.W.kla_fn "<lambda>" qual params body scope cl pm (.ref c') ctv) ⟨us, []⟩ = pure (ps.zip us)) (hnd : ndefB X.env.scope scope fr = true) (hjs : js.map (fun j => X.N[j]?) = fr.map some) (hk : k + 1 ≤ G.k)
    (hbody : ∀ (f c' : Addr) (cl : List (Str × Addr)) (A : Around) (outer : List Env) (s : Shared) (H : Hp) (E : XK) (G' : Gh), Room k (A.deeper (envF ⟨"<lambda>", X.env.qual ++ "<lambda>", params, [], scope, cl, c'⟩ f s.heap.objs.size)) → A.guards = some [] → G'.T = G.T → G'.k = G.k → G'.nf = false → DE (ncx (L2.CX X.prog X.w) X.prog X.w X.K X.mg X.base N ⟨"<lambda>", X.env.qual ++ "<lambda>", params, [], scope, cl, c'⟩ f A outer s H E) G' (fun cls d _ H => E cls d H) body m)
    (C : Ctx X G W kk) (hkk : G.k + 1 ≤ kk) (hgm : Gl X "sorted") (hmm : X.mg "sorted" = none) (he : DE X G W e ma) (na : starEach [e] X.env = (false, eval e X.env) :: starEach [] X.env := by rfl)
    (hbk : backTo pos (starEach [e] X.env) = (false, eval e X.env) :: backTo pos (starEach [] X.env) := by rfl) (hpl : (backTo pos (starEach [e] X.env)).any (·.1) = false := by rfl)
    (hall : (backToKw pos (keywordEach [⟨some ("key" : Str), .Lambda params body scope lpos, kpos⟩] X.env)).all (·.1.isSome) = true := by rfl) (hnone : (backToKw pos (keywordEach [⟨some ("key" : Str), .Lambda params body scope lpos, kpos⟩] X.env)).any (·.1.isNone) = false := by rfl) (hks : (backToKw pos (keywordEach [⟨some ("key" : Str), .Lambda params body scope lpos, kpos⟩] X.env)).filterMap (·.1) = [("key" : Str)] := by rfl) :
    DF X G W (.Call (.Name "sorted" p) [e] [⟨some ("key" : Str), .Lambda params body scope lpos, kpos⟩] pos) (mSortK ma js (lamR N.length ps.length m)) :=
  ⟨PE.imp (pe_call1K (M := SK X G) (fun pins s σ H y z u w Q I ry rz h => call_sortK (C.room.mono hkk) C.gd y z u w Q I ry rz h) hgm hmm (by decide +kernel) he.pe (pe_lamN TB hcode hm hn hu hdef (ndef_free hnd)) (by decide) (by decide) na hbk hpl hall hnone hks) fun σ H Q ⟨F, ρ, R, hq⟩ => rd_step (.refl R) hq fun d ρ1 v H1 F1 st dv q => ⟨st.rep.tabs, fun f c' H2 eN nn T1 f0 f1 c1 => by
    have g := make_grow (G := G) (F := F1) st.rep.sub st.rep.noT eN nn T1 f0 f1 c1 (fun ps => lamO_ne ps) (fun ps => codeO_ne ps) (fun xs => codeO_nl xs)
    have st2 : Stp X G F1 H1 σ ρ1 (frzF F1 H2 f c') H2 ρ1 := (Stp.refl st.rep).grow g
    have q : At X G W F H σ ρ (if capsB (js.map (capV ρ1)) = true then (sortKL (lamR N.length ps.length m (js.map (capV ρ1))) d, ρ1) else (.bad, ρ1)) fun ds ρ' => ∀ p vs H' F', Stp X G F H σ ρ F' H' ρ' → H p = none → H' p = some (.lst vs) → F' p = none → DatAll F' vs ds → Q (.ref p) H' := q
    by_cases hcaps : capsB (js.map (capV ρ1)) = true
    · rw [if_pos hcaps] at q
      cases dv with
      | @lst l vs xs h1 r1 =>
        have q : At X G W F H σ ρ (qSortK (lamR N.length ps.length m (js.map (capV ρ1))) xs, ρ1) fun ds ρ' => ∀ p vs H' F', Stp X G F H σ ρ F' H' ρ' → H p = none → H' p = some (.lst vs) → F' p = none → DatAll F' vs ds → Q (.ref p) H' := q
        cases hz : qSortK (lamR N.length ps.length m (js.map (capV ρ1))) xs with
        | exc a b =>
          unfold qSortK at hz
          split at hz
          · unfold grd at hz
            split at hz <;> cases hz
          · cases hz
        | bad => rw [hz] at q; exact q.elim
        | ok zs =>
          rw [hz] at q
          have q5 : ∀ p vs H' F', Stp X G F H σ ρ F' H' ρ1 → H p = none → H' p = some (.lst vs) → F' p = none → DatAll F' vs zs → Q (.ref p) H' := q
          have hl2 := g.f _ _ h1
          have clo : CloAt X G (frzF F1 H2 f c') f js (lamR N.length ps.length m) := clo_lam (Fn := ⟨"<lambda>", X.env.qual ++ "<lambda>", params, [], scope, cloFrom X.env.cells scope.names [], c'⟩) rfl (frzF_f.trans f1) (frzF_c.trans c1) S (fun pm ctv us => hb _ _ c' pm ctv us) hnd hjs hk (fun A outer s H E G' => hbody f c' _ A outer s H E G')
          refine ⟨l, f, vs, xs, zs, frzF F1 H2 f c', js, lamR N.length ps.length m, js.map (capV ρ1), rfl, rfl, st2.rep.sub, st2.rep.noT, st2.rep.tabs, hl2, r1.mono g.f, clo, List.length_map _, fun a j c e1 e2 => ?_, hz, fun a ws F' H' gr ha dw => ((st.trans st2).grow gr).alloc R ha dw q5⟩
          rw [List.getElem?_map, e1] at e2
          have ec : capV ρ1 j = c := Option.some.inj e2
          have hcb := List.all_eq_true.mp hcaps c (by rw [← ec]; exact List.mem_map.mpr ⟨j, List.mem_of_getElem? e1, rfl⟩)
          cases c with
          | d d =>
            obtain ⟨v, hv, dv2⟩ := st2.rep.ok j _ (capV_dat ec)
            exact ⟨d, v, rfl, hv, dv2⟩
          | no => cases hcb
          | f g => cases hcb
      | _ => exact q.elim
    · rw [if_neg hcaps] at q; exact q.elim⟩⟩
end
end
end DL

end
section
set_option maxRecDepth 100000
set_option maxHeartbeats 2000000
/-! Typed lists in comprehensions and loops; rows of numbers. -/
namespace DL
noncomputable section
open PySem PySem.Spec L2 LamX NdefX
open PyProof.Rows hiding St
section
variable {α β : Type}
theorem lpB_map {vs : List Nat} {g : D → Env' → Option Env'} {mt : M Bool} {me : M D} {ρ : Env'} (φ : α → D) (t : α → Bool) (f : α → D) : ∀ (l : List α) (acc : List D), acc.length + l.length ≤ 16777216 →
    (∀ a ∈ l, ∃ ρd, g (φ a) ρ = some ρd ∧ wipeR ρd vs = ρ ∧ mt ρd = (.ok (t a), ρd) ∧ (t a = true → me ρd = (.ok (f a), ρd))) → lpB vs g (bOne mt me) (l.map φ) acc ρ = (.ok (acc ++ (l.filter t).map f), ρ)
  | [], acc, _, _ => by rw [List.filter_nil, List.map_nil, List.map_nil, List.append_nil]; rfl
  | d :: ds, acc, hl, h => by
    obtain ⟨ρd, e1, e2, e3, e4⟩ := h d List.mem_cons_self
    have hl' : acc.length + (ds.length + 1) ≤ 16777216 := hl
    have ih := fun acc' (hh : acc'.length + ds.length ≤ 16777216) => lpB_map (vs := vs) (g := g) (mt := mt) (me := me) (ρ := ρ) φ t f ds acc' hh fun x hx => h x (List.mem_cons_of_mem _ hx)
    show (match g (φ d) ρ with | none => (Rs.bad, ρ) | some ρ1 => ((bOne mt me acc).bind fun a => (wipeM vs).bind fun _ => lpB vs g (bOne mt me) (ds.map φ) a) ρ1) = _
    rw [e1]
    show ((bOne mt me acc).bind fun a => (wipeM vs).bind fun _ => lpB vs g (bOne mt me) (ds.map φ) a) ρd = _
    cases ht : t d with
    | false =>
      have q : bOne mt me acc ρd = (.ok acc, ρd) := by
        unfold bOne M.bind
        rw [e3, ht]; rfl
      rw [bindR q]
      show lpB vs g (bOne mt me) (ds.map φ) acc (wipeR ρd vs) = _
      rw [e2, ih acc (by omega), List.filter_cons_of_neg (by rw [ht]; decide)]
    | true =>
      have q : bOne mt me acc ρd = (.ok (acc ++ [f d]), ρd) := by
        have lt : acc.length < 16777216 := by omega
        have e5 : (M.lift (grd (acc.length < 16777216) (.ok ()))) ρd = (.ok (), ρd) := by
          unfold M.lift grd
          rw [if_pos lt]
        rw [ht] at e3
        unfold bOne
        rw [bindR e3, if_pos rfl, bindR (e4 ht), bindR e5]
        rfl
      rw [bindR q]
      show lpB vs g (bOne mt me) (ds.map φ) (acc ++ [f d]) (wipeR ρd vs) = _
      rw [e2, ih _ (by rw [List.length_append]; simp only [List.length_singleton]; omega), List.filter_cons_of_pos ht, List.map_cons, List.append_assoc]; rfl
theorem lc_map {mi : M (List D)} {vs : List Nat} {g : D → Env' → Option Env'} {mt : M Bool} {me : M D} {ρ ρ1 : Env'} (l : List α) (φ : α → D) (t : α → Bool) (f : α → D) (hi : mi ρ = (.ok (l.map φ), ρ1)) (hl : l.length ≤ 16777216)
    (h : ∀ a ∈ l, ∃ ρd, g (φ a) (enterR vs ρ1) = some ρd ∧ wipeR ρd vs = enterR vs ρ1 ∧ mt ρd = (.ok (t a), ρd) ∧ (t a = true → me ρd = (.ok (f a), ρd))) : mLc mi vs g mt me ρ = (.ok ((l.filter t).map f), ρ1) := by
  unfold mLc
  rw [bindR hi]
  unfold runB
  rw [lpB_map φ t f l [] (by simpa using hl) h]
  show (Rs.ok _, leaveR vs ρ1 (enterR vs ρ1)) = _
  rw [leave_enter]
  rfl
/-- without a test -/
theorem lc_each {mi : M (List D)} {vs : List Nat} {g : D → Env' → Option Env'} {me : M D} {ρ ρ1 : Env'} (l : List α) (φ : α → D) (f : α → D) (hi : mi ρ = (.ok (l.map φ), ρ1)) (hl : l.length ≤ 16777216)
    (h : ∀ a ∈ l, ∃ ρd, g (φ a) (enterR vs ρ1) = some ρd ∧ wipeR ρd vs = enterR vs ρ1 ∧ me ρd = (.ok (f a), ρd)) : mLc mi vs g (.ret true) me ρ = (.ok (l.map f), ρ1) := by
  have := lc_map l φ (fun _ => true) f hi hl (mt := .ret true) (vs := vs) (g := g) (me := me) fun a ha => by
    obtain ⟨ρd, h1, h2, h3⟩ := h a ha
    exact ⟨ρd, h1, h2, rfl, fun _ => h3⟩
  rw [List.filter_eq_self.mpr (fun _ _ => rfl)] at this
  exact this
theorem lpB2_map {vs vs1 : List Nat} {g g1 : D → Env' → Option Env'} {mt mt1 : M Bool} {mi : M (List D)} {me : M D} {ρ : Env'} {m : Nat} (φ : α → D) (ψ : α → β → D) (t : α → Bool) (es : α → List β) (t1 : α → β → Bool) (f : α → β → D) : ∀ (l : List α) (acc : List D), acc.length + l.length * m ≤ 16777216 →
    (∀ a ∈ l, ∃ ρd, g (φ a) ρ = some ρd ∧ wipeR ρd vs = ρ ∧ mt ρd = (.ok (t a), ρd) ∧ (t a = true → mi ρd = (.ok ((es a).map (ψ a)), ρd) ∧ (es a).length ≤ m ∧ wipeR (wipeR ρd vs1) vs = ρ ∧ ∀ e ∈ es a, ∃ ρe, g1 (ψ a e) (wipeR ρd vs1) = some ρe ∧ wipeR ρe vs1 = wipeR ρd vs1 ∧ mt1 ρe = (.ok (t1 a e), ρe) ∧ (t1 a e = true → me ρe = (.ok (f a e), ρe)))) →
    lpB vs g (bTwo mt mi vs1 g1 mt1 me) (l.map φ) acc ρ = (.ok (acc ++ (l.filter t).flatMap fun a => ((es a).filter (t1 a)).map (f a)), ρ)
  | [], acc, _, _ => by rw [List.filter_nil, List.flatMap_nil, List.append_nil]; rfl
  | d :: ds, acc, hl, h => by
    obtain ⟨ρd, e1, e2, e3, e4⟩ := h d List.mem_cons_self
    have hl' : acc.length + (ds.length + 1) * m ≤ 16777216 := hl
    have hl2 : (ds.length + 1) * m = ds.length * m + m := by rw [Nat.add_mul, Nat.one_mul]
    have ih := fun acc' (hh : acc'.length + ds.length * m ≤ 16777216) => lpB2_map (vs := vs) (vs1 := vs1) (g := g) (g1 := g1) (mt := mt) (mt1 := mt1) (mi := mi) (me := me) (ρ := ρ) (m := m) φ ψ t es t1 f ds acc' hh fun x hx => h x (List.mem_cons_of_mem _ hx)
    show (match g (φ d) ρ with | none => (Rs.bad, ρ) | some ρ1 => ((bTwo mt mi vs1 g1 mt1 me acc).bind fun a => (wipeM vs).bind fun _ => lpB vs g (bTwo mt mi vs1 g1 mt1 me) (ds.map φ) a) ρ1) = _
    rw [e1]
    show ((bTwo mt mi vs1 g1 mt1 me acc).bind fun a => (wipeM vs).bind fun _ => lpB vs g (bTwo mt mi vs1 g1 mt1 me) (ds.map φ) a) ρd = _
    cases ht : t d with
    | false =>
      have q : bTwo mt mi vs1 g1 mt1 me acc ρd = (.ok acc, ρd) := by
        rw [ht] at e3
        unfold bTwo
        rw [bindR e3]; rfl
      rw [bindR q]
      show lpB vs g _ (ds.map φ) acc (wipeR ρd vs) = _
      rw [e2, ih acc (by omega), List.filter_cons_of_neg (by rw [ht]; decide)]
    | true =>
      obtain ⟨e5, e6, e7, e8⟩ := e4 ht
      have hk : (((es d).filter (t1 d)).map (f d)).length ≤ m := by rw [List.length_map]; exact Nat.le_trans (List.length_filter_le _ _) e6
      have q : bTwo mt mi vs1 g1 mt1 me acc ρd = (.ok (acc ++ ((es d).filter (t1 d)).map (f d)), wipeR ρd vs1) := by
        rw [ht] at e3
        unfold bTwo
        rw [bindR e3, if_pos rfl, bindR e5]
        exact lpB_map (ψ d) (t1 d) (f d) (es d) acc (by omega) e8
      rw [bindR q]
      show lpB vs g _ (ds.map φ) _ (wipeR (wipeR ρd vs1) vs) = _
      rw [e7, ih _ (by rw [List.length_append]; omega), List.filter_cons_of_pos ht, List.flatMap_cons, List.append_assoc]
theorem lc2_map {mi : M (List D)} {vs vs1 : List Nat} {g g1 : D → Env' → Option Env'} {mt mt1 : M Bool} {mi1 : M (List D)} {me : M D} {ρ ρ1 : Env'} {m : Nat} (l : List α) (φ : α → D) (t : α → Bool) (es : α → List β) (ψ : α → β → D) (t1 : α → β → Bool) (f : α → β → D) (hi : mi ρ = (.ok (l.map φ), ρ1)) (hl : l.length * m ≤ 16777216)
    (h : ∀ a ∈ l, ∃ ρd, g (φ a) (enterR vs ρ1) = some ρd ∧ wipeR ρd vs = enterR vs ρ1 ∧ mt ρd = (.ok (t a), ρd) ∧ (t a = true → mi1 ρd = (.ok ((es a).map (ψ a)), ρd) ∧ (es a).length ≤ m ∧ wipeR (wipeR ρd vs1) vs = enterR vs ρ1 ∧ ∀ e ∈ es a, ∃ ρe, g1 (ψ a e) (wipeR ρd vs1) = some ρe ∧ wipeR ρe vs1 = wipeR ρd vs1 ∧ mt1 ρe = (.ok (t1 a e), ρe) ∧ (t1 a e = true → me ρe = (.ok (f a e), ρe)))) :
    mLc2 mi vs g mt mi1 vs1 g1 mt1 me ρ = (.ok ((l.filter t).flatMap fun a => ((es a).filter (t1 a)).map (f a)), ρ1) := by
  unfold mLc2
  rw [bindR hi]
  unfold runB
  rw [lpB2_map φ ψ t es t1 f l [] (by simpa using hl) h]
  show (Rs.ok _, leaveR vs ρ1 (enterR vs ρ1)) = _
  rw [leave_enter]
  rfl
theorem forM_map {g : D → Env' → Option Env'} {body : MS} (φ : α → D) (I : List α → Env' → Prop) (all : List α) : ∀ (l done : List α) (ρ : Env'), all = done ++ l → I done ρ →
    (∀ (done : List α) (d : α) (rest : List α), all = done ++ d :: rest → ∀ ρ : Env', I done ρ → ∃ ρ1 ρ2, g (φ d) ρ = some ρ1 ∧ (body ρ1 = (.ok .nx, ρ2) ∨ body ρ1 = (.ok .ct, ρ2)) ∧ I (done ++ [d]) ρ2) → ∃ ρ', forM g body (l.map φ) ρ = (.ok .nx, ρ') ∧ I all ρ'
  | [], done, ρ, e, h, _ => ⟨ρ, rfl, by rw [e, List.append_nil]; exact h⟩
  | d :: ds, done, ρ, e, h, step => by
    obtain ⟨ρ1, ρ2, e1, e2, h2⟩ := step done d ds e ρ h
    obtain ⟨ρ', e3, h3⟩ := forM_map φ I all ds (done ++ [d]) ρ2 (by rw [e, List.append_assoc]; rfl) h2 step
    refine ⟨ρ', ?_, h3⟩
    show (match g (φ d) ρ with | none => (Rs.bad, ρ) | some ρ1 => afterB (forM g body (ds.map φ)) (body ρ1)) = _
    rw [e1]
    show afterB (forM g body (ds.map φ)) (body ρ1) = _
    rcases e2 with e2 | e2 <;> rw [e2] <;> exact e3
/-- a loop over typed items, by what holds after the turns done -/
theorem for_map {mi : M (List D)} {g : D → Env' → Option Env'} {body : MS} {ρ ρ1 : Env'} (l : List α) (φ : α → D) (I : List α → Env' → Prop) (hi : mi ρ = (.ok (l.map φ), ρ1)) (h0 : I [] ρ1)
    (step : ∀ (done : List α) (d : α) (rest : List α), l = done ++ d :: rest → ∀ ρ : Env', I done ρ → ∃ ρ1 ρ2, g (φ d) ρ = some ρ1 ∧ (body ρ1 = (.ok .nx, ρ2) ∨ body ρ1 = (.ok .ct, ρ2)) ∧ I (done ++ [d]) ρ2) : ∃ ρ', mFor mi g body ρ = (.ok .nx, ρ') ∧ I l ρ' := by
  obtain ⟨ρ', e, h⟩ := forM_map (g := g) (body := body) φ I l l [] ρ1 rfl h0 step
  refine ⟨ρ', ?_, h⟩
  unfold mFor
  rw [bindR hi]
  exact e
/-- a loop that keeps something -/
theorem for_keep {mi : M (List D)} {g : D → Env' → Option Env'} {body : MS} {ρ ρ1 : Env'} (l : List α) (φ : α → D) (I : Env' → Prop) (hi : mi ρ = (.ok (l.map φ), ρ1)) (h0 : I ρ1)
    (step : ∀ d ∈ l, ∀ ρ : Env', I ρ → ∃ ρ1 ρ2, g (φ d) ρ = some ρ1 ∧ (body ρ1 = (.ok .nx, ρ2) ∨ body ρ1 = (.ok .ct, ρ2)) ∧ I ρ2) : ∃ ρ', mFor mi g body ρ = (.ok .nx, ρ') ∧ I ρ' :=
  for_map l φ (fun _ => I) hi h0 fun done d rest hd ρ h => step d (by rw [hd]; simp) ρ h
theorem mid_get {l done rest : List α} {d : α} (h : l = done ++ d :: rest) : ∃ hi : done.length < l.length, l[done.length] = d := by
  subst h
  exact ⟨by simp, by simp⟩
theorem range_mid {n : Nat} {done rest : List Nat} {d : Nat} (h : List.range n = done ++ d :: rest) : done.length < n ∧ d = done.length ∧ done = List.range done.length := by
  have hl : done.length < n := by
    have := congrArg List.length h
    simp at this
    omega
  obtain ⟨h1, h2⟩ := mid_get h
  rw [List.getElem_range] at h2
  refine ⟨hl, h2.symm, ?_⟩
  have := congrArg (List.take done.length) h
  rw [List.take_left, List.take_range, Nat.min_eq_left (by omega)] at this
  exact this.symm
end
/-! ### rows of numbers -/
theorem rng_map {lo : Int} {n : Nat} : rngL lo n = (List.range n).map fun i => .int (lo + (i : Nat)) := rfl
theorem rng_map0 {n : Nat} : rngL 0 n = (List.range n).map fun (i : Nat) => .int (i : Int) := by
  unfold rngL
  congr 1
  funext i
  rw [Int.zero_add]
def nt (r : List Int) (i : Nat) : Int := r.getD i 0
def intT (r : List Int) : D := .tuple (r.map .int)
def intL (r : List Int) : D := .list (r.map .int)
def natT (l : List Nat) : D := .tuple (l.map fun (k : Nat) => .int (k : Int))
def natL (l : List Nat) : D := .list (l.map fun (k : Nat) => .int (k : Int))
def pD (p : Nat × Nat) : D := .tuple [.int p.1, .int p.2]
def prT (l : List (Nat × Nat)) : D := .tuple (l.map pD)
def prL (l : List (Nat × Nat)) : D := .list (l.map pD)
theorem nt_get {r : List Int} {i : Nat} (h : i < r.length) : nt r i = r[i] := by
  unfold nt
  rw [List.getD_eq_getElem?_getD, List.getElem?_eq_getElem h]; rfl
theorem nt_mem {r : List Int} {i : Nat} (h : i < r.length) : nt r i ∈ r := by rw [nt_get h]; exact List.getElem_mem h
theorem nt_of {r : List Int} {x : Int} (h : x ∈ r) : ∃ i, i < r.length ∧ nt r i = x := by
  obtain ⟨i, hi, e⟩ := List.getElem_of_mem h
  exact ⟨i, hi, by rw [nt_get hi]; exact e⟩
theorem nodup_at {r : List Int} (hr : r.Nodup) {i j : Nat} (hi : i < r.length) (hj : j < r.length) (e : r[i] = r[j]) : i = j := by
  have h := List.pairwise_iff_getElem.mp hr
  rcases Nat.lt_trichotomy i j with q | q | q
  · exact absurd e (h i j hi hj q)
  · exact q
  · exact absurd e.symm (h j i hj hi q)
theorem nt_inj {r : List Int} (hr : r.Nodup) {i j : Nat} (hi : i < r.length) (hj : j < r.length) (e : nt r i = nt r j) : i = j := by
  rw [nt_get hi, nt_get hj] at e
  exact nodup_at hr hi hj e
theorem at_map {α : Type} {f : α → D} {l : List α} {i : Int} {k : Nat} (h : i = k) (hk : k < l.length) : atI (l.map f) i = some (f l[k]) := by
  subst h
  rw [at_ok (by rw [List.length_map]; exact hk), List.getElem_map]
theorem ix_T {r : List Int} {i : Int} {k : Nat} (h : i = k) (hk : k < r.length) : pIx (intT r) (.int i) = .ok (.int (nt r k)) := by
  show ofO (atI _ _) _ = _
  rw [at_map h hk, nt_get hk]; rfl
theorem ix_L {r : List Int} {i : Int} {k : Nat} (h : i = k) (hk : k < r.length) : pIx (intL r) (.int i) = .ok (.int (nt r k)) := by
  show ofO (atI _ _) _ = _
  rw [at_map h hk, nt_get hk]; rfl
theorem ix_nT {l : List Nat} {i : Int} {k : Nat} (h : i = k) (hk : k < l.length) : pIx (natT l) (.int i) = .ok (.int (l[k] : Nat)) := by
  show ofO (atI _ _) _ = _
  rw [at_map h hk]; rfl
theorem len_T {r : List Int} : pLen [intT r] = .ok (.int r.length) := by
  show Rs.ok (PyData.int ((r.map PyData.int).length : Nat)) = _
  rw [List.length_map]
theorem len_L {r : List Int} : pLen [intL r] = .ok (.int r.length) := by
  show Rs.ok (PyData.int ((r.map PyData.int).length : Nat)) = _
  rw [List.length_map]
theorem len_nT {r : List Nat} : pLen [natT r] = .ok (.int r.length) := by
  show Rs.ok (PyData.int ((r.map fun (k : Nat) => PyData.int k).length : Nat)) = _
  rw [List.length_map]
theorem len_prT {r : List (Nat × Nat)} : pLen [prT r] = .ok (.int r.length) := by
  show Rs.ok (PyData.int ((r.map pD).length : Nat)) = _
  rw [List.length_map]
theorem items_T {r : List Int} : pItems (intT r) = .ok (r.map .int) := rfl
theorem items_nT {l : List Nat} : pItems (natT l) = .ok (l.map fun (k : Nat) => .int (k : Int)) := rfl
theorem items_prT {l : List (Nat × Nat)} : pItems (prT l) = .ok (l.map pD) := rfl
theorem items_prL {l : List (Nat × Nat)} : pItems (prL l) = .ok (l.map pD) := rfl
theorem enum_T {r : List Int} : pEnum [intT r] = .ok ((List.range r.length).map fun (k : Nat) => .tuple [.int (k : Int), .int (nt r k)]) := by
  show Rs.ok (enumL (r.map PyData.int)) = _
  congr 1
  unfold enumL
  refine List.ext_getElem (by simp) fun i h1 h2 => ?_
  simp only [List.length_map, List.length_zipIdx] at h1
  simp [nt_get h1]
theorem intT_shp {k : Nat} (r : List Int) : (r.map PyData.int).all (shp (k + 1)) = true := by
  rw [List.all_map, List.all_eq_true]
  intro x _
  simp [shp]
theorem natT_shp {k : Nat} (l : List Nat) : (l.map fun (k : Nat) => PyData.int k).all (shp (k + 1)) = true := by
  rw [List.all_map, List.all_eq_true]
  intro x _
  simp [shp]
theorem pD_shp {k : Nat} (l : List (Nat × Nat)) : (l.map pD).all (shp (k + 1)) = true := by
  rw [List.all_map, List.all_eq_true]
  intro x _
  simp [pD, shp]
/-! values that are the same -/
mutual
theorem eqv_self : ∀ (d : D) {k : Nat}, shp k d = true → PyData.eqv d d = true
  | .none, _, _ => by simp [PyData.eqv]
  | .bool _, _, _ => by simp [PyData.eqv]
  | .int _, _, _ => by simp [PyData.eqv]
  | .str _, _, _ => by simp [PyData.eqv]
  | .list xs, k, h => by
    rw [PyData.eqv]
    cases k with
    | zero => simp [shp] at h; subst h; simp [PyData.eqvAll]
    | succ k => exact eqvAll_self xs (k := k) (by simpa [shp] using h)
  | .tuple xs, k, h => by
    rw [PyData.eqv]
    cases k with
    | zero => simp [shp] at h; subst h; simp [PyData.eqvAll]
    | succ k => exact eqvAll_self xs (k := k) (by simpa [shp] using h)
  | .dict _, k, h => by cases k <;> simp [shp] at h
theorem eqvAll_self : ∀ (xs : List D) {k : Nat}, (∀ x ∈ xs, shp k x = true) → PyData.eqvAll xs xs = true
  | [], _, _ => by simp [PyData.eqvAll]
  | x :: xs, k, h => by
    rw [PyData.eqvAll, eqv_self x (h x List.mem_cons_self), eqvAll_self xs fun y hy => h y (List.mem_cons_of_mem _ hy)]; rfl
end
theorem ne_self_t {xs : List D} (h : xs.all (shp 19) = true) : pNe (.tuple xs) (.tuple xs) = .ok (.bool false) := by
  rw [ne_of rfl (by simpa [shp] using h) (by simpa [shp] using h), eqv_self (k := 20) _ (by simpa [shp] using h)]; rfl
theorem ne_self_l {xs : List D} (h : xs.all (shp 19) = true) : pNe (.list xs) (.list xs) = .ok (.bool false) := by
  rw [ne_of rfl (by simpa [shp] using h) (by simpa [shp] using h), eqv_self (k := 20) _ (by simpa [shp] using h)]; rfl
/-! ### in -/
theorem dIn_int {i : Int} (r : List Int) : dIn (.int i) (r.map PyData.int) = decide (i ∈ r) := by
  unfold dIn
  rw [Bool.eq_iff_iff, List.any_eq_true, decide_eq_true_iff]
  constructor
  · rintro ⟨y, hy, e⟩
    obtain ⟨x, hx, rfl⟩ := List.mem_map.mp hy
    rw [eqv_ii, decide_eq_true_iff] at e
    rw [← e]; exact hx
  · intro h
    exact ⟨.int i, List.mem_map.mpr ⟨i, h, rfl⟩, by rw [eqv_ii]; simp⟩
theorem dIn_nat {i : Int} {k : Nat} (h : i = k) (l : List Nat) : dIn (.int i) (l.map fun (k : Nat) => PyData.int k) = decide (k ∈ l) := by
  subst h
  unfold dIn
  rw [Bool.eq_iff_iff, List.any_eq_true, decide_eq_true_iff]
  constructor
  · rintro ⟨y, hy, e⟩
    obtain ⟨x, hx, rfl⟩ := List.mem_map.mp hy
    rw [eqv_ii, decide_eq_true_iff] at e
    rw [← Int.ofNat_inj.mp e]; exact hx
  · intro h
    exact ⟨.int k, List.mem_map.mpr ⟨k, h, rfl⟩, by rw [eqv_ii]; simp⟩
theorem shp_int {k : Nat} {i : Int} : shp k (.int i) = true := by cases k <;> simp [shp]
theorem shp_list {k : Nat} {xs : List D} (h : xs.all (shp k) = true) : shp (k + 1) (.list xs) = true := by simpa [shp] using h
theorem shp_tup {k : Nat} {xs : List D} (h : xs.all (shp k) = true) : shp (k + 1) (.tuple xs) = true := by simpa [shp] using h
theorem in_T {i : Int} {r : List Int} : pIn (.int i) (intT r) = .ok (.bool (decide (i ∈ r))) := by
  show (grd (shp 20 (.int i) = true ∧ shp 20 (intT r) = true) (.ok (dIn (.int i) (r.map PyData.int)))).bind _ = _
  rw [grd_t ⟨shp_int, shp_tup (intT_shp r)⟩, dIn_int]; rfl
theorem in_L {i : Int} {r : List Int} : pIn (.int i) (.list (r.map .int)) = .ok (.bool (decide (i ∈ r))) := by
  show (grd (shp 20 (.int i) = true ∧ shp 20 (.list (r.map .int)) = true) (.ok (dIn (.int i) (r.map PyData.int)))).bind _ = _
  rw [grd_t ⟨shp_int, shp_list (intT_shp r)⟩, dIn_int]; rfl
theorem notin_T {i : Int} {r : List Int} : pNotIn (.int i) (intT r) = .ok (.bool (!decide (i ∈ r))) := by
  show (grd (shp 20 (.int i) = true ∧ shp 20 (intT r) = true) (.ok (dIn (.int i) (r.map PyData.int)))).bind _ = _
  rw [grd_t ⟨shp_int, shp_tup (intT_shp r)⟩, dIn_int]; rfl
theorem notin_L {i : Int} {r : List Int} : pNotIn (.int i) (.list (r.map .int)) = .ok (.bool (!decide (i ∈ r))) := by
  show (grd (shp 20 (.int i) = true ∧ shp 20 (.list (r.map .int)) = true) (.ok (dIn (.int i) (r.map PyData.int)))).bind _ = _
  rw [grd_t ⟨shp_int, shp_list (intT_shp r)⟩, dIn_int]; rfl
theorem in_nT {i : Int} {k : Nat} (h : i = k) {l : List Nat} : pIn (.int i) (natT l) = .ok (.bool (decide (k ∈ l))) := by
  show (grd (shp 20 (.int i) = true ∧ shp 20 (natT l) = true) (.ok (dIn (.int i) (l.map fun (k : Nat) => PyData.int k)))).bind _ = _
  rw [grd_t ⟨shp_int, shp_tup (natT_shp l)⟩, dIn_nat h]; rfl
end
end DL

end
section
set_option maxRecDepth 100000
set_option maxHeartbeats 2000000
/-! Sorting typed lists. -/
namespace DL
noncomputable section
open PySem PySem.Spec L2 LamX NdefX
open PyProof.Rows hiding St
section
variable {α : Type}
theorem sort_to (le : α → α → Bool) (tr : ∀ a b c, le a b = true → le b c = true → le a c = true) (tot : ∀ a b, (le a b || le b a) = true) (an : ∀ a b, le a b = true → le b a = true → a = b) {P m : List α} (hm : m.Pairwise fun a b => le a b = true) (hp : m.Perm P) : P.mergeSort le = m :=
  List.Perm.eq_of_pairwise (fun a b _ _ => an a b) (List.pairwise_mergeSort tr tot P) hm ((List.mergeSort_perm P le).trans hp.symm)
theorem depth_each {k : Nat} : ∀ {xs : List D}, (∀ x ∈ xs, x.depth ≤ k) → PyData.depthAll xs ≤ k
  | [], _ => by unfold PyData.depthAll; omega
  | x :: xs, h => by
    unfold PyData.depthAll
    have := h x List.mem_cons_self
    have := depth_each (k := k) (xs := xs) fun y hy => h y (List.mem_cons_of_mem _ hy)
    omega
theorem alike_each (enc : α → D) (h : ∀ a b, PySem.W.alike (enc a) (enc b) = true) (hn : ∀ a, enc a ≠ .none) (l : List α) : alikeB (l.map enc) = true := by
  unfold alikeB
  rw [Bool.and_eq_true, List.all_eq_true, List.all_eq_true]
  constructor
  · intro x hx
    rw [List.all_eq_true]
    intro y hy
    obtain ⟨a, _, rfl⟩ := List.mem_map.mp hx
    obtain ⟨b, _, rfl⟩ := List.mem_map.mp hy
    exact h a b
  · intro x hx
    obtain ⟨a, _, rfl⟩ := List.mem_map.mp hx
    have := hn a
    split
    · rename_i e; exact absurd e this
    · rfl
/-- sorted of a typed list, by a typed order -/
theorem qsort_to (enc : α → D) (le : α → α → Bool) (hle : ∀ a b, (!PySem.W.dataLt (enc b) (enc a)) = le a b) (hal : ∀ a b, PySem.W.alike (enc a) (enc b) = true) (hn : ∀ a, enc a ≠ .none) (hs : ∀ l : List α, sortableB (l.map enc) = true) (hd : ∀ a, (enc a).depth ≤ 50)
    (tr : ∀ a b c, le a b = true → le b c = true → le a c = true) (tot : ∀ a b, (le a b || le b a) = true) (an : ∀ a b, le a b = true → le b a = true → a = b) {P m : List α} (hm : m.Pairwise fun a b => le a b = true) (hp : m.Perm P) : qSort (P.map enc) = .ok (m.map enc) := by
  have dp : PyData.depthAll (P.map enc) < 60 := by
    have := depth_each (k := 50) (xs := P.map enc) fun x hx => by
      obtain ⟨a, _, rfl⟩ := List.mem_map.mp hx
      exact hd a
    omega
  unfold qSort
  rw [grd_t ⟨alike_each enc hal hn P, hs P, dp⟩]
  congr 1
  rw [← PySem.W.sort_maps (r := le) (s := PySem.W.dataLe false id) enc (fun a _ b _ => (hle a b).symm), sort_to le tr tot an hm hp]
theorem perm_of {l₁ l₂ : List α} (h1 : l₁.Nodup) (h2 : l₂.Nodup) (h : ∀ a, a ∈ l₁ ↔ a ∈ l₂) : l₁.Perm l₂ := (List.perm_ext_iff_of_nodup h1 h2).mpr h
end
/-! ints, pairs, triples -/
theorem sortable_ints {α : Type} (f : α → Int) (l : List α) : sortableB (l.map fun a => .int (f a)) = true := by
  unfold sortableB
  rw [Bool.or_eq_true]
  refine .inr ?_
  rw [List.all_eq_true]
  intro x hx
  obtain ⟨a, _, rfl⟩ := List.mem_map.mp hx
  rfl
theorem sortable_tups {α : Type} (f : α → D) (g : α → List D) (l : List α) : sortableB (l.map fun a => .tuple (f a :: g a)) = true := by
  unfold sortableB
  rw [Bool.or_eq_true]
  refine .inl ?_
  rw [List.all_eq_true]
  intro x hx
  obtain ⟨a, _, rfl⟩ := List.mem_map.mp hx
  rfl
theorem qsort_ints {P m : List Int} (hm : m.Pairwise (· ≤ ·)) (hp : m.Perm P) : qSort (P.map .int) = .ok (m.map .int) :=
  qsort_to PyData.int (fun a b => decide (a ≤ b)) (fun a b => by rw [PySem.W.dataLt_int]; by_cases h : a ≤ b <;> simp [h] <;> omega) (fun _ _ => rfl) (fun _ => nofun) (fun l => sortable_ints (fun a => a) l) (fun _ => by simp [PyData.depth])
    (fun a b c h1 h2 => by simp at *; omega) (fun a b => by simp; omega) (fun a b h1 h2 => by simp at *; omega) (hm.imp fun h => decide_eq_true h) hp
theorem qsort_nats {P m : List Nat} (hm : m.Pairwise (· ≤ ·)) (hp : m.Perm P) : qSort (P.map fun (k : Nat) => .int (k : Int)) = .ok (m.map fun (k : Nat) => .int (k : Int)) :=
  qsort_to (fun (k : Nat) => PyData.int (k : Int)) (fun a b => decide (a ≤ b)) (fun a b => by rw [PySem.W.dataLt_int]; by_cases h : a ≤ b <;> simp [h] <;> omega) (fun _ _ => rfl) (fun _ => nofun) (fun l => sortable_ints (fun (k : Nat) => (k : Int)) l) (fun _ => by simp [PyData.depth])
    (fun a b c h1 h2 => by simp at *; omega) (fun a b => by simp; omega) (fun a b h1 h2 => by simp at *; omega) (hm.imp fun h => decide_eq_true h) hp
def pLeq (p q : Nat × Nat) : Prop := p.1 < q.1 ∨ p.1 = q.1 ∧ p.2 ≤ q.2
instance (p q : Nat × Nat) : Decidable (pLeq p q) := by unfold pLeq; infer_instance
theorem lt_pD (a b : Nat × Nat) : (!PySem.W.dataLt (pD b) (pD a)) = decide (pLeq a b) := by
  unfold pD
  rw [PySem.W.dataLt_ii]
  by_cases q : pLeq a b
  · rw [decide_eq_true q, decide_eq_false (by unfold pLeq at q; omega)]; rfl
  · rw [decide_eq_false q, decide_eq_true (by unfold pLeq at q; omega)]; rfl
theorem pLeq_tr {a b c : Nat × Nat} (h1 : pLeq a b) (h2 : pLeq b c) : pLeq a c := by unfold pLeq at *; omega
theorem pLeq_an {a b : Nat × Nat} (h1 : pLeq a b) (h2 : pLeq b a) : a = b := by
  unfold pLeq at h1 h2
  exact Prod.ext (by omega) (by omega)
theorem pLeq_tot (a b : Nat × Nat) : pLeq a b ∨ pLeq b a := by unfold pLeq; omega
theorem qsort_prs {P m : List (Nat × Nat)} (hm : m.Pairwise pLeq) (hp : m.Perm P) : qSort (P.map pD) = .ok (m.map pD) :=
  qsort_to pD (fun a b => decide (pLeq a b)) lt_pD (fun _ _ => rfl) (fun _ => nofun) (fun l => sortable_tups (fun p : Nat × Nat => .int p.1) (fun p => [.int p.2]) l) (fun _ => by simp [pD, PyData.depth, PyData.depthAll])
    (fun a b c h1 h2 => decide_eq_true (pLeq_tr (of_decide_eq_true h1) (of_decide_eq_true h2))) (fun a b => by
      rw [Bool.or_eq_true, decide_eq_true_iff, decide_eq_true_iff]
      exact pLeq_tot a b) (fun a b h1 h2 => pLeq_an (of_decide_eq_true h1) (of_decide_eq_true h2)) (hm.imp fun h => decide_eq_true h) hp
/-! triples -/
def tD (t : Nat × Nat × Nat) : D := .tuple [.int t.1, .int t.2.1, .int t.2.2]
def tLeq (p q : Nat × Nat × Nat) : Prop := p.1 < q.1 ∨ p.1 = q.1 ∧ (p.2.1 < q.2.1 ∨ p.2.1 = q.2.1 ∧ p.2.2 ≤ q.2.2)
instance (p q : Nat × Nat × Nat) : Decidable (tLeq p q) := by unfold tLeq; infer_instance
theorem lt_tD (a b : Nat × Nat × Nat) : (!PySem.W.dataLt (tD b) (tD a)) = decide (tLeq a b) := by
  have e : PySem.W.dataLt (tD b) (tD a) = decide (b.1 < a.1 ∨ b.1 = a.1 ∧ (b.2.1 < a.2.1 ∨ b.2.1 = a.2.1 ∧ b.2.2 < a.2.2)) := by
    have z : PyProof.Rows.lexLt PyProof.Rows.itemOrd (PySem.W.keyToksAll []) (PySem.W.keyToksAll []) = false := by rfl
    unfold tD
    rw [PySem.W.dataLt_tuple, PySem.W.dataLt_cons (by simp [PySem.W.alike]), PySem.W.dataLt_cons (by simp [PySem.W.alike]), PySem.W.dataLt_cons (by simp [PySem.W.alike]), z, PySem.W.dataLt_int, PySem.W.dataLt_int, PySem.W.dataLt_int]
    simp only [PyData.eqv, beq_iff_eq, Int.ofNat_inj]
    by_cases h1 : b.1 = a.1 <;> by_cases h2 : b.2.1 = a.2.1 <;> by_cases h3 : b.2.2 = a.2.2 <;> simp [h1, h2, h3]
  rw [e]
  by_cases q : tLeq a b
  · rw [decide_eq_true q, decide_eq_false (by unfold tLeq at q; omega)]; rfl
  · rw [decide_eq_false q, decide_eq_true (by unfold tLeq at q; omega)]; rfl
theorem tLeq_tr {a b c : Nat × Nat × Nat} (h1 : tLeq a b) (h2 : tLeq b c) : tLeq a c := by unfold tLeq at *; omega
theorem tLeq_an {a b : Nat × Nat × Nat} (h1 : tLeq a b) (h2 : tLeq b a) : a = b := by
  unfold tLeq at h1 h2
  exact Prod.ext (by omega) (Prod.ext (by omega) (by omega))
theorem tLeq_tot (a b : Nat × Nat × Nat) : tLeq a b ∨ tLeq b a := by unfold tLeq; omega
theorem qsort_trs {P m : List (Nat × Nat × Nat)} (hm : m.Pairwise tLeq) (hp : m.Perm P) : qSort (P.map tD) = .ok (m.map tD) :=
  qsort_to tD (fun a b => decide (tLeq a b)) lt_tD (fun _ _ => rfl) (fun _ => nofun) (fun l => sortable_tups (fun p : Nat × Nat × Nat => .int p.1) (fun p => [.int p.2.1, .int p.2.2]) l) (fun _ => by simp [tD, PyData.depth, PyData.depthAll])
    (fun a b c h1 h2 => decide_eq_true (tLeq_tr (of_decide_eq_true h1) (of_decide_eq_true h2))) (fun a b => by
      rw [Bool.or_eq_true, decide_eq_true_iff, decide_eq_true_iff]
      exact tLeq_tot a b) (fun a b h1 h2 => tLeq_an (of_decide_eq_true h1) (of_decide_eq_true h2)) (hm.imp fun h => decide_eq_true h) hp
/-! a comprehension that changes something -/
theorem lpS_map {α : Type} {vs : List Nat} {g : D → Env' → Option Env'} {me : M D} (φ : α → D) (I : List α → List D → Env' → Prop) : ∀ (l done : List α) (acc : List D) (ρ : Env'), acc.length + l.length ≤ 16777216 → I done acc ρ →
    (∀ (done : List α) (a : α) (rest : List α) (acc : List D) (ρ : Env'), done ++ a :: rest = done ++ (a :: rest) → a ∈ l → I done acc ρ → ∃ ρd ρ2 d, g (φ a) ρ = some ρd ∧ me ρd = (.ok d, ρ2) ∧ I (done ++ [a]) (acc ++ [d]) (wipeR ρ2 vs)) →
    ∃ ds ρ2, lpB vs g (bOne (.ret true) me) (l.map φ) acc ρ = (.ok ds, ρ2) ∧ I (done ++ l) ds ρ2
  | [], done, acc, ρ, _, h, _ => ⟨acc, ρ, rfl, by rw [List.append_nil]; exact h⟩
  | a :: l, done, acc, ρ, hl, h, step => by
    have hl' : acc.length + (l.length + 1) ≤ 16777216 := hl
    obtain ⟨ρd, ρ2, d, e1, e2, h2⟩ := step done a l acc ρ rfl List.mem_cons_self h
    obtain ⟨ds, ρ3, e3, h3⟩ := lpS_map φ I l (done ++ [a]) (acc ++ [d]) (wipeR ρ2 vs) (by rw [List.length_append]; simp only [List.length_singleton]; omega) h2 (fun done' a' rest acc' ρ' _ hm hI => step done' a' rest acc' ρ' rfl (List.mem_cons_of_mem _ hm) hI)
    refine ⟨ds, ρ3, ?_, by rw [List.append_assoc] at h3; exact h3⟩
    show (match g (φ a) ρ with | none => (Rs.bad, ρ) | some ρ1 => ((bOne (.ret true) me acc).bind fun a => (wipeM vs).bind fun _ => lpB vs g (bOne (.ret true) me) (l.map φ) a) ρ1) = _
    rw [e1]
    show ((bOne (.ret true) me acc).bind fun a => (wipeM vs).bind fun _ => lpB vs g (bOne (.ret true) me) (l.map φ) a) ρd = _
    have q : bOne (.ret true) me acc ρd = (.ok (acc ++ [d]), ρ2) := by
      have lt : acc.length < 16777216 := by omega
      have e5 : (M.lift (grd (acc.length < 16777216) (.ok ()))) ρ2 = (.ok (), ρ2) := by
        unfold M.lift grd
        rw [if_pos lt]
      unfold bOne
      rw [bindR (show (M.ret true) ρd = (.ok true, ρd) from rfl), if_pos rfl, bindR e2, bindR e5]
      rfl
    rw [bindR q]
    exact e3
theorem lcS_map {α : Type} {mi : M (List D)} {vs : List Nat} {g : D → Env' → Option Env'} {me : M D} {ρ ρ1 : Env'} (l : List α) (φ : α → D) (I : List α → List D → Env' → Prop) (hi : mi ρ = (.ok (l.map φ), ρ1)) (hl : l.length ≤ 16777216) (h0 : I [] [] (enterR vs ρ1))
    (step : ∀ (done : List α) (a : α) (acc : List D) (ρ : Env'), a ∈ l → I done acc ρ → ∃ ρd ρ2 d, g (φ a) ρ = some ρd ∧ me ρd = (.ok d, ρ2) ∧ I (done ++ [a]) (acc ++ [d]) (wipeR ρ2 vs)) :
    ∃ ds ρ2, mLc mi vs g (.ret true) me ρ = (.ok ds, leaveR vs ρ1 ρ2) ∧ I l ds ρ2 := by
  obtain ⟨ds, ρ2, e, h⟩ := lpS_map (vs := vs) (g := g) (me := me) φ I l [] [] (enterR vs ρ1) (by simpa using hl) h0 (fun done a _ acc ρ _ hm hI => step done a acc ρ hm hI)
  refine ⟨ds, ρ2, ?_, h⟩
  unfold mLc
  rw [bindR hi]
  unfold runB
  rw [e]
end
end DL

end
section
set_option maxRecDepth 100000
set_option maxHeartbeats 0

namespace SL
noncomputable section
open PySem PySem.Spec L2 LamX NdefX DL
open PyProof.Rows hiding St
def top (i : Nat) : Stmt := PySem.Challenge.pw_sightrows_k57_whole_watchers.main.body.getD i (.Pass ⟨0, 0, 0, 0⟩)
def d__law_lots : He.DefD := ⟨("_law_lots", none), "_law_lots", "_law_lots", defArgs (top 39), defBody (top 39), defScope (top 39), [], []⟩
def d__law_take : He.DefD := ⟨("_law_take", none), "_law_take", "_law_take", defArgs (top 35), defBody (top 35), defScope (top 35), [], []⟩
def d__law_of : He.DefD := ⟨("_law_of", none), "_law_of", "_law_of", defArgs (top 36), defBody (top 36), defScope (top 36), [], []⟩
def d__law_row : He.DefD := ⟨("_law_row", none), "_law_row", "_law_row", defArgs (top 37), defBody (top 37), defScope (top 37), [], []⟩
def d_is_whole : He.DefD := ⟨("is_whole", none), "is_whole", "is_whole", defArgs (top 5), defBody (top 5), defScope (top 5), [], []⟩
def d_is_number : He.DefD := ⟨("is_number", none), "is_number", "is_number", defArgs (top 6), defBody (top 6), defScope (top 6), [], []⟩
def d_is_height : He.DefD := ⟨("is_height", none), "is_height", "is_height", defArgs (top 15), defBody (top 15), defScope (top 15), [], []⟩
def d_wrong_at : He.DefD := ⟨("wrong_at", none), "wrong_at", "wrong_at", defArgs (top 7), defBody (top 7), defScope (top 7), [], []⟩
def d_wrong_or_none : He.DefD := ⟨("wrong_or_none", none), "wrong_or_none", "wrong_or_none", defArgs (top 8), defBody (top 8), defScope (top 8), [], []⟩
def d_wrong_row : He.DefD := ⟨("wrong_row", none), "wrong_row", "wrong_row", defArgs (top 16), defBody (top 16), defScope (top 16), [], []⟩
def d_check_row : He.DefD := ⟨("check_row", none), "check_row", "check_row", defArgs (top 23), defBody (top 23), defScope (top 23), [], []⟩
def d_pairs_of_all : He.DefD := ⟨("pairs_of_all", none), "pairs_of_all", "pairs_of_all", defArgs (top 19), defBody (top 19), defScope (top 19), [], []⟩
def d_bars_between : He.DefD := ⟨("bars_between", none), "bars_between", "bars_between", defArgs (top 17), defBody (top 17), defScope (top 17), [], []⟩
def d_do_see_in : He.DefD := ⟨("do_see_in", none), "do_see_in", "do_see_in", defArgs (top 18), defBody (top 18), defScope (top 18), [], []⟩
def d_sights_of : He.DefD := ⟨("sights_of", none), "sights_of", "sights_of", defArgs (top 20), defBody (top 20), defScope (top 20), [], []⟩
def d_seen_from : He.DefD := ⟨("seen_from", none), "seen_from", "seen_from", defArgs (top 21), defBody (top 21), defScope (top 21), [], []⟩
def d_seen_by_all : He.DefD := ⟨("seen_by_all", none), "seen_by_all", "seen_by_all", defArgs (top 27), defBody (top 27), defScope (top 27), [], []⟩
def d_every_lot : He.DefD := ⟨("every_lot", none), "every_lot", "every_lot", defArgs (top 10), defBody (top 10), defScope (top 10), [], []⟩
def d_others_of : He.DefD := ⟨("others_of", none), "others_of", "others_of", defArgs (top 11), defBody (top 11), defScope (top 11), [], []⟩
def d_does_watch : He.DefD := ⟨("does_watch", none), "does_watch", "does_watch", defArgs (top 28), defBody (top 28), defScope (top 28), [], []⟩
def d_least_watchers : He.DefD := ⟨("least_watchers", none), "least_watchers", "least_watchers", defArgs (top 29), defBody (top 29), defScope (top 29), [], []⟩
def d_fewest_watchers : He.DefD := ⟨("fewest_watchers", none), "fewest_watchers", "fewest_watchers", defArgs (top 31), defBody (top 31), defScope (top 31), [], []⟩
def d_first_watchers : He.DefD := ⟨("first_watchers", none), "first_watchers", "first_watchers", defArgs (top 32), defBody (top 32), defScope (top 32), [], []⟩
def d__law_sees : He.DefD := ⟨("_law_sees", none), "_law_sees", "_law_sees", defArgs (top 38), defBody (top 38), defScope (top 38), [], []⟩
def d__law_watched : He.DefD := ⟨("_law_watched", none), "_law_watched", "_law_watched", defArgs (top 40), defBody (top 40), defScope (top 40), [], []⟩
def d_is_above_last : He.DefD := ⟨("is_above_last", none), "is_above_last", "is_above_last", defArgs (top 9), defBody (top 9), defScope (top 9), [], []⟩
def d_check_lot_of : He.DefD := ⟨("check_lot_of", none), "check_lot_of", "check_lot_of", defArgs (top 24), defBody (top 24), defScope (top 24), [], []⟩
def d_check_lot : He.DefD := ⟨("check_lot", none), "check_lot", "check_lot", defArgs (top 25), defBody (top 25), defScope (top 25), [], []⟩
def d_is_watched : He.DefD := ⟨("is_watched", none), "is_watched", "is_watched", defArgs (top 30), defBody (top 30), defScope (top 30), [], []⟩
def d__law_right : He.DefD := ⟨("_law_right", none), "_law_right", "_law_right", defArgs (top 41), defBody (top 41), defScope (top 41), [], []⟩
def d__law_urn : He.DefD := ⟨("_law_urn", none), "_law_urn", "_law_urn", defArgs (top 34), defBody (top 34), defScope (top 34), [], []⟩
def d_law : He.DefD := ⟨("law", none), "law", "law", defArgs (top 42), defBody (top 42), defScope (top 42), [], []⟩
def fn_0 : List He.DefD := [d__law_lots, d__law_take, d__law_of, d__law_row, d_is_whole, d_is_number, d_is_height, d_wrong_at, d_wrong_or_none, d_wrong_row, d_check_row, d_pairs_of_all, d_bars_between, d_do_see_in, d_sights_of, d_seen_from, d_seen_by_all, d_every_lot, d_others_of, d_does_watch, d_least_watchers, d_fewest_watchers, d_first_watchers, d__law_sees, d__law_watched, d_is_above_last, d_check_lot_of, d_check_lot, d_is_watched, d__law_right]
def fn_1 : List He.DefD := [d__law_urn, d_law]
def fn : List He.DefD := fn_0 ++ fn_1
def fa_0 : List He.Fa := [.glo "_law_lots", .glo "_law_take", .glo "_law_of", .glo "_law_row", .glo "is_whole", .glo "is_number", .glo "is_height", .glo "wrong_at", .glo "wrong_or_none", .glo "wrong_row", .glo "check_row", .glo "pairs_of_all", .glo "bars_between", .glo "do_see_in", .glo "sights_of", .glo "seen_from", .glo "seen_by_all", .glo "every_lot", .glo "others_of", .glo "does_watch", .glo "least_watchers", .glo "fewest_watchers", .glo "first_watchers", .glo "_law_sees", .glo "_law_watched", .glo "is_above_last", .glo "check_lot_of", .glo "check_lot", .glo "is_watched", .glo "_law_right"]
def fa_1 : List He.Fa := [.glo "_law_urn", .glo "law", .int "MOST_PERSONS" 12, .int "MOST_HEIGHT" 999, .free "ValueError", .free "abs", .free "all", .free "any", .free "bool", .free "divmod", .free "enumerate", .free "int", .free "isinstance", .free "len", .free "list", .free "max", .free "min", .free "range", .free "repr", .free "sorted", .free "super", .free "tuple"]
def fa : List He.Fa := fa_0 ++ fa_1
def loose_0 : List PySem.Str := ["__name__", "SightError", "InvalidRow", "InvalidLot", "is_whole", "is_number", "wrong_at", "wrong_or_none", "is_above_last", "every_lot", "others_of", "MOST_PERSONS", "MOST_HEIGHT", "is_height", "wrong_row", "bars_between", "do_see_in", "pairs_of_all", "sights_of", "seen_from", "check_row", "check_lot_of", "check_lot", "seen_by_all", "does_watch", "least_watchers", "is_watched", "fewest_watchers", "first_watchers", "_law_urn"]
def loose_1 : List PySem.Str := ["_law_take", "_law_of", "_law_row", "_law_sees", "_law_lots", "_law_watched", "_law_right"]
def loose : List PySem.Str := loose_0 ++ loose_1
def tf_0 : List He.Defn := [("wrong_row", none), ("every_lot", none), ("check_lot_of", none)]
def tf : List He.Defn := tf_0
def ex (K : PySem.W.Frag) : Bool := decide ((tf.map fun p => (He.cT K p).2).Nodup)
def tq_wrong_row : He.Defn × (Nat → Nat → Str) := (("wrong_row", none), fun _ _ => "wrong_row.<locals>.is_right")
def tq_every_lot : He.Defn × (Nat → Nat → Str) := (("every_lot", none), fun _ _ => "every_lot.<locals>.<lambda>")
def tq_check_lot_of : He.Defn × (Nat → Nat → Str) := (("check_lot_of", none), fun _ _ => "check_lot_of.<locals>.<lambda>")
def tfn : List (He.Defn × (Nat → Nat → Str)) := [tq_wrong_row, tq_every_lot, tq_check_lot_of]
theorem tqm_wrong_row : tq_wrong_row ∈ tfn := by unfold tfn; simp
theorem tm_wrong_row : (("wrong_row", none) : He.Defn) ∈ tf := List.mem_of_getElem? (i := 0) rfl
theorem tqm_every_lot : tq_every_lot ∈ tfn := by unfold tfn; simp
theorem tm_every_lot : (("every_lot", none) : He.Defn) ∈ tf := List.mem_of_getElem? (i := 1) rfl
theorem tqm_check_lot_of : tq_check_lot_of ∈ tfn := by unfold tfn; simp
theorem tm_check_lot_of : (("check_lot_of", none) : He.Defn) ∈ tf := List.mem_of_getElem? (i := 2) rfl
section
variable {P : Program} {w : World} {K : PySem.W.Frag} {mg : Str → Option Value} {base : Heap} {T : List NTab}
structure Fc (K : PySem.W.Frag) (mg : Str → Option Value) (base : Heap) (T : List NTab) : Prop where
  KX : K.In base
  NG : base.Ns mainGlobals mg
  c : He.SaysD fa fn K
  TB : ∀ p ∈ tf, TabB base mg (He.cT K p).1 (He.cT K p).2
  nd : (tfn.map fun q => (He.cT K q.1).2).Nodup
  hT : T = tabsOf K tfn
theorem q__law_lots (c : Fc K mg base T) : mg "_law_lots" = some (.ref (He.fAd K ("_law_lots", none))) := He.glo_ok c.KX c.NG (c.c.fact 0 (f := .glo "_law_lots") rfl)
theorem q__law_take (c : Fc K mg base T) : mg "_law_take" = some (.ref (He.fAd K ("_law_take", none))) := He.glo_ok c.KX c.NG (c.c.fact 1 (f := .glo "_law_take") rfl)
theorem q__law_of (c : Fc K mg base T) : mg "_law_of" = some (.ref (He.fAd K ("_law_of", none))) := He.glo_ok c.KX c.NG (c.c.fact 2 (f := .glo "_law_of") rfl)
theorem q__law_row (c : Fc K mg base T) : mg "_law_row" = some (.ref (He.fAd K ("_law_row", none))) := He.glo_ok c.KX c.NG (c.c.fact 3 (f := .glo "_law_row") rfl)
theorem q_is_whole (c : Fc K mg base T) : mg "is_whole" = some (.ref (He.fAd K ("is_whole", none))) := He.glo_ok c.KX c.NG (c.c.fact 4 (f := .glo "is_whole") rfl)
theorem q_is_number (c : Fc K mg base T) : mg "is_number" = some (.ref (He.fAd K ("is_number", none))) := He.glo_ok c.KX c.NG (c.c.fact 5 (f := .glo "is_number") rfl)
theorem q_is_height (c : Fc K mg base T) : mg "is_height" = some (.ref (He.fAd K ("is_height", none))) := He.glo_ok c.KX c.NG (c.c.fact 6 (f := .glo "is_height") rfl)
theorem q_wrong_at (c : Fc K mg base T) : mg "wrong_at" = some (.ref (He.fAd K ("wrong_at", none))) := He.glo_ok c.KX c.NG (c.c.fact 7 (f := .glo "wrong_at") rfl)
theorem q_wrong_or_none (c : Fc K mg base T) : mg "wrong_or_none" = some (.ref (He.fAd K ("wrong_or_none", none))) := He.glo_ok c.KX c.NG (c.c.fact 8 (f := .glo "wrong_or_none") rfl)
theorem q_wrong_row (c : Fc K mg base T) : mg "wrong_row" = some (.ref (He.fAd K ("wrong_row", none))) := He.glo_ok c.KX c.NG (c.c.fact 9 (f := .glo "wrong_row") rfl)
theorem q_check_row (c : Fc K mg base T) : mg "check_row" = some (.ref (He.fAd K ("check_row", none))) := He.glo_ok c.KX c.NG (c.c.fact 10 (f := .glo "check_row") rfl)
theorem q_pairs_of_all (c : Fc K mg base T) : mg "pairs_of_all" = some (.ref (He.fAd K ("pairs_of_all", none))) := He.glo_ok c.KX c.NG (c.c.fact 11 (f := .glo "pairs_of_all") rfl)
theorem q_bars_between (c : Fc K mg base T) : mg "bars_between" = some (.ref (He.fAd K ("bars_between", none))) := He.glo_ok c.KX c.NG (c.c.fact 12 (f := .glo "bars_between") rfl)
theorem q_do_see_in (c : Fc K mg base T) : mg "do_see_in" = some (.ref (He.fAd K ("do_see_in", none))) := He.glo_ok c.KX c.NG (c.c.fact 13 (f := .glo "do_see_in") rfl)
theorem q_sights_of (c : Fc K mg base T) : mg "sights_of" = some (.ref (He.fAd K ("sights_of", none))) := He.glo_ok c.KX c.NG (c.c.fact 14 (f := .glo "sights_of") rfl)
theorem q_seen_from (c : Fc K mg base T) : mg "seen_from" = some (.ref (He.fAd K ("seen_from", none))) := He.glo_ok c.KX c.NG (c.c.fact 15 (f := .glo "seen_from") rfl)
theorem q_seen_by_all (c : Fc K mg base T) : mg "seen_by_all" = some (.ref (He.fAd K ("seen_by_all", none))) := He.glo_ok c.KX c.NG (c.c.fact 16 (f := .glo "seen_by_all") rfl)
theorem q_every_lot (c : Fc K mg base T) : mg "every_lot" = some (.ref (He.fAd K ("every_lot", none))) := He.glo_ok c.KX c.NG (c.c.fact 17 (f := .glo "every_lot") rfl)
theorem q_others_of (c : Fc K mg base T) : mg "others_of" = some (.ref (He.fAd K ("others_of", none))) := He.glo_ok c.KX c.NG (c.c.fact 18 (f := .glo "others_of") rfl)
theorem q_does_watch (c : Fc K mg base T) : mg "does_watch" = some (.ref (He.fAd K ("does_watch", none))) := He.glo_ok c.KX c.NG (c.c.fact 19 (f := .glo "does_watch") rfl)
theorem q_least_watchers (c : Fc K mg base T) : mg "least_watchers" = some (.ref (He.fAd K ("least_watchers", none))) := He.glo_ok c.KX c.NG (c.c.fact 20 (f := .glo "least_watchers") rfl)
theorem q_fewest_watchers (c : Fc K mg base T) : mg "fewest_watchers" = some (.ref (He.fAd K ("fewest_watchers", none))) := He.glo_ok c.KX c.NG (c.c.fact 21 (f := .glo "fewest_watchers") rfl)
theorem q_first_watchers (c : Fc K mg base T) : mg "first_watchers" = some (.ref (He.fAd K ("first_watchers", none))) := He.glo_ok c.KX c.NG (c.c.fact 22 (f := .glo "first_watchers") rfl)
theorem q__law_sees (c : Fc K mg base T) : mg "_law_sees" = some (.ref (He.fAd K ("_law_sees", none))) := He.glo_ok c.KX c.NG (c.c.fact 23 (f := .glo "_law_sees") rfl)
theorem q__law_watched (c : Fc K mg base T) : mg "_law_watched" = some (.ref (He.fAd K ("_law_watched", none))) := He.glo_ok c.KX c.NG (c.c.fact 24 (f := .glo "_law_watched") rfl)
theorem q_is_above_last (c : Fc K mg base T) : mg "is_above_last" = some (.ref (He.fAd K ("is_above_last", none))) := He.glo_ok c.KX c.NG (c.c.fact 25 (f := .glo "is_above_last") rfl)
theorem q_check_lot_of (c : Fc K mg base T) : mg "check_lot_of" = some (.ref (He.fAd K ("check_lot_of", none))) := He.glo_ok c.KX c.NG (c.c.fact 26 (f := .glo "check_lot_of") rfl)
theorem q_check_lot (c : Fc K mg base T) : mg "check_lot" = some (.ref (He.fAd K ("check_lot", none))) := He.glo_ok c.KX c.NG (c.c.fact 27 (f := .glo "check_lot") rfl)
theorem q_is_watched (c : Fc K mg base T) : mg "is_watched" = some (.ref (He.fAd K ("is_watched", none))) := He.glo_ok c.KX c.NG (c.c.fact 28 (f := .glo "is_watched") rfl)
theorem q__law_right (c : Fc K mg base T) : mg "_law_right" = some (.ref (He.fAd K ("_law_right", none))) := He.glo_ok c.KX c.NG (c.c.fact 29 (f := .glo "_law_right") rfl)
theorem q__law_urn (c : Fc K mg base T) : mg "_law_urn" = some (.ref (He.fAd K ("_law_urn", none))) := He.glo_ok c.KX c.NG (c.c.fact 30 (f := .glo "_law_urn") rfl)
theorem q_law (c : Fc K mg base T) : mg "law" = some (.ref (He.fAd K ("law", none))) := He.glo_ok c.KX c.NG (c.c.fact 31 (f := .glo "law") rfl)
theorem q_MOST_PERSONS (c : Fc K mg base T) : ∃ t, mg "MOST_PERSONS" = some (.int 12 t) := He.int_ok c.KX c.NG (c.c.fact 32 (f := .int "MOST_PERSONS" 12) rfl)
theorem q_MOST_HEIGHT (c : Fc K mg base T) : ∃ t, mg "MOST_HEIGHT" = some (.int 999 t) := He.int_ok c.KX c.NG (c.c.fact 33 (f := .int "MOST_HEIGHT" 999) rfl)
theorem q_ValueError (c : Fc K mg base T) : mg "ValueError" = none := He.free_ok c.KX c.NG (c.c.fact 34 (f := .free "ValueError") rfl)
theorem q_abs (c : Fc K mg base T) : mg "abs" = none := He.free_ok c.KX c.NG (c.c.fact 35 (f := .free "abs") rfl)
theorem q_all (c : Fc K mg base T) : mg "all" = none := He.free_ok c.KX c.NG (c.c.fact 36 (f := .free "all") rfl)
theorem q_any (c : Fc K mg base T) : mg "any" = none := He.free_ok c.KX c.NG (c.c.fact 37 (f := .free "any") rfl)
theorem q_bool (c : Fc K mg base T) : mg "bool" = none := He.free_ok c.KX c.NG (c.c.fact 38 (f := .free "bool") rfl)
theorem q_divmod (c : Fc K mg base T) : mg "divmod" = none := He.free_ok c.KX c.NG (c.c.fact 39 (f := .free "divmod") rfl)
theorem q_enumerate (c : Fc K mg base T) : mg "enumerate" = none := He.free_ok c.KX c.NG (c.c.fact 40 (f := .free "enumerate") rfl)
theorem q_int (c : Fc K mg base T) : mg "int" = none := He.free_ok c.KX c.NG (c.c.fact 41 (f := .free "int") rfl)
theorem q_isinstance (c : Fc K mg base T) : mg "isinstance" = none := He.free_ok c.KX c.NG (c.c.fact 42 (f := .free "isinstance") rfl)
theorem q_len (c : Fc K mg base T) : mg "len" = none := He.free_ok c.KX c.NG (c.c.fact 43 (f := .free "len") rfl)
theorem q_list (c : Fc K mg base T) : mg "list" = none := He.free_ok c.KX c.NG (c.c.fact 44 (f := .free "list") rfl)
theorem q_max (c : Fc K mg base T) : mg "max" = none := He.free_ok c.KX c.NG (c.c.fact 45 (f := .free "max") rfl)
theorem q_min (c : Fc K mg base T) : mg "min" = none := He.free_ok c.KX c.NG (c.c.fact 46 (f := .free "min") rfl)
theorem q_range (c : Fc K mg base T) : mg "range" = none := He.free_ok c.KX c.NG (c.c.fact 47 (f := .free "range") rfl)
theorem q_repr (c : Fc K mg base T) : mg "repr" = none := He.free_ok c.KX c.NG (c.c.fact 48 (f := .free "repr") rfl)
theorem q_sorted (c : Fc K mg base T) : mg "sorted" = none := He.free_ok c.KX c.NG (c.c.fact 49 (f := .free "sorted") rfl)
theorem q_super (c : Fc K mg base T) : mg "super" = none := He.free_ok c.KX c.NG (c.c.fact 50 (f := .free "super") rfl)
theorem q_tuple (c : Fc K mg base T) : mg "tuple" = none := He.free_ok c.KX c.NG (c.c.fact 51 (f := .free "tuple") rfl)
def c__law_lots_1 : M (List D) := (mLc (mItems (mVar 1)) [3] (gN 3) (.ret true) (mBin pAdd (mVar 3) (mTup (mCons (mVar 2) mNil))))
def i__law_lots_1 : M (List D) := (mCallF pRng1 (mCons (mVar 0) mNil))
def b__law_lots_1 : MS := (mSet 1 (mBin pAdd (mVar 1) (mL c__law_lots_1)))
def c__law_lots_2 : M (List D) := (mLc (mItems (mVar 1)) [3] (gN 3) (.ret true) (mTup (mCons (mCall pLen (mCons (mVar 3) mNil)) (mCons (mVar 3) mNil))))
def c__law_lots_3 : M (List D) := (mLc (mItems (mL (mCallF (one1 qSort qSort) (mCons (mL c__law_lots_2) mNil)))) [3, 4] (gT 2 (gsC (gN 4) (gsC (gN 3) gsN))) (.ret true) (mVar 3))
def N__law_lots : List Str := ["many", "rows", "k", "lot", "size"]
def m__law_lots : MS := (mSeq (mSet 1 (mL (mLst (mCons (mTup mNil) mNil)))) (mSeq (mFor i__law_lots_1 (gN 2) b__law_lots_1) (mRet (mL c__law_lots_3))))
def S__law_lots : Sem' := fnR N__law_lots.length m__law_lots
theorem sc__law_lots : FnScope N__law_lots ["many"] (defScope (top 39)) := C8.fnScope_by (by decide +kernel)
theorem bp__law_lots : BindsP (defArgs (top 39)) ["many"] := fun _ _ _ _ _ _ _ _ _ _ us hl => match us, hl with | [u0], _ => rfl
theorem fn__law_lots (c : Fc K mg base T) : Fun P w K mg base T 4 "_law_lots" (defArgs (top 39)) ["many"] 1 S__law_lots := by
  refine fun_of (d := d__law_lots) (k := 0) (c.c.def_ 0 (d := d__law_lots) rfl) (q__law_lots c) rfl sc__law_lots ?_
  intro f cdv A outer s H E G hr hg hT hK hnf hcode
  have C : Ctx (cxOf (L2.CX P w) P w K mg base N__law_lots "_law_lots" (defScope (top 39)) f cdv A outer s H E) G (fun cls d _ H => E cls d H) 0 := ctx_fn hr hg
  have hnd := sc__law_lots.nd
  exact (DSs.cons (DS.set (i := 1) hnd rfl (.inl rfl) (.inl rfl) (DE.ofF (DF.lst (DA.cons (DE.tup DA.nil) DA.nil)))) (DSs.cons (DS.for own_fn rfl (DI.range1 rfl (q_range c) (DA.cons (DE.var (i := 0) rfl (.inl rfl)) DA.nil)) (DG.name hnd rfl (.inr rfl) (.inl rfl)) (DSs.one (DS.set (i := 1) hnd rfl (.inl rfl) (.inl rfl) (DE.bin od_add (DE.var (i := 1) rfl (.inl rfl)) (DE.ofF (DF.lc (own := [("lot", 3)]) rfl hnd (DI.seq rfl (DE.var (i := 1) rfl (.inl rfl))) (blkOk_by (by kernel_rfl)) (by decide) (fun _ _ _ _ _ => (DG.name hnd rfl (.inl rfl) (.inr rfl))) (fun _ _ _ _ _ => DTs.nil) (fun _ _ _ _ _ => (DE.bin od_add (DE.var (i := 3) rfl (.inl rfl)) (DE.tup (DA.cons (DE.var (i := 2) rfl (.inr (.inl rfl))) DA.nil)))))))))) (DSs.one (DS.ret (DE.ofF (DF.lc (own := [("lot", 3), ("size", 4)]) rfl hnd (DI.seq rfl (DE.ofF (DF.callB (CallF.of (lf_sorted (Ctx.u64 C)) (tf_sorted (Ctx.u64 C))) rfl (q_sorted c) (by decide +kernel) (DA.cons (DE.ofF (DF.lc (own := [("lot", 3)]) rfl hnd (DI.seq rfl (DE.var (i := 1) rfl (.inl rfl))) (blkOk_by (by kernel_rfl)) (by decide) (fun _ _ _ _ _ => (DG.name hnd rfl (.inl rfl) (.inr rfl))) (fun _ _ _ _ _ => DTs.nil) (fun _ _ _ _ _ => (DE.tup (DA.cons (DE.callB cd_len rfl (q_len c) (by decide +kernel) (DA.cons (DE.var (i := 3) rfl (.inl rfl)) DA.nil)) (DA.cons (DE.var (i := 3) rfl (.inl rfl)) DA.nil)))))) DA.nil)))) (blkOk_by (by kernel_rfl)) (by decide) (fun _ _ _ _ _ => (DG.tup rfl (DGs.cons (DG.name hnd rfl (.inl rfl) (.inr rfl)) (DGs.cons (DG.name hnd rfl (.inl rfl) (.inr rfl)) DGs.nil)))) (fun _ _ _ _ _ => DTs.nil) (fun _ _ _ _ _ => (DE.var (i := 3) rfl (.inl rfl)))))))))
def N__law_take : List Str := ["urn", "many", "figure", "stir"]
def m__law_take : MS := (mSeq (mIf (mBl (mBin pGt (mIxW 0 (.ret (.int 0))) (.ret (.int 0)))) (mSeq (mStoreN 0 (mCall pDivmod (mCons (mIxW 0 (.ret (.int 0))) (mCons (mVar 1) mNil))) (.ret (.int 0)) 2) (mRet (mVar 2))) (.ret .nx)) (mSeq (mStore 0 (mBin pAdd (mIxW 0 (.ret (.int 2))) (.ret (.int 1))) (.ret (.int 2))) (mSeq (mSet 3 (mBin pMod (mCall pInt (mCons (mBin pAdd (mBin pMul (mIxW 0 (.ret (.int 1))) (.ret (.int 40009))) (mBin pMul (.ret (.int 15013)) (mIxW 0 (.ret (.int 2))))) mNil)) (.ret (.int 2147483629)))) (mSeq (mStore 0 (mBin pMod (mCall pInt (mCons (mBin pAdd (mBin pMul (mVar 3) (mBin pAdd (mBin pMod (mCall pInt (mCons (mVar 3) mNil)) (.ret (.int 5003))) (.ret (.int 30011)))) (mBin pMul (.ret (.int 3)) (mIxW 0 (.ret (.int 2))))) mNil)) (.ret (.int 2147483629))) (.ret (.int 1))) (mRet (mBin pMod (mCall pInt (mCons (mBin pFdiv (mIxW 0 (.ret (.int 1))) (.ret (.int 907))) mNil)) (mVar 1)))))))
def S__law_take : Sem' := fnR N__law_take.length m__law_take
theorem sc__law_take : FnScope N__law_take ["urn", "many"] (defScope (top 35)) := C8.fnScope_by (by decide +kernel)
theorem bp__law_take : BindsP (defArgs (top 35)) ["urn", "many"] := fun _ _ _ _ _ _ _ _ _ _ us hl => match us, hl with | [u0, u1], _ => rfl
theorem fn__law_take (c : Fc K mg base T) : Fun P w K mg base T 4 "_law_take" (defArgs (top 35)) ["urn", "many"] 1 S__law_take := by
  refine fun_of (d := d__law_take) (k := 0) (c.c.def_ 1 (d := d__law_take) rfl) (q__law_take c) rfl sc__law_take ?_
  intro f cdv A outer s H E G hr hg hT hK hnf hcode
  have C : Ctx (cxOf (L2.CX P w) P w K mg base N__law_take "_law_take" (defScope (top 35)) f cdv A outer s H E) G (fun cls d _ H => E cls d H) 0 := ctx_fn hr hg
  have hnd := sc__law_take.nd
  exact (DSs.cons (DS.if (DT.cmp od_gt (DE.ixw (i := 0) rfl (.inl rfl) DE.int (fun _ _ => rfl)) DE.int (nobehind _ (by decide) (by decide))) (DSs.cons (DS.storeN (i := 0) (j := 2) rfl hnd rfl (.inl rfl) rfl (.inl rfl) (.inl rfl) (DE.callB cd_divmod rfl (q_divmod c) (by decide +kernel) (DA.cons (DE.ixw (i := 0) rfl (.inl rfl) DE.int (fun _ _ => rfl)) (DA.cons (DE.var (i := 1) rfl (.inl rfl)) DA.nil))) DE.int) (DSs.one (DS.ret (DE.var (i := 2) rfl (.inl rfl))))) DSs.nil) (DSs.cons (DS.store (i := 0) rfl (.inl rfl) (DE.bin od_add (DE.ixw (i := 0) rfl (.inl rfl) DE.int (fun _ _ => rfl)) DE.int) DE.int) (DSs.cons (DS.set (i := 3) hnd rfl (.inl rfl) (.inl rfl) (DE.bin od_mod (DE.callTy cd_int rfl (q_int c) (by decide +kernel) (DA.cons (DE.bin od_add (DE.bin od_mul (DE.ixw (i := 0) rfl (.inl rfl) DE.int (fun _ _ => rfl)) DE.int) (DE.bin od_mul DE.int (DE.ixw (i := 0) rfl (.inl rfl) DE.int (fun _ _ => rfl)))) DA.nil)) DE.int)) (DSs.cons (DS.store (i := 0) rfl (.inl rfl) (DE.bin od_mod (DE.callTy cd_int rfl (q_int c) (by decide +kernel) (DA.cons (DE.bin od_add (DE.bin od_mul (DE.var (i := 3) rfl (.inl rfl)) (DE.bin od_add (DE.bin od_mod (DE.callTy cd_int rfl (q_int c) (by decide +kernel) (DA.cons (DE.var (i := 3) rfl (.inl rfl)) DA.nil)) DE.int) DE.int)) (DE.bin od_mul DE.int (DE.ixw (i := 0) rfl (.inl rfl) DE.int (fun _ _ => rfl)))) DA.nil)) DE.int) DE.int) (DSs.one (DS.ret (DE.bin od_mod (DE.callTy cd_int rfl (q_int c) (by decide +kernel) (DA.cons (DE.bin od_fdiv (DE.ixw (i := 0) rfl (.inl rfl) DE.int (fun _ _ => rfl)) DE.int) DA.nil)) (DE.var (i := 1) rfl (.inl rfl)))))))))
def N__law_of : List Str := ["urn", "some"]
def m__law_of : MS := (mRet (mBin pIx (mVar 1) (mVD (mUser S__law_take (mRef 0 (mAC (mCall pLen (mCons (mVar 1) mNil)) mAN))))))
def S__law_of : Sem' := fnR N__law_of.length m__law_of
theorem sc__law_of : FnScope N__law_of ["urn", "some"] (defScope (top 36)) := C8.fnScope_by (by decide +kernel)
theorem bp__law_of : BindsP (defArgs (top 36)) ["urn", "some"] := fun _ _ _ _ _ _ _ _ _ _ us hl => match us, hl with | [u0, u1], _ => rfl
theorem fn__law_of (c : Fc K mg base T) : Fun P w K mg base T 4 "_law_of" (defArgs (top 36)) ["urn", "some"] 2 S__law_of := by
  refine fun_of (d := d__law_of) (k := 1) (c.c.def_ 2 (d := d__law_of) rfl) (q__law_of c) rfl sc__law_of ?_
  intro f cdv A outer s H E G hr hg hT hK hnf hcode
  have C : Ctx (cxOf (L2.CX P w) P w K mg base N__law_of "_law_of" (defScope (top 36)) f cdv A outer s H E) G (fun cls d _ H => E cls d H) 1 := ctx_fn hr hg
  have hnd := sc__law_of.nd
  have h__law_take := (fn__law_take (P := P) (w := w) c).to hT hK
  exact (DSs.one (DS.ret (DE.ix (DE.var (i := 1) rfl (.inl rfl)) (DE.ofV (DV.call h__law_take bp__law_take C (by decide) rfl (DR.ref (i := 0) rfl (.inl rfl) (DR.cons (DE.callB cd_len rfl (q_len c) (by decide +kernel) (DA.cons (DE.var (i := 1) rfl (.inl rfl)) DA.nil)) DR.nil)))) (fun _ _ => rfl))))
def c__law_row_1 : M (List D) := (mLc (mCallF pRng1 (mCons (.ret (.int 1000)) mNil)) [6] (gN 6) (mAndT (mBl (mInW true (mVar 6) 2)) (mBl (mBin pGe (mVar 6) (mVar 4)))) (mVar 6))
def c__law_row_2 : M (List D) := (mLc (mCallF pRng1 (mCons (.ret (.int 1000)) mNil)) [6] (gN 6) (mBl (mInW true (mVar 6) 2)) (mVar 6))
def i__law_row_1 : M (List D) := (mCallF pRng1 (mCons (mBin pAdd (.ret (.int 1)) (mVD (mUser S__law_take (mRef 0 (mAC (mVar 1) mAN))))) mNil))
def b__law_row_1 : MS := (mSeq (mSet 4 (mVD (mUser S__law_of (mRef 0 (mAC (mL (mLst (mCons (mVD (mUser S__law_take (mRef 0 (mAC (.ret (.int 1000)) mAN)))) (mCons (mVD (mUser S__law_take (mRef 0 (mAC (.ret (.int 20)) mAN)))) (mCons (.ret (.int 0)) (mCons (.ret (.int 999)) mNil)))))) mAN))))) (mSeq (mSet 5 (mL c__law_row_1)) (mExpr (mApp 2 (mBin pIx (mBin pAdd (mVar 5) (mL c__law_row_2)) (.ret (.int 0)))))))
def N__law_row : List Str := ["urn", "most", "found", "turn", "height", "free", "each"]
def m__law_row : MS := (mSeq (mSetF 2 (mLst mNil)) (mSeq (mFor i__law_row_1 (gN 3) b__law_row_1) (mRet (mCallW qTup 2))))
def S__law_row : Sem' := fnR N__law_row.length m__law_row
theorem sc__law_row : FnScope N__law_row ["urn", "most"] (defScope (top 37)) := C8.fnScope_by (by decide +kernel)
theorem bp__law_row : BindsP (defArgs (top 37)) ["urn", "most"] := fun _ _ _ _ _ _ _ _ _ _ us hl => match us, hl with | [u0, u1], _ => rfl
theorem fn__law_row (c : Fc K mg base T) : Fun P w K mg base T 4 "_law_row" (defArgs (top 37)) ["urn", "most"] 3 S__law_row := by
  refine fun_of (d := d__law_row) (k := 2) (c.c.def_ 3 (d := d__law_row) rfl) (q__law_row c) rfl sc__law_row ?_
  intro f cdv A outer s H E G hr hg hT hK hnf hcode
  have C : Ctx (cxOf (L2.CX P w) P w K mg base N__law_row "_law_row" (defScope (top 37)) f cdv A outer s H E) G (fun cls d _ H => E cls d H) 2 := ctx_fn hr hg
  have hnd := sc__law_row.nd
  have h__law_of := (fn__law_of (P := P) (w := w) c).to hT hK
  have h__law_take := (fn__law_take (P := P) (w := w) c).to hT hK
  exact (DSs.cons (DS.setF (i := 2) hnd rfl (.inr rfl) (.inl rfl) (DF.lst DA.nil)) (DSs.cons (DS.for own_fn rfl (DI.range1 rfl (q_range c) (DA.cons (DE.bin od_add DE.int (DE.ofV (DV.call h__law_take bp__law_take C (by decide) rfl (DR.ref (i := 0) rfl (.inl rfl) (DR.cons (DE.var (i := 1) rfl (.inl rfl)) DR.nil))))) DA.nil)) (DG.name hnd rfl (.inl rfl) (.inl rfl)) (DSs.cons (DS.set (i := 4) hnd rfl (.inr rfl) (.inl rfl) (DE.ofV (DV.call h__law_of bp__law_of C (by decide) rfl (DR.ref (i := 0) rfl (.inl rfl) (DR.cons (DE.ofF (DF.lst (DA.cons (DE.ofV (DV.call h__law_take bp__law_take C (by decide) rfl (DR.ref (i := 0) rfl (.inl rfl) (DR.cons DE.int DR.nil)))) (DA.cons (DE.ofV (DV.call h__law_take bp__law_take C (by decide) rfl (DR.ref (i := 0) rfl (.inl rfl) (DR.cons DE.int DR.nil)))) (DA.cons DE.int (DA.cons DE.int DA.nil)))))) DR.nil))))) (DSs.cons (DS.setLc (i := 5) (own := [("each", 6)]) rfl hnd rfl rfl rfl (DI.range1 rfl (q_range c) (DA.cons DE.int DA.nil)) (blkOk_by (by kernel_rfl)) (by decide) (fun _ _ _ _ _ => (DG.name hnd rfl (.inl rfl) (.inr rfl))) (fun _ _ _ _ _ => (DTs.one (DW.dt (DW.and (DT.notInW (Ctx.u65 (Ctx.blk C)) (i := 2) rfl (.inr (.inl rfl)) (DE.var (i := 6) rfl (.inl rfl)) rfl) (DW.and1 (DT.cmp od_ge (DE.var (i := 6) rfl (.inl rfl)) (DE.var (i := 4) rfl (.inr (.inl rfl))) (nobehind _ (by decide) (by decide)))))))) (fun _ _ _ _ _ => (DE.var (i := 6) rfl (.inl rfl)))) (DSs.one (DS.expr (DE.app (i := 2) rfl (.inr (.inl rfl)) (DE.ix (DE.bin od_add (DE.var (i := 5) rfl (.inl rfl)) (DE.ofF (DF.lc (own := [("each", 6)]) rfl hnd (DI.range1 rfl (q_range c) (DA.cons DE.int DA.nil)) (blkOk_by (by kernel_rfl)) (by decide) (fun _ _ _ _ _ => (DG.name hnd rfl (.inl rfl) (.inr rfl))) (fun _ _ _ _ _ => (DTs.one (DT.notInW (Ctx.u65 (Ctx.blk C)) (i := 2) rfl (.inr (.inl rfl)) (DE.var (i := 6) rfl (.inl rfl)) rfl))) (fun _ _ _ _ _ => (DE.var (i := 6) rfl (.inl rfl)))))) DE.int (fun _ _ => rfl)))))))) (DSs.one (DS.ret (DE.callTyw (i := 2) lw_tuple rfl (q_tuple c) (by decide +kernel) rfl (.inr (.inl rfl)))))))
def N_is_whole : List Str := ["value"]
def m_is_whole : MS := (mRet (mAnd (mUn (pIsi "int") (mVar 0)) (mNot (mUn (pIsi "bool") (mVar 0)))))
def S_is_whole : Sem' := fnR N_is_whole.length m_is_whole
theorem sc_is_whole : FnScope N_is_whole ["value"] (defScope (top 5)) := C8.fnScope_by (by decide +kernel)
theorem bp_is_whole : BindsP (defArgs (top 5)) ["value"] := fun _ _ _ _ _ _ _ _ _ _ us hl => match us, hl with | [u0], _ => rfl
theorem fn_is_whole (c : Fc K mg base T) : Fun P w K mg base T 4 "is_whole" (defArgs (top 5)) ["value"] 1 S_is_whole := by
  refine fun_of (d := d_is_whole) (k := 0) (c.c.def_ 4 (d := d_is_whole) rfl) (q_is_whole c) rfl sc_is_whole ?_
  intro f cdv A outer s H E G hr hg hT hK hnf hcode
  have C : Ctx (cxOf (L2.CX P w) P w K mg base N_is_whole "is_whole" (defScope (top 5)) f cdv A outer s H E) G (fun cls d _ H => E cls d H) 0 := ctx_fn hr hg
  have hnd := sc_is_whole.nd
  exact (DSs.one (DS.ret (DE.and (DE.isi rfl (q_isinstance c) rfl (q_int c) (by decide +kernel) (DE.var (i := 0) rfl (.inl rfl))) (DE.one (DE.not (DE.isi rfl (q_isinstance c) rfl (q_bool c) (by decide +kernel) (DE.var (i := 0) rfl (.inl rfl))))))))
def N_is_number : List Str := ["value", "low", "high"]
def m_is_number : MS := (mSeq (mIf (mOrT (mNotT (mTru (mVD (mUser S_is_whole (mAC (mVar 0) mAN))))) (mAndT (mBl (mBin pNotN (mVar 1) (.ret .none))) (mBl (mBin pLt (mVar 0) (mVar 1))))) (mRet (.ret (.bool false))) (.ret .nx)) (mRet (mOr (mBin pIsN (mVar 2) (.ret .none)) (mBin pLe (mVar 0) (mVar 2)))))
def S_is_number : Sem' := fnR N_is_number.length m_is_number
theorem sc_is_number : FnScope N_is_number ["value", "low", "high"] (defScope (top 6)) := C8.fnScope_by (by decide +kernel)
theorem bp_is_number : BindsP (defArgs (top 6)) ["value", "low", "high"] := fun _ _ _ _ _ _ _ _ _ _ us hl => match us, hl with | [u0, u1, u2], _ => rfl
theorem fn_is_number (c : Fc K mg base T) : Fun P w K mg base T 4 "is_number" (defArgs (top 6)) ["value", "low", "high"] 2 S_is_number := by
  refine fun_of (d := d_is_number) (k := 1) (c.c.def_ 5 (d := d_is_number) rfl) (q_is_number c) rfl sc_is_number ?_
  intro f cdv A outer s H E G hr hg hT hK hnf hcode
  have C : Ctx (cxOf (L2.CX P w) P w K mg base N_is_number "is_number" (defScope (top 6)) f cdv A outer s H E) G (fun cls d _ H => E cls d H) 1 := ctx_fn hr hg
  have hnd := sc_is_number.nd
  have h_is_whole := (fn_is_whole (P := P) (w := w) c).to hT hK
  exact (DSs.cons (DS.if (DW.dt (DW.or (DT.not (DT.val (DE.ofV (DV.call h_is_whole bp_is_whole C (by decide) rfl (DR.cons (DE.var (i := 0) rfl (.inl rfl)) DR.nil))))) (DW.or1 (DW.dt (DW.and (DT.cmp od_notN (DE.var (i := 1) rfl (.inl rfl)) DE.non (nobehind _ (by decide) (by decide))) (DW.and1 (DT.cmp od_lt (DE.var (i := 0) rfl (.inl rfl)) (DE.var (i := 1) rfl (.inl rfl)) (nobehind _ (by decide) (by decide))))))))) (DSs.one (DS.ret DE.bl)) DSs.nil) (DSs.one (DS.ret (DE.or (DE.cmp od_isN (DE.var (i := 2) rfl (.inl rfl)) DE.non (nobehind _ (by decide) (by decide))) (DE.one (DE.cmp od_le (DE.var (i := 0) rfl (.inl rfl)) (DE.var (i := 2) rfl (.inl rfl)) (nobehind _ (by decide) (by decide))))))))
def N_is_height : List Str := ["value"]
def m_is_height : MS := (mRet (mVD (mUser S_is_number (mAC (mVar 0) (mAC (.ret (.int 0)) (mAC (.ret (.int 999)) mAN))))))
def S_is_height : Sem' := fnR N_is_height.length m_is_height
theorem sc_is_height : FnScope N_is_height ["value"] (defScope (top 15)) := C8.fnScope_by (by decide +kernel)
theorem bp_is_height : BindsP (defArgs (top 15)) ["value"] := fun _ _ _ _ _ _ _ _ _ _ us hl => match us, hl with | [u0], _ => rfl
theorem fn_is_height (c : Fc K mg base T) : Fun P w K mg base T 4 "is_height" (defArgs (top 15)) ["value"] 3 S_is_height := by
  refine fun_of (d := d_is_height) (k := 2) (c.c.def_ 6 (d := d_is_height) rfl) (q_is_height c) rfl sc_is_height ?_
  intro f cdv A outer s H E G hr hg hT hK hnf hcode
  have C : Ctx (cxOf (L2.CX P w) P w K mg base N_is_height "is_height" (defScope (top 15)) f cdv A outer s H E) G (fun cls d _ H => E cls d H) 2 := ctx_fn hr hg
  have hnd := sc_is_height.nd
  have h_is_number := (fn_is_number (P := P) (w := w) c).to hT hK
  obtain ⟨tk_MOST_HEIGHT, hc_MOST_HEIGHT⟩ := q_MOST_HEIGHT c
  exact (DSs.one (DS.ret (DE.ofV (DV.call h_is_number bp_is_number C (by decide) rfl (DR.cons (DE.var (i := 0) rfl (.inl rfl)) (DR.cons DE.int (DR.cons (DE.glob (v := .int 999) rfl hc_MOST_HEIGHT ⟨_, rfl⟩ (fun _ => .int _)) DR.nil)))))))
def i_wrong_at_1 : M (List D) := (mCallF pEnum (mCons (mVar 0) mNil))
def b_wrong_at_1 : MS := (mIf (mNotT (mTru (mCallV 1 (mCons (mVar 3) (mCons (mSl (mVar 0) mPartN (mPart (mVar 2))) mNil))))) (mRet (mL (mLst (mCons (mVar 2) mNil)))) (.ret .nx))
def N_wrong_at : List Str := ["value", "is_right", "at", "each"]
def m_wrong_at : MS := (mSeq (mIf (mNotT (mTru (mUn (pIsi "tuple") (mVar 0)))) (mRet (mL (mLst (mCons (.ret .none) mNil)))) (.ret .nx)) (mSeq (mFor i_wrong_at_1 (gT 2 (gsC (gN 2) (gsC (gN 3) gsN))) b_wrong_at_1) (mRet (mL (mLst mNil)))))
def S_wrong_at : Sem' := fnR N_wrong_at.length m_wrong_at
theorem sc_wrong_at : FnScope N_wrong_at ["value", "is_right"] (defScope (top 7)) := C8.fnScope_by (by decide +kernel)
theorem bp_wrong_at : BindsP (defArgs (top 7)) ["value", "is_right"] := fun _ _ _ _ _ _ _ _ _ _ us hl => match us, hl with | [u0, u1], _ => rfl
theorem fn_wrong_at (c : Fc K mg base T) : Fun P w K mg base T 4 "wrong_at" (defArgs (top 7)) ["value", "is_right"] 5 S_wrong_at := by
  refine fun_of (d := d_wrong_at) (k := 4) (c.c.def_ 7 (d := d_wrong_at) rfl) (q_wrong_at c) rfl sc_wrong_at ?_
  intro f cdv A outer s H E G hr hg hT hK hnf hcode
  have C : Ctx (cxOf (L2.CX P w) P w K mg base N_wrong_at "wrong_at" (defScope (top 7)) f cdv A outer s H E) G (fun cls d _ H => E cls d H) 4 := ctx_fn hr hg
  have hnd := sc_wrong_at.nd
  have hkf : G.k ≤ 4 := by rw [hK]; decide
  exact (DSs.cons (DS.if (DT.not (DT.val (DE.isi rfl (q_isinstance c) rfl (q_tuple c) (by decide +kernel) (DE.var (i := 0) rfl (.inl rfl))))) (DSs.one (DS.ret (DE.ofF (DF.lst (DA.cons DE.non DA.nil))))) DSs.nil) (DSs.cons (DS.for own_fn rfl (DI.enum rfl (q_enumerate c) (DA.cons (DE.var (i := 0) rfl (.inl rfl)) DA.nil)) (DG.tup rfl (DGs.cons (DG.name hnd rfl (.inl rfl) (.inl rfl)) (DGs.cons (DG.name hnd rfl (.inl rfl) (.inl rfl)) DGs.nil))) (DSs.one (DS.if (DT.not (DT.val (DE.callFn (i := 1) rfl (.inl rfl) C hkf (DA.cons (DE.var (i := 3) rfl (.inl rfl)) (DA.cons (DE.sl (DE.var (i := 0) rfl (.inl rfl)) DO'.no (DO'.at (DE.var (i := 2) rfl (.inl rfl)))) DA.nil))))) (DSs.one (DS.ret (DE.ofF (DF.lst (DA.cons (DE.var (i := 2) rfl (.inl rfl)) DA.nil))))) DSs.nil))) (DSs.one (DS.ret (DE.ofF (DF.lst DA.nil))))))
def N_wrong_or_none : List Str := ["value", "is_right"]
def m_wrong_or_none : MS := (mRet (mIfE (mAndT (mTru (mUn (pIsi "tuple") (mVar 0))) (mBl (mBin pEq (mVar 0) (mTup mNil)))) (mL (mLst (mCons (.ret .none) mNil))) (mVD (mUser S_wrong_at (mAC (mVar 0) (mRef 1 mAN))))))
def S_wrong_or_none : Sem' := fnR N_wrong_or_none.length m_wrong_or_none
theorem sc_wrong_or_none : FnScope N_wrong_or_none ["value", "is_right"] (defScope (top 8)) := C8.fnScope_by (by decide +kernel)
theorem bp_wrong_or_none : BindsP (defArgs (top 8)) ["value", "is_right"] := fun _ _ _ _ _ _ _ _ _ _ us hl => match us, hl with | [u0, u1], _ => rfl
theorem fn_wrong_or_none (c : Fc K mg base T) : Fun P w K mg base T 4 "wrong_or_none" (defArgs (top 8)) ["value", "is_right"] 6 S_wrong_or_none := by
  refine fun_of (d := d_wrong_or_none) (k := 5) (c.c.def_ 8 (d := d_wrong_or_none) rfl) (q_wrong_or_none c) rfl sc_wrong_or_none ?_
  intro f cdv A outer s H E G hr hg hT hK hnf hcode
  have C : Ctx (cxOf (L2.CX P w) P w K mg base N_wrong_or_none "wrong_or_none" (defScope (top 8)) f cdv A outer s H E) G (fun cls d _ H => E cls d H) 5 := ctx_fn hr hg
  have hnd := sc_wrong_or_none.nd
  have h_wrong_at := (fn_wrong_at (P := P) (w := w) c).to hT hK
  exact (DSs.one (DS.ret (DE.ifE (DW.dt (DW.and (DT.val (DE.isi rfl (q_isinstance c) rfl (q_tuple c) (by decide +kernel) (DE.var (i := 0) rfl (.inl rfl)))) (DW.and1 (DT.cmp (od_eq (Ctx.u64 C)) (DE.var (i := 0) rfl (.inl rfl)) (DE.tup DA.nil) (nobehind _ (by decide) (by decide)))))) (DE.ofF (DF.lst (DA.cons DE.non DA.nil))) (DE.ofV (DV.call h_wrong_at bp_wrong_at C (by decide) rfl (DR.cons (DE.var (i := 0) rfl (.inl rfl)) (DR.ref (i := 1) rfl (.inl rfl) DR.nil)))))))
def N_wrong_row__is_right : List Str := ["each", "before"]
def m_wrong_row__is_right : MS := (mRet (mAnd (mBin pLt (mCall pLen (mCons (mVar 1) mNil)) (.ret (.int 12))) (mAnd (mVD (mUser S_is_height (mAC (mVar 0) mAN))) (mBin pNotIn (mVar 0) (mVar 1)))))
theorem nb_wrong_row__is_right (c : Fc K mg base T) {f c2 : Addr} {cl : List (Str × Addr)} {A : Around} {outer : List Env} {s : Shared} {H : Hp} {E : XK} {G : Gh} (hr : Room 3 (A.deeper (envF (NF.of ((defBody (top 16)).getD 0 (.Pass ⟨0, 0, 0, 0⟩)) "is_right" "wrong_row.<locals>.is_right" cl c2) f s.heap.objs.size))) (hg : A.guards = some []) (hT : G.T = T) (hK : G.k = 4) (hnf : G.nf = false) : DSs (ncx (L2.CX P w) P w K mg base N_wrong_row__is_right (NF.of ((defBody (top 16)).getD 0 (.Pass ⟨0, 0, 0, 0⟩)) "is_right" "wrong_row.<locals>.is_right" cl c2) f A outer s H E) G (fun cls d _ H => E cls d H) (C8.fnBody ((defBody (top 16)).getD 0 (.Pass ⟨0, 0, 0, 0⟩))) m_wrong_row__is_right := by
  have Cn : Ctx (ncx (L2.CX P w) P w K mg base N_wrong_row__is_right (NF.of ((defBody (top 16)).getD 0 (.Pass ⟨0, 0, 0, 0⟩)) "is_right" "wrong_row.<locals>.is_right" cl c2) f A outer s H E) G (fun cls d _ H => E cls d H) 3 := ctx_nest hr hg
  have hnd : N_wrong_row__is_right.Nodup := by decide +kernel
  have h_is_height := (fn_is_height (P := P) (w := w) c).to hT hK
  obtain ⟨tk_MOST_PERSONS, hc_MOST_PERSONS⟩ := q_MOST_PERSONS c
  exact (DSs.one (DS.ret (DE.and (DE.cmp od_lt (DE.callB cd_len rfl (q_len c) (by decide +kernel) (DA.cons (DE.var (i := 1) rfl (.inl rfl)) DA.nil)) (DE.glob (v := .int 12) rfl hc_MOST_PERSONS ⟨_, rfl⟩ (fun _ => .int _)) (nobehind _ (by decide) (by decide))) (DE.and (DE.ofV (DV.call h_is_height bp_is_height Cn (by decide) rfl (DR.cons (DE.var (i := 0) rfl (.inl rfl)) DR.nil))) (DE.one (DE.cmp (od_notIn (Ctx.u65 Cn)) (DE.var (i := 0) rfl (.inl rfl)) (DE.var (i := 1) rfl (.inl rfl)) rfl))))))
def N_wrong_row : List Str := ["value", "is_right"]
def m_wrong_row : MS := (mSeq (put 1 (.clo [] (nestR N_wrong_row__is_right.length 2 m_wrong_row__is_right))) (mRet (mVD (mUser S_wrong_or_none (mAC (mVar 0) (mRef 1 mAN))))))
def S_wrong_row : Sem' := fnR N_wrong_row.length m_wrong_row
theorem sc_wrong_row : FnScope N_wrong_row ["value"] (defScope (top 16)) := C8.fnScope_by (by decide +kernel)
theorem bp_wrong_row : BindsP (defArgs (top 16)) ["value"] := fun _ _ _ _ _ _ _ _ _ _ us hl => match us, hl with | [u0], _ => rfl
theorem fn_wrong_row (c : Fc K mg base T) : Fun P w K mg base T 4 "wrong_row" (defArgs (top 16)) ["value"] 7 S_wrong_row := by
  refine fun_of (d := d_wrong_row) (k := 6) (c.c.def_ 9 (d := d_wrong_row) rfl) (q_wrong_row c) rfl sc_wrong_row ?_
  intro f cdv A outer s H E G hr hg hT hK hnf hcode
  have C : Ctx (cxOf (L2.CX P w) P w K mg base N_wrong_row "wrong_row" (defScope (top 16)) f cdv A outer s H E) G (fun cls d _ H => E cls d H) 6 := ctx_fn hr hg
  have hnd := sc_wrong_row.nd
  have h_is_height := (fn_is_height (P := P) (w := w) c).to hT hK
  have h_wrong_or_none := (fn_wrong_or_none (P := P) (w := w) c).to hT hK
  obtain ⟨tk_MOST_PERSONS, hc_MOST_PERSONS⟩ := q_MOST_PERSONS c
  exact (DSs.cons (DS.ndef (i := 1) (k := 3) (N := N_wrong_row__is_right) (ps := ["each", "before"]) (fr := []) (js := []) (m := m_wrong_row__is_right) rfl (c.TB _ tm_wrong_row) hcode (by rw [hT, c.hT]; exact List.mem_map.mpr ⟨tq_wrong_row, tqm_wrong_row, rfl⟩) rfl (by rw [hT, c.hT]; exact tabs_u c.nd tqm_wrong_row) rfl rfl rfl hnd rfl (.inl rfl) (.inl rfl) (nscope_by (by decide +kernel)) (fun _ _ _ _ _ us hl => match us, hl with | [u0, u1], _ => rfl) (by kernel_rfl) rfl (by rw [hK]; decide) hnf (fun f c2 cl A outer s H E G2 hr2 hg2 hT2 hK2 hnf2 => nb_wrong_row__is_right c hr2 hg2 (hT2.trans hT) (hK2.trans hK) hnf2)) (DSs.one (DS.ret (DE.ofV (DV.call h_wrong_or_none bp_wrong_or_none C (by decide) rfl (DR.cons (DE.var (i := 0) rfl (.inl rfl)) (DR.ref (i := 1) rfl (.inl rfl) DR.nil)))))))
def i_check_row_1 : M (List D) := (mItems (mVD (mUser S_wrong_row (mAC (mVar 0) mAN))))
def b_check_row_1 : MS := .fail
def N_check_row : List Str := ["value", "at"]
def m_check_row : MS := (mFor i_check_row_1 (gN 1) b_check_row_1)
def S_check_row : Sem' := fnR N_check_row.length m_check_row
theorem sc_check_row : FnScope N_check_row ["value"] (defScope (top 23)) := C8.fnScope_by (by decide +kernel)
theorem bp_check_row : BindsP (defArgs (top 23)) ["value"] := fun _ _ _ _ _ _ _ _ _ _ us hl => match us, hl with | [u0], _ => rfl
theorem fn_check_row (c : Fc K mg base T) : Fun P w K mg base T 4 "check_row" (defArgs (top 23)) ["value"] 8 S_check_row := by
  refine fun_of (d := d_check_row) (k := 7) (c.c.def_ 10 (d := d_check_row) rfl) (q_check_row c) rfl sc_check_row ?_
  intro f cdv A outer s H E G hr hg hT hK hnf hcode
  have C : Ctx (cxOf (L2.CX P w) P w K mg base N_check_row "check_row" (defScope (top 23)) f cdv A outer s H E) G (fun cls d _ H => E cls d H) 7 := ctx_fn hr hg
  have hnd := sc_check_row.nd
  have h_wrong_row := (fn_wrong_row (P := P) (w := w) c).to hT hK
  exact (DSs.one (DS.for own_fn rfl (DI.seq rfl (DE.ofV (DV.call h_wrong_row bp_wrong_row C (by decide) rfl (DR.cons (DE.var (i := 0) rfl (.inl rfl)) DR.nil)))) (DG.name hnd rfl (.inl rfl) (.inl rfl)) (DSs.one ⟨PS.imp ps_never fun _ _ _ ⟨_, _, _, h⟩ => h⟩)))
def c_pairs_of_all_1 : M (List D) := (mLc2 (mCallF pRng1 (mCons (mVar 0) mNil)) [1, 2] (gN 1) (.ret true) (mCallF pRng2 (mCons (mBin pAdd (mVar 1) (.ret (.int 1))) (mCons (mVar 0) mNil))) [2] (gN 2) (.ret true) (mTup (mCons (mVar 1) (mCons (mVar 2) mNil))))
def N_pairs_of_all : List Str := ["many", "one", "two"]
def m_pairs_of_all : MS := (mRet (mL c_pairs_of_all_1))
def S_pairs_of_all : Sem' := fnR N_pairs_of_all.length m_pairs_of_all
theorem sc_pairs_of_all : FnScope N_pairs_of_all ["many"] (defScope (top 19)) := C8.fnScope_by (by decide +kernel)
theorem bp_pairs_of_all : BindsP (defArgs (top 19)) ["many"] := fun _ _ _ _ _ _ _ _ _ _ us hl => match us, hl with | [u0], _ => rfl
theorem fn_pairs_of_all (c : Fc K mg base T) : Fun P w K mg base T 4 "pairs_of_all" (defArgs (top 19)) ["many"] 1 S_pairs_of_all := by
  refine fun_of (d := d_pairs_of_all) (k := 0) (c.c.def_ 11 (d := d_pairs_of_all) rfl) (q_pairs_of_all c) rfl sc_pairs_of_all ?_
  intro f cdv A outer s H E G hr hg hT hK hnf hcode
  have C : Ctx (cxOf (L2.CX P w) P w K mg base N_pairs_of_all "pairs_of_all" (defScope (top 19)) f cdv A outer s H E) G (fun cls d _ H => E cls d H) 0 := ctx_fn hr hg
  have hnd := sc_pairs_of_all.nd
  exact (DSs.one (DS.ret (DE.ofF (DF.lc2 (own := [("one", 1), ("two", 2)]) (vs1 := [2]) rfl hnd (DI.range1 rfl (q_range c) (DA.cons (DE.var (i := 0) rfl (.inr (.inl rfl))) DA.nil)) (blkOk_by (by kernel_rfl)) (by decide) (by decide) (by decide) (fun _ _ _ _ _ => (DG.name hnd rfl (.inl rfl) (.inr rfl))) (fun _ _ _ _ _ => DTs.nil) (fun _ _ _ _ _ => (DI.range2 rfl (q_range c) (DA.cons (DE.bin od_add (DE.var (i := 1) rfl (.inl rfl)) DE.int) (DA.cons (DE.var (i := 0) rfl (.inr (.inl rfl))) DA.nil)))) (fun _ _ _ _ _ => (DG.name hnd rfl (.inl rfl) (.inr rfl))) (fun _ _ _ _ _ => DTs.nil) (fun _ _ _ _ _ => (DE.tup (DA.cons (DE.var (i := 1) rfl (.inl rfl)) (DA.cons (DE.var (i := 2) rfl (.inl rfl)) DA.nil))))))))
def c_bars_between_1 : M (List D) := (mLc (mCallF pRng2 (mCons (mBin pAdd (mVar 1) (.ret (.int 1))) (mCons (mVar 2) mNil))) [4] (gN 4) (mBl (mBin pGe (mBin pIx (mVar 0) (mVar 4)) (mVar 3))) (mVar 4))
def N_bars_between : List Str := ["row", "one", "two", "lower", "person"]
def m_bars_between : MS := (mSeq (mSet 3 (mCall pMin2 (mCons (mBin pIx (mVar 0) (mVar 1)) (mCons (mBin pIx (mVar 0) (mVar 2)) mNil)))) (mRet (mL c_bars_between_1)))
def S_bars_between : Sem' := fnR N_bars_between.length m_bars_between
theorem sc_bars_between : FnScope N_bars_between ["row", "one", "two"] (defScope (top 17)) := C8.fnScope_by (by decide +kernel)
theorem bp_bars_between : BindsP (defArgs (top 17)) ["row", "one", "two"] := fun _ _ _ _ _ _ _ _ _ _ us hl => match us, hl with | [u0, u1, u2], _ => rfl
theorem fn_bars_between (c : Fc K mg base T) : Fun P w K mg base T 4 "bars_between" (defArgs (top 17)) ["row", "one", "two"] 1 S_bars_between := by
  refine fun_of (d := d_bars_between) (k := 0) (c.c.def_ 12 (d := d_bars_between) rfl) (q_bars_between c) rfl sc_bars_between ?_
  intro f cdv A outer s H E G hr hg hT hK hnf hcode
  have C : Ctx (cxOf (L2.CX P w) P w K mg base N_bars_between "bars_between" (defScope (top 17)) f cdv A outer s H E) G (fun cls d _ H => E cls d H) 0 := ctx_fn hr hg
  have hnd := sc_bars_between.nd
  exact (DSs.cons (DS.set (i := 3) hnd rfl (.inr rfl) (.inl rfl) (DE.callB (cd_min2 rfl) rfl (q_min c) (by decide +kernel) (DA.cons (DE.ix (DE.var (i := 0) rfl (.inr (.inl rfl))) (DE.var (i := 1) rfl (.inl rfl)) (fun _ _ => rfl)) (DA.cons (DE.ix (DE.var (i := 0) rfl (.inr (.inl rfl))) (DE.var (i := 2) rfl (.inl rfl)) (fun _ _ => rfl)) DA.nil)))) (DSs.one (DS.ret (DE.ofF (DF.lc (own := [("person", 4)]) rfl hnd (DI.range2 rfl (q_range c) (DA.cons (DE.bin od_add (DE.var (i := 1) rfl (.inl rfl)) DE.int) (DA.cons (DE.var (i := 2) rfl (.inl rfl)) DA.nil))) (blkOk_by (by kernel_rfl)) (by decide) (fun _ _ _ _ _ => (DG.name hnd rfl (.inl rfl) (.inr rfl))) (fun _ _ _ _ _ => (DTs.one (DT.cmp od_ge (DE.ix (DE.var (i := 0) rfl (.inr (.inl rfl))) (DE.var (i := 4) rfl (.inl rfl)) (fun _ _ => rfl)) (DE.var (i := 3) rfl (.inr (.inl rfl))) (nobehind _ (by decide) (by decide))))) (fun _ _ _ _ _ => (DE.var (i := 4) rfl (.inl rfl))))))))
def N_do_see_in : List Str := ["row", "one", "two"]
def m_do_see_in : MS := (mRet (mBin pEq (mVD (mUser S_bars_between (mAC (mVar 0) (mAC (mVar 1) (mAC (mVar 2) mAN))))) (mL (mLst mNil))))
def S_do_see_in : Sem' := fnR N_do_see_in.length m_do_see_in
theorem sc_do_see_in : FnScope N_do_see_in ["row", "one", "two"] (defScope (top 18)) := C8.fnScope_by (by decide +kernel)
theorem bp_do_see_in : BindsP (defArgs (top 18)) ["row", "one", "two"] := fun _ _ _ _ _ _ _ _ _ _ us hl => match us, hl with | [u0, u1, u2], _ => rfl
theorem fn_do_see_in (c : Fc K mg base T) : Fun P w K mg base T 4 "do_see_in" (defArgs (top 18)) ["row", "one", "two"] 2 S_do_see_in := by
  refine fun_of (d := d_do_see_in) (k := 1) (c.c.def_ 13 (d := d_do_see_in) rfl) (q_do_see_in c) rfl sc_do_see_in ?_
  intro f cdv A outer s H E G hr hg hT hK hnf hcode
  have C : Ctx (cxOf (L2.CX P w) P w K mg base N_do_see_in "do_see_in" (defScope (top 18)) f cdv A outer s H E) G (fun cls d _ H => E cls d H) 1 := ctx_fn hr hg
  have hnd := sc_do_see_in.nd
  have h_bars_between := (fn_bars_between (P := P) (w := w) c).to hT hK
  exact (DSs.one (DS.ret (DE.cmp (od_eq (Ctx.u64 C)) (DE.ofV (DV.call h_bars_between bp_bars_between C (by decide) rfl (DR.cons (DE.var (i := 0) rfl (.inl rfl)) (DR.cons (DE.var (i := 1) rfl (.inl rfl)) (DR.cons (DE.var (i := 2) rfl (.inl rfl)) DR.nil))))) (DE.ofF (DF.lst DA.nil)) (nobehind _ (by decide) (by decide)))))
def c_sights_of_1 : M (List D) := (mLc (mItems (mVD (mUser S_pairs_of_all (mAC (mCall pLen (mCons (mVar 0) mNil)) mAN)))) [1] (gN 1) (mTru (mVD (mUser S_do_see_in (mAC (mVar 0) (mAC (mBin pIx (mVar 1) (.ret (.int 0))) (mAC (mBin pIx (mVar 1) (.ret (.int 1))) mAN)))))) (mVar 1))
def N_sights_of : List Str := ["row", "pair"]
def m_sights_of : MS := (mRet (mCall (one1 qTup qTup) (mCons (mL c_sights_of_1) mNil)))
def S_sights_of : Sem' := fnR N_sights_of.length m_sights_of
theorem sc_sights_of : FnScope N_sights_of ["row"] (defScope (top 20)) := C8.fnScope_by (by decide +kernel)
theorem bp_sights_of : BindsP (defArgs (top 20)) ["row"] := fun _ _ _ _ _ _ _ _ _ _ us hl => match us, hl with | [u0], _ => rfl
theorem fn_sights_of (c : Fc K mg base T) : Fun P w K mg base T 4 "sights_of" (defArgs (top 20)) ["row"] 3 S_sights_of := by
  refine fun_of (d := d_sights_of) (k := 2) (c.c.def_ 14 (d := d_sights_of) rfl) (q_sights_of c) rfl sc_sights_of ?_
  intro f cdv A outer s H E G hr hg hT hK hnf hcode
  have C : Ctx (cxOf (L2.CX P w) P w K mg base N_sights_of "sights_of" (defScope (top 20)) f cdv A outer s H E) G (fun cls d _ H => E cls d H) 2 := ctx_fn hr hg
  have hnd := sc_sights_of.nd
  have h_pairs_of_all := (fn_pairs_of_all (P := P) (w := w) c).to hT hK
  have h_do_see_in := (fn_do_see_in (P := P) (w := w) c).to hT hK
  exact (DSs.one (DS.ret (DE.callTy (CallD.of lw_tuple tw_tuple) rfl (q_tuple c) (by decide +kernel) (DA.cons (DE.ofF (DF.lc (own := [("pair", 1)]) rfl hnd (DI.seq rfl (DE.ofV (DV.call h_pairs_of_all bp_pairs_of_all C (by decide) rfl (DR.cons (DE.callB cd_len rfl (q_len c) (by decide +kernel) (DA.cons (DE.var (i := 0) rfl (.inr (.inl rfl))) DA.nil)) DR.nil)))) (blkOk_by (by kernel_rfl)) (by decide) (fun _ _ _ _ _ => (DG.name hnd rfl (.inl rfl) (.inr rfl))) (fun _ _ _ _ _ => (DTs.one (DT.val (DE.ofV (DV.call h_do_see_in bp_do_see_in (Ctx.blk C) (by decide) rfl (DR.cons (DE.var (i := 0) rfl (.inr (.inl rfl))) (DR.cons (DE.ix (DE.var (i := 1) rfl (.inl rfl)) DE.int (fun _ _ => rfl)) (DR.cons (DE.ix (DE.var (i := 1) rfl (.inl rfl)) DE.int (fun _ _ => rfl)) DR.nil)))))))) (fun _ _ _ _ _ => (DE.var (i := 1) rfl (.inl rfl))))) DA.nil))))
def c_seen_from_1 : M (List D) := (mLc (mItems (mVar 0)) [2, 3] (gT 2 (gsC (gN 2) (gsC (gN 3) gsN))) (mBl (mBin pIn (mVar 1) (mTup (mCons (mVar 2) (mCons (mVar 3) mNil))))) (mBin pSub (mBin pAdd (mVar 2) (mVar 3)) (mVar 1)))
def N_seen_from : List Str := ["pairs", "person", "one", "two"]
def m_seen_from : MS := (mRet (mCall (one1 qTup qTup) (mCons (mL (mCallF (one1 qSort qSort) (mCons (mL c_seen_from_1) mNil))) mNil)))
def S_seen_from : Sem' := fnR N_seen_from.length m_seen_from
theorem sc_seen_from : FnScope N_seen_from ["pairs", "person"] (defScope (top 21)) := C8.fnScope_by (by decide +kernel)
theorem bp_seen_from : BindsP (defArgs (top 21)) ["pairs", "person"] := fun _ _ _ _ _ _ _ _ _ _ us hl => match us, hl with | [u0, u1], _ => rfl
theorem fn_seen_from (c : Fc K mg base T) : Fun P w K mg base T 4 "seen_from" (defArgs (top 21)) ["pairs", "person"] 1 S_seen_from := by
  refine fun_of (d := d_seen_from) (k := 0) (c.c.def_ 15 (d := d_seen_from) rfl) (q_seen_from c) rfl sc_seen_from ?_
  intro f cdv A outer s H E G hr hg hT hK hnf hcode
  have C : Ctx (cxOf (L2.CX P w) P w K mg base N_seen_from "seen_from" (defScope (top 21)) f cdv A outer s H E) G (fun cls d _ H => E cls d H) 0 := ctx_fn hr hg
  have hnd := sc_seen_from.nd
  exact (DSs.one (DS.ret (DE.callTy (CallD.of lw_tuple tw_tuple) rfl (q_tuple c) (by decide +kernel) (DA.cons (DE.ofF (DF.callB (CallF.of (lf_sorted (Ctx.u64 C)) (tf_sorted (Ctx.u64 C))) rfl (q_sorted c) (by decide +kernel) (DA.cons (DE.ofF (DF.lc (own := [("one", 2), ("two", 3)]) rfl hnd (DI.seq rfl (DE.var (i := 0) rfl (.inl rfl))) (blkOk_by (by kernel_rfl)) (by decide) (fun _ _ _ _ _ => (DG.tup rfl (DGs.cons (DG.name hnd rfl (.inl rfl) (.inr rfl)) (DGs.cons (DG.name hnd rfl (.inl rfl) (.inr rfl)) DGs.nil)))) (fun _ _ _ _ _ => (DTs.one (DT.cmp (od_in (Ctx.u65 (Ctx.blk C))) (DE.var (i := 1) rfl (.inr (.inl rfl))) (DE.tup (DA.cons (DE.var (i := 2) rfl (.inl rfl)) (DA.cons (DE.var (i := 3) rfl (.inl rfl)) DA.nil))) rfl))) (fun _ _ _ _ _ => (DE.bin od_sub (DE.bin od_add (DE.var (i := 2) rfl (.inl rfl)) (DE.var (i := 3) rfl (.inl rfl))) (DE.var (i := 1) rfl (.inr (.inl rfl))))))) DA.nil))) DA.nil))))
def c_seen_by_all_1 : M (List D) := (mLc (mCallF pRng1 (mCons (mCall pLen (mCons (mVar 0) mNil)) mNil)) [2] (gN 2) (.ret true) (mVD (mUser S_seen_from (mAC (mVar 1) (mAC (mVar 2) mAN)))))
def N_seen_by_all : List Str := ["row", "pairs", "person"]
def m_seen_by_all : MS := (mSeq (mSet 1 (mVD (mUser S_sights_of (mAC (mVar 0) mAN)))) (mRet (mL c_seen_by_all_1)))
def S_seen_by_all : Sem' := fnR N_seen_by_all.length m_seen_by_all
theorem sc_seen_by_all : FnScope N_seen_by_all ["row"] (defScope (top 27)) := C8.fnScope_by (by decide +kernel)
theorem bp_seen_by_all : BindsP (defArgs (top 27)) ["row"] := fun _ _ _ _ _ _ _ _ _ _ us hl => match us, hl with | [u0], _ => rfl
theorem fn_seen_by_all (c : Fc K mg base T) : Fun P w K mg base T 4 "seen_by_all" (defArgs (top 27)) ["row"] 4 S_seen_by_all := by
  refine fun_of (d := d_seen_by_all) (k := 3) (c.c.def_ 16 (d := d_seen_by_all) rfl) (q_seen_by_all c) rfl sc_seen_by_all ?_
  intro f cdv A outer s H E G hr hg hT hK hnf hcode
  have C : Ctx (cxOf (L2.CX P w) P w K mg base N_seen_by_all "seen_by_all" (defScope (top 27)) f cdv A outer s H E) G (fun cls d _ H => E cls d H) 3 := ctx_fn hr hg
  have hnd := sc_seen_by_all.nd
  have h_sights_of := (fn_sights_of (P := P) (w := w) c).to hT hK
  have h_seen_from := (fn_seen_from (P := P) (w := w) c).to hT hK
  exact (DSs.cons (DS.set (i := 1) hnd rfl (.inr rfl) (.inl rfl) (DE.ofV (DV.call h_sights_of bp_sights_of C (by decide) rfl (DR.cons (DE.var (i := 0) rfl (.inl rfl)) DR.nil)))) (DSs.one (DS.ret (DE.ofF (DF.lc (own := [("person", 2)]) rfl hnd (DI.range1 rfl (q_range c) (DA.cons (DE.callB cd_len rfl (q_len c) (by decide +kernel) (DA.cons (DE.var (i := 0) rfl (.inl rfl)) DA.nil)) DA.nil)) (blkOk_by (by kernel_rfl)) (by decide) (fun _ _ _ _ _ => (DG.name hnd rfl (.inl rfl) (.inr rfl))) (fun _ _ _ _ _ => DTs.nil) (fun _ _ _ _ _ => (DE.ofV (DV.call h_seen_from bp_seen_from (Ctx.blk C) (by decide) rfl (DR.cons (DE.var (i := 1) rfl (.inr (.inl rfl))) (DR.cons (DE.var (i := 2) rfl (.inl rfl)) DR.nil))))))))))
def c_every_lot_1 : M (List D) := (mLc (mItems (mVar 1)) [3] (gN 3) (.ret true) (mBin pAdd (mVar 3) (mTup (mCons (mVar 2) mNil))))
def i_every_lot_1 : M (List D) := (mItems (mVar 0))
def b_every_lot_1 : MS := (mSet 1 (mBin pAdd (mVar 1) (mL c_every_lot_1)))
def l_every_lot_1 : M D := (mTup (mCons (mCall pLen (mCons (mVar 0) mNil)) (mCons (mVar 0) mNil)))
def N_every_lot : List Str := ["things", "found", "thing", "lot"]
def m_every_lot : MS := (mSeq (mSet 1 (mL (mLst (mCons (mTup mNil) mNil)))) (mSeq (mFor i_every_lot_1 (gN 2) b_every_lot_1) (mRet (mL (mSortK (mVar 1) [] (lamR 1 1 l_every_lot_1))))))
def S_every_lot : Sem' := fnR N_every_lot.length m_every_lot
theorem sc_every_lot : FnScope N_every_lot ["things"] (defScope (top 10)) := C8.fnScope_by (by decide +kernel)
theorem bp_every_lot : BindsP (defArgs (top 10)) ["things"] := fun _ _ _ _ _ _ _ _ _ _ us hl => match us, hl with | [u0], _ => rfl
theorem fn_every_lot (c : Fc K mg base T) : Fun P w K mg base T 4 "every_lot" (defArgs (top 10)) ["things"] 6 S_every_lot := by
  refine fun_of (d := d_every_lot) (k := 5) (c.c.def_ 17 (d := d_every_lot) rfl) (q_every_lot c) rfl sc_every_lot ?_
  intro f cdv A outer s H E G hr hg hT hK hnf hcode
  have C : Ctx (cxOf (L2.CX P w) P w K mg base N_every_lot "every_lot" (defScope (top 10)) f cdv A outer s H E) G (fun cls d _ H => E cls d H) 5 := ctx_fn hr hg
  have hnd := sc_every_lot.nd
  exact (DSs.cons (DS.set (i := 1) hnd rfl (.inl rfl) (.inl rfl) (DE.ofF (DF.lst (DA.cons (DE.tup DA.nil) DA.nil)))) (DSs.cons (DS.for own_fn rfl (DI.seq rfl (DE.var (i := 0) rfl (.inl rfl))) (DG.name hnd rfl (.inr rfl) (.inl rfl)) (DSs.one (DS.set (i := 1) hnd rfl (.inl rfl) (.inl rfl) (DE.bin od_add (DE.var (i := 1) rfl (.inl rfl)) (DE.ofF (DF.lc (own := [("lot", 3)]) rfl hnd (DI.seq rfl (DE.var (i := 1) rfl (.inl rfl))) (blkOk_by (by kernel_rfl)) (by decide) (fun _ _ _ _ _ => (DG.name hnd rfl (.inl rfl) (.inr rfl))) (fun _ _ _ _ _ => DTs.nil) (fun _ _ _ _ _ => (DE.bin od_add (DE.var (i := 3) rfl (.inl rfl)) (DE.tup (DA.cons (DE.var (i := 2) rfl (.inr (.inl rfl))) DA.nil)))))))))) (DSs.one (DS.ret (DE.ofF (DF.sortKey (k := 0) (N := ["lot"]) (ps := ["lot"]) (fr := []) (js := []) (m := l_every_lot_1) (c.TB _ tm_every_lot) hcode (by rw [hT, c.hT]; exact List.mem_map.mpr ⟨tq_every_lot, tqm_every_lot, rfl⟩) rfl (by rw [hT, c.hT]; exact tabs_u c.nd tqm_every_lot) rfl (nscope_by (by kernel_rfl)) (fun _ _ _ _ _ us hl => match us, hl with | [u0], _ => rfl) (by kernel_rfl) rfl (by rw [hK]; decide) (fun f c2 cl A outer s H E G2 hr2 hg2 hT2 hK2 hnf2 => have Cn := ctx_nest (P := P) (w := w) (K := K) (mg := mg) (base := base) (N := ["lot"]) (outer := outer) (H := H) (E := E) (G := G2) hr2 hg2; have hnd : (["lot"] : List Str).Nodup := (by decide +kernel); (DE.tup (DA.cons (DE.callB cd_len rfl (q_len c) (by decide +kernel) (DA.cons (DE.var (i := 0) rfl (.inl rfl)) DA.nil)) (DA.cons (DE.var (i := 0) rfl (.inl rfl)) DA.nil)))) C (by rw [hK]; decide) rfl (q_sorted c) (DE.var (i := 1) rfl (.inl rfl))))))))
def c_others_of_1 : M (List D) := (mLc (mCallF pRng1 (mCons (mVar 0) mNil)) [2] (gN 2) (mBl (mBin pNotIn (mVar 2) (mVar 1))) (mVar 2))
def N_others_of : List Str := ["many", "lot", "each"]
def m_others_of : MS := (mRet (mCall (one1 qTup qTup) (mCons (mL c_others_of_1) mNil)))
def S_others_of : Sem' := fnR N_others_of.length m_others_of
theorem sc_others_of : FnScope N_others_of ["many", "lot"] (defScope (top 11)) := C8.fnScope_by (by decide +kernel)
theorem bp_others_of : BindsP (defArgs (top 11)) ["many", "lot"] := fun _ _ _ _ _ _ _ _ _ _ us hl => match us, hl with | [u0, u1], _ => rfl
theorem fn_others_of (c : Fc K mg base T) : Fun P w K mg base T 4 "others_of" (defArgs (top 11)) ["many", "lot"] 1 S_others_of := by
  refine fun_of (d := d_others_of) (k := 0) (c.c.def_ 18 (d := d_others_of) rfl) (q_others_of c) rfl sc_others_of ?_
  intro f cdv A outer s H E G hr hg hT hK hnf hcode
  have C : Ctx (cxOf (L2.CX P w) P w K mg base N_others_of "others_of" (defScope (top 11)) f cdv A outer s H E) G (fun cls d _ H => E cls d H) 0 := ctx_fn hr hg
  have hnd := sc_others_of.nd
  exact (DSs.one (DS.ret (DE.callTy (CallD.of lw_tuple tw_tuple) rfl (q_tuple c) (by decide +kernel) (DA.cons (DE.ofF (DF.lc (own := [("each", 2)]) rfl hnd (DI.range1 rfl (q_range c) (DA.cons (DE.var (i := 0) rfl (.inl rfl)) DA.nil)) (blkOk_by (by kernel_rfl)) (by decide) (fun _ _ _ _ _ => (DG.name hnd rfl (.inl rfl) (.inr rfl))) (fun _ _ _ _ _ => (DTs.one (DT.cmp (od_notIn (Ctx.u65 (Ctx.blk C))) (DE.var (i := 2) rfl (.inl rfl)) (DE.var (i := 1) rfl (.inr (.inl rfl))) rfl))) (fun _ _ _ _ _ => (DE.var (i := 2) rfl (.inl rfl))))) DA.nil))))
def c_does_watch_1 : M (List D) := (mLc (mItems (mVar 1)) [2] (gN 2) (.ret true) (mBin pIn (mVar 3) (mBin pIx (mVar 0) (mVar 2))))
def c_does_watch_2 : M (List D) := (mLc (mItems (mVD (mUser S_others_of (mAC (mCall pLen (mCons (mVar 0) mNil)) (mAC (mVar 1) mAN))))) [3] (gN 3) (.ret true) (mCall (one1 qAny noB) (mCons (mL c_does_watch_1) mNil)))
def N_does_watch : List Str := ["seen", "lot", "own", "person"]
def m_does_watch : MS := (mRet (mCall (one1 qAll noB) (mCons (mL c_does_watch_2) mNil)))
def S_does_watch : Sem' := fnR N_does_watch.length m_does_watch
theorem sc_does_watch : FnScope N_does_watch ["seen", "lot"] (defScope (top 28)) := C8.fnScope_by (by decide +kernel)
theorem bp_does_watch : BindsP (defArgs (top 28)) ["seen", "lot"] := fun _ _ _ _ _ _ _ _ _ _ us hl => match us, hl with | [u0, u1], _ => rfl
theorem fn_does_watch (c : Fc K mg base T) : Fun P w K mg base T 4 "does_watch" (defArgs (top 28)) ["seen", "lot"] 2 S_does_watch := by
  refine fun_of (d := d_does_watch) (k := 1) (c.c.def_ 19 (d := d_does_watch) rfl) (q_does_watch c) rfl sc_does_watch ?_
  intro f cdv A outer s H E G hr hg hT hK hnf hcode
  have C : Ctx (cxOf (L2.CX P w) P w K mg base N_does_watch "does_watch" (defScope (top 28)) f cdv A outer s H E) G (fun cls d _ H => E cls d H) 1 := ctx_fn hr hg
  have hnd := sc_does_watch.nd
  have h_others_of := (fn_others_of (P := P) (w := w) c).to hT hK
  exact (DSs.one (DS.ret (DE.callB (CallD.of (lw_all rfl) TupW.no) rfl (q_all c) (by decide +kernel) (DA.cons (DE.ofF (DF.lc (own := [("person", 3)]) rfl hnd (DI.seq rfl (DE.ofV (DV.call h_others_of bp_others_of C (by decide) rfl (DR.cons (DE.callB cd_len rfl (q_len c) (by decide +kernel) (DA.cons (DE.var (i := 0) rfl (.inr (.inl rfl))) DA.nil)) (DR.cons (DE.var (i := 1) rfl (.inr (.inl rfl))) DR.nil))))) (blkOk_by (by kernel_rfl)) (by decide) (fun _ _ _ _ _ => (DG.name hnd rfl (.inr rfl) (.inl rfl))) (fun _ _ _ _ _ => DTs.nil) (fun _ _ _ _ _ => (DE.callB (CallD.of (lw_any rfl) TupW.no) rfl (q_any c) (by decide +kernel) (DA.cons (DE.ofF (DF.lc (own := [("own", 2)]) rfl hnd (DI.seq rfl (DE.var (i := 1) rfl (.inr (.inl rfl)))) (blkOk_by (by kernel_rfl)) (by decide) (fun _ _ _ _ _ => (DG.name hnd rfl (.inl rfl) (.inr rfl))) (fun _ _ _ _ _ => DTs.nil) (fun _ _ _ _ _ => (DE.cmp (od_in (Ctx.u65 (Ctx.blk (Ctx.blk C)))) (DE.var (i := 3) rfl (.inr (.inl rfl))) (DE.ix (DE.var (i := 0) rfl (.inr (.inl rfl))) (DE.var (i := 2) rfl (.inl rfl)) (fun _ _ => rfl)) rfl)))) DA.nil))))) DA.nil))))
def c_least_watchers_1 : M (List D) := (mLc (mItems (mVD (mUser S_every_lot (mAC (mL (mLRg (mRg1 (mCall pLen (mCons (mVar 0) mNil))))) mAN)))) [2] (gN 2) (mTru (mVD (mUser S_does_watch (mAC (mVar 1) (mAC (mVar 2) mAN))))) (mVar 2))
def N_least_watchers : List Str := ["row", "seen", "lot"]
def m_least_watchers : MS := (mSeq (mSet 1 (mVD (mUser S_seen_by_all (mAC (mVar 0) mAN)))) (mRet (mBin pIx (mL c_least_watchers_1) (.ret (.int 0)))))
def S_least_watchers : Sem' := fnR N_least_watchers.length m_least_watchers
theorem sc_least_watchers : FnScope N_least_watchers ["row"] (defScope (top 29)) := C8.fnScope_by (by decide +kernel)
theorem bp_least_watchers : BindsP (defArgs (top 29)) ["row"] := fun _ _ _ _ _ _ _ _ _ _ us hl => match us, hl with | [u0], _ => rfl
theorem fn_least_watchers (c : Fc K mg base T) : Fun P w K mg base T 4 "least_watchers" (defArgs (top 29)) ["row"] 7 S_least_watchers := by
  refine fun_of (d := d_least_watchers) (k := 6) (c.c.def_ 20 (d := d_least_watchers) rfl) (q_least_watchers c) rfl sc_least_watchers ?_
  intro f cdv A outer s H E G hr hg hT hK hnf hcode
  have C : Ctx (cxOf (L2.CX P w) P w K mg base N_least_watchers "least_watchers" (defScope (top 29)) f cdv A outer s H E) G (fun cls d _ H => E cls d H) 6 := ctx_fn hr hg
  have hnd := sc_least_watchers.nd
  have h_seen_by_all := (fn_seen_by_all (P := P) (w := w) c).to hT hK
  have h_every_lot := (fn_every_lot (P := P) (w := w) c).to hT hK
  have h_does_watch := (fn_does_watch (P := P) (w := w) c).to hT hK
  exact (DSs.cons (DS.set (i := 1) hnd rfl (.inr rfl) (.inl rfl) (DE.ofV (DV.call h_seen_by_all bp_seen_by_all C (by decide) rfl (DR.cons (DE.var (i := 0) rfl (.inl rfl)) DR.nil)))) (DSs.one (DS.ret (DE.ix (DE.ofF (DF.lc (own := [("lot", 2)]) rfl hnd (DI.seq rfl (DE.ofV (DV.call h_every_lot bp_every_lot C (by decide) rfl (DR.cons (DE.ofF (DF.listRg rfl rfl (q_list c) (DRg.one rfl (q_range c) (DE.callB cd_len rfl (q_len c) (by decide +kernel) (DA.cons (DE.var (i := 0) rfl (.inl rfl)) DA.nil))))) DR.nil)))) (blkOk_by (by kernel_rfl)) (by decide) (fun _ _ _ _ _ => (DG.name hnd rfl (.inl rfl) (.inr rfl))) (fun _ _ _ _ _ => (DTs.one (DT.val (DE.ofV (DV.call h_does_watch bp_does_watch (Ctx.blk C) (by decide) rfl (DR.cons (DE.var (i := 1) rfl (.inr (.inl rfl))) (DR.cons (DE.var (i := 2) rfl (.inl rfl)) DR.nil))))))) (fun _ _ _ _ _ => (DE.var (i := 2) rfl (.inl rfl))))) DE.int (fun _ _ => rfl)))))
def N_fewest_watchers : List Str := ["row"]
def m_fewest_watchers : MS := (mSeq (mExpr (mVD (mUser S_check_row (mAC (mVar 0) mAN)))) (mRet (mCall pLen (mCons (mVD (mUser S_least_watchers (mAC (mVar 0) mAN))) mNil))))
def S_fewest_watchers : Sem' := fnR N_fewest_watchers.length m_fewest_watchers
theorem sc_fewest_watchers : FnScope N_fewest_watchers ["row"] (defScope (top 31)) := C8.fnScope_by (by decide +kernel)
theorem bp_fewest_watchers : BindsP (defArgs (top 31)) ["row"] := fun _ _ _ _ _ _ _ _ _ _ us hl => match us, hl with | [u0], _ => rfl
theorem fn_fewest_watchers (c : Fc K mg base T) : Fun P w K mg base T 4 "fewest_watchers" (defArgs (top 31)) ["row"] 9 S_fewest_watchers := by
  refine fun_of (d := d_fewest_watchers) (k := 8) (c.c.def_ 21 (d := d_fewest_watchers) rfl) (q_fewest_watchers c) rfl sc_fewest_watchers ?_
  intro f cdv A outer s H E G hr hg hT hK hnf hcode
  have C : Ctx (cxOf (L2.CX P w) P w K mg base N_fewest_watchers "fewest_watchers" (defScope (top 31)) f cdv A outer s H E) G (fun cls d _ H => E cls d H) 8 := ctx_fn hr hg
  have hnd := sc_fewest_watchers.nd
  have h_check_row := (fn_check_row (P := P) (w := w) c).to hT hK
  have h_least_watchers := (fn_least_watchers (P := P) (w := w) c).to hT hK
  exact (DSs.cons (DS.expr (DE.ofV (DV.call h_check_row bp_check_row C (by decide) rfl (DR.cons (DE.var (i := 0) rfl (.inl rfl)) DR.nil)))) (DSs.one (DS.ret (DE.callB cd_len rfl (q_len c) (by decide +kernel) (DA.cons (DE.ofV (DV.call h_least_watchers bp_least_watchers C (by decide) rfl (DR.cons (DE.var (i := 0) rfl (.inl rfl)) DR.nil))) DA.nil)))))
def N_first_watchers : List Str := ["row"]
def m_first_watchers : MS := (mSeq (mExpr (mVD (mUser S_check_row (mAC (mVar 0) mAN)))) (mRet (mVD (mUser S_least_watchers (mAC (mVar 0) mAN)))))
def S_first_watchers : Sem' := fnR N_first_watchers.length m_first_watchers
theorem sc_first_watchers : FnScope N_first_watchers ["row"] (defScope (top 32)) := C8.fnScope_by (by decide +kernel)
theorem bp_first_watchers : BindsP (defArgs (top 32)) ["row"] := fun _ _ _ _ _ _ _ _ _ _ us hl => match us, hl with | [u0], _ => rfl
theorem fn_first_watchers (c : Fc K mg base T) : Fun P w K mg base T 4 "first_watchers" (defArgs (top 32)) ["row"] 9 S_first_watchers := by
  refine fun_of (d := d_first_watchers) (k := 8) (c.c.def_ 22 (d := d_first_watchers) rfl) (q_first_watchers c) rfl sc_first_watchers ?_
  intro f cdv A outer s H E G hr hg hT hK hnf hcode
  have C : Ctx (cxOf (L2.CX P w) P w K mg base N_first_watchers "first_watchers" (defScope (top 32)) f cdv A outer s H E) G (fun cls d _ H => E cls d H) 8 := ctx_fn hr hg
  have hnd := sc_first_watchers.nd
  have h_check_row := (fn_check_row (P := P) (w := w) c).to hT hK
  have h_least_watchers := (fn_least_watchers (P := P) (w := w) c).to hT hK
  exact (DSs.cons (DS.expr (DE.ofV (DV.call h_check_row bp_check_row C (by decide) rfl (DR.cons (DE.var (i := 0) rfl (.inl rfl)) DR.nil)))) (DSs.one (DS.ret (DE.ofV (DV.call h_least_watchers bp_least_watchers C (by decide) rfl (DR.cons (DE.var (i := 0) rfl (.inl rfl)) DR.nil))))))
def c__law_sees_1 : M (List D) := (mLc (mCallF pRng2 (mCons (mBin pAdd (mCall pMin2 (mCons (mVar 1) (mCons (mVar 2) mNil))) (.ret (.int 1))) (mCons (mCall pMax2 (mCons (mVar 1) (mCons (mVar 2) mNil))) mNil))) [3] (gN 3) (mBl (mBin pGt (mBin pIx (mVar 0) (mVar 3)) (mCall pMin2 (mCons (mBin pIx (mVar 0) (mVar 1)) (mCons (mBin pIx (mVar 0) (mVar 2)) mNil))))) (mVar 3))
def N__law_sees : List Str := ["row", "i", "j", "k"]
def m__law_sees : MS := (mRet (mBin pEq (mL c__law_sees_1) (mL (mLst mNil))))
def S__law_sees : Sem' := fnR N__law_sees.length m__law_sees
theorem sc__law_sees : FnScope N__law_sees ["row", "i", "j"] (defScope (top 38)) := C8.fnScope_by (by decide +kernel)
theorem bp__law_sees : BindsP (defArgs (top 38)) ["row", "i", "j"] := fun _ _ _ _ _ _ _ _ _ _ us hl => match us, hl with | [u0, u1, u2], _ => rfl
theorem fn__law_sees (c : Fc K mg base T) : Fun P w K mg base T 4 "_law_sees" (defArgs (top 38)) ["row", "i", "j"] 1 S__law_sees := by
  refine fun_of (d := d__law_sees) (k := 0) (c.c.def_ 23 (d := d__law_sees) rfl) (q__law_sees c) rfl sc__law_sees ?_
  intro f cdv A outer s H E G hr hg hT hK hnf hcode
  have C : Ctx (cxOf (L2.CX P w) P w K mg base N__law_sees "_law_sees" (defScope (top 38)) f cdv A outer s H E) G (fun cls d _ H => E cls d H) 0 := ctx_fn hr hg
  have hnd := sc__law_sees.nd
  exact (DSs.one (DS.ret (DE.cmp (od_eq (Ctx.u64 C)) (DE.ofF (DF.lc (own := [("k", 3)]) rfl hnd (DI.range2 rfl (q_range c) (DA.cons (DE.bin od_add (DE.callB (cd_min2 rfl) rfl (q_min c) (by decide +kernel) (DA.cons (DE.var (i := 1) rfl (.inr (.inl rfl))) (DA.cons (DE.var (i := 2) rfl (.inr (.inl rfl))) DA.nil))) DE.int) (DA.cons (DE.callB (cd_max2 rfl) rfl (q_max c) (by decide +kernel) (DA.cons (DE.var (i := 1) rfl (.inr (.inl rfl))) (DA.cons (DE.var (i := 2) rfl (.inr (.inl rfl))) DA.nil))) DA.nil))) (blkOk_by (by kernel_rfl)) (by decide) (fun _ _ _ _ _ => (DG.name hnd rfl (.inl rfl) (.inr rfl))) (fun _ _ _ _ _ => (DTs.one (DT.cmp od_gt (DE.ix (DE.var (i := 0) rfl (.inr (.inl rfl))) (DE.var (i := 3) rfl (.inl rfl)) (fun _ _ => rfl)) (DE.callB (cd_min2 rfl) rfl (q_min c) (by decide +kernel) (DA.cons (DE.ix (DE.var (i := 0) rfl (.inr (.inl rfl))) (DE.var (i := 1) rfl (.inr (.inl rfl))) (fun _ _ => rfl)) (DA.cons (DE.ix (DE.var (i := 0) rfl (.inr (.inl rfl))) (DE.var (i := 2) rfl (.inr (.inl rfl))) (fun _ _ => rfl)) DA.nil))) (nobehind _ (by decide) (by decide))))) (fun _ _ _ _ _ => (DE.var (i := 3) rfl (.inl rfl))))) (DE.ofF (DF.lst DA.nil)) (nobehind _ (by decide) (by decide)))))
def c__law_watched_1 : M (List D) := (mLc (mItems (mVar 1)) [3] (gN 3) (mTru (mVD (mUser S__law_sees (mAC (mVar 0) (mAC (mVar 3) (mAC (mVar 2) mAN)))))) (mVar 3))
def i__law_watched_1 : M (List D) := (mCallF pRng1 (mCons (mCall pLen (mCons (mVar 0) mNil)) mNil))
def b__law_watched_1 : MS := (mIf (mAndT (mBl (mBin pNotIn (mVar 2) (mVar 1))) (mBl (mBin pEq (mL c__law_watched_1) (mL (mLst mNil))))) (mRet (.ret (.bool false))) (.ret .nx))
def N__law_watched : List Str := ["row", "lot", "k", "each"]
def m__law_watched : MS := (mSeq (mFor i__law_watched_1 (gN 2) b__law_watched_1) (mRet (.ret (.bool true))))
def S__law_watched : Sem' := fnR N__law_watched.length m__law_watched
theorem sc__law_watched : FnScope N__law_watched ["row", "lot"] (defScope (top 40)) := C8.fnScope_by (by decide +kernel)
theorem bp__law_watched : BindsP (defArgs (top 40)) ["row", "lot"] := fun _ _ _ _ _ _ _ _ _ _ us hl => match us, hl with | [u0, u1], _ => rfl
theorem fn__law_watched (c : Fc K mg base T) : Fun P w K mg base T 4 "_law_watched" (defArgs (top 40)) ["row", "lot"] 2 S__law_watched := by
  refine fun_of (d := d__law_watched) (k := 1) (c.c.def_ 24 (d := d__law_watched) rfl) (q__law_watched c) rfl sc__law_watched ?_
  intro f cdv A outer s H E G hr hg hT hK hnf hcode
  have C : Ctx (cxOf (L2.CX P w) P w K mg base N__law_watched "_law_watched" (defScope (top 40)) f cdv A outer s H E) G (fun cls d _ H => E cls d H) 1 := ctx_fn hr hg
  have hnd := sc__law_watched.nd
  have h__law_sees := (fn__law_sees (P := P) (w := w) c).to hT hK
  exact (DSs.cons (DS.for own_fn rfl (DI.range1 rfl (q_range c) (DA.cons (DE.callB cd_len rfl (q_len c) (by decide +kernel) (DA.cons (DE.var (i := 0) rfl (.inr (.inl rfl))) DA.nil)) DA.nil)) (DG.name hnd rfl (.inr rfl) (.inl rfl)) (DSs.one (DS.if (DW.dt (DW.and (DT.cmp (od_notIn (Ctx.u65 C)) (DE.var (i := 2) rfl (.inr (.inl rfl))) (DE.var (i := 1) rfl (.inl rfl)) rfl) (DW.and1 (DT.cmp (od_eq (Ctx.u64 C)) (DE.ofF (DF.lc (own := [("each", 3)]) rfl hnd (DI.seq rfl (DE.var (i := 1) rfl (.inl rfl))) (blkOk_by (by kernel_rfl)) (by decide) (fun _ _ _ _ _ => (DG.name hnd rfl (.inl rfl) (.inr rfl))) (fun _ _ _ _ _ => (DTs.one (DT.val (DE.ofV (DV.call h__law_sees bp__law_sees (Ctx.blk C) (by decide) rfl (DR.cons (DE.var (i := 0) rfl (.inr (.inl rfl))) (DR.cons (DE.var (i := 3) rfl (.inl rfl)) (DR.cons (DE.var (i := 2) rfl (.inr (.inl rfl))) DR.nil)))))))) (fun _ _ _ _ _ => (DE.var (i := 3) rfl (.inl rfl))))) (DE.ofF (DF.lst DA.nil)) (nobehind _ (by decide) (by decide)))))) (DSs.one (DS.ret DE.bl)) DSs.nil))) (DSs.one (DS.ret DE.bl)))
def N_is_above_last : List Str := ["value", "before"]
def m_is_above_last : MS := (mRet (mOr (mBin pEq (mVar 1) (mTup mNil)) (mBin pLt (mBin pIx (mVar 1) (mUn pNeg (.ret (.int 1)))) (mVar 0))))
def S_is_above_last : Sem' := fnR N_is_above_last.length m_is_above_last
theorem sc_is_above_last : FnScope N_is_above_last ["value", "before"] (defScope (top 9)) := C8.fnScope_by (by decide +kernel)
theorem bp_is_above_last : BindsP (defArgs (top 9)) ["value", "before"] := fun _ _ _ _ _ _ _ _ _ _ us hl => match us, hl with | [u0, u1], _ => rfl
theorem fn_is_above_last (c : Fc K mg base T) : Fun P w K mg base T 4 "is_above_last" (defArgs (top 9)) ["value", "before"] 1 S_is_above_last := by
  refine fun_of (d := d_is_above_last) (k := 0) (c.c.def_ 25 (d := d_is_above_last) rfl) (q_is_above_last c) rfl sc_is_above_last ?_
  intro f cdv A outer s H E G hr hg hT hK hnf hcode
  have C : Ctx (cxOf (L2.CX P w) P w K mg base N_is_above_last "is_above_last" (defScope (top 9)) f cdv A outer s H E) G (fun cls d _ H => E cls d H) 0 := ctx_fn hr hg
  have hnd := sc_is_above_last.nd
  exact (DSs.one (DS.ret (DE.or (DE.cmp (od_eq (Ctx.u64 C)) (DE.var (i := 1) rfl (.inl rfl)) (DE.tup DA.nil) (nobehind _ (by decide) (by decide))) (DE.one (DE.cmp od_lt (DE.ix (DE.var (i := 1) rfl (.inl rfl)) (DE.un ud_neg DE.int) (fun _ _ => rfl)) (DE.var (i := 0) rfl (.inl rfl)) (nobehind _ (by decide) (by decide)))))))
def l_check_lot_of_1 : M D := (mAnd (mVD (mUser S_is_number (mAC (mVar 0) (mAC (.ret (.int 0)) (mAC (mBin pSub (mVar 2) (.ret (.int 1))) mAN))))) (mVD (mUser S_is_above_last (mAC (mVar 0) (mAC (mVar 1) mAN)))))
def i_check_lot_of_1 : M (List D) := (mItems (mVD (mUser S_wrong_at (mAC (mVar 1) (mLam [0] (lamR 3 2 l_check_lot_of_1) mAN)))))
def b_check_lot_of_1 : MS := .fail
def N_check_lot_of : List Str := ["many", "value", "at"]
def m_check_lot_of : MS := (mFor i_check_lot_of_1 (gN 2) b_check_lot_of_1)
def S_check_lot_of : Sem' := fnR N_check_lot_of.length m_check_lot_of
theorem sc_check_lot_of : FnScope N_check_lot_of ["many", "value"] (defScope (top 24)) := C8.fnScope_by (by decide +kernel)
theorem bp_check_lot_of : BindsP (defArgs (top 24)) ["many", "value"] := fun _ _ _ _ _ _ _ _ _ _ us hl => match us, hl with | [u0, u1], _ => rfl
theorem fn_check_lot_of (c : Fc K mg base T) : Fun P w K mg base T 4 "check_lot_of" (defArgs (top 24)) ["many", "value"] 6 S_check_lot_of := by
  refine fun_of (d := d_check_lot_of) (k := 5) (c.c.def_ 26 (d := d_check_lot_of) rfl) (q_check_lot_of c) rfl sc_check_lot_of ?_
  intro f cdv A outer s H E G hr hg hT hK hnf hcode
  have C : Ctx (cxOf (L2.CX P w) P w K mg base N_check_lot_of "check_lot_of" (defScope (top 24)) f cdv A outer s H E) G (fun cls d _ H => E cls d H) 5 := ctx_fn hr hg
  have hnd := sc_check_lot_of.nd
  have h_wrong_at := (fn_wrong_at (P := P) (w := w) c).to hT hK
  have h_is_number := (fn_is_number (P := P) (w := w) c).to hT hK
  have h_is_above_last := (fn_is_above_last (P := P) (w := w) c).to hT hK
  exact (DSs.one (DS.for own_fn rfl (DI.seq rfl (DE.ofV (DV.call h_wrong_at bp_wrong_at C (by decide) rfl (DR.cons (DE.var (i := 1) rfl (.inl rfl)) (DR.lam (k := 2) (N := ["each", "before", "many"]) (ps := ["each", "before"]) (fr := ["many"]) (js := [0]) (m := l_check_lot_of_1) (c.TB _ tm_check_lot_of) hcode (by rw [hT, c.hT]; exact List.mem_map.mpr ⟨tq_check_lot_of, tqm_check_lot_of, rfl⟩) rfl (by rw [hT, c.hT]; exact tabs_u c.nd tqm_check_lot_of) rfl (nscope_by (by kernel_rfl)) (fun _ _ _ _ _ us hl => match us, hl with | [u0, u1], _ => rfl) (by kernel_rfl) rfl (by rw [hK]; decide) hnf (fun f c2 cl A outer s H E G2 hr2 hg2 hT2 hK2 hnf2 => have Cn := ctx_nest (P := P) (w := w) (K := K) (mg := mg) (base := base) (N := ["each", "before", "many"]) (outer := outer) (H := H) (E := E) (G := G2) hr2 hg2; have hnd : (["each", "before", "many"] : List Str).Nodup := (by decide +kernel); have h_is_number := (fn_is_number (P := P) (w := w) c).to (hT2.trans hT) (hK2.trans hK); have h_is_above_last := (fn_is_above_last (P := P) (w := w) c).to (hT2.trans hT) (hK2.trans hK); (DE.and (DE.ofV (DV.call h_is_number bp_is_number Cn (by decide) rfl (DR.cons (DE.var (i := 0) rfl (.inl rfl)) (DR.cons DE.int (DR.cons (DE.bin od_sub (DE.var (i := 2) rfl (.inr (.inr rfl))) DE.int) DR.nil))))) (DE.one (DE.ofV (DV.call h_is_above_last bp_is_above_last Cn (by decide) rfl (DR.cons (DE.var (i := 0) rfl (.inl rfl)) (DR.cons (DE.var (i := 1) rfl (.inl rfl)) DR.nil))))))) DR.nil))))) (DG.name hnd rfl (.inl rfl) (.inl rfl)) (DSs.one ⟨PS.imp ps_never fun _ _ _ ⟨_, _, _, h⟩ => h⟩)))
def N_check_lot : List Str := ["row", "lot"]
def m_check_lot : MS := (mSeq (mExpr (mVD (mUser S_check_row (mAC (mVar 0) mAN)))) (mExpr (mVD (mUser S_check_lot_of (mAC (mCall pLen (mCons (mVar 0) mNil)) (mAC (mVar 1) mAN))))))
def S_check_lot : Sem' := fnR N_check_lot.length m_check_lot
theorem sc_check_lot : FnScope N_check_lot ["row", "lot"] (defScope (top 25)) := C8.fnScope_by (by decide +kernel)
theorem bp_check_lot : BindsP (defArgs (top 25)) ["row", "lot"] := fun _ _ _ _ _ _ _ _ _ _ us hl => match us, hl with | [u0, u1], _ => rfl
theorem fn_check_lot (c : Fc K mg base T) : Fun P w K mg base T 4 "check_lot" (defArgs (top 25)) ["row", "lot"] 9 S_check_lot := by
  refine fun_of (d := d_check_lot) (k := 8) (c.c.def_ 27 (d := d_check_lot) rfl) (q_check_lot c) rfl sc_check_lot ?_
  intro f cdv A outer s H E G hr hg hT hK hnf hcode
  have C : Ctx (cxOf (L2.CX P w) P w K mg base N_check_lot "check_lot" (defScope (top 25)) f cdv A outer s H E) G (fun cls d _ H => E cls d H) 8 := ctx_fn hr hg
  have hnd := sc_check_lot.nd
  have h_check_row := (fn_check_row (P := P) (w := w) c).to hT hK
  have h_check_lot_of := (fn_check_lot_of (P := P) (w := w) c).to hT hK
  exact (DSs.cons (DS.expr (DE.ofV (DV.call h_check_row bp_check_row C (by decide) rfl (DR.cons (DE.var (i := 0) rfl (.inl rfl)) DR.nil)))) (DSs.one (DS.expr (DE.ofV (DV.call h_check_lot_of bp_check_lot_of C (by decide) rfl (DR.cons (DE.callB cd_len rfl (q_len c) (by decide +kernel) (DA.cons (DE.var (i := 0) rfl (.inl rfl)) DA.nil)) (DR.cons (DE.var (i := 1) rfl (.inl rfl)) DR.nil)))))))
def N_is_watched : List Str := ["row", "lot"]
def m_is_watched : MS := (mSeq (mExpr (mVD (mUser S_check_lot (mAC (mVar 0) (mAC (mVar 1) mAN))))) (mRet (mVD (mUser S_does_watch (mAC (mVD (mUser S_seen_by_all (mAC (mVar 0) mAN))) (mAC (mVar 1) mAN))))))
def S_is_watched : Sem' := fnR N_is_watched.length m_is_watched
theorem sc_is_watched : FnScope N_is_watched ["row", "lot"] (defScope (top 30)) := C8.fnScope_by (by decide +kernel)
theorem bp_is_watched : BindsP (defArgs (top 30)) ["row", "lot"] := fun _ _ _ _ _ _ _ _ _ _ us hl => match us, hl with | [u0, u1], _ => rfl
theorem fn_is_watched (c : Fc K mg base T) : Fun P w K mg base T 4 "is_watched" (defArgs (top 30)) ["row", "lot"] 10 S_is_watched := by
  refine fun_of (d := d_is_watched) (k := 9) (c.c.def_ 28 (d := d_is_watched) rfl) (q_is_watched c) rfl sc_is_watched ?_
  intro f cdv A outer s H E G hr hg hT hK hnf hcode
  have C : Ctx (cxOf (L2.CX P w) P w K mg base N_is_watched "is_watched" (defScope (top 30)) f cdv A outer s H E) G (fun cls d _ H => E cls d H) 9 := ctx_fn hr hg
  have hnd := sc_is_watched.nd
  have h_check_lot := (fn_check_lot (P := P) (w := w) c).to hT hK
  have h_does_watch := (fn_does_watch (P := P) (w := w) c).to hT hK
  have h_seen_by_all := (fn_seen_by_all (P := P) (w := w) c).to hT hK
  exact (DSs.cons (DS.expr (DE.ofV (DV.call h_check_lot bp_check_lot C (by decide) rfl (DR.cons (DE.var (i := 0) rfl (.inl rfl)) (DR.cons (DE.var (i := 1) rfl (.inl rfl)) DR.nil))))) (DSs.one (DS.ret (DE.ofV (DV.call h_does_watch bp_does_watch C (by decide) rfl (DR.cons (DE.ofV (DV.call h_seen_by_all bp_seen_by_all C (by decide) rfl (DR.cons (DE.var (i := 0) rfl (.inl rfl)) DR.nil))) (DR.cons (DE.var (i := 1) rfl (.inl rfl)) DR.nil)))))))
def i__law_right_1 : M (List D) := (mItems (mVar 4))
def b__law_right_1 : MS := (mSet 3 (mIfE (mAndT (mBl (mBin pIsN (mVar 3) (.ret .none))) (mTru (mVD (mUser S__law_watched (mAC (mVar 2) (mAC (mVar 5) mAN)))))) (mVar 5) (mVar 3)))
def i__law_right_2 : M (List D) := (mCallF pRng1 (mCons (.ret (.int 4)) mNil))
def b__law_right_2 : MS := (mSeq (mSet 5 (mVD (mUser S__law_of (mRef 0 (mAC (mVar 4) mAN))))) (mSeq (mSet 8 (mVD (mUser S__law_watched (mAC (mVar 2) (mAC (mVar 5) mAN))))) (mIf (mBl (mBin pNe (mCall pRepr (mCons (mL (mLst (mCons (mVD (mUser S_is_watched (mAC (mVar 2) (mAC (mVar 5) mAN)))) (mCons (mVD (mUserK S_is_watched (fun {_} => permL [1, 0]) mAN (mAC (mVar 5) (mAC (mVar 2) mAN)))) mNil)))) mNil)) (mCall pRepr (mCons (mL (mLst (mCons (mVar 8) (mCons (mVar 8) mNil)))) mNil)))) (mRet (.ret (.bool false))) (.ret .nx))))
def c__law_right_1 : M (List D) := (mLc (mCallF pRng1 (mCons (mCall pLen (mCons (mVar 9) mNil)) mNil)) [10] (gN 10) (mBl (mBin pEq (mVD (mUser S__law_take (mRef 0 (mAC (.ret (.int 3)) mAN)))) (.ret (.int 0)))) (mVar 10))
def i__law_right_3 : M (List D) := (mCallF pRng1 (mCons (.ret (.int 2)) mNil))
def b__law_right_3 : MS := (mSeq (mPar [2, 3] (mXC (mVD (mUser S__law_row (mRef 0 (mAC (.ret (.int 9)) mAN)))) (mXC (.ret .none) mXN))) (mSeq (mSet 4 (mVD (mUser S__law_lots (mAC (mCall pLen (mCons (mVar 2) mNil)) mAN)))) (mSeq (mFor i__law_right_1 (gN 5) b__law_right_1) (mSeq (mSet 6 (mL (mLst (mCons (mVD (mUser S_fewest_watchers (mAC (mVar 2) mAN))) (mCons (mVD (mUserK S_fewest_watchers (fun {_} => permL [0]) mAN (mAC (mVar 2) mAN))) (mCons (mVD (mUser S_first_watchers (mAC (mVar 2) mAN))) (mCons (mVD (mUserK S_first_watchers (fun {_} => permL [0]) mAN (mAC (mVar 2) mAN))) mNil))))))) (mSeq (mIf (mBl (mBin pNe (mCall pRepr (mCons (mVar 6) mNil)) (mCall pRepr (mCons (mBin pAdd (mBin pMul (mL (mLst (mCons (mCall pLen (mCons (mVar 3) mNil)) mNil))) (.ret (.int 2))) (mBin pMul (mL (mLst (mCons (mVar 3) mNil))) (.ret (.int 2)))) mNil)))) (mRet (.ret (.bool false))) (.ret .nx)) (mSeq (mFor i__law_right_2 (gN 7) b__law_right_2) (mSeq (mSet 9 (mVD (mUser S__law_row (mRef 0 (mAC (.ret (.int 12)) mAN))))) (mSeq (mSet 5 (mCall (one1 qTup qTup) (mCons (mL c__law_right_1) mNil))) (mIf (mBl (mBin pNe (mCall pRepr (mCons (mVD (mUser S_is_watched (mAC (mVar 9) (mAC (mVar 5) mAN)))) mNil)) (mCall pRepr (mCons (mVD (mUser S__law_watched (mAC (mVar 9) (mAC (mVar 5) mAN)))) mNil)))) (mRet (.ret (.bool false))) (.ret .nx))))))))))
def N__law_right : List Str := ["urn", "turn", "row", "due", "rows", "lot", "told", "lap", "so", "long", "k"]
def m__law_right : MS := (mSeq (mFor i__law_right_3 (gN 1) b__law_right_3) (mRet (.ret (.bool true))))
def S__law_right : Sem' := fnR N__law_right.length m__law_right
theorem sc__law_right : FnScope N__law_right ["urn"] (defScope (top 41)) := C8.fnScope_by (by decide +kernel)
theorem bp__law_right : BindsP (defArgs (top 41)) ["urn"] := fun _ _ _ _ _ _ _ _ _ _ us hl => match us, hl with | [u0], _ => rfl
theorem fn__law_right (c : Fc K mg base T) : Fun P w K mg base T 4 "_law_right" (defArgs (top 41)) ["urn"] 11 S__law_right := by
  refine fun_of (d := d__law_right) (k := 10) (c.c.def_ 29 (d := d__law_right) rfl) (q__law_right c) rfl sc__law_right ?_
  intro f cdv A outer s H E G hr hg hT hK hnf hcode
  have C : Ctx (cxOf (L2.CX P w) P w K mg base N__law_right "_law_right" (defScope (top 41)) f cdv A outer s H E) G (fun cls d _ H => E cls d H) 10 := ctx_fn hr hg
  have hnd := sc__law_right.nd
  have h__law_lots := (fn__law_lots (P := P) (w := w) c).to hT hK
  have h__law_row := (fn__law_row (P := P) (w := w) c).to hT hK
  have h_fewest_watchers := (fn_fewest_watchers (P := P) (w := w) c).to hT hK
  have h_first_watchers := (fn_first_watchers (P := P) (w := w) c).to hT hK
  have h__law_of := (fn__law_of (P := P) (w := w) c).to hT hK
  have h__law_watched := (fn__law_watched (P := P) (w := w) c).to hT hK
  have h_is_watched := (fn_is_watched (P := P) (w := w) c).to hT hK
  have h__law_take := (fn__law_take (P := P) (w := w) c).to hT hK
  exact (DSs.cons (DS.for own_fn rfl (DI.range1 rfl (q_range c) (DA.cons DE.int DA.nil)) (DG.name hnd rfl (.inl rfl) (.inl rfl)) (DSs.cons (DS.par2 rfl hnd rfl rfl (by decide) rfl rfl (DX.cons (DE.ofV (DV.call h__law_row bp__law_row C (by decide) rfl (DR.ref (i := 0) rfl (.inr (.inl rfl)) (DR.cons DE.int DR.nil)))) (DX.cons DE.non DX.nil)) rfl) (DSs.cons (DS.set (i := 4) hnd rfl (.inl rfl) (.inl rfl) (DE.ofV (DV.call h__law_lots bp__law_lots C (by decide) rfl (DR.cons (DE.callB cd_len rfl (q_len c) (by decide +kernel) (DA.cons (DE.var (i := 2) rfl (.inl rfl)) DA.nil)) DR.nil)))) (DSs.cons (DS.for own_fn rfl (DI.seq rfl (DE.var (i := 4) rfl (.inl rfl))) (DG.name hnd rfl (.inl rfl) (.inl rfl)) (DSs.one (DS.set (i := 3) hnd rfl (.inl rfl) (.inl rfl) (DE.ifE (DW.dt (DW.and (DT.cmp od_isN (DE.var (i := 3) rfl (.inl rfl)) DE.non (nobehind _ (by decide) (by decide))) (DW.and1 (DT.val (DE.ofV (DV.call h__law_watched bp__law_watched C (by decide) rfl (DR.cons (DE.var (i := 2) rfl (.inl rfl)) (DR.cons (DE.var (i := 5) rfl (.inl rfl)) DR.nil)))))))) (DE.var (i := 5) rfl (.inl rfl)) (DE.var (i := 3) rfl (.inl rfl)))))) (DSs.cons (DS.set (i := 6) hnd rfl (.inl rfl) (.inl rfl) (DE.ofF (DF.lst (DA.cons (DE.ofV (DV.call h_fewest_watchers bp_fewest_watchers C (by decide) rfl (DR.cons (DE.var (i := 2) rfl (.inl rfl)) DR.nil))) (DA.cons (DE.ofV (DV.callK0 (ks := ["row"]) (g := fun {_} => permL [0]) h_fewest_watchers (fun _ _ _ _ _ _ _ _ _ _ us ws h1 h2 => match us, ws, h1, h2 with | [], [w0], _, _ => rfl) (rearr_perm [0] (by decide)) C (by decide) rfl (DK.cons (DE.var (i := 2) rfl (.inl rfl)) DK.nil))) (DA.cons (DE.ofV (DV.call h_first_watchers bp_first_watchers C (by decide) rfl (DR.cons (DE.var (i := 2) rfl (.inl rfl)) DR.nil))) (DA.cons (DE.ofV (DV.callK0 (ks := ["row"]) (g := fun {_} => permL [0]) h_first_watchers (fun _ _ _ _ _ _ _ _ _ _ us ws h1 h2 => match us, ws, h1, h2 with | [], [w0], _, _ => rfl) (rearr_perm [0] (by decide)) C (by decide) rfl (DK.cons (DE.var (i := 2) rfl (.inl rfl)) DK.nil))) DA.nil))))))) (DSs.cons (DS.if (DT.cmp (od_ne (Ctx.u64 C)) (DE.callB (cd_repr C.gd (Ctx.u64 C)) rfl (q_repr c) (by decide +kernel) (DA.cons (DE.var (i := 6) rfl (.inl rfl)) DA.nil)) (DE.callB (cd_repr C.gd (Ctx.u64 C)) rfl (q_repr c) (by decide +kernel) (DA.cons (DE.bin od_add (DE.bin od_mul (DE.ofF (DF.lst (DA.cons (DE.callB cd_len rfl (q_len c) (by decide +kernel) (DA.cons (DE.var (i := 3) rfl (.inl rfl)) DA.nil)) DA.nil))) DE.int) (DE.bin od_mul (DE.ofF (DF.lst (DA.cons (DE.var (i := 3) rfl (.inl rfl)) DA.nil))) DE.int)) DA.nil)) (nobehind _ (by decide) (by decide))) (DSs.one (DS.ret DE.bl)) DSs.nil) (DSs.cons (DS.for own_fn rfl (DI.range1 rfl (q_range c) (DA.cons DE.int DA.nil)) (DG.name hnd rfl (.inl rfl) (.inl rfl)) (DSs.cons (DS.set (i := 5) hnd rfl (.inl rfl) (.inl rfl) (DE.ofV (DV.call h__law_of bp__law_of C (by decide) rfl (DR.ref (i := 0) rfl (.inr (.inl rfl)) (DR.cons (DE.var (i := 4) rfl (.inl rfl)) DR.nil))))) (DSs.cons (DS.set (i := 8) hnd rfl (.inl rfl) (.inl rfl) (DE.ofV (DV.call h__law_watched bp__law_watched C (by decide) rfl (DR.cons (DE.var (i := 2) rfl (.inl rfl)) (DR.cons (DE.var (i := 5) rfl (.inl rfl)) DR.nil))))) (DSs.one (DS.if (DT.cmp (od_ne (Ctx.u64 C)) (DE.callB (cd_repr C.gd (Ctx.u64 C)) rfl (q_repr c) (by decide +kernel) (DA.cons (DE.ofF (DF.lst (DA.cons (DE.ofV (DV.call h_is_watched bp_is_watched C (by decide) rfl (DR.cons (DE.var (i := 2) rfl (.inl rfl)) (DR.cons (DE.var (i := 5) rfl (.inl rfl)) DR.nil)))) (DA.cons (DE.ofV (DV.callK0 (ks := ["lot", "row"]) (g := fun {_} => permL [1, 0]) h_is_watched (fun _ _ _ _ _ _ _ _ _ _ us ws h1 h2 => match us, ws, h1, h2 with | [], [w0, w1], _, _ => rfl) (rearr_perm [1, 0] (by decide)) C (by decide) rfl (DK.cons (DE.var (i := 5) rfl (.inl rfl)) (DK.cons (DE.var (i := 2) rfl (.inl rfl)) DK.nil)))) DA.nil)))) DA.nil)) (DE.callB (cd_repr C.gd (Ctx.u64 C)) rfl (q_repr c) (by decide +kernel) (DA.cons (DE.ofF (DF.lst (DA.cons (DE.var (i := 8) rfl (.inl rfl)) (DA.cons (DE.var (i := 8) rfl (.inl rfl)) DA.nil)))) DA.nil)) (nobehind _ (by decide) (by decide))) (DSs.one (DS.ret DE.bl)) DSs.nil))))) (DSs.cons (DS.set (i := 9) hnd rfl (.inl rfl) (.inl rfl) (DE.ofV (DV.call h__law_row bp__law_row C (by decide) rfl (DR.ref (i := 0) rfl (.inr (.inl rfl)) (DR.cons DE.int DR.nil))))) (DSs.cons (DS.set (i := 5) hnd rfl (.inl rfl) (.inl rfl) (DE.callTy (CallD.of lw_tuple tw_tuple) rfl (q_tuple c) (by decide +kernel) (DA.cons (DE.ofF (DF.lc (own := [("k", 10)]) rfl hnd (DI.range1 rfl (q_range c) (DA.cons (DE.callB cd_len rfl (q_len c) (by decide +kernel) (DA.cons (DE.var (i := 9) rfl (.inl rfl)) DA.nil)) DA.nil)) (blkOk_by (by kernel_rfl)) (by decide) (fun _ _ _ _ _ => (DG.name hnd rfl (.inl rfl) (.inr rfl))) (fun _ _ _ _ _ => (DTs.one (DT.cmp (od_eq (Ctx.u64 (Ctx.blk C))) (DE.ofV (DV.call h__law_take bp__law_take (Ctx.blk C) (by decide) rfl (DR.ref (i := 0) rfl (.inr (.inl rfl)) (DR.cons DE.int DR.nil)))) DE.int (nobehind _ (by decide) (by decide))))) (fun _ _ _ _ _ => (DE.var (i := 10) rfl (.inl rfl))))) DA.nil))) (DSs.one (DS.if (DT.cmp (od_ne (Ctx.u64 C)) (DE.callB (cd_repr C.gd (Ctx.u64 C)) rfl (q_repr c) (by decide +kernel) (DA.cons (DE.ofV (DV.call h_is_watched bp_is_watched C (by decide) rfl (DR.cons (DE.var (i := 9) rfl (.inl rfl)) (DR.cons (DE.var (i := 5) rfl (.inl rfl)) DR.nil)))) DA.nil)) (DE.callB (cd_repr C.gd (Ctx.u64 C)) rfl (q_repr c) (by decide +kernel) (DA.cons (DE.ofV (DV.call h__law_watched bp__law_watched C (by decide) rfl (DR.cons (DE.var (i := 9) rfl (.inl rfl)) (DR.cons (DE.var (i := 5) rfl (.inl rfl)) DR.nil)))) DA.nil)) (nobehind _ (by decide) (by decide))) (DSs.one (DS.ret DE.bl)) DSs.nil))))))))))) (DSs.one (DS.ret DE.bl)))
def i__law_urn_1 : M (List D) := (mItems (mL (mScrSl 0 mPartN (mPart (.ret (.int 9))))))
def b__law_urn_1 : MS := (mSet 2 (mBin pMod (mCall pInt (mCons (mBin pAdd (mBin pAdd (mBin pMul (mVar 2) (.ret (.int 50021))) (mBin pMul (mBin pMod (mCall pInt (mCons (mVar 3) mNil)) (.ret (.int 2147483477))) (.ret (.int 13)))) (.ret (.int 41))) mNil)) (.ret (.int 2147483629))))
def N__law_urn : List Str := ["script", "lap", "mixed", "cell", "own"]
def m__law_urn : MS := (mSeq (mSet 2 (mBin pAdd (.ret (.int 579017)) (mBin pMul (.ret (.int 8111)) (mVar 1)))) (mSeq (mFor i__law_urn_1 (gN 3) b__law_urn_1) (mSeq (mSet 4 (mIfE (mBl (mBin pLt (mVar 1) (mScrLen 0))) (mCall pInt (mCons (mScrIx 0 (mVar 1)) mNil)) (.ret (.int 0)))) (mSeq (mSet 2 (mBin pMod (mCall pInt (mCons (mBin pAdd (mBin pAdd (mBin pMul (mVar 2) (.ret (.int 59))) (mBin pMul (mBin pMod (mCall pInt (mCons (mVar 4) mNil)) (.ret (.int 2147483477))) (.ret (.int 30029)))) (.ret (.int 5))) mNil)) (.ret (.int 2147483629)))) (mRetF (mLst (mCons (mIfE (mOrT (mBl (mBin pLt (mVar 4) (.ret (.int 0)))) (mBl (mBin pGe (mVar 4) (mBin pPow (.ret (.int 10)) (.ret (.int 15)))))) (mCall pAbs (mCons (mVar 4) mNil)) (.ret (.int 0))) (mCons (mVar 2) (mCons (.ret (.int 0)) mNil)))))))))
def S__law_urn : Sem' := fnR N__law_urn.length m__law_urn
theorem sc__law_urn : FnScope N__law_urn ["script", "lap"] (defScope (top 34)) := C8.fnScope_by (by decide +kernel)
theorem bp__law_urn : BindsP (defArgs (top 34)) ["script", "lap"] := fun _ _ _ _ _ _ _ _ _ _ us hl => match us, hl with | [u0, u1], _ => rfl
theorem fn__law_urn (c : Fc K mg base T) : Fun P w K mg base T 4 "_law_urn" (defArgs (top 34)) ["script", "lap"] 1 S__law_urn := by
  refine fun_of (d := d__law_urn) (k := 0) (c.c.def_ 30 (d := d__law_urn) rfl) (q__law_urn c) rfl sc__law_urn ?_
  intro f cdv A outer s H E G hr hg hT hK hnf hcode
  have C : Ctx (cxOf (L2.CX P w) P w K mg base N__law_urn "_law_urn" (defScope (top 34)) f cdv A outer s H E) G (fun cls d _ H => E cls d H) 0 := ctx_fn hr hg
  have hnd := sc__law_urn.nd
  exact (DSs.cons (DS.set (i := 2) hnd rfl (.inl rfl) (.inl rfl) (DE.bin od_add DE.int (DE.bin od_mul DE.int (DE.var (i := 1) rfl (.inl rfl))))) (DSs.cons (DS.for own_fn rfl (DI.seq rfl (DE.ofF (DF.scrSl (i := 0) rfl (.inl rfl) DO'.no (DO'.at DE.int)))) (DG.name hnd rfl (.inl rfl) (.inl rfl)) (DSs.one (DS.set (i := 2) hnd rfl (.inl rfl) (.inl rfl) (DE.bin od_mod (DE.callTy cd_int rfl (q_int c) (by decide +kernel) (DA.cons (DE.bin od_add (DE.bin od_add (DE.bin od_mul (DE.var (i := 2) rfl (.inl rfl)) DE.int) (DE.bin od_mul (DE.bin od_mod (DE.callTy cd_int rfl (q_int c) (by decide +kernel) (DA.cons (DE.var (i := 3) rfl (.inl rfl)) DA.nil)) DE.int) DE.int)) DE.int) DA.nil)) DE.int)))) (DSs.cons (DS.set (i := 4) hnd rfl (.inl rfl) (.inl rfl) (DE.ifE (DT.cmp od_lt (DE.var (i := 1) rfl (.inl rfl)) (DE.scrLen (i := 0) rfl (q_len c) rfl (.inl rfl)) (nobehind _ (by decide) (by decide))) (DE.callTy cd_int rfl (q_int c) (by decide +kernel) (DA.cons (DE.scrIx (i := 0) rfl (.inl rfl) (DE.var (i := 1) rfl (.inl rfl)) (fun _ _ => rfl)) DA.nil)) DE.int)) (DSs.cons (DS.set (i := 2) hnd rfl (.inl rfl) (.inl rfl) (DE.bin od_mod (DE.callTy cd_int rfl (q_int c) (by decide +kernel) (DA.cons (DE.bin od_add (DE.bin od_add (DE.bin od_mul (DE.var (i := 2) rfl (.inl rfl)) DE.int) (DE.bin od_mul (DE.bin od_mod (DE.callTy cd_int rfl (q_int c) (by decide +kernel) (DA.cons (DE.var (i := 4) rfl (.inl rfl)) DA.nil)) DE.int) DE.int)) DE.int) DA.nil)) DE.int)) (DSs.one (DS.retF (DF.lst (DA.cons (DE.ifE (DW.dt (DW.or (DT.cmp od_lt (DE.var (i := 4) rfl (.inl rfl)) DE.int (nobehind _ (by decide) (by decide))) (DW.or1 (DT.cmp od_ge (DE.var (i := 4) rfl (.inl rfl)) (DE.bin od_pow DE.int DE.int) (nobehind _ (by decide) (by decide)))))) (DE.callB cd_abs rfl (q_abs c) (by decide +kernel) (DA.cons (DE.var (i := 4) rfl (.inl rfl)) DA.nil)) DE.int) (DA.cons (DE.var (i := 2) rfl (.inl rfl)) (DA.cons DE.int DA.nil))))))))))
def c_law_1 : M (List D) := (mLc (mCallF pRng1 (mCons (mCall pMax2 (mCons (.ret (.int 1)) (mCons (mCall pMin2 (mCons (mScrLen 0) (mCons (.ret (.int 2)) mNil))) mNil))) mNil)) [1] (gN 1) (.ret true) (mVD (mUser1F S__law_right (mVF (mUser S__law_urn (mRef 0 (mAC (mVar 1) mAN)))))))
def N_law : List Str := ["script", "lap"]
def m_law : MS := (mRet (mCall (one1 qAll noB) (mCons (mL c_law_1) mNil)))
def S_law : Sem' := fnR N_law.length m_law
theorem sc_law : FnScope N_law ["script"] (defScope (top 42)) := C8.fnScope_by (by decide +kernel)
theorem bp_law : BindsP (defArgs (top 42)) ["script"] := fun _ _ _ _ _ _ _ _ _ _ us hl => match us, hl with | [u0], _ => rfl
theorem fn_law (c : Fc K mg base T) : Fun P w K mg base T 4 "law" (defArgs (top 42)) ["script"] 12 S_law := by
  refine fun_of (d := d_law) (k := 11) (c.c.def_ 31 (d := d_law) rfl) (q_law c) rfl sc_law ?_
  intro f cdv A outer s H E G hr hg hT hK hnf hcode
  have C : Ctx (cxOf (L2.CX P w) P w K mg base N_law "law" (defScope (top 42)) f cdv A outer s H E) G (fun cls d _ H => E cls d H) 11 := ctx_fn hr hg
  have hnd := sc_law.nd
  have h__law_right := (fn__law_right (P := P) (w := w) c).to hT hK
  have h__law_urn := (fn__law_urn (P := P) (w := w) c).to hT hK
  exact (DSs.one (DS.ret (DE.callB (CallD.of (lw_all rfl) TupW.no) rfl (q_all c) (by decide +kernel) (DA.cons (DE.ofF (DF.lc (own := [("lap", 1)]) rfl hnd (DI.range1 rfl (q_range c) (DA.cons (DE.callB (cd_max2 rfl) rfl (q_max c) (by decide +kernel) (DA.cons DE.int (DA.cons (DE.callB (cd_min2 rfl) rfl (q_min c) (by decide +kernel) (DA.cons (DE.scrLen (i := 0) rfl (q_len c) rfl (.inr (.inl rfl))) (DA.cons DE.int DA.nil))) DA.nil))) DA.nil)) (blkOk_by (by kernel_rfl)) (by decide) (fun _ _ _ _ _ => (DG.name hnd rfl (.inl rfl) (.inr rfl))) (fun _ _ _ _ _ => DTs.nil) (fun _ _ _ _ _ => (DE.ofV (DV.call1F h__law_right bp__law_right (Ctx.blk C) (by decide) rfl (DF.ofV (DV.call h__law_urn bp__law_urn (Ctx.blk C) (by decide) rfl (DR.ref (i := 0) rfl (.inr (.inl rfl)) (DR.cons (DE.var (i := 1) rfl (.inl rfl)) DR.nil))))))))) DA.nil))))
end
end
end SL
end
section
set_option maxRecDepth 100000
set_option maxHeartbeats 4000000
namespace SL
noncomputable section
open PySem PySem.Spec L2 LamX NdefX DL
open PyProof.Rows hiding St
def mn (a b : Int) : Int := if b < a then b else a
def mx (a b : Int) : Int := if b > a then b else a
theorem min2 {a b : Int} : pMin2 [.int a, .int b] = .ok (.int (mn a b)) := rfl
theorem max2 {a b : Int} : pMax2 [.int a, .int b] = .ok (.int (mx a b)) := rfl
theorem mn_l {a b : Int} (h : a ≤ b) : mn a b = a := by unfold mn; split <;> omega
theorem mn_r {a b : Int} (h : b ≤ a) : mn a b = b := by unfold mn; split <;> omega
theorem mx_l {a b : Int} (h : b ≤ a) : mx a b = a := by unfold mx; split <;> omega
theorem mx_r {a b : Int} (h : a ≤ b) : mx a b = b := by unfold mx; split <;> omega
theorem lt_mn {a b c : Int} : c < mn a b ↔ c < a ∧ c < b := by unfold mn; split <;> omega
theorem mn_le {a b c : Int} : mn a b ≤ c ↔ a ≤ c ∨ b ≤ c := by unfold mn; split <;> omega
def rowOk (r : List Int) : Prop := r.Nodup ∧ (∀ x ∈ r, 0 ≤ x ∧ x ≤ 999) ∧ 1 ≤ r.length ∧ r.length ≤ 12
theorem hd_dat (d : D) : hideS (.dat d) = .dat d := rfl
theorem hd_own (l : List D) : hideS (.own l) = .own l := rfl
theorem hd_bor (l : List D) : hideS (.bor l) = .bor l := rfl
theorem hd_emp : hideS .emp = .emp := rfl
theorem hd_scr (l : List Int) : hideS (.scr l) = .scr l := rfl
def SeqI (q : D) (r : List Int) : Prop := pLen [q] = .ok (.int r.length) ∧ ∀ (i : Int) (k : Nat), i = k → k < r.length → pIx q (.int i) = .ok (.int (nt r k))
theorem seq_T (r : List Int) : SeqI (intT r) r := ⟨DL.len_T, fun _ _ h1 h2 => ix_T h1 h2⟩
theorem seq_L (r : List Int) : SeqI (intL r) r := ⟨DL.len_L, fun _ _ h1 h2 => ix_L h1 h2⟩
theorem ne_t0 {xs : List D} (h : xs.all (shp 19) = true) : pNe (.tuple xs) (.tuple []) = .ok (.bool (!xs.isEmpty)) := by
  rw [DL.ne_of rfl (shp_tup h) (by rfl), PyData.eqv, eqv_nil]
theorem ne_l0 {xs : List D} (h : xs.all (shp 19) = true) : pNe (.list xs) (.list []) = .ok (.bool (!xs.isEmpty)) := by
  rw [DL.ne_of rfl (shp_list h) (by rfl), PyData.eqv, eqv_nil]
theorem ne_bb {b : Bool} : pNe (.bool b) (.bool b) = .ok (.bool false) := by
  rw [DL.ne_of rfl (by simp [shp]) (by simp [shp])]; simp [PyData.eqv]
theorem one1_l {α : Type} {f g : List D → Rs α} {xs : List D} : one1 f g [.list xs] = f xs := rfl
theorem one1_t {α : Type} {f g : List D → Rs α} {xs : List D} : one1 f g [.tuple xs] = g xs := rfl

/-! draws -/
theorem s_take (a b c t : Int) (ht : 0 < t) (h2 : t < 1000000) : ∃ v a' b' c', S__law_take [.bor [.int a, .int b, .int c], .dat (.int t)] = (.ok (.d (.int v)), [.int a', .int b', .int c']) ∧ 0 ≤ v ∧ v < t := by
  by_cases h : 0 < a
  · have h' : decide (0 < a) = true := decide_eq_true h
    have hg : (0 < t ∧ t < 1073741824) := ⟨ht, by omega⟩
    refine ⟨a % t, a / t, b, c, ?_, Int.emod_nonneg _ (by omega), Int.emod_lt_of_pos _ ht⟩
    simp only [S__law_take, m__law_take, N__law_take, h', pDivmod, eq_true hg, grd, one1_l, one1_t, Option.bind_some, putG, mAsg, mCallK, mUserK, permL, List.filterMap_cons, List.filterMap_nil, qTup, Nat.reduceLeDiff, Nat.reduceLT, Nat.zero_add, and_self, modR, fdR, mulMod, mulModL, Int.reduceLT, Int.reduceLE, Int.reduceNeg, at3_0, at3_1, at3_2, at2_0, at2_1, ix3_0, ix3_1, ix3_2, mulR, mulL, add_ii, sub_ii, gt_ii, lt_ii, ge_ii, le_ii, ix_l, ix_t, ofO_s, int_i, len_l, len_t, fnR, headB, rvOf, mSeq, mIf, mOrT, mAndT, mNotT, mTru, mBl, mVD, mVF, mUser, mUser1F, mAC, mAN, mRef, mVar, DL.M.bind, DL.M.ret, DL.M.lift, DL.M.fail, arSls, arSl, lendAt, updB, getL, ownSl, Rs.pure?, Rs.bind, pTru, pBl, mBin, mUn, mRet, mRetF, mSet, mSetF, put, mExpr, mCall, mCallF, mCallW, mPeek, mCons, mNil, mTup, mLst, mL, mAnd, mOr, mNot, mIfE, mStore, mStoreN, mSetAt, mGetL, mPutL, mIxW, mApp, mPar, putS, setSl, mXN, mXC, mXO, mPart, mPartN, mSl, mLam, mLam0, mCallV, mFnAt, callee, capV, mItems, mScr, mScrIx, mScrLen, mScrSl, gN, gT, gsC, gsN, List.getElem?_cons_zero, List.getElem?_cons_succ, List.map_cons, List.map_nil, List.cons_append, List.nil_append, List.length_cons, List.length_nil, List.replicate_zero, List.replicate_succ, List.set_cons_zero, List.set_cons_succ, ite_ap, if_true, if_false, Bool.false_eq_true, Bool.true_eq_false, reduceIte, Nat.reduceSub, Nat.reduceAdd, Bool.not_true, Bool.not_false, Bool.true_and, Bool.false_and, Bool.and_true, Bool.and_false]
  · have h' : decide (0 < a) = false := decide_eq_false h
    refine ⟨_, _, _, _, by
      simp only [S__law_take, m__law_take, N__law_take, h', modR ht, grd, one1_l, one1_t, Option.bind_some, putG, mAsg, mCallK, mUserK, permL, List.filterMap_cons, List.filterMap_nil, qTup, Nat.reduceLeDiff, Nat.reduceLT, Nat.zero_add, and_self, modR, fdR, mulMod, mulModL, Int.reduceLT, Int.reduceLE, Int.reduceNeg, at3_0, at3_1, at3_2, at2_0, at2_1, ix3_0, ix3_1, ix3_2, mulR, mulL, add_ii, sub_ii, gt_ii, lt_ii, ge_ii, le_ii, ix_l, ix_t, ofO_s, int_i, len_l, len_t, fnR, headB, rvOf, mSeq, mIf, mOrT, mAndT, mNotT, mTru, mBl, mVD, mVF, mUser, mUser1F, mAC, mAN, mRef, mVar, DL.M.bind, DL.M.ret, DL.M.lift, DL.M.fail, arSls, arSl, lendAt, updB, getL, ownSl, Rs.pure?, Rs.bind, pTru, pBl, mBin, mUn, mRet, mRetF, mSet, mSetF, put, mExpr, mCall, mCallF, mCallW, mPeek, mCons, mNil, mTup, mLst, mL, mAnd, mOr, mNot, mIfE, mStore, mStoreN, mSetAt, mGetL, mPutL, mIxW, mApp, mPar, putS, setSl, mXN, mXC, mXO, mPart, mPartN, mSl, mLam, mLam0, mCallV, mFnAt, callee, capV, mItems, mScr, mScrIx, mScrLen, mScrSl, gN, gT, gsC, gsN, List.getElem?_cons_zero, List.getElem?_cons_succ, List.map_cons, List.map_nil, List.cons_append, List.nil_append, List.length_cons, List.length_nil, List.replicate_zero, List.replicate_succ, List.set_cons_zero, List.set_cons_succ, ite_ap, if_true, if_false, Bool.false_eq_true, Bool.true_eq_false, reduceIte, Nat.reduceSub, Nat.reduceAdd, Bool.not_true, Bool.not_false, Bool.true_and, Bool.false_and, Bool.and_true, Bool.and_false]
      exact rfl, Int.emod_nonneg _ (by omega), Int.emod_lt_of_pos _ ht⟩

theorem s_of (a b c : Int) (xs : List D) (h : xs ≠ []) (hl : xs.length < 100000) (q : D) (hq : q = .list xs ∨ q = .tuple xs) : ∃ x ∈ xs, ∃ a' b' c', S__law_of [.bor [.int a, .int b, .int c], .dat q] = (.ok (.d x), [.int a', .int b', .int c']) := by
  have h0 : 0 < xs.length := List.length_pos_iff.mpr h
  obtain ⟨v, a', b', c', e, v0, v1⟩ := s_take a b c xs.length (by omega) (by omega)
  have hi : v.toNat < xs.length := by omega
  have ha : atI xs v = some xs[v.toNat] := by
    unfold atI ixN
    rw [if_pos v0, if_pos (by omega)]
    exact List.getElem?_eq_getElem hi
  refine ⟨xs[v.toNat], List.getElem_mem hi, a', b', c', ?_⟩
  rcases hq with rfl | rfl
  · simp only [S__law_of, m__law_of, N__law_of, e, ha, grd, one1_l, one1_t, Option.bind_some, putG, mAsg, mCallK, mUserK, permL, List.filterMap_cons, List.filterMap_nil, qTup, Nat.reduceLeDiff, Nat.reduceLT, Nat.zero_add, and_self, modR, fdR, mulMod, mulModL, Int.reduceLT, Int.reduceLE, Int.reduceNeg, at3_0, at3_1, at3_2, at2_0, at2_1, ix3_0, ix3_1, ix3_2, mulR, mulL, add_ii, sub_ii, gt_ii, lt_ii, ge_ii, le_ii, ix_l, ix_t, ofO_s, int_i, len_l, len_t, fnR, headB, rvOf, mSeq, mIf, mOrT, mAndT, mNotT, mTru, mBl, mVD, mVF, mUser, mUser1F, mAC, mAN, mRef, mVar, DL.M.bind, DL.M.ret, DL.M.lift, DL.M.fail, arSls, arSl, lendAt, updB, getL, ownSl, Rs.pure?, Rs.bind, pTru, pBl, mBin, mUn, mRet, mRetF, mSet, mSetF, put, mExpr, mCall, mCallF, mCallW, mPeek, mCons, mNil, mTup, mLst, mL, mAnd, mOr, mNot, mIfE, mStore, mStoreN, mSetAt, mGetL, mPutL, mIxW, mApp, mPar, putS, setSl, mXN, mXC, mXO, mPart, mPartN, mSl, mLam, mLam0, mCallV, mFnAt, callee, capV, mItems, mScr, mScrIx, mScrLen, mScrSl, gN, gT, gsC, gsN, List.getElem?_cons_zero, List.getElem?_cons_succ, List.map_cons, List.map_nil, List.cons_append, List.nil_append, List.length_cons, List.length_nil, List.replicate_zero, List.replicate_succ, List.set_cons_zero, List.set_cons_succ, ite_ap, if_true, if_false, Bool.false_eq_true, Bool.true_eq_false, reduceIte, Nat.reduceSub, Nat.reduceAdd, Bool.not_true, Bool.not_false, Bool.true_and, Bool.false_and, Bool.and_true, Bool.and_false]
  · simp only [S__law_of, m__law_of, N__law_of, e, ha, grd, one1_l, one1_t, Option.bind_some, putG, mAsg, mCallK, mUserK, permL, List.filterMap_cons, List.filterMap_nil, qTup, Nat.reduceLeDiff, Nat.reduceLT, Nat.zero_add, and_self, modR, fdR, mulMod, mulModL, Int.reduceLT, Int.reduceLE, Int.reduceNeg, at3_0, at3_1, at3_2, at2_0, at2_1, ix3_0, ix3_1, ix3_2, mulR, mulL, add_ii, sub_ii, gt_ii, lt_ii, ge_ii, le_ii, ix_l, ix_t, ofO_s, int_i, len_l, len_t, fnR, headB, rvOf, mSeq, mIf, mOrT, mAndT, mNotT, mTru, mBl, mVD, mVF, mUser, mUser1F, mAC, mAN, mRef, mVar, DL.M.bind, DL.M.ret, DL.M.lift, DL.M.fail, arSls, arSl, lendAt, updB, getL, ownSl, Rs.pure?, Rs.bind, pTru, pBl, mBin, mUn, mRet, mRetF, mSet, mSetF, put, mExpr, mCall, mCallF, mCallW, mPeek, mCons, mNil, mTup, mLst, mL, mAnd, mOr, mNot, mIfE, mStore, mStoreN, mSetAt, mGetL, mPutL, mIxW, mApp, mPar, putS, setSl, mXN, mXC, mXO, mPart, mPartN, mSl, mLam, mLam0, mCallV, mFnAt, callee, capV, mItems, mScr, mScrIx, mScrLen, mScrSl, gN, gT, gsC, gsN, List.getElem?_cons_zero, List.getElem?_cons_succ, List.map_cons, List.map_nil, List.cons_append, List.nil_append, List.length_cons, List.length_nil, List.replicate_zero, List.replicate_succ, List.set_cons_zero, List.set_cons_succ, ite_ap, if_true, if_false, Bool.false_eq_true, Bool.true_eq_false, reduceIte, Nat.reduceSub, Nat.reduceAdd, Bool.not_true, Bool.not_false, Bool.true_and, Bool.false_and, Bool.and_true, Bool.and_false]


def wE (A B C : Int) (k t h f : Slot) (r : List Int) : Env' := [.bor [.int A, .int B, .int C], k, .own (r.map .int), t, h, f, .emp]
theorem w_1 (A B C h : Int) (k t f : Slot) (hk : hideS k = k) (ht : hideS t = t) (hf : hideS f = f) (r : List Int) : c__law_row_1 (wE A B C k t (.dat (.int h)) f r) = (.ok (((List.range 1000).filter fun (i : Nat) => !decide ((i : Int) ∈ r) && decide (h ≤ (i : Int))).map fun (i : Nat) => .int (i : Int)), wE A B C k t (.dat (.int h)) f r) := by
  unfold c__law_row_1
  refine lc_map (List.range 1000) (fun (i : Nat) => .int (i : Int)) _ _ (ρ1 := wE A B C k t (.dat (.int h)) f r) (by simp only [rng1_ok (show (1000 : Int) < 1000000000 by decide) (by decide), grd, one1_l, one1_t, Option.bind_some, putG, mAsg, mCallK, mUserK, permL, List.filterMap_cons, List.filterMap_nil, qTup, Nat.reduceLeDiff, Nat.reduceLT, Nat.zero_add, and_self, modR, fdR, mulMod, mulModL, Int.reduceLT, Int.reduceLE, Int.reduceNeg, at3_0, at3_1, at3_2, at2_0, at2_1, ix3_0, ix3_1, ix3_2, mulR, mulL, add_ii, sub_ii, gt_ii, lt_ii, ge_ii, le_ii, ix_l, ix_t, ofO_s, int_i, len_l, len_t, fnR, headB, rvOf, mSeq, mIf, mOrT, mAndT, mNotT, mTru, mBl, mVD, mVF, mUser, mUser1F, mAC, mAN, mRef, mVar, DL.M.bind, DL.M.ret, DL.M.lift, DL.M.fail, arSls, arSl, lendAt, updB, getL, ownSl, Rs.pure?, Rs.bind, pTru, pBl, mBin, mUn, mRet, mRetF, mSet, mSetF, put, mExpr, mCall, mCallF, mCallW, mPeek, mCons, mNil, mTup, mLst, mL, mAnd, mOr, mNot, mIfE, mStore, mStoreN, mSetAt, mGetL, mPutL, mIxW, mApp, mPar, putS, setSl, mXN, mXC, mXO, mPart, mPartN, mSl, mLam, mLam0, mCallV, mFnAt, callee, capV, mItems, mScr, mScrIx, mScrLen, mScrSl, gN, gT, gsC, gsN, List.getElem?_cons_zero, List.getElem?_cons_succ, List.map_cons, List.map_nil, List.cons_append, List.nil_append, List.length_cons, List.length_nil, List.replicate_zero, List.replicate_succ, List.set_cons_zero, List.set_cons_succ, ite_ap, if_true, if_false, Bool.false_eq_true, Bool.true_eq_false, reduceIte, Nat.reduceSub, Nat.reduceAdd, Bool.not_true, Bool.not_false, Bool.true_and, Bool.false_and, Bool.and_true, Bool.and_false]; rw [rng_map0]; rfl) (by rw [List.length_range]; decide) fun i _ => ?_
  refine ⟨[.bor [.int A, .int B, .int C], k, .own (r.map .int), t, .dat (.int h), f, .dat (.int i)], ?_, ?_, ?_, fun _ => ?_⟩
  · simp only [wE, enterR, wipeR, hk, ht, hf, hd_dat, hd_own, hd_bor, hd_emp, grd, one1_l, one1_t, Option.bind_some, putG, mAsg, mCallK, mUserK, permL, List.filterMap_cons, List.filterMap_nil, qTup, Nat.reduceLeDiff, Nat.reduceLT, Nat.zero_add, and_self, modR, fdR, mulMod, mulModL, Int.reduceLT, Int.reduceLE, Int.reduceNeg, at3_0, at3_1, at3_2, at2_0, at2_1, ix3_0, ix3_1, ix3_2, mulR, mulL, add_ii, sub_ii, gt_ii, lt_ii, ge_ii, le_ii, ix_l, ix_t, ofO_s, int_i, len_l, len_t, fnR, headB, rvOf, mSeq, mIf, mOrT, mAndT, mNotT, mTru, mBl, mVD, mVF, mUser, mUser1F, mAC, mAN, mRef, mVar, DL.M.bind, DL.M.ret, DL.M.lift, DL.M.fail, arSls, arSl, lendAt, updB, getL, ownSl, Rs.pure?, Rs.bind, pTru, pBl, mBin, mUn, mRet, mRetF, mSet, mSetF, put, mExpr, mCall, mCallF, mCallW, mPeek, mCons, mNil, mTup, mLst, mL, mAnd, mOr, mNot, mIfE, mStore, mStoreN, mSetAt, mGetL, mPutL, mIxW, mApp, mPar, putS, setSl, mXN, mXC, mXO, mPart, mPartN, mSl, mLam, mLam0, mCallV, mFnAt, callee, capV, mItems, mScr, mScrIx, mScrLen, mScrSl, gN, gT, gsC, gsN, List.getElem?_cons_zero, List.getElem?_cons_succ, List.map_cons, List.map_nil, List.cons_append, List.nil_append, List.length_cons, List.length_nil, List.replicate_zero, List.replicate_succ, List.set_cons_zero, List.set_cons_succ, ite_ap, if_true, if_false, Bool.false_eq_true, Bool.true_eq_false, reduceIte, Nat.reduceSub, Nat.reduceAdd, Bool.not_true, Bool.not_false, Bool.true_and, Bool.false_and, Bool.and_true, Bool.and_false]
  · simp only [wE, enterR, wipeR, hk, ht, hf, hd_dat, hd_own, hd_bor, hd_emp, grd, one1_l, one1_t, Option.bind_some, putG, mAsg, mCallK, mUserK, permL, List.filterMap_cons, List.filterMap_nil, qTup, Nat.reduceLeDiff, Nat.reduceLT, Nat.zero_add, and_self, modR, fdR, mulMod, mulModL, Int.reduceLT, Int.reduceLE, Int.reduceNeg, at3_0, at3_1, at3_2, at2_0, at2_1, ix3_0, ix3_1, ix3_2, mulR, mulL, add_ii, sub_ii, gt_ii, lt_ii, ge_ii, le_ii, ix_l, ix_t, ofO_s, int_i, len_l, len_t, fnR, headB, rvOf, mSeq, mIf, mOrT, mAndT, mNotT, mTru, mBl, mVD, mVF, mUser, mUser1F, mAC, mAN, mRef, mVar, DL.M.bind, DL.M.ret, DL.M.lift, DL.M.fail, arSls, arSl, lendAt, updB, getL, ownSl, Rs.pure?, Rs.bind, pTru, pBl, mBin, mUn, mRet, mRetF, mSet, mSetF, put, mExpr, mCall, mCallF, mCallW, mPeek, mCons, mNil, mTup, mLst, mL, mAnd, mOr, mNot, mIfE, mStore, mStoreN, mSetAt, mGetL, mPutL, mIxW, mApp, mPar, putS, setSl, mXN, mXC, mXO, mPart, mPartN, mSl, mLam, mLam0, mCallV, mFnAt, callee, capV, mItems, mScr, mScrIx, mScrLen, mScrSl, gN, gT, gsC, gsN, List.getElem?_cons_zero, List.getElem?_cons_succ, List.map_cons, List.map_nil, List.cons_append, List.nil_append, List.length_cons, List.length_nil, List.replicate_zero, List.replicate_succ, List.set_cons_zero, List.set_cons_succ, ite_ap, if_true, if_false, Bool.false_eq_true, Bool.true_eq_false, reduceIte, Nat.reduceSub, Nat.reduceAdd, Bool.not_true, Bool.not_false, Bool.true_and, Bool.false_and, Bool.and_true, Bool.and_false]
  · by_cases h1 : (i : Int) ∈ r
    · have h1' := decide_eq_true h1
      simp only [mInW, notin_L, h1', grd, one1_l, one1_t, Option.bind_some, putG, mAsg, mCallK, mUserK, permL, List.filterMap_cons, List.filterMap_nil, qTup, Nat.reduceLeDiff, Nat.reduceLT, Nat.zero_add, and_self, modR, fdR, mulMod, mulModL, Int.reduceLT, Int.reduceLE, Int.reduceNeg, at3_0, at3_1, at3_2, at2_0, at2_1, ix3_0, ix3_1, ix3_2, mulR, mulL, add_ii, sub_ii, gt_ii, lt_ii, ge_ii, le_ii, ix_l, ix_t, ofO_s, int_i, len_l, len_t, fnR, headB, rvOf, mSeq, mIf, mOrT, mAndT, mNotT, mTru, mBl, mVD, mVF, mUser, mUser1F, mAC, mAN, mRef, mVar, DL.M.bind, DL.M.ret, DL.M.lift, DL.M.fail, arSls, arSl, lendAt, updB, getL, ownSl, Rs.pure?, Rs.bind, pTru, pBl, mBin, mUn, mRet, mRetF, mSet, mSetF, put, mExpr, mCall, mCallF, mCallW, mPeek, mCons, mNil, mTup, mLst, mL, mAnd, mOr, mNot, mIfE, mStore, mStoreN, mSetAt, mGetL, mPutL, mIxW, mApp, mPar, putS, setSl, mXN, mXC, mXO, mPart, mPartN, mSl, mLam, mLam0, mCallV, mFnAt, callee, capV, mItems, mScr, mScrIx, mScrLen, mScrSl, gN, gT, gsC, gsN, List.getElem?_cons_zero, List.getElem?_cons_succ, List.map_cons, List.map_nil, List.cons_append, List.nil_append, List.length_cons, List.length_nil, List.replicate_zero, List.replicate_succ, List.set_cons_zero, List.set_cons_succ, ite_ap, if_true, if_false, Bool.false_eq_true, Bool.true_eq_false, reduceIte, Nat.reduceSub, Nat.reduceAdd, Bool.not_true, Bool.not_false, Bool.true_and, Bool.false_and, Bool.and_true, Bool.and_false]
    · have h1' := decide_eq_false h1
      simp only [mInW, notin_L, h1', grd, one1_l, one1_t, Option.bind_some, putG, mAsg, mCallK, mUserK, permL, List.filterMap_cons, List.filterMap_nil, qTup, Nat.reduceLeDiff, Nat.reduceLT, Nat.zero_add, and_self, modR, fdR, mulMod, mulModL, Int.reduceLT, Int.reduceLE, Int.reduceNeg, at3_0, at3_1, at3_2, at2_0, at2_1, ix3_0, ix3_1, ix3_2, mulR, mulL, add_ii, sub_ii, gt_ii, lt_ii, ge_ii, le_ii, ix_l, ix_t, ofO_s, int_i, len_l, len_t, fnR, headB, rvOf, mSeq, mIf, mOrT, mAndT, mNotT, mTru, mBl, mVD, mVF, mUser, mUser1F, mAC, mAN, mRef, mVar, DL.M.bind, DL.M.ret, DL.M.lift, DL.M.fail, arSls, arSl, lendAt, updB, getL, ownSl, Rs.pure?, Rs.bind, pTru, pBl, mBin, mUn, mRet, mRetF, mSet, mSetF, put, mExpr, mCall, mCallF, mCallW, mPeek, mCons, mNil, mTup, mLst, mL, mAnd, mOr, mNot, mIfE, mStore, mStoreN, mSetAt, mGetL, mPutL, mIxW, mApp, mPar, putS, setSl, mXN, mXC, mXO, mPart, mPartN, mSl, mLam, mLam0, mCallV, mFnAt, callee, capV, mItems, mScr, mScrIx, mScrLen, mScrSl, gN, gT, gsC, gsN, List.getElem?_cons_zero, List.getElem?_cons_succ, List.map_cons, List.map_nil, List.cons_append, List.nil_append, List.length_cons, List.length_nil, List.replicate_zero, List.replicate_succ, List.set_cons_zero, List.set_cons_succ, ite_ap, if_true, if_false, Bool.false_eq_true, Bool.true_eq_false, reduceIte, Nat.reduceSub, Nat.reduceAdd, Bool.not_true, Bool.not_false, Bool.true_and, Bool.false_and, Bool.and_true, Bool.and_false]
  · simp only [grd, one1_l, one1_t, Option.bind_some, putG, mAsg, mCallK, mUserK, permL, List.filterMap_cons, List.filterMap_nil, qTup, Nat.reduceLeDiff, Nat.reduceLT, Nat.zero_add, and_self, modR, fdR, mulMod, mulModL, Int.reduceLT, Int.reduceLE, Int.reduceNeg, at3_0, at3_1, at3_2, at2_0, at2_1, ix3_0, ix3_1, ix3_2, mulR, mulL, add_ii, sub_ii, gt_ii, lt_ii, ge_ii, le_ii, ix_l, ix_t, ofO_s, int_i, len_l, len_t, fnR, headB, rvOf, mSeq, mIf, mOrT, mAndT, mNotT, mTru, mBl, mVD, mVF, mUser, mUser1F, mAC, mAN, mRef, mVar, DL.M.bind, DL.M.ret, DL.M.lift, DL.M.fail, arSls, arSl, lendAt, updB, getL, ownSl, Rs.pure?, Rs.bind, pTru, pBl, mBin, mUn, mRet, mRetF, mSet, mSetF, put, mExpr, mCall, mCallF, mCallW, mPeek, mCons, mNil, mTup, mLst, mL, mAnd, mOr, mNot, mIfE, mStore, mStoreN, mSetAt, mGetL, mPutL, mIxW, mApp, mPar, putS, setSl, mXN, mXC, mXO, mPart, mPartN, mSl, mLam, mLam0, mCallV, mFnAt, callee, capV, mItems, mScr, mScrIx, mScrLen, mScrSl, gN, gT, gsC, gsN, List.getElem?_cons_zero, List.getElem?_cons_succ, List.map_cons, List.map_nil, List.cons_append, List.nil_append, List.length_cons, List.length_nil, List.replicate_zero, List.replicate_succ, List.set_cons_zero, List.set_cons_succ, ite_ap, if_true, if_false, Bool.false_eq_true, Bool.true_eq_false, reduceIte, Nat.reduceSub, Nat.reduceAdd, Bool.not_true, Bool.not_false, Bool.true_and, Bool.false_and, Bool.and_true, Bool.and_false]
theorem w_2 (A B C : Int) (k t h f : Slot) (hk : hideS k = k) (ht : hideS t = t) (hh : hideS h = h) (hf : hideS f = f) (r : List Int) : c__law_row_2 (wE A B C k t h f r) = (.ok (((List.range 1000).filter fun (i : Nat) => !decide ((i : Int) ∈ r)).map fun (i : Nat) => .int (i : Int)), wE A B C k t h f r) := by
  unfold c__law_row_2
  refine lc_map (List.range 1000) (fun (i : Nat) => .int (i : Int)) _ _ (ρ1 := wE A B C k t h f r) (by simp only [rng1_ok (show (1000 : Int) < 1000000000 by decide) (by decide), grd, one1_l, one1_t, Option.bind_some, putG, mAsg, mCallK, mUserK, permL, List.filterMap_cons, List.filterMap_nil, qTup, Nat.reduceLeDiff, Nat.reduceLT, Nat.zero_add, and_self, modR, fdR, mulMod, mulModL, Int.reduceLT, Int.reduceLE, Int.reduceNeg, at3_0, at3_1, at3_2, at2_0, at2_1, ix3_0, ix3_1, ix3_2, mulR, mulL, add_ii, sub_ii, gt_ii, lt_ii, ge_ii, le_ii, ix_l, ix_t, ofO_s, int_i, len_l, len_t, fnR, headB, rvOf, mSeq, mIf, mOrT, mAndT, mNotT, mTru, mBl, mVD, mVF, mUser, mUser1F, mAC, mAN, mRef, mVar, DL.M.bind, DL.M.ret, DL.M.lift, DL.M.fail, arSls, arSl, lendAt, updB, getL, ownSl, Rs.pure?, Rs.bind, pTru, pBl, mBin, mUn, mRet, mRetF, mSet, mSetF, put, mExpr, mCall, mCallF, mCallW, mPeek, mCons, mNil, mTup, mLst, mL, mAnd, mOr, mNot, mIfE, mStore, mStoreN, mSetAt, mGetL, mPutL, mIxW, mApp, mPar, putS, setSl, mXN, mXC, mXO, mPart, mPartN, mSl, mLam, mLam0, mCallV, mFnAt, callee, capV, mItems, mScr, mScrIx, mScrLen, mScrSl, gN, gT, gsC, gsN, List.getElem?_cons_zero, List.getElem?_cons_succ, List.map_cons, List.map_nil, List.cons_append, List.nil_append, List.length_cons, List.length_nil, List.replicate_zero, List.replicate_succ, List.set_cons_zero, List.set_cons_succ, ite_ap, if_true, if_false, Bool.false_eq_true, Bool.true_eq_false, reduceIte, Nat.reduceSub, Nat.reduceAdd, Bool.not_true, Bool.not_false, Bool.true_and, Bool.false_and, Bool.and_true, Bool.and_false]; rw [rng_map0]; rfl) (by rw [List.length_range]; decide) fun i _ => ?_
  refine ⟨[.bor [.int A, .int B, .int C], k, .own (r.map .int), t, h, f, .dat (.int i)], ?_, ?_, ?_, fun _ => ?_⟩
  · simp only [wE, enterR, wipeR, hk, ht, hf, hh, hd_dat, hd_own, hd_bor, hd_emp, grd, one1_l, one1_t, Option.bind_some, putG, mAsg, mCallK, mUserK, permL, List.filterMap_cons, List.filterMap_nil, qTup, Nat.reduceLeDiff, Nat.reduceLT, Nat.zero_add, and_self, modR, fdR, mulMod, mulModL, Int.reduceLT, Int.reduceLE, Int.reduceNeg, at3_0, at3_1, at3_2, at2_0, at2_1, ix3_0, ix3_1, ix3_2, mulR, mulL, add_ii, sub_ii, gt_ii, lt_ii, ge_ii, le_ii, ix_l, ix_t, ofO_s, int_i, len_l, len_t, fnR, headB, rvOf, mSeq, mIf, mOrT, mAndT, mNotT, mTru, mBl, mVD, mVF, mUser, mUser1F, mAC, mAN, mRef, mVar, DL.M.bind, DL.M.ret, DL.M.lift, DL.M.fail, arSls, arSl, lendAt, updB, getL, ownSl, Rs.pure?, Rs.bind, pTru, pBl, mBin, mUn, mRet, mRetF, mSet, mSetF, put, mExpr, mCall, mCallF, mCallW, mPeek, mCons, mNil, mTup, mLst, mL, mAnd, mOr, mNot, mIfE, mStore, mStoreN, mSetAt, mGetL, mPutL, mIxW, mApp, mPar, putS, setSl, mXN, mXC, mXO, mPart, mPartN, mSl, mLam, mLam0, mCallV, mFnAt, callee, capV, mItems, mScr, mScrIx, mScrLen, mScrSl, gN, gT, gsC, gsN, List.getElem?_cons_zero, List.getElem?_cons_succ, List.map_cons, List.map_nil, List.cons_append, List.nil_append, List.length_cons, List.length_nil, List.replicate_zero, List.replicate_succ, List.set_cons_zero, List.set_cons_succ, ite_ap, if_true, if_false, Bool.false_eq_true, Bool.true_eq_false, reduceIte, Nat.reduceSub, Nat.reduceAdd, Bool.not_true, Bool.not_false, Bool.true_and, Bool.false_and, Bool.and_true, Bool.and_false]
  · simp only [wE, enterR, wipeR, hk, ht, hf, hh, hd_dat, hd_own, hd_bor, hd_emp, grd, one1_l, one1_t, Option.bind_some, putG, mAsg, mCallK, mUserK, permL, List.filterMap_cons, List.filterMap_nil, qTup, Nat.reduceLeDiff, Nat.reduceLT, Nat.zero_add, and_self, modR, fdR, mulMod, mulModL, Int.reduceLT, Int.reduceLE, Int.reduceNeg, at3_0, at3_1, at3_2, at2_0, at2_1, ix3_0, ix3_1, ix3_2, mulR, mulL, add_ii, sub_ii, gt_ii, lt_ii, ge_ii, le_ii, ix_l, ix_t, ofO_s, int_i, len_l, len_t, fnR, headB, rvOf, mSeq, mIf, mOrT, mAndT, mNotT, mTru, mBl, mVD, mVF, mUser, mUser1F, mAC, mAN, mRef, mVar, DL.M.bind, DL.M.ret, DL.M.lift, DL.M.fail, arSls, arSl, lendAt, updB, getL, ownSl, Rs.pure?, Rs.bind, pTru, pBl, mBin, mUn, mRet, mRetF, mSet, mSetF, put, mExpr, mCall, mCallF, mCallW, mPeek, mCons, mNil, mTup, mLst, mL, mAnd, mOr, mNot, mIfE, mStore, mStoreN, mSetAt, mGetL, mPutL, mIxW, mApp, mPar, putS, setSl, mXN, mXC, mXO, mPart, mPartN, mSl, mLam, mLam0, mCallV, mFnAt, callee, capV, mItems, mScr, mScrIx, mScrLen, mScrSl, gN, gT, gsC, gsN, List.getElem?_cons_zero, List.getElem?_cons_succ, List.map_cons, List.map_nil, List.cons_append, List.nil_append, List.length_cons, List.length_nil, List.replicate_zero, List.replicate_succ, List.set_cons_zero, List.set_cons_succ, ite_ap, if_true, if_false, Bool.false_eq_true, Bool.true_eq_false, reduceIte, Nat.reduceSub, Nat.reduceAdd, Bool.not_true, Bool.not_false, Bool.true_and, Bool.false_and, Bool.and_true, Bool.and_false]
  · simp only [mInW, notin_L, grd, one1_l, one1_t, Option.bind_some, putG, mAsg, mCallK, mUserK, permL, List.filterMap_cons, List.filterMap_nil, qTup, Nat.reduceLeDiff, Nat.reduceLT, Nat.zero_add, and_self, modR, fdR, mulMod, mulModL, Int.reduceLT, Int.reduceLE, Int.reduceNeg, at3_0, at3_1, at3_2, at2_0, at2_1, ix3_0, ix3_1, ix3_2, mulR, mulL, add_ii, sub_ii, gt_ii, lt_ii, ge_ii, le_ii, ix_l, ix_t, ofO_s, int_i, len_l, len_t, fnR, headB, rvOf, mSeq, mIf, mOrT, mAndT, mNotT, mTru, mBl, mVD, mVF, mUser, mUser1F, mAC, mAN, mRef, mVar, DL.M.bind, DL.M.ret, DL.M.lift, DL.M.fail, arSls, arSl, lendAt, updB, getL, ownSl, Rs.pure?, Rs.bind, pTru, pBl, mBin, mUn, mRet, mRetF, mSet, mSetF, put, mExpr, mCall, mCallF, mCallW, mPeek, mCons, mNil, mTup, mLst, mL, mAnd, mOr, mNot, mIfE, mStore, mStoreN, mSetAt, mGetL, mPutL, mIxW, mApp, mPar, putS, setSl, mXN, mXC, mXO, mPart, mPartN, mSl, mLam, mLam0, mCallV, mFnAt, callee, capV, mItems, mScr, mScrIx, mScrLen, mScrSl, gN, gT, gsC, gsN, List.getElem?_cons_zero, List.getElem?_cons_succ, List.map_cons, List.map_nil, List.cons_append, List.nil_append, List.length_cons, List.length_nil, List.replicate_zero, List.replicate_succ, List.set_cons_zero, List.set_cons_succ, ite_ap, if_true, if_false, Bool.false_eq_true, Bool.true_eq_false, reduceIte, Nat.reduceSub, Nat.reduceAdd, Bool.not_true, Bool.not_false, Bool.true_and, Bool.false_and, Bool.and_true, Bool.and_false]
  · simp only [grd, one1_l, one1_t, Option.bind_some, putG, mAsg, mCallK, mUserK, permL, List.filterMap_cons, List.filterMap_nil, qTup, Nat.reduceLeDiff, Nat.reduceLT, Nat.zero_add, and_self, modR, fdR, mulMod, mulModL, Int.reduceLT, Int.reduceLE, Int.reduceNeg, at3_0, at3_1, at3_2, at2_0, at2_1, ix3_0, ix3_1, ix3_2, mulR, mulL, add_ii, sub_ii, gt_ii, lt_ii, ge_ii, le_ii, ix_l, ix_t, ofO_s, int_i, len_l, len_t, fnR, headB, rvOf, mSeq, mIf, mOrT, mAndT, mNotT, mTru, mBl, mVD, mVF, mUser, mUser1F, mAC, mAN, mRef, mVar, DL.M.bind, DL.M.ret, DL.M.lift, DL.M.fail, arSls, arSl, lendAt, updB, getL, ownSl, Rs.pure?, Rs.bind, pTru, pBl, mBin, mUn, mRet, mRetF, mSet, mSetF, put, mExpr, mCall, mCallF, mCallW, mPeek, mCons, mNil, mTup, mLst, mL, mAnd, mOr, mNot, mIfE, mStore, mStoreN, mSetAt, mGetL, mPutL, mIxW, mApp, mPar, putS, setSl, mXN, mXC, mXO, mPart, mPartN, mSl, mLam, mLam0, mCallV, mFnAt, callee, capV, mItems, mScr, mScrIx, mScrLen, mScrSl, gN, gT, gsC, gsN, List.getElem?_cons_zero, List.getElem?_cons_succ, List.map_cons, List.map_nil, List.cons_append, List.nil_append, List.length_cons, List.length_nil, List.replicate_zero, List.replicate_succ, List.set_cons_zero, List.set_cons_succ, ite_ap, if_true, if_false, Bool.false_eq_true, Bool.true_eq_false, reduceIte, Nat.reduceSub, Nat.reduceAdd, Bool.not_true, Bool.not_false, Bool.true_and, Bool.false_and, Bool.and_true, Bool.and_false]
theorem sub_len : ∀ (l : List Int) {r : List Int}, l.Nodup → (∀ x ∈ l, x ∈ r) → l.length ≤ r.length
  | [], _, _, _ => Nat.zero_le _
  | a :: l, r, hn, h => by
    have ha : a ∈ r := h a List.mem_cons_self
    have hn' := List.nodup_cons.mp hn
    have := sub_len l (r := r.erase a) hn'.2 fun x hx => by
      have ne : x ≠ a := fun z => hn'.1 (z ▸ hx)
      exact (List.mem_erase_of_ne ne).mpr (h x (List.mem_cons_of_mem _ hx))
    rw [List.length_erase_of_mem ha] at this
    have := List.length_pos_of_mem ha
    rw [List.length_cons]
    omega

/-- some number below 1000 that is not among a few -/
theorem w_free (r : List Int) (h : r.length < 1000) : ∃ i : Nat, i < 1000 ∧ (i : Int) ∉ r := by
  by_cases q : ∃ i : Nat, i < 1000 ∧ (i : Int) ∉ r
  · exact q
  · exfalso
    have sub : (List.range 1000).map (fun (i : Nat) => (i : Int)) ⊆ r := fun x hx => by
      obtain ⟨i, hi, rfl⟩ := List.mem_map.mp hx
      have := List.mem_range.mp hi
      by_cases z : (i : Int) ∈ r
      · exact z
      · exact absurd ⟨i, this, z⟩ q
    have nd : ((List.range 1000).map (fun (i : Nat) => (i : Int))).Nodup := List.Pairwise.map _ (fun a b (hab : a ≠ b) z => hab (Int.ofNat_inj.mp z)) List.nodup_range
    have := sub_len _ nd sub
    rw [List.length_map, List.length_range] at this
    omega
theorem s_row (A B C : Int) (most : Int) (hm : 0 < most) (hm2 : most ≤ 12) : ∃ (r : List Int) (A' B' C' : Int), S__law_row [.bor [.int A, .int B, .int C], .dat (.int most)] = (.ok (.d (intT r)), [.int A', .int B', .int C']) ∧ r.Nodup ∧ (∀ x ∈ r, 0 ≤ x ∧ x ≤ 999) ∧ 1 ≤ r.length ∧ (r.length : Int) ≤ most := by
  obtain ⟨v, a2, b2, c2, e2, v0, v1⟩ := s_take A B C most hm (by omega)
  obtain ⟨ρ', q, A', B', C', r, t, h, f, rfl, hl, hn, hb, _, _, _⟩ := for_map (mi := i__law_row_1) (g := gN 3) (body := b__law_row_1) (List.range (1 + v).toNat) (fun (i : Nat) => .int (i : Int)) (ρ := wE A B C (.dat (.int most)) .emp .emp .emp []) (ρ1 := wE a2 b2 c2 (.dat (.int most)) .emp .emp .emp [])
    (fun done ρ => ∃ (A B C : Int) (r : List Int) (t h f : Slot), ρ = wE A B C (.dat (.int most)) t h f r ∧ r.length = done.length ∧ r.Nodup ∧ (∀ x ∈ r, 0 ≤ x ∧ x ≤ 999) ∧ hideS t = t ∧ hideS h = h ∧ hideS f = f)
    (by simp only [i__law_row_1, wE, e2, rng1_ok (show (1 + v : Int) < 1000000000 by omega) (by omega), rng_map0, grd, one1_l, one1_t, Option.bind_some, putG, mAsg, mCallK, mUserK, permL, List.filterMap_cons, List.filterMap_nil, qTup, Nat.reduceLeDiff, Nat.reduceLT, Nat.zero_add, and_self, modR, fdR, mulMod, mulModL, Int.reduceLT, Int.reduceLE, Int.reduceNeg, at3_0, at3_1, at3_2, at2_0, at2_1, ix3_0, ix3_1, ix3_2, mulR, mulL, add_ii, sub_ii, gt_ii, lt_ii, ge_ii, le_ii, ix_l, ix_t, ofO_s, int_i, len_l, len_t, fnR, headB, rvOf, mSeq, mIf, mOrT, mAndT, mNotT, mTru, mBl, mVD, mVF, mUser, mUser1F, mAC, mAN, mRef, mVar, DL.M.bind, DL.M.ret, DL.M.lift, DL.M.fail, arSls, arSl, lendAt, updB, getL, ownSl, Rs.pure?, Rs.bind, pTru, pBl, mBin, mUn, mRet, mRetF, mSet, mSetF, put, mExpr, mCall, mCallF, mCallW, mPeek, mCons, mNil, mTup, mLst, mL, mAnd, mOr, mNot, mIfE, mStore, mStoreN, mSetAt, mGetL, mPutL, mIxW, mApp, mPar, putS, setSl, mXN, mXC, mXO, mPart, mPartN, mSl, mLam, mLam0, mCallV, mFnAt, callee, capV, mItems, mScr, mScrIx, mScrLen, mScrSl, gN, gT, gsC, gsN, List.getElem?_cons_zero, List.getElem?_cons_succ, List.map_cons, List.map_nil, List.cons_append, List.nil_append, List.length_cons, List.length_nil, List.replicate_zero, List.replicate_succ, List.set_cons_zero, List.set_cons_succ, ite_ap, if_true, if_false, Bool.false_eq_true, Bool.true_eq_false, reduceIte, Nat.reduceSub, Nat.reduceAdd, Bool.not_true, Bool.not_false, Bool.true_and, Bool.false_and, Bool.and_true, Bool.and_false]) ⟨a2, b2, c2, [], .emp, .emp, .emp, rfl, rfl, List.nodup_nil, (fun x hx => nomatch hx), rfl, rfl, rfl⟩
    (fun done d rest hd ρ hI => by
      obtain ⟨A, B, C, r, t, h, f, rfl, hl, hn, hb, h1, h2, h3⟩ := hI
      have hlen : r.length < 12 := by
        have q := congrArg List.length hd
        rw [List.length_range, List.length_append, List.length_cons] at q
        omega
      obtain ⟨u1, a1, b1, c1, e1, l1, m1⟩ := s_take A B C 1000 (by decide) (by decide)
      obtain ⟨u2, a2, b2, c2, e2, l2, m2⟩ := s_take a1 b1 c1 20 (by decide) (by decide)
      obtain ⟨x, hx, a3, b3, c3, e3⟩ := s_of a2 b2 c2 [.int u1, .int u2, .int 0, .int 999] (by simp) (by simp) _ (.inl rfl)
      obtain ⟨w, rfl⟩ : ∃ w : Int, x = .int w := by
        simp only [List.mem_cons, List.not_mem_nil, or_false] at hx
        rcases hx with rfl | rfl | rfl | rfl <;> exact ⟨_, rfl⟩
      have q1 := w_1 a3 b3 c3 w (.dat (.int most)) (.dat (.int d)) f rfl rfl h3 r
      have q2 := fun z : D => w_2 a3 b3 c3 (.dat (.int most)) (.dat (.int d)) (.dat (.int w)) (.dat z) rfl rfl rfl rfl r
      obtain ⟨i0, hi0, hi1⟩ := w_free r (by omega)
      have m0 : i0 ∈ (List.range 1000).filter fun (i : Nat) => !decide ((i : Int) ∈ r) := by simp [hi0, hi1]
      have nd : ∀ i ∈ (List.range 1000).filter (fun (i : Nat) => !decide ((i : Int) ∈ r) && decide (w ≤ (i : Int))) ++ (List.range 1000).filter (fun (i : Nat) => !decide ((i : Int) ∈ r)), i < 1000 ∧ (i : Int) ∉ r := fun i hi => by
        rcases List.mem_append.mp hi with hi | hi
        · simp at hi; exact ⟨hi.1, hi.2.1⟩
        · simp at hi; exact hi
      have ne : ((List.range 1000).filter fun (i : Nat) => !decide ((i : Int) ∈ r) && decide (w ≤ (i : Int))) ++ ((List.range 1000).filter fun (i : Nat) => !decide ((i : Int) ∈ r)) ≠ [] := fun z => by
        rw [(List.append_eq_nil_iff.mp z).2] at m0; cases m0
      generalize hP : ((List.range 1000).filter fun (i : Nat) => !decide ((i : Int) ∈ r) && decide (w ≤ (i : Int))) = P at *
      generalize hR : ((List.range 1000).filter fun (i : Nat) => !decide ((i : Int) ∈ r)) = R at *
      have hPl : P.length ≤ 1000 := by rw [← hP]; exact Nat.le_trans (List.length_filter_le _ _) (by rw [List.length_range]; exact Nat.le_refl _)
      have hRl : R.length ≤ 1000 := by rw [← hR]; exact Nat.le_trans (List.length_filter_le _ _) (by rw [List.length_range]; exact Nat.le_refl _)
      obtain ⟨y, ys, hy⟩ : ∃ y ys, P ++ R = y :: ys := by
        cases z : P ++ R with
        | nil => exact absurd z ne
        | cons y ys => exact ⟨y, ys, rfl⟩
      have hy1 := nd y (by rw [hy]; exact List.mem_cons_self)
      have ea : pAdd (.list (P.map fun (i : Nat) => .int (i : Int))) (.list (R.map fun (i : Nat) => .int (i : Int))) = .ok (.list (.int (y : Int) :: ys.map fun (i : Nat) => .int (i : Int))) := by
        have : P.map (fun (i : Nat) => PyData.int (i : Int)) ++ R.map (fun (i : Nat) => PyData.int (i : Int)) = .int (y : Int) :: ys.map fun (i : Nat) => .int (i : Int) := by rw [← List.map_append, hy, List.map_cons]
        rw [← this]
        exact grd_t (by rw [List.length_map, List.length_map]; omega)
      have ei : pIx (.list (.int (y : Int) :: ys.map fun (i : Nat) => .int (i : Int))) (.int 0) = .ok (.int y) := by
        rw [show (0 : Int) = ((0 : Nat) : Int) from rfl]
        show ofO (atI _ _) _ = _
        rw [at_ok (by simp)]; rfl
      refine ⟨_, _, rfl, .inl ?_, a3, b3, c3, r ++ [(y : Int)], .dat (.int d), .dat (.int w), .dat (.list (P.map fun (i : Nat) => .int (i : Int))), rfl, by rw [List.length_append, List.length_append, hl]; rfl, ?_, fun x hx => ?_, rfl, rfl, rfl⟩
      · unfold wE at q1 q2
        have hg : (r.map PyData.int).length < 16777216 := by rw [List.length_map]; omega
        simp only [b__law_row_1, wE, e1, e2, e3, q1, q2, ea, ei, eq_true hg, grd, one1_l, one1_t, Option.bind_some, putG, mAsg, mCallK, mUserK, permL, List.filterMap_cons, List.filterMap_nil, qTup, Nat.reduceLeDiff, Nat.reduceLT, Nat.zero_add, and_self, modR, fdR, mulMod, mulModL, Int.reduceLT, Int.reduceLE, Int.reduceNeg, at3_0, at3_1, at3_2, at2_0, at2_1, ix3_0, ix3_1, ix3_2, mulR, mulL, add_ii, sub_ii, gt_ii, lt_ii, ge_ii, le_ii, ix_l, ix_t, ofO_s, int_i, len_l, len_t, fnR, headB, rvOf, mSeq, mIf, mOrT, mAndT, mNotT, mTru, mBl, mVD, mVF, mUser, mUser1F, mAC, mAN, mRef, mVar, DL.M.bind, DL.M.ret, DL.M.lift, DL.M.fail, arSls, arSl, lendAt, updB, getL, ownSl, Rs.pure?, Rs.bind, pTru, pBl, mBin, mUn, mRet, mRetF, mSet, mSetF, put, mExpr, mCall, mCallF, mCallW, mPeek, mCons, mNil, mTup, mLst, mL, mAnd, mOr, mNot, mIfE, mStore, mStoreN, mSetAt, mGetL, mPutL, mIxW, mApp, mPar, putS, setSl, mXN, mXC, mXO, mPart, mPartN, mSl, mLam, mLam0, mCallV, mFnAt, callee, capV, mItems, mScr, mScrIx, mScrLen, mScrSl, gN, gT, gsC, gsN, List.getElem?_cons_zero, List.getElem?_cons_succ, List.map_cons, List.map_nil, List.cons_append, List.nil_append, List.length_cons, List.length_nil, List.replicate_zero, List.replicate_succ, List.set_cons_zero, List.set_cons_succ, ite_ap, if_true, if_false, Bool.false_eq_true, Bool.true_eq_false, reduceIte, Nat.reduceSub, Nat.reduceAdd, Bool.not_true, Bool.not_false, Bool.true_and, Bool.false_and, Bool.and_true, Bool.and_false]
        rw [List.map_append]; rfl
      · rw [List.nodup_append]
        exact ⟨hn, by simp, fun a ha b hb => by rw [List.mem_singleton.mp hb]; exact fun z => hy1.2 (z ▸ ha)⟩
      · rcases List.mem_append.mp hx with hx | hx
        · exact hb x hx
        · rw [List.mem_singleton.mp hx]; omega)
  rw [List.length_range] at hl
  refine ⟨r, A', B', C', ?_, hn, hb, by omega, by omega⟩
  unfold S__law_row
  refine fnR_bor (r := .ok (.rt (intT r))) (ρ' := [.dat (.int most), .own (r.map .int), t, h, f, .emp]) ?_
  show m__law_row [.bor [.int A, .int B, .int C], .dat (.int most), .emp, .emp, .emp, .emp, .emp] = _
  unfold m__law_row
  unfold wE at q
  rw [List.map_nil] at q
  rw [seqR (ρ1 := [.bor [.int A, .int B, .int C], .dat (.int most), .own [], .emp, .emp, .emp, .emp]) (by simp only [grd, one1_l, one1_t, Option.bind_some, putG, mAsg, mCallK, mUserK, permL, List.filterMap_cons, List.filterMap_nil, qTup, Nat.reduceLeDiff, Nat.reduceLT, Nat.zero_add, and_self, modR, fdR, mulMod, mulModL, Int.reduceLT, Int.reduceLE, Int.reduceNeg, at3_0, at3_1, at3_2, at2_0, at2_1, ix3_0, ix3_1, ix3_2, mulR, mulL, add_ii, sub_ii, gt_ii, lt_ii, ge_ii, le_ii, ix_l, ix_t, ofO_s, int_i, len_l, len_t, fnR, headB, rvOf, mSeq, mIf, mOrT, mAndT, mNotT, mTru, mBl, mVD, mVF, mUser, mUser1F, mAC, mAN, mRef, mVar, DL.M.bind, DL.M.ret, DL.M.lift, DL.M.fail, arSls, arSl, lendAt, updB, getL, ownSl, Rs.pure?, Rs.bind, pTru, pBl, mBin, mUn, mRet, mRetF, mSet, mSetF, put, mExpr, mCall, mCallF, mCallW, mPeek, mCons, mNil, mTup, mLst, mL, mAnd, mOr, mNot, mIfE, mStore, mStoreN, mSetAt, mGetL, mPutL, mIxW, mApp, mPar, putS, setSl, mXN, mXC, mXO, mPart, mPartN, mSl, mLam, mLam0, mCallV, mFnAt, callee, capV, mItems, mScr, mScrIx, mScrLen, mScrSl, gN, gT, gsC, gsN, List.getElem?_cons_zero, List.getElem?_cons_succ, List.map_cons, List.map_nil, List.cons_append, List.nil_append, List.length_cons, List.length_nil, List.replicate_zero, List.replicate_succ, List.set_cons_zero, List.set_cons_succ, ite_ap, if_true, if_false, Bool.false_eq_true, Bool.true_eq_false, reduceIte, Nat.reduceSub, Nat.reduceAdd, Bool.not_true, Bool.not_false, Bool.true_and, Bool.false_and, Bool.and_true, Bool.and_false]), seqR q]
  simp only [grd, one1_l, one1_t, Option.bind_some, putG, mAsg, mCallK, mUserK, permL, List.filterMap_cons, List.filterMap_nil, qTup, Nat.reduceLeDiff, Nat.reduceLT, Nat.zero_add, and_self, modR, fdR, mulMod, mulModL, Int.reduceLT, Int.reduceLE, Int.reduceNeg, at3_0, at3_1, at3_2, at2_0, at2_1, ix3_0, ix3_1, ix3_2, mulR, mulL, add_ii, sub_ii, gt_ii, lt_ii, ge_ii, le_ii, ix_l, ix_t, ofO_s, int_i, len_l, len_t, fnR, headB, rvOf, mSeq, mIf, mOrT, mAndT, mNotT, mTru, mBl, mVD, mVF, mUser, mUser1F, mAC, mAN, mRef, mVar, DL.M.bind, DL.M.ret, DL.M.lift, DL.M.fail, arSls, arSl, lendAt, updB, getL, ownSl, Rs.pure?, Rs.bind, pTru, pBl, mBin, mUn, mRet, mRetF, mSet, mSetF, put, mExpr, mCall, mCallF, mCallW, mPeek, mCons, mNil, mTup, mLst, mL, mAnd, mOr, mNot, mIfE, mStore, mStoreN, mSetAt, mGetL, mPutL, mIxW, mApp, mPar, putS, setSl, mXN, mXC, mXO, mPart, mPartN, mSl, mLam, mLam0, mCallV, mFnAt, callee, capV, mItems, mScr, mScrIx, mScrLen, mScrSl, gN, gT, gsC, gsN, List.getElem?_cons_zero, List.getElem?_cons_succ, List.map_cons, List.map_nil, List.cons_append, List.nil_append, List.length_cons, List.length_nil, List.replicate_zero, List.replicate_succ, List.set_cons_zero, List.set_cons_succ, ite_ap, if_true, if_false, Bool.false_eq_true, Bool.true_eq_false, reduceIte, Nat.reduceSub, Nat.reduceAdd, Bool.not_true, Bool.not_false, Bool.true_and, Bool.false_and, Bool.and_true, Bool.and_false]
  rfl


/-! the program's rows -/
theorem s_whole (i : Int) : S_is_whole [.dat (.int i)] = (.ok (.d (.bool true)), []) := rfl
theorem s_number (i lo hi : Int) : S_is_number [.dat (.int i), .dat (.int lo), .dat (.int hi)] = (.ok (.d (.bool (decide (lo ≤ i ∧ i ≤ hi)))), []) := by
  by_cases h1 : i < lo
  · have h1' : decide (i < lo) = true := decide_eq_true h1
    rw [decide_eq_false (show ¬ (lo ≤ i ∧ i ≤ hi) by omega)]
    simp only [S_is_number, m_is_number, N_is_number, s_whole, pNotN, DL.isNon, pLt, h1', grd, one1_l, one1_t, Option.bind_some, putG, mAsg, mCallK, mUserK, permL, List.filterMap_cons, List.filterMap_nil, qTup, Nat.reduceLeDiff, Nat.reduceLT, Nat.zero_add, and_self, modR, fdR, mulMod, mulModL, Int.reduceLT, Int.reduceLE, Int.reduceNeg, at3_0, at3_1, at3_2, at2_0, at2_1, ix3_0, ix3_1, ix3_2, mulR, mulL, add_ii, sub_ii, gt_ii, lt_ii, ge_ii, le_ii, ix_l, ix_t, ofO_s, int_i, len_l, len_t, fnR, headB, rvOf, mSeq, mIf, mOrT, mAndT, mNotT, mTru, mBl, mVD, mVF, mUser, mUser1F, mAC, mAN, mRef, mVar, DL.M.bind, DL.M.ret, DL.M.lift, DL.M.fail, arSls, arSl, lendAt, updB, getL, ownSl, Rs.pure?, Rs.bind, pTru, pBl, mBin, mUn, mRet, mRetF, mSet, mSetF, put, mExpr, mCall, mCallF, mCallW, mPeek, mCons, mNil, mTup, mLst, mL, mAnd, mOr, mNot, mIfE, mStore, mStoreN, mSetAt, mGetL, mPutL, mIxW, mApp, mPar, putS, setSl, mXN, mXC, mXO, mPart, mPartN, mSl, mLam, mLam0, mCallV, mFnAt, callee, capV, mItems, mScr, mScrIx, mScrLen, mScrSl, gN, gT, gsC, gsN, List.getElem?_cons_zero, List.getElem?_cons_succ, List.map_cons, List.map_nil, List.cons_append, List.nil_append, List.length_cons, List.length_nil, List.replicate_zero, List.replicate_succ, List.set_cons_zero, List.set_cons_succ, ite_ap, if_true, if_false, Bool.false_eq_true, Bool.true_eq_false, reduceIte, Nat.reduceSub, Nat.reduceAdd, Bool.not_true, Bool.not_false, Bool.true_and, Bool.false_and, Bool.and_true, Bool.and_false]
  · have h1' : decide (i < lo) = false := decide_eq_false h1
    have h2 : decide (lo ≤ i ∧ i ≤ hi) = decide (i ≤ hi) := by
      by_cases h : i ≤ hi
      · rw [decide_eq_true h, decide_eq_true ⟨by omega, h⟩]
      · rw [decide_eq_false h, decide_eq_false fun z => h z.2]
    simp only [S_is_number, m_is_number, N_is_number, s_whole, pNotN, DL.isNon, pLt, pLe, pIsN, h1', h2, grd, one1_l, one1_t, Option.bind_some, putG, mAsg, mCallK, mUserK, permL, List.filterMap_cons, List.filterMap_nil, qTup, Nat.reduceLeDiff, Nat.reduceLT, Nat.zero_add, and_self, modR, fdR, mulMod, mulModL, Int.reduceLT, Int.reduceLE, Int.reduceNeg, at3_0, at3_1, at3_2, at2_0, at2_1, ix3_0, ix3_1, ix3_2, mulR, mulL, add_ii, sub_ii, gt_ii, lt_ii, ge_ii, le_ii, ix_l, ix_t, ofO_s, int_i, len_l, len_t, fnR, headB, rvOf, mSeq, mIf, mOrT, mAndT, mNotT, mTru, mBl, mVD, mVF, mUser, mUser1F, mAC, mAN, mRef, mVar, DL.M.bind, DL.M.ret, DL.M.lift, DL.M.fail, arSls, arSl, lendAt, updB, getL, ownSl, Rs.pure?, Rs.bind, pTru, pBl, mBin, mUn, mRet, mRetF, mSet, mSetF, put, mExpr, mCall, mCallF, mCallW, mPeek, mCons, mNil, mTup, mLst, mL, mAnd, mOr, mNot, mIfE, mStore, mStoreN, mSetAt, mGetL, mPutL, mIxW, mApp, mPar, putS, setSl, mXN, mXC, mXO, mPart, mPartN, mSl, mLam, mLam0, mCallV, mFnAt, callee, capV, mItems, mScr, mScrIx, mScrLen, mScrSl, gN, gT, gsC, gsN, List.getElem?_cons_zero, List.getElem?_cons_succ, List.map_cons, List.map_nil, List.cons_append, List.nil_append, List.length_cons, List.length_nil, List.replicate_zero, List.replicate_succ, List.set_cons_zero, List.set_cons_succ, ite_ap, if_true, if_false, Bool.false_eq_true, Bool.true_eq_false, reduceIte, Nat.reduceSub, Nat.reduceAdd, Bool.not_true, Bool.not_false, Bool.true_and, Bool.false_and, Bool.and_true, Bool.and_false]
theorem s_height (i : Int) : S_is_height [.dat (.int i)] = (.ok (.d (.bool (decide (0 ≤ i ∧ i ≤ 999)))), []) := by
  simp only [S_is_height, m_is_height, N_is_height, s_number, grd, one1_l, one1_t, Option.bind_some, putG, mAsg, mCallK, mUserK, permL, List.filterMap_cons, List.filterMap_nil, qTup, Nat.reduceLeDiff, Nat.reduceLT, Nat.zero_add, and_self, modR, fdR, mulMod, mulModL, Int.reduceLT, Int.reduceLE, Int.reduceNeg, at3_0, at3_1, at3_2, at2_0, at2_1, ix3_0, ix3_1, ix3_2, mulR, mulL, add_ii, sub_ii, gt_ii, lt_ii, ge_ii, le_ii, ix_l, ix_t, ofO_s, int_i, len_l, len_t, fnR, headB, rvOf, mSeq, mIf, mOrT, mAndT, mNotT, mTru, mBl, mVD, mVF, mUser, mUser1F, mAC, mAN, mRef, mVar, DL.M.bind, DL.M.ret, DL.M.lift, DL.M.fail, arSls, arSl, lendAt, updB, getL, ownSl, Rs.pure?, Rs.bind, pTru, pBl, mBin, mUn, mRet, mRetF, mSet, mSetF, put, mExpr, mCall, mCallF, mCallW, mPeek, mCons, mNil, mTup, mLst, mL, mAnd, mOr, mNot, mIfE, mStore, mStoreN, mSetAt, mGetL, mPutL, mIxW, mApp, mPar, putS, setSl, mXN, mXC, mXO, mPart, mPartN, mSl, mLam, mLam0, mCallV, mFnAt, callee, capV, mItems, mScr, mScrIx, mScrLen, mScrSl, gN, gT, gsC, gsN, List.getElem?_cons_zero, List.getElem?_cons_succ, List.map_cons, List.map_nil, List.cons_append, List.nil_append, List.length_cons, List.length_nil, List.replicate_zero, List.replicate_succ, List.set_cons_zero, List.set_cons_succ, ite_ap, if_true, if_false, Bool.false_eq_true, Bool.true_eq_false, reduceIte, Nat.reduceSub, Nat.reduceAdd, Bool.not_true, Bool.not_false, Bool.true_and, Bool.false_and, Bool.and_true, Bool.and_false]
theorem s_wrong_at (xs : List D) (g : List D → Rs D) (h : ∀ (i : Nat) (hi : i < xs.length), g [xs[i], .tuple (xs.take i)] = .ok (.bool true)) : S_wrong_at [.dat (.tuple xs), .fn g] = (.ok (.d (.list [])), []) := by
  obtain ⟨ρ', q, a, e, rfl⟩ := for_inv (mi := i_wrong_at_1) (g := gT 2 (gsC (gN 2) (gsC (gN 3) gsN))) (body := b_wrong_at_1) (ds := enumL xs) (ρ := [.dat (.tuple xs), .fn g, .emp, .emp]) (ρ1 := [.dat (.tuple xs), .fn g, .emp, .emp])
    (fun done ρ => ∃ a e, ρ = [.dat (.tuple xs), .fn g, a, e]) (by simp only [i_wrong_at_1, pEnum, grd, one1_l, one1_t, Option.bind_some, putG, mAsg, mCallK, mUserK, permL, List.filterMap_cons, List.filterMap_nil, qTup, Nat.reduceLeDiff, Nat.reduceLT, Nat.zero_add, and_self, modR, fdR, mulMod, mulModL, Int.reduceLT, Int.reduceLE, Int.reduceNeg, at3_0, at3_1, at3_2, at2_0, at2_1, ix3_0, ix3_1, ix3_2, mulR, mulL, add_ii, sub_ii, gt_ii, lt_ii, ge_ii, le_ii, ix_l, ix_t, ofO_s, int_i, len_l, len_t, fnR, headB, rvOf, mSeq, mIf, mOrT, mAndT, mNotT, mTru, mBl, mVD, mVF, mUser, mUser1F, mAC, mAN, mRef, mVar, DL.M.bind, DL.M.ret, DL.M.lift, DL.M.fail, arSls, arSl, lendAt, updB, getL, ownSl, Rs.pure?, Rs.bind, pTru, pBl, mBin, mUn, mRet, mRetF, mSet, mSetF, put, mExpr, mCall, mCallF, mCallW, mPeek, mCons, mNil, mTup, mLst, mL, mAnd, mOr, mNot, mIfE, mStore, mStoreN, mSetAt, mGetL, mPutL, mIxW, mApp, mPar, putS, setSl, mXN, mXC, mXO, mPart, mPartN, mSl, mLam, mLam0, mCallV, mFnAt, callee, capV, mItems, mScr, mScrIx, mScrLen, mScrSl, gN, gT, gsC, gsN, List.getElem?_cons_zero, List.getElem?_cons_succ, List.map_cons, List.map_nil, List.cons_append, List.nil_append, List.length_cons, List.length_nil, List.replicate_zero, List.replicate_succ, List.set_cons_zero, List.set_cons_succ, ite_ap, if_true, if_false, Bool.false_eq_true, Bool.true_eq_false, reduceIte, Nat.reduceSub, Nat.reduceAdd, Bool.not_true, Bool.not_false, Bool.true_and, Bool.false_and, Bool.and_true, Bool.and_false]) ⟨_, _, rfl⟩ (fun done d rest hd ρ hI => by
      obtain ⟨a, e, rfl⟩ := hI
      obtain ⟨hi, rfl⟩ := enum_get hd
      refine ⟨_, _, rfl, .inl ?_, .dat (.int (done.length : Nat)), .dat xs[done.length], rfl⟩
      have hm : min done.length xs.length = done.length := by omega
      simp only [b_wrong_at_1, pSl, cut_to, hm, h done.length hi, grd, one1_l, one1_t, Option.bind_some, putG, mAsg, mCallK, mUserK, permL, List.filterMap_cons, List.filterMap_nil, qTup, Nat.reduceLeDiff, Nat.reduceLT, Nat.zero_add, and_self, modR, fdR, mulMod, mulModL, Int.reduceLT, Int.reduceLE, Int.reduceNeg, at3_0, at3_1, at3_2, at2_0, at2_1, ix3_0, ix3_1, ix3_2, mulR, mulL, add_ii, sub_ii, gt_ii, lt_ii, ge_ii, le_ii, ix_l, ix_t, ofO_s, int_i, len_l, len_t, fnR, headB, rvOf, mSeq, mIf, mOrT, mAndT, mNotT, mTru, mBl, mVD, mVF, mUser, mUser1F, mAC, mAN, mRef, mVar, DL.M.bind, DL.M.ret, DL.M.lift, DL.M.fail, arSls, arSl, lendAt, updB, getL, ownSl, Rs.pure?, Rs.bind, pTru, pBl, mBin, mUn, mRet, mRetF, mSet, mSetF, put, mExpr, mCall, mCallF, mCallW, mPeek, mCons, mNil, mTup, mLst, mL, mAnd, mOr, mNot, mIfE, mStore, mStoreN, mSetAt, mGetL, mPutL, mIxW, mApp, mPar, putS, setSl, mXN, mXC, mXO, mPart, mPartN, mSl, mLam, mLam0, mCallV, mFnAt, callee, capV, mItems, mScr, mScrIx, mScrLen, mScrSl, gN, gT, gsC, gsN, List.getElem?_cons_zero, List.getElem?_cons_succ, List.map_cons, List.map_nil, List.cons_append, List.nil_append, List.length_cons, List.length_nil, List.replicate_zero, List.replicate_succ, List.set_cons_zero, List.set_cons_succ, ite_ap, if_true, if_false, Bool.false_eq_true, Bool.true_eq_false, reduceIte, Nat.reduceSub, Nat.reduceAdd, Bool.not_true, Bool.not_false, Bool.true_and, Bool.false_and, Bool.and_true, Bool.and_false])
  unfold S_wrong_at
  refine fnR_non (r := .ok (.rt (.list []))) (ρ' := [.dat (.tuple xs), .fn g, a, e]) rfl ?_
  show m_wrong_at [.dat (.tuple xs), .fn g, .emp, .emp] = _
  unfold m_wrong_at
  rw [seqR (ρ1 := [.dat (.tuple xs), .fn g, .emp, .emp]) (by simp only [pIsi, tyN, isiB, grd, one1_l, one1_t, Option.bind_some, putG, mAsg, mCallK, mUserK, permL, List.filterMap_cons, List.filterMap_nil, qTup, Nat.reduceLeDiff, Nat.reduceLT, Nat.zero_add, and_self, modR, fdR, mulMod, mulModL, Int.reduceLT, Int.reduceLE, Int.reduceNeg, at3_0, at3_1, at3_2, at2_0, at2_1, ix3_0, ix3_1, ix3_2, mulR, mulL, add_ii, sub_ii, gt_ii, lt_ii, ge_ii, le_ii, ix_l, ix_t, ofO_s, int_i, len_l, len_t, fnR, headB, rvOf, mSeq, mIf, mOrT, mAndT, mNotT, mTru, mBl, mVD, mVF, mUser, mUser1F, mAC, mAN, mRef, mVar, DL.M.bind, DL.M.ret, DL.M.lift, DL.M.fail, arSls, arSl, lendAt, updB, getL, ownSl, Rs.pure?, Rs.bind, pTru, pBl, mBin, mUn, mRet, mRetF, mSet, mSetF, put, mExpr, mCall, mCallF, mCallW, mPeek, mCons, mNil, mTup, mLst, mL, mAnd, mOr, mNot, mIfE, mStore, mStoreN, mSetAt, mGetL, mPutL, mIxW, mApp, mPar, putS, setSl, mXN, mXC, mXO, mPart, mPartN, mSl, mLam, mLam0, mCallV, mFnAt, callee, capV, mItems, mScr, mScrIx, mScrLen, mScrSl, gN, gT, gsC, gsN, List.getElem?_cons_zero, List.getElem?_cons_succ, List.map_cons, List.map_nil, List.cons_append, List.nil_append, List.length_cons, List.length_nil, List.replicate_zero, List.replicate_succ, List.set_cons_zero, List.set_cons_succ, ite_ap, if_true, if_false, Bool.false_eq_true, Bool.true_eq_false, reduceIte, Nat.reduceSub, Nat.reduceAdd, Bool.not_true, Bool.not_false, Bool.true_and, Bool.false_and, Bool.and_true, Bool.and_false]; rfl), seqR q]
  simp only [grd, one1_l, one1_t, Option.bind_some, putG, mAsg, mCallK, mUserK, permL, List.filterMap_cons, List.filterMap_nil, qTup, Nat.reduceLeDiff, Nat.reduceLT, Nat.zero_add, and_self, modR, fdR, mulMod, mulModL, Int.reduceLT, Int.reduceLE, Int.reduceNeg, at3_0, at3_1, at3_2, at2_0, at2_1, ix3_0, ix3_1, ix3_2, mulR, mulL, add_ii, sub_ii, gt_ii, lt_ii, ge_ii, le_ii, ix_l, ix_t, ofO_s, int_i, len_l, len_t, fnR, headB, rvOf, mSeq, mIf, mOrT, mAndT, mNotT, mTru, mBl, mVD, mVF, mUser, mUser1F, mAC, mAN, mRef, mVar, DL.M.bind, DL.M.ret, DL.M.lift, DL.M.fail, arSls, arSl, lendAt, updB, getL, ownSl, Rs.pure?, Rs.bind, pTru, pBl, mBin, mUn, mRet, mRetF, mSet, mSetF, put, mExpr, mCall, mCallF, mCallW, mPeek, mCons, mNil, mTup, mLst, mL, mAnd, mOr, mNot, mIfE, mStore, mStoreN, mSetAt, mGetL, mPutL, mIxW, mApp, mPar, putS, setSl, mXN, mXC, mXO, mPart, mPartN, mSl, mLam, mLam0, mCallV, mFnAt, callee, capV, mItems, mScr, mScrIx, mScrLen, mScrSl, gN, gT, gsC, gsN, List.getElem?_cons_zero, List.getElem?_cons_succ, List.map_cons, List.map_nil, List.cons_append, List.nil_append, List.length_cons, List.length_nil, List.replicate_zero, List.replicate_succ, List.set_cons_zero, List.set_cons_succ, ite_ap, if_true, if_false, Bool.false_eq_true, Bool.true_eq_false, reduceIte, Nat.reduceSub, Nat.reduceAdd, Bool.not_true, Bool.not_false, Bool.true_and, Bool.false_and, Bool.and_true, Bool.and_false]
theorem s_wrong_or_none (xs : List D) (g : List D → Rs D) (hs : xs.all (shp 19) = true) (hx : xs ≠ []) (h : ∀ (i : Nat) (hi : i < xs.length), g [xs[i], .tuple (xs.take i)] = .ok (.bool true)) : S_wrong_or_none [.dat (.tuple xs), .fn g] = (.ok (.d (.list [])), []) := by
  have he : xs.isEmpty = false := by cases xs with | nil => exact absurd rfl hx | cons => rfl
  have ht : isiB "tuple" (tyN (.tuple xs)) = true := rfl
  simp only [S_wrong_or_none, m_wrong_or_none, N_wrong_or_none, pIsi, ht, eq_t0 hs, he, s_wrong_at xs g h, grd, one1_l, one1_t, Option.bind_some, putG, mAsg, mCallK, mUserK, permL, List.filterMap_cons, List.filterMap_nil, qTup, Nat.reduceLeDiff, Nat.reduceLT, Nat.zero_add, and_self, modR, fdR, mulMod, mulModL, Int.reduceLT, Int.reduceLE, Int.reduceNeg, at3_0, at3_1, at3_2, at2_0, at2_1, ix3_0, ix3_1, ix3_2, mulR, mulL, add_ii, sub_ii, gt_ii, lt_ii, ge_ii, le_ii, ix_l, ix_t, ofO_s, int_i, len_l, len_t, fnR, headB, rvOf, mSeq, mIf, mOrT, mAndT, mNotT, mTru, mBl, mVD, mVF, mUser, mUser1F, mAC, mAN, mRef, mVar, DL.M.bind, DL.M.ret, DL.M.lift, DL.M.fail, arSls, arSl, lendAt, updB, getL, ownSl, Rs.pure?, Rs.bind, pTru, pBl, mBin, mUn, mRet, mRetF, mSet, mSetF, put, mExpr, mCall, mCallF, mCallW, mPeek, mCons, mNil, mTup, mLst, mL, mAnd, mOr, mNot, mIfE, mStore, mStoreN, mSetAt, mGetL, mPutL, mIxW, mApp, mPar, putS, setSl, mXN, mXC, mXO, mPart, mPartN, mSl, mLam, mLam0, mCallV, mFnAt, callee, capV, mItems, mScr, mScrIx, mScrLen, mScrSl, gN, gT, gsC, gsN, List.getElem?_cons_zero, List.getElem?_cons_succ, List.map_cons, List.map_nil, List.cons_append, List.nil_append, List.length_cons, List.length_nil, List.replicate_zero, List.replicate_succ, List.set_cons_zero, List.set_cons_succ, ite_ap, if_true, if_false, Bool.false_eq_true, Bool.true_eq_false, reduceIte, Nat.reduceSub, Nat.reduceAdd, Bool.not_true, Bool.not_false, Bool.true_and, Bool.false_and, Bool.and_true, Bool.and_false]
theorem s_wrong_row (r : List Int) (hr : rowOk r) : S_wrong_row [.dat (intT r)] = (.ok (.d (.list [])), []) := by
  obtain ⟨hn, hb, h1, h12⟩ := hr
  have e : S_wrong_or_none [.dat (intT r), .fn (fun vs => nestR N_wrong_row__is_right.length 2 m_wrong_row__is_right [] vs)] = (.ok (.d (.list [])), []) := by
    refine s_wrong_or_none _ _ (intT_shp r) (fun z => by rw [List.map_eq_nil_iff] at z; rw [z] at h1; exact absurd h1 (by decide)) fun i hi => ?_
    rw [List.length_map] at hi
    have hx := hb r[i] (List.getElem_mem hi)
    have hx' : decide (0 ≤ r[i] ∧ r[i] ≤ 999) = true := decide_eq_true ⟨hx.1, hx.2⟩
    have hl : ((((r.take i).map PyData.int).length : Nat) : Int) < 12 := by rw [List.length_map, List.length_take]; omega
    have hl' := decide_eq_true hl
    have hni : r[i] ∉ r.take i := fun z => by
      obtain ⟨j, hj, e⟩ := List.getElem_of_mem z
      rw [List.length_take] at hj
      rw [List.getElem_take] at e
      have := nodup_at hn (by omega) hi e
      omega
    have hni' := notin_T (i := r[i]) (r := r.take i)
    unfold intT at hni'
    rw [decide_eq_false hni] at hni'
    rw [List.getElem_map, ← List.map_take]
    simp only [nestR, nestE, m_wrong_row__is_right, N_wrong_row__is_right, rsD, qLen, hl', s_height, hx', hni', grd, one1_l, one1_t, Option.bind_some, putG, mAsg, mCallK, mUserK, permL, List.filterMap_cons, List.filterMap_nil, qTup, Nat.reduceLeDiff, Nat.reduceLT, Nat.zero_add, and_self, modR, fdR, mulMod, mulModL, Int.reduceLT, Int.reduceLE, Int.reduceNeg, at3_0, at3_1, at3_2, at2_0, at2_1, ix3_0, ix3_1, ix3_2, mulR, mulL, add_ii, sub_ii, gt_ii, lt_ii, ge_ii, le_ii, ix_l, ix_t, ofO_s, int_i, len_l, len_t, fnR, headB, rvOf, mSeq, mIf, mOrT, mAndT, mNotT, mTru, mBl, mVD, mVF, mUser, mUser1F, mAC, mAN, mRef, mVar, DL.M.bind, DL.M.ret, DL.M.lift, DL.M.fail, arSls, arSl, lendAt, updB, getL, ownSl, Rs.pure?, Rs.bind, pTru, pBl, mBin, mUn, mRet, mRetF, mSet, mSetF, put, mExpr, mCall, mCallF, mCallW, mPeek, mCons, mNil, mTup, mLst, mL, mAnd, mOr, mNot, mIfE, mStore, mStoreN, mSetAt, mGetL, mPutL, mIxW, mApp, mPar, putS, setSl, mXN, mXC, mXO, mPart, mPartN, mSl, mLam, mLam0, mCallV, mFnAt, callee, capV, mItems, mScr, mScrIx, mScrLen, mScrSl, gN, gT, gsC, gsN, List.getElem?_cons_zero, List.getElem?_cons_succ, List.map_cons, List.map_nil, List.cons_append, List.nil_append, List.length_cons, List.length_nil, List.replicate_zero, List.replicate_succ, List.set_cons_zero, List.set_cons_succ, ite_ap, if_true, if_false, Bool.false_eq_true, Bool.true_eq_false, reduceIte, Nat.reduceSub, Nat.reduceAdd, Bool.not_true, Bool.not_false, Bool.true_and, Bool.false_and, Bool.and_true, Bool.and_false]
  simp only [S_wrong_row, m_wrong_row, N_wrong_row, e, grd, one1_l, one1_t, Option.bind_some, putG, mAsg, mCallK, mUserK, permL, List.filterMap_cons, List.filterMap_nil, qTup, Nat.reduceLeDiff, Nat.reduceLT, Nat.zero_add, and_self, modR, fdR, mulMod, mulModL, Int.reduceLT, Int.reduceLE, Int.reduceNeg, at3_0, at3_1, at3_2, at2_0, at2_1, ix3_0, ix3_1, ix3_2, mulR, mulL, add_ii, sub_ii, gt_ii, lt_ii, ge_ii, le_ii, ix_l, ix_t, ofO_s, int_i, len_l, len_t, fnR, headB, rvOf, mSeq, mIf, mOrT, mAndT, mNotT, mTru, mBl, mVD, mVF, mUser, mUser1F, mAC, mAN, mRef, mVar, DL.M.bind, DL.M.ret, DL.M.lift, DL.M.fail, arSls, arSl, lendAt, updB, getL, ownSl, Rs.pure?, Rs.bind, pTru, pBl, mBin, mUn, mRet, mRetF, mSet, mSetF, put, mExpr, mCall, mCallF, mCallW, mPeek, mCons, mNil, mTup, mLst, mL, mAnd, mOr, mNot, mIfE, mStore, mStoreN, mSetAt, mGetL, mPutL, mIxW, mApp, mPar, putS, setSl, mXN, mXC, mXO, mPart, mPartN, mSl, mLam, mLam0, mCallV, mFnAt, callee, capV, mItems, mScr, mScrIx, mScrLen, mScrSl, gN, gT, gsC, gsN, List.getElem?_cons_zero, List.getElem?_cons_succ, List.map_cons, List.map_nil, List.cons_append, List.nil_append, List.length_cons, List.length_nil, List.replicate_zero, List.replicate_succ, List.set_cons_zero, List.set_cons_succ, ite_ap, if_true, if_false, Bool.false_eq_true, Bool.true_eq_false, reduceIte, Nat.reduceSub, Nat.reduceAdd, Bool.not_true, Bool.not_false, Bool.true_and, Bool.false_and, Bool.and_true, Bool.and_false]
theorem s_check_row (r : List Int) (hr : rowOk r) : S_check_row [.dat (intT r)] = (.ok (.d .none), []) := by
  simp only [S_check_row, m_check_row, N_check_row, mFor, i_check_row_1, s_wrong_row r hr, pItems, DL.forM, grd, one1_l, one1_t, Option.bind_some, putG, mAsg, mCallK, mUserK, permL, List.filterMap_cons, List.filterMap_nil, qTup, Nat.reduceLeDiff, Nat.reduceLT, Nat.zero_add, and_self, modR, fdR, mulMod, mulModL, Int.reduceLT, Int.reduceLE, Int.reduceNeg, at3_0, at3_1, at3_2, at2_0, at2_1, ix3_0, ix3_1, ix3_2, mulR, mulL, add_ii, sub_ii, gt_ii, lt_ii, ge_ii, le_ii, ix_l, ix_t, ofO_s, int_i, len_l, len_t, fnR, headB, rvOf, mSeq, mIf, mOrT, mAndT, mNotT, mTru, mBl, mVD, mVF, mUser, mUser1F, mAC, mAN, mRef, mVar, DL.M.bind, DL.M.ret, DL.M.lift, DL.M.fail, arSls, arSl, lendAt, updB, getL, ownSl, Rs.pure?, Rs.bind, pTru, pBl, mBin, mUn, mRet, mRetF, mSet, mSetF, put, mExpr, mCall, mCallF, mCallW, mPeek, mCons, mNil, mTup, mLst, mL, mAnd, mOr, mNot, mIfE, mStore, mStoreN, mSetAt, mGetL, mPutL, mIxW, mApp, mPar, putS, setSl, mXN, mXC, mXO, mPart, mPartN, mSl, mLam, mLam0, mCallV, mFnAt, callee, capV, mItems, mScr, mScrIx, mScrLen, mScrSl, gN, gT, gsC, gsN, List.getElem?_cons_zero, List.getElem?_cons_succ, List.map_cons, List.map_nil, List.cons_append, List.nil_append, List.length_cons, List.length_nil, List.replicate_zero, List.replicate_succ, List.set_cons_zero, List.set_cons_succ, ite_ap, if_true, if_false, Bool.false_eq_true, Bool.true_eq_false, reduceIte, Nat.reduceSub, Nat.reduceAdd, Bool.not_true, Bool.not_false, Bool.true_and, Bool.false_and, Bool.and_true, Bool.and_false]

/-! pairs, sights -/
def pairsN (n : Nat) : List (Nat × Nat) := (List.range n).flatMap fun i => (List.range (n - (i + 1))).map fun k => (i, i + 1 + k)
theorem pairs_mem {n : Nat} {p : Nat × Nat} : p ∈ pairsN n ↔ p.1 < p.2 ∧ p.2 < n := by
  unfold pairsN
  rw [List.mem_flatMap]
  constructor
  · rintro ⟨i, hi, h⟩
    obtain ⟨k, hk, rfl⟩ := List.mem_map.mp h
    have := List.mem_range.mp hi
    have := List.mem_range.mp hk
    exact ⟨by dsimp only; omega, by dsimp only; omega⟩
  · intro h
    refine ⟨p.1, List.mem_range.mpr (by omega), List.mem_map.mpr ⟨p.2 - (p.1 + 1), List.mem_range.mpr (by omega), ?_⟩⟩
    have : p.1 + 1 + (p.2 - (p.1 + 1)) = p.2 := by omega
    rw [this]
theorem pairs_len {n : Nat} (h : n ≤ 12) : (pairsN n).length ≤ 144 := by
  unfold pairsN
  rw [List.length_flatMap]
  have : ∀ l : List Nat, (l.map fun i => ((List.range (n - (i + 1))).map fun k => (i, i + 1 + k)).length).sum ≤ l.length * 12 := fun l => by
    induction l with
    | nil => simp
    | cons a l ih =>
      rw [List.map_cons, List.sum_cons, List.length_map, List.length_range, List.length_cons]
      omega
  have q := this (List.range n)
  rw [List.length_range] at q
  omega

theorem pairs_4 (n : Nat) (j : Int) (hj : j = n) (h : n ≤ 12) : c_pairs_of_all_1 [.dat (.int j), .emp, .emp] = (.ok ((pairsN n).map pD), [.dat (.int j), .emp, .emp]) := by
  have hz : (pairsN n).map pD = ((List.range n).filter fun _ => true).flatMap fun i => ((List.range (n - (i + 1))).filter fun _ => true).map fun k => pD (i, i + 1 + k) := by
    rw [List.filter_eq_self.mpr (fun _ _ => rfl)]
    unfold pairsN
    rw [List.map_flatMap]
    congr 1
    funext i
    rw [List.filter_eq_self.mpr (fun _ _ => rfl), List.map_map]; rfl
  rw [hz]
  unfold c_pairs_of_all_1
  refine lc2_map (m := 12) (ρ1 := [.dat (.int j), .emp, .emp]) (List.range n) (fun (i : Nat) => .int (i : Int)) (fun _ => true) (fun i => List.range (n - (i + 1))) (fun (i k : Nat) => .int ((i : Int) + 1 + (k : Int))) (fun _ _ => true) (fun i k => pD (i, i + 1 + k)) ?_ (by rw [List.length_range]; omega) fun i hi => ?_
  · have e : j.toNat = n := by omega
    simp only [rng1_ok (show j < 1000000000 by omega) (by omega), rng_map0, e, grd, one1_l, one1_t, Option.bind_some, putG, mAsg, mCallK, mUserK, permL, List.filterMap_cons, List.filterMap_nil, qTup, Nat.reduceLeDiff, Nat.reduceLT, Nat.zero_add, and_self, modR, fdR, mulMod, mulModL, Int.reduceLT, Int.reduceLE, Int.reduceNeg, at3_0, at3_1, at3_2, at2_0, at2_1, ix3_0, ix3_1, ix3_2, mulR, mulL, add_ii, sub_ii, gt_ii, lt_ii, ge_ii, le_ii, ix_l, ix_t, ofO_s, int_i, len_l, len_t, fnR, headB, rvOf, mSeq, mIf, mOrT, mAndT, mNotT, mTru, mBl, mVD, mVF, mUser, mUser1F, mAC, mAN, mRef, mVar, DL.M.bind, DL.M.ret, DL.M.lift, DL.M.fail, arSls, arSl, lendAt, updB, getL, ownSl, Rs.pure?, Rs.bind, pTru, pBl, mBin, mUn, mRet, mRetF, mSet, mSetF, put, mExpr, mCall, mCallF, mCallW, mPeek, mCons, mNil, mTup, mLst, mL, mAnd, mOr, mNot, mIfE, mStore, mStoreN, mSetAt, mGetL, mPutL, mIxW, mApp, mPar, putS, setSl, mXN, mXC, mXO, mPart, mPartN, mSl, mLam, mLam0, mCallV, mFnAt, callee, capV, mItems, mScr, mScrIx, mScrLen, mScrSl, gN, gT, gsC, gsN, List.getElem?_cons_zero, List.getElem?_cons_succ, List.map_cons, List.map_nil, List.cons_append, List.nil_append, List.length_cons, List.length_nil, List.replicate_zero, List.replicate_succ, List.set_cons_zero, List.set_cons_succ, ite_ap, if_true, if_false, Bool.false_eq_true, Bool.true_eq_false, reduceIte, Nat.reduceSub, Nat.reduceAdd, Bool.not_true, Bool.not_false, Bool.true_and, Bool.false_and, Bool.and_true, Bool.and_false]
  · have hi' := List.mem_range.mp hi
    refine ⟨[.dat (.int j), .dat (.int i), .emp], rfl, rfl, rfl, fun _ => ⟨?_, ?_, rfl, fun k hk => ⟨[.dat (.int j), .dat (.int i), .dat (.int ((i : Int) + 1 + (k : Int)))], rfl, rfl, rfl, fun _ => ?_⟩⟩⟩
    · have e : (j - ((i : Int) + 1)).toNat = n - (i + 1) := by omega
      simp only [rng2_ok (show (-1000000000 : Int) < (i : Int) + 1 by omega) (show (i : Int) + 1 < 1000000000 by omega) (show j < 1000000000 by omega) (by omega), rng_map, e, grd, one1_l, one1_t, Option.bind_some, putG, mAsg, mCallK, mUserK, permL, List.filterMap_cons, List.filterMap_nil, qTup, Nat.reduceLeDiff, Nat.reduceLT, Nat.zero_add, and_self, modR, fdR, mulMod, mulModL, Int.reduceLT, Int.reduceLE, Int.reduceNeg, at3_0, at3_1, at3_2, at2_0, at2_1, ix3_0, ix3_1, ix3_2, mulR, mulL, add_ii, sub_ii, gt_ii, lt_ii, ge_ii, le_ii, ix_l, ix_t, ofO_s, int_i, len_l, len_t, fnR, headB, rvOf, mSeq, mIf, mOrT, mAndT, mNotT, mTru, mBl, mVD, mVF, mUser, mUser1F, mAC, mAN, mRef, mVar, DL.M.bind, DL.M.ret, DL.M.lift, DL.M.fail, arSls, arSl, lendAt, updB, getL, ownSl, Rs.pure?, Rs.bind, pTru, pBl, mBin, mUn, mRet, mRetF, mSet, mSetF, put, mExpr, mCall, mCallF, mCallW, mPeek, mCons, mNil, mTup, mLst, mL, mAnd, mOr, mNot, mIfE, mStore, mStoreN, mSetAt, mGetL, mPutL, mIxW, mApp, mPar, putS, setSl, mXN, mXC, mXO, mPart, mPartN, mSl, mLam, mLam0, mCallV, mFnAt, callee, capV, mItems, mScr, mScrIx, mScrLen, mScrSl, gN, gT, gsC, gsN, List.getElem?_cons_zero, List.getElem?_cons_succ, List.map_cons, List.map_nil, List.cons_append, List.nil_append, List.length_cons, List.length_nil, List.replicate_zero, List.replicate_succ, List.set_cons_zero, List.set_cons_succ, ite_ap, if_true, if_false, Bool.false_eq_true, Bool.true_eq_false, reduceIte, Nat.reduceSub, Nat.reduceAdd, Bool.not_true, Bool.not_false, Bool.true_and, Bool.false_and, Bool.and_true, Bool.and_false]
    · rw [List.length_range]; omega
    · have e : (((i + 1 + k : Nat) : Int)) = (i : Int) + 1 + (k : Int) := by omega
      simp only [pD, e, grd, one1_l, one1_t, Option.bind_some, putG, mAsg, mCallK, mUserK, permL, List.filterMap_cons, List.filterMap_nil, qTup, Nat.reduceLeDiff, Nat.reduceLT, Nat.zero_add, and_self, modR, fdR, mulMod, mulModL, Int.reduceLT, Int.reduceLE, Int.reduceNeg, at3_0, at3_1, at3_2, at2_0, at2_1, ix3_0, ix3_1, ix3_2, mulR, mulL, add_ii, sub_ii, gt_ii, lt_ii, ge_ii, le_ii, ix_l, ix_t, ofO_s, int_i, len_l, len_t, fnR, headB, rvOf, mSeq, mIf, mOrT, mAndT, mNotT, mTru, mBl, mVD, mVF, mUser, mUser1F, mAC, mAN, mRef, mVar, DL.M.bind, DL.M.ret, DL.M.lift, DL.M.fail, arSls, arSl, lendAt, updB, getL, ownSl, Rs.pure?, Rs.bind, pTru, pBl, mBin, mUn, mRet, mRetF, mSet, mSetF, put, mExpr, mCall, mCallF, mCallW, mPeek, mCons, mNil, mTup, mLst, mL, mAnd, mOr, mNot, mIfE, mStore, mStoreN, mSetAt, mGetL, mPutL, mIxW, mApp, mPar, putS, setSl, mXN, mXC, mXO, mPart, mPartN, mSl, mLam, mLam0, mCallV, mFnAt, callee, capV, mItems, mScr, mScrIx, mScrLen, mScrSl, gN, gT, gsC, gsN, List.getElem?_cons_zero, List.getElem?_cons_succ, List.map_cons, List.map_nil, List.cons_append, List.nil_append, List.length_cons, List.length_nil, List.replicate_zero, List.replicate_succ, List.set_cons_zero, List.set_cons_succ, ite_ap, if_true, if_false, Bool.false_eq_true, Bool.true_eq_false, reduceIte, Nat.reduceSub, Nat.reduceAdd, Bool.not_true, Bool.not_false, Bool.true_and, Bool.false_and, Bool.and_true, Bool.and_false]
theorem s_pairs (n : Nat) (j : Int) (hj : j = n) (hn : n ≤ 12) : S_pairs_of_all [.dat (.int j)] = (.ok (.d (prL (pairsN n))), []) := by
  simp only [S_pairs_of_all, m_pairs_of_all, N_pairs_of_all, pairs_4 n j hj hn, grd, one1_l, one1_t, Option.bind_some, putG, mAsg, mCallK, mUserK, permL, List.filterMap_cons, List.filterMap_nil, qTup, Nat.reduceLeDiff, Nat.reduceLT, Nat.zero_add, and_self, modR, fdR, mulMod, mulModL, Int.reduceLT, Int.reduceLE, Int.reduceNeg, at3_0, at3_1, at3_2, at2_0, at2_1, ix3_0, ix3_1, ix3_2, mulR, mulL, add_ii, sub_ii, gt_ii, lt_ii, ge_ii, le_ii, ix_l, ix_t, ofO_s, int_i, len_l, len_t, fnR, headB, rvOf, mSeq, mIf, mOrT, mAndT, mNotT, mTru, mBl, mVD, mVF, mUser, mUser1F, mAC, mAN, mRef, mVar, DL.M.bind, DL.M.ret, DL.M.lift, DL.M.fail, arSls, arSl, lendAt, updB, getL, ownSl, Rs.pure?, Rs.bind, pTru, pBl, mBin, mUn, mRet, mRetF, mSet, mSetF, put, mExpr, mCall, mCallF, mCallW, mPeek, mCons, mNil, mTup, mLst, mL, mAnd, mOr, mNot, mIfE, mStore, mStoreN, mSetAt, mGetL, mPutL, mIxW, mApp, mPar, putS, setSl, mXN, mXC, mXO, mPart, mPartN, mSl, mLam, mLam0, mCallV, mFnAt, callee, capV, mItems, mScr, mScrIx, mScrLen, mScrSl, gN, gT, gsC, gsN, List.getElem?_cons_zero, List.getElem?_cons_succ, List.map_cons, List.map_nil, List.cons_append, List.nil_append, List.length_cons, List.length_nil, List.replicate_zero, List.replicate_succ, List.set_cons_zero, List.set_cons_succ, ite_ap, if_true, if_false, Bool.false_eq_true, Bool.true_eq_false, reduceIte, Nat.reduceSub, Nat.reduceAdd, Bool.not_true, Bool.not_false, Bool.true_and, Bool.false_and, Bool.and_true, Bool.and_false]
  rfl

/-- who stands between and is not shorter than both -/
def barsL (r : List Int) (i j : Nat) : List Nat := ((List.range (j - (i + 1))).filter fun k => decide (mn (nt r i) (nt r j) ≤ nt r (i + 1 + k))).map (i + 1 + ·)
theorem bars_mem {r : List Int} {i j k : Nat} : k ∈ barsL r i j ↔ i < k ∧ k < j ∧ mn (nt r i) (nt r j) ≤ nt r k := by
  unfold barsL
  rw [List.mem_map]
  constructor
  · rintro ⟨q, hq, rfl⟩
    simp at hq
    exact ⟨by omega, by omega, hq.2⟩
  · rintro ⟨h1, h2, h3⟩
    have e : i + 1 + (k - (i + 1)) = k := by omega
    refine ⟨k - (i + 1), ?_, e⟩
    simp only [List.mem_filter, List.mem_range, decide_eq_true_eq]
    rw [e]
    exact ⟨by omega, h3⟩
def seeB (r : List Int) (i j : Nat) : Bool := (barsL r i j).isEmpty
theorem see_iff {r : List Int} {i j : Nat} : seeB r i j = true ↔ ∀ k, i < k → k < j → nt r k < mn (nt r i) (nt r j) := by
  unfold seeB
  rw [List.isEmpty_iff]
  constructor
  · intro h k h1 h2
    by_cases z : mn (nt r i) (nt r j) ≤ nt r k
    · have := bars_mem.mpr ⟨h1, h2, z⟩
      rw [h] at this; cases this
    · omega
  · intro h
    cases e : barsL r i j with
    | nil => rfl
    | cons k l =>
      have : k ∈ barsL r i j := by rw [e]; exact List.mem_cons_self
      obtain ⟨h1, h2, h3⟩ := bars_mem.mp this
      have := h k h1 h2
      omega

theorem s_bars (r : List Int) (i j : Nat) (ii jj : Int) (hi : ii = i) (hj : jj = j) (h1 : i < r.length) (h2 : j < r.length) (h12 : r.length ≤ 12) : S_bars_between [.dat (intT r), .dat (.int ii), .dat (.int jj)] = (.ok (.d (natL (barsL r i j))), []) := by
  have e : c_bars_between_1 [.dat (intT r), .dat (.int ii), .dat (.int jj), .dat (.int (mn (nt r i) (nt r j))), .emp] = (.ok ((barsL r i j).map fun (k : Nat) => .int (k : Int)), [.dat (intT r), .dat (.int ii), .dat (.int jj), .dat (.int (mn (nt r i) (nt r j))), .emp]) := by
    unfold barsL
    rw [List.map_map]
    unfold c_bars_between_1
    refine lc_map (List.range (j - (i + 1))) (fun (k : Nat) => .int (ii + 1 + (k : Int))) _ _ (ρ1 := [.dat (intT r), .dat (.int ii), .dat (.int jj), .dat (.int (mn (nt r i) (nt r j))), .emp]) ?_ (by rw [List.length_range]; omega) fun k hk => ?_
    · have e : (jj - (ii + 1)).toNat = j - (i + 1) := by omega
      simp only [rng2_ok (show (-1000000000 : Int) < ii + 1 by omega) (show ii + 1 < 1000000000 by omega) (show jj < 1000000000 by omega) (by omega), rng_map, e, grd, one1_l, one1_t, Option.bind_some, putG, mAsg, mCallK, mUserK, permL, List.filterMap_cons, List.filterMap_nil, qTup, Nat.reduceLeDiff, Nat.reduceLT, Nat.zero_add, and_self, modR, fdR, mulMod, mulModL, Int.reduceLT, Int.reduceLE, Int.reduceNeg, at3_0, at3_1, at3_2, at2_0, at2_1, ix3_0, ix3_1, ix3_2, mulR, mulL, add_ii, sub_ii, gt_ii, lt_ii, ge_ii, le_ii, ix_l, ix_t, ofO_s, int_i, len_l, len_t, fnR, headB, rvOf, mSeq, mIf, mOrT, mAndT, mNotT, mTru, mBl, mVD, mVF, mUser, mUser1F, mAC, mAN, mRef, mVar, DL.M.bind, DL.M.ret, DL.M.lift, DL.M.fail, arSls, arSl, lendAt, updB, getL, ownSl, Rs.pure?, Rs.bind, pTru, pBl, mBin, mUn, mRet, mRetF, mSet, mSetF, put, mExpr, mCall, mCallF, mCallW, mPeek, mCons, mNil, mTup, mLst, mL, mAnd, mOr, mNot, mIfE, mStore, mStoreN, mSetAt, mGetL, mPutL, mIxW, mApp, mPar, putS, setSl, mXN, mXC, mXO, mPart, mPartN, mSl, mLam, mLam0, mCallV, mFnAt, callee, capV, mItems, mScr, mScrIx, mScrLen, mScrSl, gN, gT, gsC, gsN, List.getElem?_cons_zero, List.getElem?_cons_succ, List.map_cons, List.map_nil, List.cons_append, List.nil_append, List.length_cons, List.length_nil, List.replicate_zero, List.replicate_succ, List.set_cons_zero, List.set_cons_succ, ite_ap, if_true, if_false, Bool.false_eq_true, Bool.true_eq_false, reduceIte, Nat.reduceSub, Nat.reduceAdd, Bool.not_true, Bool.not_false, Bool.true_and, Bool.false_and, Bool.and_true, Bool.and_false]
    · have hk' := List.mem_range.mp hk
      have e : ii + 1 + (k : Int) = ((i + 1 + k : Nat) : Int) := by omega
      refine ⟨[.dat (intT r), .dat (.int ii), .dat (.int jj), .dat (.int (mn (nt r i) (nt r j))), .dat (.int (ii + 1 + (k : Int)))], rfl, rfl, ?_, fun _ => ?_⟩
      · simp only [ix_T e (show i + 1 + k < r.length by omega), grd, one1_l, one1_t, Option.bind_some, putG, mAsg, mCallK, mUserK, permL, List.filterMap_cons, List.filterMap_nil, qTup, Nat.reduceLeDiff, Nat.reduceLT, Nat.zero_add, and_self, modR, fdR, mulMod, mulModL, Int.reduceLT, Int.reduceLE, Int.reduceNeg, at3_0, at3_1, at3_2, at2_0, at2_1, ix3_0, ix3_1, ix3_2, mulR, mulL, add_ii, sub_ii, gt_ii, lt_ii, ge_ii, le_ii, ix_l, ix_t, ofO_s, int_i, len_l, len_t, fnR, headB, rvOf, mSeq, mIf, mOrT, mAndT, mNotT, mTru, mBl, mVD, mVF, mUser, mUser1F, mAC, mAN, mRef, mVar, DL.M.bind, DL.M.ret, DL.M.lift, DL.M.fail, arSls, arSl, lendAt, updB, getL, ownSl, Rs.pure?, Rs.bind, pTru, pBl, mBin, mUn, mRet, mRetF, mSet, mSetF, put, mExpr, mCall, mCallF, mCallW, mPeek, mCons, mNil, mTup, mLst, mL, mAnd, mOr, mNot, mIfE, mStore, mStoreN, mSetAt, mGetL, mPutL, mIxW, mApp, mPar, putS, setSl, mXN, mXC, mXO, mPart, mPartN, mSl, mLam, mLam0, mCallV, mFnAt, callee, capV, mItems, mScr, mScrIx, mScrLen, mScrSl, gN, gT, gsC, gsN, List.getElem?_cons_zero, List.getElem?_cons_succ, List.map_cons, List.map_nil, List.cons_append, List.nil_append, List.length_cons, List.length_nil, List.replicate_zero, List.replicate_succ, List.set_cons_zero, List.set_cons_succ, ite_ap, if_true, if_false, Bool.false_eq_true, Bool.true_eq_false, reduceIte, Nat.reduceSub, Nat.reduceAdd, Bool.not_true, Bool.not_false, Bool.true_and, Bool.false_and, Bool.and_true, Bool.and_false]
      · rw [e]; rfl
  simp only [S_bars_between, m_bars_between, N_bars_between, ix_T hi h1, ix_T hj h2, min2, e, grd, one1_l, one1_t, Option.bind_some, putG, mAsg, mCallK, mUserK, permL, List.filterMap_cons, List.filterMap_nil, qTup, Nat.reduceLeDiff, Nat.reduceLT, Nat.zero_add, and_self, modR, fdR, mulMod, mulModL, Int.reduceLT, Int.reduceLE, Int.reduceNeg, at3_0, at3_1, at3_2, at2_0, at2_1, ix3_0, ix3_1, ix3_2, mulR, mulL, add_ii, sub_ii, gt_ii, lt_ii, ge_ii, le_ii, ix_l, ix_t, ofO_s, int_i, len_l, len_t, fnR, headB, rvOf, mSeq, mIf, mOrT, mAndT, mNotT, mTru, mBl, mVD, mVF, mUser, mUser1F, mAC, mAN, mRef, mVar, DL.M.bind, DL.M.ret, DL.M.lift, DL.M.fail, arSls, arSl, lendAt, updB, getL, ownSl, Rs.pure?, Rs.bind, pTru, pBl, mBin, mUn, mRet, mRetF, mSet, mSetF, put, mExpr, mCall, mCallF, mCallW, mPeek, mCons, mNil, mTup, mLst, mL, mAnd, mOr, mNot, mIfE, mStore, mStoreN, mSetAt, mGetL, mPutL, mIxW, mApp, mPar, putS, setSl, mXN, mXC, mXO, mPart, mPartN, mSl, mLam, mLam0, mCallV, mFnAt, callee, capV, mItems, mScr, mScrIx, mScrLen, mScrSl, gN, gT, gsC, gsN, List.getElem?_cons_zero, List.getElem?_cons_succ, List.map_cons, List.map_nil, List.cons_append, List.nil_append, List.length_cons, List.length_nil, List.replicate_zero, List.replicate_succ, List.set_cons_zero, List.set_cons_succ, ite_ap, if_true, if_false, Bool.false_eq_true, Bool.true_eq_false, reduceIte, Nat.reduceSub, Nat.reduceAdd, Bool.not_true, Bool.not_false, Bool.true_and, Bool.false_and, Bool.and_true, Bool.and_false]
  rfl
theorem s_see_in (r : List Int) (i j : Nat) (ii jj : Int) (hi : ii = i) (hj : jj = j) (h1 : i < r.length) (h2 : j < r.length) (h12 : r.length ≤ 12) : S_do_see_in [.dat (intT r), .dat (.int ii), .dat (.int jj)] = (.ok (.d (.bool (seeB r i j))), []) := by
  have e : pEq (natL (barsL r i j)) (.list []) = .ok (.bool (seeB r i j)) := by
    unfold natL seeB
    rw [eq_l0 (natT_shp _)]
    simp
  simp only [S_do_see_in, m_do_see_in, N_do_see_in, s_bars r i j ii jj hi hj h1 h2 h12, e, grd, one1_l, one1_t, Option.bind_some, putG, mAsg, mCallK, mUserK, permL, List.filterMap_cons, List.filterMap_nil, qTup, Nat.reduceLeDiff, Nat.reduceLT, Nat.zero_add, and_self, modR, fdR, mulMod, mulModL, Int.reduceLT, Int.reduceLE, Int.reduceNeg, at3_0, at3_1, at3_2, at2_0, at2_1, ix3_0, ix3_1, ix3_2, mulR, mulL, add_ii, sub_ii, gt_ii, lt_ii, ge_ii, le_ii, ix_l, ix_t, ofO_s, int_i, len_l, len_t, fnR, headB, rvOf, mSeq, mIf, mOrT, mAndT, mNotT, mTru, mBl, mVD, mVF, mUser, mUser1F, mAC, mAN, mRef, mVar, DL.M.bind, DL.M.ret, DL.M.lift, DL.M.fail, arSls, arSl, lendAt, updB, getL, ownSl, Rs.pure?, Rs.bind, pTru, pBl, mBin, mUn, mRet, mRetF, mSet, mSetF, put, mExpr, mCall, mCallF, mCallW, mPeek, mCons, mNil, mTup, mLst, mL, mAnd, mOr, mNot, mIfE, mStore, mStoreN, mSetAt, mGetL, mPutL, mIxW, mApp, mPar, putS, setSl, mXN, mXC, mXO, mPart, mPartN, mSl, mLam, mLam0, mCallV, mFnAt, callee, capV, mItems, mScr, mScrIx, mScrLen, mScrSl, gN, gT, gsC, gsN, List.getElem?_cons_zero, List.getElem?_cons_succ, List.map_cons, List.map_nil, List.cons_append, List.nil_append, List.length_cons, List.length_nil, List.replicate_zero, List.replicate_succ, List.set_cons_zero, List.set_cons_succ, ite_ap, if_true, if_false, Bool.false_eq_true, Bool.true_eq_false, reduceIte, Nat.reduceSub, Nat.reduceAdd, Bool.not_true, Bool.not_false, Bool.true_and, Bool.false_and, Bool.and_true, Bool.and_false]


def sightsL (r : List Int) : List (Nat × Nat) := (pairsN r.length).filter fun p => seeB r p.1 p.2
theorem sights_mem {r : List Int} {p : Nat × Nat} : p ∈ sightsL r ↔ p.1 < p.2 ∧ p.2 < r.length ∧ seeB r p.1 p.2 = true := by
  unfold sightsL
  rw [List.mem_filter, pairs_mem, and_assoc]
theorem sights_len {r : List Int} (h : r.length ≤ 12) : (sightsL r).length ≤ 144 := Nat.le_trans (List.length_filter_le _ _) (pairs_len h)

theorem s_sights_of (r : List Int) (h12 : r.length ≤ 12) : S_sights_of [.dat (intT r)] = (.ok (.d (prT (sightsL r))), []) := by
  have e : c_sights_of_1 [.dat (intT r), .emp] = (.ok ((sightsL r).map pD), [.dat (intT r), .emp]) := by
    unfold c_sights_of_1 sightsL
    refine lc_map (pairsN r.length) pD _ _ (ρ1 := [.dat (intT r), .emp]) ?_ (Nat.le_trans (pairs_len h12) (by decide)) fun p hp => ?_
    · simp only [DL.len_T, s_pairs r.length _ rfl h12, items_prL, grd, one1_l, one1_t, Option.bind_some, putG, mAsg, mCallK, mUserK, permL, List.filterMap_cons, List.filterMap_nil, qTup, Nat.reduceLeDiff, Nat.reduceLT, Nat.zero_add, and_self, modR, fdR, mulMod, mulModL, Int.reduceLT, Int.reduceLE, Int.reduceNeg, at3_0, at3_1, at3_2, at2_0, at2_1, ix3_0, ix3_1, ix3_2, mulR, mulL, add_ii, sub_ii, gt_ii, lt_ii, ge_ii, le_ii, ix_l, ix_t, ofO_s, int_i, len_l, len_t, fnR, headB, rvOf, mSeq, mIf, mOrT, mAndT, mNotT, mTru, mBl, mVD, mVF, mUser, mUser1F, mAC, mAN, mRef, mVar, DL.M.bind, DL.M.ret, DL.M.lift, DL.M.fail, arSls, arSl, lendAt, updB, getL, ownSl, Rs.pure?, Rs.bind, pTru, pBl, mBin, mUn, mRet, mRetF, mSet, mSetF, put, mExpr, mCall, mCallF, mCallW, mPeek, mCons, mNil, mTup, mLst, mL, mAnd, mOr, mNot, mIfE, mStore, mStoreN, mSetAt, mGetL, mPutL, mIxW, mApp, mPar, putS, setSl, mXN, mXC, mXO, mPart, mPartN, mSl, mLam, mLam0, mCallV, mFnAt, callee, capV, mItems, mScr, mScrIx, mScrLen, mScrSl, gN, gT, gsC, gsN, List.getElem?_cons_zero, List.getElem?_cons_succ, List.map_cons, List.map_nil, List.cons_append, List.nil_append, List.length_cons, List.length_nil, List.replicate_zero, List.replicate_succ, List.set_cons_zero, List.set_cons_succ, ite_ap, if_true, if_false, Bool.false_eq_true, Bool.true_eq_false, reduceIte, Nat.reduceSub, Nat.reduceAdd, Bool.not_true, Bool.not_false, Bool.true_and, Bool.false_and, Bool.and_true, Bool.and_false]
    · obtain ⟨h1, h2⟩ := pairs_mem.mp hp
      refine ⟨[.dat (intT r), .dat (pD p)], rfl, rfl, ?_, fun _ => rfl⟩
      have e0 : pIx (pD p) (.int 0) = .ok (.int (p.1 : Nat)) := rfl
      have e1 : pIx (pD p) (.int 1) = .ok (.int (p.2 : Nat)) := rfl
      simp only [e0, e1, s_see_in r p.1 p.2 _ _ rfl rfl (show p.1 < r.length by omega) h2 h12, grd, one1_l, one1_t, Option.bind_some, putG, mAsg, mCallK, mUserK, permL, List.filterMap_cons, List.filterMap_nil, qTup, Nat.reduceLeDiff, Nat.reduceLT, Nat.zero_add, and_self, modR, fdR, mulMod, mulModL, Int.reduceLT, Int.reduceLE, Int.reduceNeg, at3_0, at3_1, at3_2, at2_0, at2_1, ix3_0, ix3_1, ix3_2, mulR, mulL, add_ii, sub_ii, gt_ii, lt_ii, ge_ii, le_ii, ix_l, ix_t, ofO_s, int_i, len_l, len_t, fnR, headB, rvOf, mSeq, mIf, mOrT, mAndT, mNotT, mTru, mBl, mVD, mVF, mUser, mUser1F, mAC, mAN, mRef, mVar, DL.M.bind, DL.M.ret, DL.M.lift, DL.M.fail, arSls, arSl, lendAt, updB, getL, ownSl, Rs.pure?, Rs.bind, pTru, pBl, mBin, mUn, mRet, mRetF, mSet, mSetF, put, mExpr, mCall, mCallF, mCallW, mPeek, mCons, mNil, mTup, mLst, mL, mAnd, mOr, mNot, mIfE, mStore, mStoreN, mSetAt, mGetL, mPutL, mIxW, mApp, mPar, putS, setSl, mXN, mXC, mXO, mPart, mPartN, mSl, mLam, mLam0, mCallV, mFnAt, callee, capV, mItems, mScr, mScrIx, mScrLen, mScrSl, gN, gT, gsC, gsN, List.getElem?_cons_zero, List.getElem?_cons_succ, List.map_cons, List.map_nil, List.cons_append, List.nil_append, List.length_cons, List.length_nil, List.replicate_zero, List.replicate_succ, List.set_cons_zero, List.set_cons_succ, ite_ap, if_true, if_false, Bool.false_eq_true, Bool.true_eq_false, reduceIte, Nat.reduceSub, Nat.reduceAdd, Bool.not_true, Bool.not_false, Bool.true_and, Bool.false_and, Bool.and_true, Bool.and_false]
  simp only [S_sights_of, m_sights_of, N_sights_of, e, grd, one1_l, one1_t, Option.bind_some, putG, mAsg, mCallK, mUserK, permL, List.filterMap_cons, List.filterMap_nil, qTup, Nat.reduceLeDiff, Nat.reduceLT, Nat.zero_add, and_self, modR, fdR, mulMod, mulModL, Int.reduceLT, Int.reduceLE, Int.reduceNeg, at3_0, at3_1, at3_2, at2_0, at2_1, ix3_0, ix3_1, ix3_2, mulR, mulL, add_ii, sub_ii, gt_ii, lt_ii, ge_ii, le_ii, ix_l, ix_t, ofO_s, int_i, len_l, len_t, fnR, headB, rvOf, mSeq, mIf, mOrT, mAndT, mNotT, mTru, mBl, mVD, mVF, mUser, mUser1F, mAC, mAN, mRef, mVar, DL.M.bind, DL.M.ret, DL.M.lift, DL.M.fail, arSls, arSl, lendAt, updB, getL, ownSl, Rs.pure?, Rs.bind, pTru, pBl, mBin, mUn, mRet, mRetF, mSet, mSetF, put, mExpr, mCall, mCallF, mCallW, mPeek, mCons, mNil, mTup, mLst, mL, mAnd, mOr, mNot, mIfE, mStore, mStoreN, mSetAt, mGetL, mPutL, mIxW, mApp, mPar, putS, setSl, mXN, mXC, mXO, mPart, mPartN, mSl, mLam, mLam0, mCallV, mFnAt, callee, capV, mItems, mScr, mScrIx, mScrLen, mScrSl, gN, gT, gsC, gsN, List.getElem?_cons_zero, List.getElem?_cons_succ, List.map_cons, List.map_nil, List.cons_append, List.nil_append, List.length_cons, List.length_nil, List.replicate_zero, List.replicate_succ, List.set_cons_zero, List.set_cons_succ, ite_ap, if_true, if_false, Bool.false_eq_true, Bool.true_eq_false, reduceIte, Nat.reduceSub, Nat.reduceAdd, Bool.not_true, Bool.not_false, Bool.true_and, Bool.false_and, Bool.and_true, Bool.and_false]
  rfl


/-! whom somebody sees -/
def otherOf (p : Nat) (q : Nat × Nat) : Nat := if q.1 = p then q.2 else q.1
def seesB (r : List Int) (i j : Nat) : Bool := seeB r (min i j) (max i j)
theorem sees_comm (r : List Int) (i j : Nat) : seesB r i j = seesB r j i := by unfold seesB; rw [Nat.min_comm, Nat.max_comm]
def seenL (r : List Int) (p : Nat) : List Nat := (List.range r.length).filter fun j => !decide (j = p) && seesB r p j
theorem seen_mem {r : List Int} {p j : Nat} : j ∈ seenL r p ↔ j < r.length ∧ j ≠ p ∧ seesB r p j = true := by
  unfold seenL
  simp
theorem in_two (k a b : Nat) : pIn (.int k) (.tuple [.int a, .int b]) = .ok (.bool (decide (k = a ∨ k = b))) := by
  show (grd (shp 20 (.int k) = true ∧ shp 20 (.tuple [.int a, .int b]) = true) (.ok (dIn (.int k) [.int a, .int b]))).bind _ = _
  rw [grd_t ⟨shp_int, by simp [shp]⟩]
  have e : dIn (.int k) [.int a, .int b] = decide (k = a ∨ k = b) := by
    have := dIn_nat (i := (k : Int)) rfl [a, b]
    rw [show dIn (.int k) [.int a, .int b] = _ from this]
    simp
  rw [e]; rfl
def partL (r : List Int) (p : Nat) : List Nat := ((sightsL r).filter fun q => decide (p = q.1 ∨ p = q.2)).map (otherOf p)
theorem part_mem {r : List Int} {p j : Nat} (hp : p < r.length) : j ∈ partL r p ↔ j ∈ seenL r p := by
  unfold partL
  rw [seen_mem, List.mem_map]
  constructor
  · rintro ⟨q, hq, rfl⟩
    obtain ⟨h1, h2⟩ := List.mem_filter.mp hq
    obtain ⟨h3, h4, h5⟩ := sights_mem.mp h1
    have h2 := of_decide_eq_true h2
    unfold otherOf seesB
    by_cases z : q.1 = p
    · rw [if_pos z, ← z, Nat.min_eq_left (by omega), Nat.max_eq_right (by omega)]
      exact ⟨h4, by omega, h5⟩
    · have z2 : p = q.2 := by omega
      rw [if_neg z, z2, Nat.min_eq_right (by omega), Nat.max_eq_left (by omega)]
      exact ⟨by omega, by omega, h5⟩
  · rintro ⟨h1, h2, h3⟩
    unfold seesB at h3
    by_cases z : p < j
    · rw [Nat.min_eq_left (by omega), Nat.max_eq_right (by omega)] at h3
      exact ⟨(p, j), List.mem_filter.mpr ⟨sights_mem.mpr ⟨z, h1, h3⟩, by simp⟩, by unfold otherOf; simp⟩
    · rw [Nat.min_eq_right (by omega), Nat.max_eq_left (by omega)] at h3
      refine ⟨(j, p), List.mem_filter.mpr ⟨sights_mem.mpr ⟨by dsimp only; omega, hp, h3⟩, by simp⟩, ?_⟩
      unfold otherOf
      rw [if_neg (by dsimp only; omega)]
theorem pairs_lt (n : Nat) : (pairsN n).Pairwise fun p q => p.1 < q.1 ∨ p.1 = q.1 ∧ p.2 < q.2 := by
  unfold pairsN
  rw [List.pairwise_flatMap]
  constructor
  · intro i _
    exact List.pairwise_map.mpr (List.pairwise_lt_range.imp fun h => .inr ⟨rfl, by dsimp only; omega⟩)
  · refine List.pairwise_lt_range.imp fun {a b} hab x hx y hy => ?_
    obtain ⟨_, _, rfl⟩ := List.mem_map.mp hx
    obtain ⟨_, _, rfl⟩ := List.mem_map.mp hy
    exact .inl hab
theorem part_nodup (r : List Int) (p : Nat) : (partL r p).Nodup := by
  unfold partL
  have h : ((sightsL r).filter fun q => decide (p = q.1 ∨ p = q.2)).Pairwise fun p q => p.1 < q.1 ∨ p.1 = q.1 ∧ p.2 < q.2 := List.Pairwise.filter _ (List.Pairwise.filter _ (pairs_lt r.length))
  refine List.pairwise_map.mpr (List.Pairwise.imp_of_mem (fun {a b} ha hb h z => ?_) h)
  obtain ⟨h1, h2⟩ := List.mem_filter.mp ha
  obtain ⟨h3, h4⟩ := List.mem_filter.mp hb
  have h2 := of_decide_eq_true h2
  have h4 := of_decide_eq_true h4
  have := (sights_mem.mp h1).1
  have := (sights_mem.mp h3).1
  unfold otherOf at z
  split at z <;> split at z <;> omega
theorem seen_lt (r : List Int) (p : Nat) : (seenL r p).Pairwise (· < ·) := List.Pairwise.filter _ List.pairwise_lt_range
theorem part_perm (r : List Int) {p : Nat} (hp : p < r.length) : (seenL r p).Perm (partL r p) := perm_of ((seen_lt r p).imp fun h => by omega) (part_nodup r p) fun j => (part_mem hp).symm
theorem seen_len (r : List Int) (p : Nat) : (seenL r p).length ≤ r.length := Nat.le_trans (List.length_filter_le _ _) (by rw [List.length_range]; exact Nat.le_refl _)
theorem s_seen_from (r : List Int) (h12 : r.length ≤ 12) (p : Nat) (hp : p < r.length) : S_seen_from [.dat (prT (sightsL r)), .dat (.int p)] = (.ok (.d (natT (seenL r p))), []) := by
  have e : c_seen_from_1 [.dat (prT (sightsL r)), .dat (.int p), .emp, .emp] = (.ok ((partL r p).map fun (k : Nat) => .int (k : Int)), [.dat (prT (sightsL r)), .dat (.int p), .emp, .emp]) := by
    unfold c_seen_from_1 partL
    rw [List.map_map]
    refine lc_map (sightsL r) pD _ _ (ρ1 := [.dat (prT (sightsL r)), .dat (.int p), .emp, .emp]) (by simp only [items_prT, grd, one1_l, one1_t, Option.bind_some, putG, mAsg, mCallK, mUserK, permL, List.filterMap_cons, List.filterMap_nil, qTup, Nat.reduceLeDiff, Nat.reduceLT, Nat.zero_add, and_self, modR, fdR, mulMod, mulModL, Int.reduceLT, Int.reduceLE, Int.reduceNeg, at3_0, at3_1, at3_2, at2_0, at2_1, ix3_0, ix3_1, ix3_2, mulR, mulL, add_ii, sub_ii, gt_ii, lt_ii, ge_ii, le_ii, ix_l, ix_t, ofO_s, int_i, len_l, len_t, fnR, headB, rvOf, mSeq, mIf, mOrT, mAndT, mNotT, mTru, mBl, mVD, mVF, mUser, mUser1F, mAC, mAN, mRef, mVar, DL.M.bind, DL.M.ret, DL.M.lift, DL.M.fail, arSls, arSl, lendAt, updB, getL, ownSl, Rs.pure?, Rs.bind, pTru, pBl, mBin, mUn, mRet, mRetF, mSet, mSetF, put, mExpr, mCall, mCallF, mCallW, mPeek, mCons, mNil, mTup, mLst, mL, mAnd, mOr, mNot, mIfE, mStore, mStoreN, mSetAt, mGetL, mPutL, mIxW, mApp, mPar, putS, setSl, mXN, mXC, mXO, mPart, mPartN, mSl, mLam, mLam0, mCallV, mFnAt, callee, capV, mItems, mScr, mScrIx, mScrLen, mScrSl, gN, gT, gsC, gsN, List.getElem?_cons_zero, List.getElem?_cons_succ, List.map_cons, List.map_nil, List.cons_append, List.nil_append, List.length_cons, List.length_nil, List.replicate_zero, List.replicate_succ, List.set_cons_zero, List.set_cons_succ, ite_ap, if_true, if_false, Bool.false_eq_true, Bool.true_eq_false, reduceIte, Nat.reduceSub, Nat.reduceAdd, Bool.not_true, Bool.not_false, Bool.true_and, Bool.false_and, Bool.and_true, Bool.and_false]) (Nat.le_trans (sights_len h12) (by decide)) fun q hq => ?_
    refine ⟨[.dat (prT (sightsL r)), .dat (.int p), .dat (.int q.1), .dat (.int q.2)], rfl, rfl, ?_, fun hz => ?_⟩
    · simp only [in_two, grd, one1_l, one1_t, Option.bind_some, putG, mAsg, mCallK, mUserK, permL, List.filterMap_cons, List.filterMap_nil, qTup, Nat.reduceLeDiff, Nat.reduceLT, Nat.zero_add, and_self, modR, fdR, mulMod, mulModL, Int.reduceLT, Int.reduceLE, Int.reduceNeg, at3_0, at3_1, at3_2, at2_0, at2_1, ix3_0, ix3_1, ix3_2, mulR, mulL, add_ii, sub_ii, gt_ii, lt_ii, ge_ii, le_ii, ix_l, ix_t, ofO_s, int_i, len_l, len_t, fnR, headB, rvOf, mSeq, mIf, mOrT, mAndT, mNotT, mTru, mBl, mVD, mVF, mUser, mUser1F, mAC, mAN, mRef, mVar, DL.M.bind, DL.M.ret, DL.M.lift, DL.M.fail, arSls, arSl, lendAt, updB, getL, ownSl, Rs.pure?, Rs.bind, pTru, pBl, mBin, mUn, mRet, mRetF, mSet, mSetF, put, mExpr, mCall, mCallF, mCallW, mPeek, mCons, mNil, mTup, mLst, mL, mAnd, mOr, mNot, mIfE, mStore, mStoreN, mSetAt, mGetL, mPutL, mIxW, mApp, mPar, putS, setSl, mXN, mXC, mXO, mPart, mPartN, mSl, mLam, mLam0, mCallV, mFnAt, callee, capV, mItems, mScr, mScrIx, mScrLen, mScrSl, gN, gT, gsC, gsN, List.getElem?_cons_zero, List.getElem?_cons_succ, List.map_cons, List.map_nil, List.cons_append, List.nil_append, List.length_cons, List.length_nil, List.replicate_zero, List.replicate_succ, List.set_cons_zero, List.set_cons_succ, ite_ap, if_true, if_false, Bool.false_eq_true, Bool.true_eq_false, reduceIte, Nat.reduceSub, Nat.reduceAdd, Bool.not_true, Bool.not_false, Bool.true_and, Bool.false_and, Bool.and_true, Bool.and_false]
    · have hz := of_decide_eq_true hz
      have e : (q.1 : Int) + (q.2 : Int) - (p : Int) = (otherOf p q : Nat) := by
        unfold otherOf
        split <;> omega
      simp only [e, grd, one1_l, one1_t, Option.bind_some, putG, mAsg, mCallK, mUserK, permL, List.filterMap_cons, List.filterMap_nil, qTup, Nat.reduceLeDiff, Nat.reduceLT, Nat.zero_add, and_self, modR, fdR, mulMod, mulModL, Int.reduceLT, Int.reduceLE, Int.reduceNeg, at3_0, at3_1, at3_2, at2_0, at2_1, ix3_0, ix3_1, ix3_2, mulR, mulL, add_ii, sub_ii, gt_ii, lt_ii, ge_ii, le_ii, ix_l, ix_t, ofO_s, int_i, len_l, len_t, fnR, headB, rvOf, mSeq, mIf, mOrT, mAndT, mNotT, mTru, mBl, mVD, mVF, mUser, mUser1F, mAC, mAN, mRef, mVar, DL.M.bind, DL.M.ret, DL.M.lift, DL.M.fail, arSls, arSl, lendAt, updB, getL, ownSl, Rs.pure?, Rs.bind, pTru, pBl, mBin, mUn, mRet, mRetF, mSet, mSetF, put, mExpr, mCall, mCallF, mCallW, mPeek, mCons, mNil, mTup, mLst, mL, mAnd, mOr, mNot, mIfE, mStore, mStoreN, mSetAt, mGetL, mPutL, mIxW, mApp, mPar, putS, setSl, mXN, mXC, mXO, mPart, mPartN, mSl, mLam, mLam0, mCallV, mFnAt, callee, capV, mItems, mScr, mScrIx, mScrLen, mScrSl, gN, gT, gsC, gsN, List.getElem?_cons_zero, List.getElem?_cons_succ, List.map_cons, List.map_nil, List.cons_append, List.nil_append, List.length_cons, List.length_nil, List.replicate_zero, List.replicate_succ, List.set_cons_zero, List.set_cons_succ, ite_ap, if_true, if_false, Bool.false_eq_true, Bool.true_eq_false, reduceIte, Nat.reduceSub, Nat.reduceAdd, Bool.not_true, Bool.not_false, Bool.true_and, Bool.false_and, Bool.and_true, Bool.and_false]
      rfl
  have e2 := qsort_nats ((seen_lt r p).imp fun h => Nat.le_of_lt h) (part_perm r hp)
  simp only [S_seen_from, m_seen_from, N_seen_from, e, e2, grd, one1_l, one1_t, Option.bind_some, putG, mAsg, mCallK, mUserK, permL, List.filterMap_cons, List.filterMap_nil, qTup, Nat.reduceLeDiff, Nat.reduceLT, Nat.zero_add, and_self, modR, fdR, mulMod, mulModL, Int.reduceLT, Int.reduceLE, Int.reduceNeg, at3_0, at3_1, at3_2, at2_0, at2_1, ix3_0, ix3_1, ix3_2, mulR, mulL, add_ii, sub_ii, gt_ii, lt_ii, ge_ii, le_ii, ix_l, ix_t, ofO_s, int_i, len_l, len_t, fnR, headB, rvOf, mSeq, mIf, mOrT, mAndT, mNotT, mTru, mBl, mVD, mVF, mUser, mUser1F, mAC, mAN, mRef, mVar, DL.M.bind, DL.M.ret, DL.M.lift, DL.M.fail, arSls, arSl, lendAt, updB, getL, ownSl, Rs.pure?, Rs.bind, pTru, pBl, mBin, mUn, mRet, mRetF, mSet, mSetF, put, mExpr, mCall, mCallF, mCallW, mPeek, mCons, mNil, mTup, mLst, mL, mAnd, mOr, mNot, mIfE, mStore, mStoreN, mSetAt, mGetL, mPutL, mIxW, mApp, mPar, putS, setSl, mXN, mXC, mXO, mPart, mPartN, mSl, mLam, mLam0, mCallV, mFnAt, callee, capV, mItems, mScr, mScrIx, mScrLen, mScrSl, gN, gT, gsC, gsN, List.getElem?_cons_zero, List.getElem?_cons_succ, List.map_cons, List.map_nil, List.cons_append, List.nil_append, List.length_cons, List.length_nil, List.replicate_zero, List.replicate_succ, List.set_cons_zero, List.set_cons_succ, ite_ap, if_true, if_false, Bool.false_eq_true, Bool.true_eq_false, reduceIte, Nat.reduceSub, Nat.reduceAdd, Bool.not_true, Bool.not_false, Bool.true_and, Bool.false_and, Bool.and_true, Bool.and_false]
  rfl

/-! the law's own sights -/
def lawB (r : List Int) (i j : Nat) : Bool := ((List.range (j - (i + 1))).filter fun k => decide (mn (nt r i) (nt r j) < nt r (i + 1 + k))).isEmpty
theorem law_see {r : List Int} (hr : r.Nodup) {i j : Nat} (h1 : i < j) (h2 : j < r.length) : lawB r i j = seeB r i j := by
  rw [Bool.eq_iff_iff, see_iff]
  unfold lawB
  rw [List.isEmpty_iff, List.filter_eq_nil_iff]
  constructor
  · intro h k hk1 hk2
    have := h (k - (i + 1)) (List.mem_range.mpr (by omega))
    rw [decide_eq_true_iff, show i + 1 + (k - (i + 1)) = k by omega] at this
    have ne1 : nt r k ≠ nt r i := fun z => by have := nt_inj hr (by omega) (by omega) z; omega
    have ne2 : nt r k ≠ nt r j := fun z => by have := nt_inj hr (by omega) (by omega) z; omega
    have : mn (nt r i) (nt r j) = nt r i ∨ mn (nt r i) (nt r j) = nt r j := by unfold mn; split <;> simp
    omega
  · intro h k hk
    have hk' := List.mem_range.mp hk
    have := h (i + 1 + k) (by omega) (by omega)
    rw [decide_eq_true_iff]
    omega
theorem s_law_sees {q : D} (r : List Int) (i j : Nat) (ii jj : Int) (hi : ii = i) (hj : jj = j) (h1 : i < j) (h2 : j < r.length) (h12 : r.length ≤ 12) (hr : r.Nodup) (hq : SeqI q r) : S__law_sees [.dat q, .dat (.int ii), .dat (.int jj)] = (.ok (.d (.bool (seeB r i j))), []) := by
  have m1 : pMin2 [.int ii, .int jj] = .ok (.int ii) := by rw [min2, mn_l (by omega)]
  have m2 : pMax2 [.int ii, .int jj] = .ok (.int jj) := by rw [max2, mx_r (by omega)]
  have m3 : pMin2 [.int (nt r i), .int (nt r j)] = .ok (.int (mn (nt r i) (nt r j))) := min2
  have e : c__law_sees_1 [.dat q, .dat (.int ii), .dat (.int jj), .emp] = (.ok (((List.range (j - (i + 1))).filter fun k => decide (mn (nt r i) (nt r j) < nt r (i + 1 + k))).map fun (k : Nat) => .int (ii + 1 + (k : Int))), [.dat q, .dat (.int ii), .dat (.int jj), .emp]) := by
    unfold c__law_sees_1
    refine lc_map (List.range (j - (i + 1))) (fun (k : Nat) => .int (ii + 1 + (k : Int))) _ _ (ρ1 := [.dat q, .dat (.int ii), .dat (.int jj), .emp]) ?_ (by rw [List.length_range]; omega) fun k hk => ?_
    · have e : (jj - (ii + 1)).toNat = j - (i + 1) := by omega
      simp only [m1, m2, rng2_ok (show (-1000000000 : Int) < ii + 1 by omega) (show ii + 1 < 1000000000 by omega) (show jj < 1000000000 by omega) (by omega), rng_map, e, grd, one1_l, one1_t, Option.bind_some, putG, mAsg, mCallK, mUserK, permL, List.filterMap_cons, List.filterMap_nil, qTup, Nat.reduceLeDiff, Nat.reduceLT, Nat.zero_add, and_self, modR, fdR, mulMod, mulModL, Int.reduceLT, Int.reduceLE, Int.reduceNeg, at3_0, at3_1, at3_2, at2_0, at2_1, ix3_0, ix3_1, ix3_2, mulR, mulL, add_ii, sub_ii, gt_ii, lt_ii, ge_ii, le_ii, ix_l, ix_t, ofO_s, int_i, len_l, len_t, fnR, headB, rvOf, mSeq, mIf, mOrT, mAndT, mNotT, mTru, mBl, mVD, mVF, mUser, mUser1F, mAC, mAN, mRef, mVar, DL.M.bind, DL.M.ret, DL.M.lift, DL.M.fail, arSls, arSl, lendAt, updB, getL, ownSl, Rs.pure?, Rs.bind, pTru, pBl, mBin, mUn, mRet, mRetF, mSet, mSetF, put, mExpr, mCall, mCallF, mCallW, mPeek, mCons, mNil, mTup, mLst, mL, mAnd, mOr, mNot, mIfE, mStore, mStoreN, mSetAt, mGetL, mPutL, mIxW, mApp, mPar, putS, setSl, mXN, mXC, mXO, mPart, mPartN, mSl, mLam, mLam0, mCallV, mFnAt, callee, capV, mItems, mScr, mScrIx, mScrLen, mScrSl, gN, gT, gsC, gsN, List.getElem?_cons_zero, List.getElem?_cons_succ, List.map_cons, List.map_nil, List.cons_append, List.nil_append, List.length_cons, List.length_nil, List.replicate_zero, List.replicate_succ, List.set_cons_zero, List.set_cons_succ, ite_ap, if_true, if_false, Bool.false_eq_true, Bool.true_eq_false, reduceIte, Nat.reduceSub, Nat.reduceAdd, Bool.not_true, Bool.not_false, Bool.true_and, Bool.false_and, Bool.and_true, Bool.and_false]
    · have hk' := List.mem_range.mp hk
      have e : ii + 1 + (k : Int) = ((i + 1 + k : Nat) : Int) := by omega
      refine ⟨[.dat q, .dat (.int ii), .dat (.int jj), .dat (.int (ii + 1 + (k : Int)))], rfl, rfl, ?_, fun _ => rfl⟩
      simp only [hq.2 _ _ e (show i + 1 + k < r.length by omega), hq.2 _ _ hi (show i < r.length by omega), hq.2 _ _ hj h2, m3, grd, one1_l, one1_t, Option.bind_some, putG, mAsg, mCallK, mUserK, permL, List.filterMap_cons, List.filterMap_nil, qTup, Nat.reduceLeDiff, Nat.reduceLT, Nat.zero_add, and_self, modR, fdR, mulMod, mulModL, Int.reduceLT, Int.reduceLE, Int.reduceNeg, at3_0, at3_1, at3_2, at2_0, at2_1, ix3_0, ix3_1, ix3_2, mulR, mulL, add_ii, sub_ii, gt_ii, lt_ii, ge_ii, le_ii, ix_l, ix_t, ofO_s, int_i, len_l, len_t, fnR, headB, rvOf, mSeq, mIf, mOrT, mAndT, mNotT, mTru, mBl, mVD, mVF, mUser, mUser1F, mAC, mAN, mRef, mVar, DL.M.bind, DL.M.ret, DL.M.lift, DL.M.fail, arSls, arSl, lendAt, updB, getL, ownSl, Rs.pure?, Rs.bind, pTru, pBl, mBin, mUn, mRet, mRetF, mSet, mSetF, put, mExpr, mCall, mCallF, mCallW, mPeek, mCons, mNil, mTup, mLst, mL, mAnd, mOr, mNot, mIfE, mStore, mStoreN, mSetAt, mGetL, mPutL, mIxW, mApp, mPar, putS, setSl, mXN, mXC, mXO, mPart, mPartN, mSl, mLam, mLam0, mCallV, mFnAt, callee, capV, mItems, mScr, mScrIx, mScrLen, mScrSl, gN, gT, gsC, gsN, List.getElem?_cons_zero, List.getElem?_cons_succ, List.map_cons, List.map_nil, List.cons_append, List.nil_append, List.length_cons, List.length_nil, List.replicate_zero, List.replicate_succ, List.set_cons_zero, List.set_cons_succ, ite_ap, if_true, if_false, Bool.false_eq_true, Bool.true_eq_false, reduceIte, Nat.reduceSub, Nat.reduceAdd, Bool.not_true, Bool.not_false, Bool.true_and, Bool.false_and, Bool.and_true, Bool.and_false]
  have e2 : pEq (.list (((List.range (j - (i + 1))).filter fun k => decide (mn (nt r i) (nt r j) < nt r (i + 1 + k))).map fun (k : Nat) => .int (ii + 1 + (k : Int)))) (.list []) = .ok (.bool (seeB r i j)) := by
    rw [eq_l0 (by rw [List.all_map, List.all_eq_true]; intro x _; simp [shp]), ← law_see hr h1 h2]
    unfold lawB
    simp
  simp only [S__law_sees, m__law_sees, N__law_sees, e, e2, grd, one1_l, one1_t, Option.bind_some, putG, mAsg, mCallK, mUserK, permL, List.filterMap_cons, List.filterMap_nil, qTup, Nat.reduceLeDiff, Nat.reduceLT, Nat.zero_add, and_self, modR, fdR, mulMod, mulModL, Int.reduceLT, Int.reduceLE, Int.reduceNeg, at3_0, at3_1, at3_2, at2_0, at2_1, ix3_0, ix3_1, ix3_2, mulR, mulL, add_ii, sub_ii, gt_ii, lt_ii, ge_ii, le_ii, ix_l, ix_t, ofO_s, int_i, len_l, len_t, fnR, headB, rvOf, mSeq, mIf, mOrT, mAndT, mNotT, mTru, mBl, mVD, mVF, mUser, mUser1F, mAC, mAN, mRef, mVar, DL.M.bind, DL.M.ret, DL.M.lift, DL.M.fail, arSls, arSl, lendAt, updB, getL, ownSl, Rs.pure?, Rs.bind, pTru, pBl, mBin, mUn, mRet, mRetF, mSet, mSetF, put, mExpr, mCall, mCallF, mCallW, mPeek, mCons, mNil, mTup, mLst, mL, mAnd, mOr, mNot, mIfE, mStore, mStoreN, mSetAt, mGetL, mPutL, mIxW, mApp, mPar, putS, setSl, mXN, mXC, mXO, mPart, mPartN, mSl, mLam, mLam0, mCallV, mFnAt, callee, capV, mItems, mScr, mScrIx, mScrLen, mScrSl, gN, gT, gsC, gsN, List.getElem?_cons_zero, List.getElem?_cons_succ, List.map_cons, List.map_nil, List.cons_append, List.nil_append, List.length_cons, List.length_nil, List.replicate_zero, List.replicate_succ, List.set_cons_zero, List.set_cons_succ, ite_ap, if_true, if_false, Bool.false_eq_true, Bool.true_eq_false, reduceIte, Nat.reduceSub, Nat.reduceAdd, Bool.not_true, Bool.not_false, Bool.true_and, Bool.false_and, Bool.and_true, Bool.and_false]

theorem s_law_sees2 {q : D} (r : List Int) (i j : Nat) (h1 : i < r.length) (h2 : j < r.length) (ne : i ≠ j) (h12 : r.length ≤ 12) (hr : r.Nodup) (hq : SeqI q r) : S__law_sees [.dat q, .dat (.int i), .dat (.int j)] = (.ok (.d (.bool (seeB r (min i j) (max i j)))), []) := by
  by_cases lt : i < j
  · rw [Nat.min_eq_left (by omega), Nat.max_eq_right (by omega)]
    exact s_law_sees r i j _ _ rfl rfl lt h2 h12 hr hq
  · have lt : j < i := by omega
    have m1 : pMin2 [.int (i : Int), .int (j : Int)] = .ok (.int j) := by rw [min2, mn_r (by omega)]
    have m2 : pMax2 [.int (i : Int), .int (j : Int)] = .ok (.int i) := by rw [max2, mx_l (by omega)]
    have m3 : pMin2 [.int (nt r i), .int (nt r j)] = .ok (.int (mn (nt r j) (nt r i))) := by
      rw [min2]
      have : mn (nt r i) (nt r j) = mn (nt r j) (nt r i) := by unfold mn; split <;> split <;> omega
      rw [this]
    have e : c__law_sees_1 [.dat q, .dat (.int i), .dat (.int j), .emp] = (.ok (((List.range (i - (j + 1))).filter fun k => decide (mn (nt r j) (nt r i) < nt r (j + 1 + k))).map fun (k : Nat) => .int ((j : Int) + 1 + (k : Int))), [.dat q, .dat (.int i), .dat (.int j), .emp]) := by
      unfold c__law_sees_1
      refine lc_map (List.range (i - (j + 1))) (fun (k : Nat) => .int ((j : Int) + 1 + (k : Int))) _ _ (ρ1 := [.dat q, .dat (.int i), .dat (.int j), .emp]) ?_ (by rw [List.length_range]; omega) fun k hk => ?_
      · have e : ((i : Int) - ((j : Int) + 1)).toNat = i - (j + 1) := by omega
        simp only [m1, m2, rng2_ok (show (-1000000000 : Int) < (j : Int) + 1 by omega) (show (j : Int) + 1 < 1000000000 by omega) (show (i : Int) < 1000000000 by omega) (by omega), rng_map, e, grd, one1_l, one1_t, Option.bind_some, putG, mAsg, mCallK, mUserK, permL, List.filterMap_cons, List.filterMap_nil, qTup, Nat.reduceLeDiff, Nat.reduceLT, Nat.zero_add, and_self, modR, fdR, mulMod, mulModL, Int.reduceLT, Int.reduceLE, Int.reduceNeg, at3_0, at3_1, at3_2, at2_0, at2_1, ix3_0, ix3_1, ix3_2, mulR, mulL, add_ii, sub_ii, gt_ii, lt_ii, ge_ii, le_ii, ix_l, ix_t, ofO_s, int_i, len_l, len_t, fnR, headB, rvOf, mSeq, mIf, mOrT, mAndT, mNotT, mTru, mBl, mVD, mVF, mUser, mUser1F, mAC, mAN, mRef, mVar, DL.M.bind, DL.M.ret, DL.M.lift, DL.M.fail, arSls, arSl, lendAt, updB, getL, ownSl, Rs.pure?, Rs.bind, pTru, pBl, mBin, mUn, mRet, mRetF, mSet, mSetF, put, mExpr, mCall, mCallF, mCallW, mPeek, mCons, mNil, mTup, mLst, mL, mAnd, mOr, mNot, mIfE, mStore, mStoreN, mSetAt, mGetL, mPutL, mIxW, mApp, mPar, putS, setSl, mXN, mXC, mXO, mPart, mPartN, mSl, mLam, mLam0, mCallV, mFnAt, callee, capV, mItems, mScr, mScrIx, mScrLen, mScrSl, gN, gT, gsC, gsN, List.getElem?_cons_zero, List.getElem?_cons_succ, List.map_cons, List.map_nil, List.cons_append, List.nil_append, List.length_cons, List.length_nil, List.replicate_zero, List.replicate_succ, List.set_cons_zero, List.set_cons_succ, ite_ap, if_true, if_false, Bool.false_eq_true, Bool.true_eq_false, reduceIte, Nat.reduceSub, Nat.reduceAdd, Bool.not_true, Bool.not_false, Bool.true_and, Bool.false_and, Bool.and_true, Bool.and_false]
      · have hk' := List.mem_range.mp hk
        have e : (j : Int) + 1 + (k : Int) = ((j + 1 + k : Nat) : Int) := by omega
        refine ⟨[.dat q, .dat (.int i), .dat (.int j), .dat (.int ((j : Int) + 1 + (k : Int)))], rfl, rfl, ?_, fun _ => rfl⟩
        simp only [hq.2 _ _ e (show j + 1 + k < r.length by omega), hq.2 (i : Int) i rfl h1, hq.2 (j : Int) j rfl h2, m3, grd, one1_l, one1_t, Option.bind_some, putG, mAsg, mCallK, mUserK, permL, List.filterMap_cons, List.filterMap_nil, qTup, Nat.reduceLeDiff, Nat.reduceLT, Nat.zero_add, and_self, modR, fdR, mulMod, mulModL, Int.reduceLT, Int.reduceLE, Int.reduceNeg, at3_0, at3_1, at3_2, at2_0, at2_1, ix3_0, ix3_1, ix3_2, mulR, mulL, add_ii, sub_ii, gt_ii, lt_ii, ge_ii, le_ii, ix_l, ix_t, ofO_s, int_i, len_l, len_t, fnR, headB, rvOf, mSeq, mIf, mOrT, mAndT, mNotT, mTru, mBl, mVD, mVF, mUser, mUser1F, mAC, mAN, mRef, mVar, DL.M.bind, DL.M.ret, DL.M.lift, DL.M.fail, arSls, arSl, lendAt, updB, getL, ownSl, Rs.pure?, Rs.bind, pTru, pBl, mBin, mUn, mRet, mRetF, mSet, mSetF, put, mExpr, mCall, mCallF, mCallW, mPeek, mCons, mNil, mTup, mLst, mL, mAnd, mOr, mNot, mIfE, mStore, mStoreN, mSetAt, mGetL, mPutL, mIxW, mApp, mPar, putS, setSl, mXN, mXC, mXO, mPart, mPartN, mSl, mLam, mLam0, mCallV, mFnAt, callee, capV, mItems, mScr, mScrIx, mScrLen, mScrSl, gN, gT, gsC, gsN, List.getElem?_cons_zero, List.getElem?_cons_succ, List.map_cons, List.map_nil, List.cons_append, List.nil_append, List.length_cons, List.length_nil, List.replicate_zero, List.replicate_succ, List.set_cons_zero, List.set_cons_succ, ite_ap, if_true, if_false, Bool.false_eq_true, Bool.true_eq_false, reduceIte, Nat.reduceSub, Nat.reduceAdd, Bool.not_true, Bool.not_false, Bool.true_and, Bool.false_and, Bool.and_true, Bool.and_false]
    have e2 : pEq (.list (((List.range (i - (j + 1))).filter fun k => decide (mn (nt r j) (nt r i) < nt r (j + 1 + k))).map fun (k : Nat) => .int ((j : Int) + 1 + (k : Int)))) (.list []) = .ok (.bool (seeB r j i)) := by
      rw [eq_l0 (by rw [List.all_map, List.all_eq_true]; intro x _; simp [shp]), ← law_see hr lt h1]
      unfold lawB
      simp
    rw [Nat.min_eq_right (by omega), Nat.max_eq_left (by omega)]
    simp only [S__law_sees, m__law_sees, N__law_sees, e, e2, grd, one1_l, one1_t, Option.bind_some, putG, mAsg, mCallK, mUserK, permL, List.filterMap_cons, List.filterMap_nil, qTup, Nat.reduceLeDiff, Nat.reduceLT, Nat.zero_add, and_self, modR, fdR, mulMod, mulModL, Int.reduceLT, Int.reduceLE, Int.reduceNeg, at3_0, at3_1, at3_2, at2_0, at2_1, ix3_0, ix3_1, ix3_2, mulR, mulL, add_ii, sub_ii, gt_ii, lt_ii, ge_ii, le_ii, ix_l, ix_t, ofO_s, int_i, len_l, len_t, fnR, headB, rvOf, mSeq, mIf, mOrT, mAndT, mNotT, mTru, mBl, mVD, mVF, mUser, mUser1F, mAC, mAN, mRef, mVar, DL.M.bind, DL.M.ret, DL.M.lift, DL.M.fail, arSls, arSl, lendAt, updB, getL, ownSl, Rs.pure?, Rs.bind, pTru, pBl, mBin, mUn, mRet, mRetF, mSet, mSetF, put, mExpr, mCall, mCallF, mCallW, mPeek, mCons, mNil, mTup, mLst, mL, mAnd, mOr, mNot, mIfE, mStore, mStoreN, mSetAt, mGetL, mPutL, mIxW, mApp, mPar, putS, setSl, mXN, mXC, mXO, mPart, mPartN, mSl, mLam, mLam0, mCallV, mFnAt, callee, capV, mItems, mScr, mScrIx, mScrLen, mScrSl, gN, gT, gsC, gsN, List.getElem?_cons_zero, List.getElem?_cons_succ, List.map_cons, List.map_nil, List.cons_append, List.nil_append, List.length_cons, List.length_nil, List.replicate_zero, List.replicate_succ, List.set_cons_zero, List.set_cons_succ, ite_ap, if_true, if_false, Bool.false_eq_true, Bool.true_eq_false, reduceIte, Nat.reduceSub, Nat.reduceAdd, Bool.not_true, Bool.not_false, Bool.true_and, Bool.false_and, Bool.and_true, Bool.and_false]

/-- a loop that ends by a return at the first one that is not so -/
theorem forM_ret {g : D → Env' → Option Env'} {body : MS} {α : Type} (φ : α → D) (t : α → Bool) (d : D) (I : Env' → Prop) : ∀ (l : List α) (ρ : Env'), I ρ → (∀ a ∈ l, ∀ ρ : Env', I ρ → ∃ ρ1 ρ2, g (φ a) ρ = some ρ1 ∧ body ρ1 = (.ok (if t a then .nx else .rt d), ρ2) ∧ I ρ2) → ∃ ρ', forM g body (l.map φ) ρ = (.ok (if l.all t then .nx else .rt d), ρ') ∧ I ρ'
  | [], ρ, h, _ => ⟨ρ, rfl, h⟩
  | a :: l, ρ, h, step => by
    obtain ⟨ρ1, ρ2, e1, e2, h2⟩ := step a (by simp) ρ h
    cases q : t a with
    | true =>
      obtain ⟨ρ', e3, h3⟩ := forM_ret φ t d I l ρ2 h2 fun b hb => step b (by simp [hb])
      refine ⟨ρ', ?_, h3⟩
      show (match g (φ a) ρ with | none => (Rs.bad, ρ) | some ρ1 => afterB (forM g body (l.map φ)) (body ρ1)) = _
      rw [e1]
      show afterB (forM g body (l.map φ)) (body ρ1) = _
      rw [e2, q, if_pos rfl, List.all_cons, q]
      exact e3
    | false =>
      refine ⟨ρ2, ?_, h2⟩
      show (match g (φ a) ρ with | none => (Rs.bad, ρ) | some ρ1 => afterB (forM g body (l.map φ)) (body ρ1)) = _
      rw [e1]
      show afterB (forM g body (l.map φ)) (body ρ1) = _
      rw [e2, q, List.all_cons, q]
      rfl
theorem for_ret {mi : M (List D)} {g : D → Env' → Option Env'} {body : MS} {ρ ρ1 : Env'} {α : Type} (l : List α) (φ : α → D) (t : α → Bool) (d : D) (I : Env' → Prop) (hi : mi ρ = (.ok (l.map φ), ρ1)) (h0 : I ρ1) (step : ∀ a ∈ l, ∀ ρ : Env', I ρ → ∃ ρ1 ρ2, g (φ a) ρ = some ρ1 ∧ body ρ1 = (.ok (if t a then .nx else .rt d), ρ2) ∧ I ρ2) : ∃ ρ', mFor mi g body ρ = (.ok (if l.all t then .nx else .rt d), ρ') ∧ I ρ' := by
  obtain ⟨ρ', e, h⟩ := forM_ret φ t d I l ρ1 h0 step
  refine ⟨ρ', ?_, h⟩
  unfold mFor
  rw [bindR hi]
  exact e

/-! a comprehension whose test changes something -/
theorem lpS_filt {α : Type} {vs : List Nat} {g : D → Env' → Option Env'} {mt : M Bool} {me : M D} (φ : α → D) (I : List α → List D → Env' → Prop) (all : List α) : ∀ (l done : List α) (acc : List D) (ρ : Env'), all = done ++ l → acc.length + l.length ≤ 16777216 → I done acc ρ →
    (∀ (done : List α) (a : α) (rest : List α) (acc : List D) (ρ : Env'), all = done ++ a :: rest → I done acc ρ → ∃ ρd ρ2 b d, g (φ a) ρ = some ρd ∧ mt ρd = (.ok b, ρ2) ∧ (b = true → me ρ2 = (.ok d, ρ2)) ∧ I (done ++ [a]) (if b = true then acc ++ [d] else acc) (wipeR ρ2 vs)) →
    ∃ ds ρ2, lpB vs g (bOne mt me) (l.map φ) acc ρ = (.ok ds, ρ2) ∧ I all ds ρ2
  | [], done, acc, ρ, e, _, h, _ => ⟨acc, ρ, rfl, by rw [e, List.append_nil]; exact h⟩
  | a :: l, done, acc, ρ, e, hl, h, step => by
    have hl' : acc.length + (l.length + 1) ≤ 16777216 := hl
    obtain ⟨ρd, ρ2, b, d, e1, e2, e4, h2⟩ := step done a l acc ρ e h
    have hb : (if b = true then acc ++ [d] else acc).length ≤ acc.length + 1 := by
      split
      · rw [List.length_append]; simp only [List.length_singleton]; omega
      · omega
    obtain ⟨ds, ρ3, e3, h3⟩ := lpS_filt (vs := vs) (g := g) (mt := mt) (me := me) φ I all l (done ++ [a]) (if b = true then acc ++ [d] else acc) (wipeR ρ2 vs) (by rw [e, List.append_assoc]; rfl) (by omega) h2 step
    refine ⟨ds, ρ3, ?_, h3⟩
    show (match g (φ a) ρ with | none => (Rs.bad, ρ) | some ρ1 => ((bOne mt me acc).bind fun a => (wipeM vs).bind fun _ => lpB vs g (bOne mt me) (l.map φ) a) ρ1) = _
    rw [e1]
    show ((bOne mt me acc).bind fun a => (wipeM vs).bind fun _ => lpB vs g (bOne mt me) (l.map φ) a) ρd = _
    have q : bOne mt me acc ρd = (.ok (if b = true then acc ++ [d] else acc), ρ2) := by
      have lt : acc.length < 16777216 := by omega
      have e5 : (M.lift (grd (acc.length < 16777216) (.ok ()))) ρ2 = (.ok (), ρ2) := by
        unfold M.lift grd
        rw [if_pos lt]
      unfold bOne
      rw [bindR e2]
      cases b with
      | true =>
        rw [if_pos rfl, if_pos rfl, bindR (e4 rfl), bindR e5]
        rfl
      | false => rfl
    rw [bindR q]
    exact e3
theorem lcS_filt {α : Type} {mi : M (List D)} {vs : List Nat} {g : D → Env' → Option Env'} {mt : M Bool} {me : M D} {ρ ρ1 : Env'} (l : List α) (φ : α → D) (I : List α → List D → Env' → Prop) (hi : mi ρ = (.ok (l.map φ), ρ1)) (hl : l.length ≤ 16777216) (h0 : I [] [] (enterR vs ρ1))
    (step : ∀ (done : List α) (a : α) (rest : List α) (acc : List D) (ρ : Env'), l = done ++ a :: rest → I done acc ρ → ∃ ρd ρ2 b d, g (φ a) ρ = some ρd ∧ mt ρd = (.ok b, ρ2) ∧ (b = true → me ρ2 = (.ok d, ρ2)) ∧ I (done ++ [a]) (if b = true then acc ++ [d] else acc) (wipeR ρ2 vs)) :
    ∃ ds ρ2, mLc mi vs g mt me ρ = (.ok ds, leaveR vs ρ1 ρ2) ∧ I l ds ρ2 := by
  obtain ⟨ds, ρ2, e, h⟩ := lpS_filt (vs := vs) (g := g) (mt := mt) (me := me) φ I l l [] [] (enterR vs ρ1) rfl (by simpa using hl) h0 step
  refine ⟨ds, ρ2, ?_, h⟩
  unfold mLc
  rw [bindR hi]
  unfold runB
  rw [e]
theorem leave_hide (s : Slot) : leaveS s (hideS s) = s := by cases s <;> rfl

theorem s_others_of (n : Nat) (hn : n ≤ 12) (l : List Nat) : S_others_of [.dat (.int n), .dat (natT l)] = (.ok (.d (natT ((List.range n).filter fun j => !decide (j ∈ l)))), []) := by
  have e : c_others_of_1 [.dat (.int n), .dat (natT l), .emp] = (.ok (((List.range n).filter fun j => !decide (j ∈ l)).map fun (k : Nat) => .int (k : Int)), [.dat (.int n), .dat (natT l), .emp]) := by
    unfold c_others_of_1
    refine lc_map (List.range n) (fun (k : Nat) => .int (k : Int)) _ _ (ρ1 := [.dat (.int n), .dat (natT l), .emp]) (by simp only [rng1_ok (show (n : Int) < 1000000000 by omega) (by omega), rng_map0, Int.toNat_natCast, grd, one1_l, one1_t, Option.bind_some, putG, mAsg, mCallK, mUserK, permL, List.filterMap_cons, List.filterMap_nil, qTup, Nat.reduceLeDiff, Nat.reduceLT, Nat.zero_add, and_self, modR, fdR, mulMod, mulModL, Int.reduceLT, Int.reduceLE, Int.reduceNeg, at3_0, at3_1, at3_2, at2_0, at2_1, ix3_0, ix3_1, ix3_2, mulR, mulL, add_ii, sub_ii, gt_ii, lt_ii, ge_ii, le_ii, ix_l, ix_t, ofO_s, int_i, len_l, len_t, fnR, headB, rvOf, mSeq, mIf, mOrT, mAndT, mNotT, mTru, mBl, mVD, mVF, mUser, mUser1F, mAC, mAN, mRef, mVar, DL.M.bind, DL.M.ret, DL.M.lift, DL.M.fail, arSls, arSl, lendAt, updB, getL, ownSl, Rs.pure?, Rs.bind, pTru, pBl, mBin, mUn, mRet, mRetF, mSet, mSetF, put, mExpr, mCall, mCallF, mCallW, mPeek, mCons, mNil, mTup, mLst, mL, mAnd, mOr, mNot, mIfE, mStore, mStoreN, mSetAt, mGetL, mPutL, mIxW, mApp, mPar, putS, setSl, mXN, mXC, mXO, mPart, mPartN, mSl, mLam, mLam0, mCallV, mFnAt, callee, capV, mItems, mScr, mScrIx, mScrLen, mScrSl, gN, gT, gsC, gsN, List.getElem?_cons_zero, List.getElem?_cons_succ, List.map_cons, List.map_nil, List.cons_append, List.nil_append, List.length_cons, List.length_nil, List.replicate_zero, List.replicate_succ, List.set_cons_zero, List.set_cons_succ, ite_ap, if_true, if_false, Bool.false_eq_true, Bool.true_eq_false, reduceIte, Nat.reduceSub, Nat.reduceAdd, Bool.not_true, Bool.not_false, Bool.true_and, Bool.false_and, Bool.and_true, Bool.and_false]) (by rw [List.length_range]; omega) fun k hk => ?_
    refine ⟨[.dat (.int n), .dat (natT l), .dat (.int k)], rfl, rfl, ?_, fun _ => rfl⟩
    have : pNotIn (.int k) (natT l) = .ok (.bool (!decide (k ∈ l))) := by
      show (grd (shp 20 (.int k) = true ∧ shp 20 (natT l) = true) (.ok (dIn (.int k) (l.map fun (k : Nat) => PyData.int k)))).bind _ = _
      rw [grd_t ⟨shp_int, shp_tup (natT_shp l)⟩, dIn_nat (i := (k : Int)) rfl]; rfl
    simp only [this, grd, one1_l, one1_t, Option.bind_some, putG, mAsg, mCallK, mUserK, permL, List.filterMap_cons, List.filterMap_nil, qTup, Nat.reduceLeDiff, Nat.reduceLT, Nat.zero_add, and_self, modR, fdR, mulMod, mulModL, Int.reduceLT, Int.reduceLE, Int.reduceNeg, at3_0, at3_1, at3_2, at2_0, at2_1, ix3_0, ix3_1, ix3_2, mulR, mulL, add_ii, sub_ii, gt_ii, lt_ii, ge_ii, le_ii, ix_l, ix_t, ofO_s, int_i, len_l, len_t, fnR, headB, rvOf, mSeq, mIf, mOrT, mAndT, mNotT, mTru, mBl, mVD, mVF, mUser, mUser1F, mAC, mAN, mRef, mVar, DL.M.bind, DL.M.ret, DL.M.lift, DL.M.fail, arSls, arSl, lendAt, updB, getL, ownSl, Rs.pure?, Rs.bind, pTru, pBl, mBin, mUn, mRet, mRetF, mSet, mSetF, put, mExpr, mCall, mCallF, mCallW, mPeek, mCons, mNil, mTup, mLst, mL, mAnd, mOr, mNot, mIfE, mStore, mStoreN, mSetAt, mGetL, mPutL, mIxW, mApp, mPar, putS, setSl, mXN, mXC, mXO, mPart, mPartN, mSl, mLam, mLam0, mCallV, mFnAt, callee, capV, mItems, mScr, mScrIx, mScrLen, mScrSl, gN, gT, gsC, gsN, List.getElem?_cons_zero, List.getElem?_cons_succ, List.map_cons, List.map_nil, List.cons_append, List.nil_append, List.length_cons, List.length_nil, List.replicate_zero, List.replicate_succ, List.set_cons_zero, List.set_cons_succ, ite_ap, if_true, if_false, Bool.false_eq_true, Bool.true_eq_false, reduceIte, Nat.reduceSub, Nat.reduceAdd, Bool.not_true, Bool.not_false, Bool.true_and, Bool.false_and, Bool.and_true, Bool.and_false]
  simp only [S_others_of, m_others_of, N_others_of, e, grd, one1_l, one1_t, Option.bind_some, putG, mAsg, mCallK, mUserK, permL, List.filterMap_cons, List.filterMap_nil, qTup, Nat.reduceLeDiff, Nat.reduceLT, Nat.zero_add, and_self, modR, fdR, mulMod, mulModL, Int.reduceLT, Int.reduceLE, Int.reduceNeg, at3_0, at3_1, at3_2, at2_0, at2_1, ix3_0, ix3_1, ix3_2, mulR, mulL, add_ii, sub_ii, gt_ii, lt_ii, ge_ii, le_ii, ix_l, ix_t, ofO_s, int_i, len_l, len_t, fnR, headB, rvOf, mSeq, mIf, mOrT, mAndT, mNotT, mTru, mBl, mVD, mVF, mUser, mUser1F, mAC, mAN, mRef, mVar, DL.M.bind, DL.M.ret, DL.M.lift, DL.M.fail, arSls, arSl, lendAt, updB, getL, ownSl, Rs.pure?, Rs.bind, pTru, pBl, mBin, mUn, mRet, mRetF, mSet, mSetF, put, mExpr, mCall, mCallF, mCallW, mPeek, mCons, mNil, mTup, mLst, mL, mAnd, mOr, mNot, mIfE, mStore, mStoreN, mSetAt, mGetL, mPutL, mIxW, mApp, mPar, putS, setSl, mXN, mXC, mXO, mPart, mPartN, mSl, mLam, mLam0, mCallV, mFnAt, callee, capV, mItems, mScr, mScrIx, mScrLen, mScrSl, gN, gT, gsC, gsN, List.getElem?_cons_zero, List.getElem?_cons_succ, List.map_cons, List.map_nil, List.cons_append, List.nil_append, List.length_cons, List.length_nil, List.replicate_zero, List.replicate_succ, List.set_cons_zero, List.set_cons_succ, ite_ap, if_true, if_false, Bool.false_eq_true, Bool.true_eq_false, reduceIte, Nat.reduceSub, Nat.reduceAdd, Bool.not_true, Bool.not_false, Bool.true_and, Bool.false_and, Bool.and_true, Bool.and_false]
  rfl

theorem add_LLs {xs ys : List D} (h : xs.length + ys.length ≤ 16777216) : pAdd (.list xs) (.list ys) = .ok (.list (xs ++ ys)) := grd_t h
/-! lots -/
def lots (ts : List Nat) : List (List Nat) := ts.foldl (fun f t => f ++ f.map (· ++ [t])) [[]]
def ltL (l : List (List Nat)) : D := .list (l.map natT)
theorem lots_snoc (ts : List Nat) (t : Nat) : lots (ts ++ [t]) = lots ts ++ (lots ts).map (· ++ [t]) := by
  unfold lots; rw [List.foldl_append]; rfl
theorem lots_len0 : ∀ (ts : List Nat) (f : List (List Nat)), (ts.foldl (fun f t => f ++ f.map (· ++ [t])) f).length = f.length * 2 ^ ts.length
  | [], f => by simp
  | t :: ts, f => by
    rw [List.foldl_cons, lots_len0 ts, List.length_append, List.length_map, List.length_cons, Nat.pow_succ, ← Nat.two_mul, Nat.mul_comm 2 f.length, Nat.mul_assoc, Nat.mul_comm 2]
theorem lots_len {ts : List Nat} (h : ts.length ≤ 12) : (lots ts).length ≤ 4096 := by
  unfold lots
  rw [lots_len0]
  have := Nat.pow_le_pow_right (show 0 < 2 by decide) h
  simpa using this
theorem lots_all (P : Nat → Prop) : ∀ (ts : List Nat) (f : List (List Nat)), (∀ l ∈ f, ∀ x ∈ l, P x) → (∀ t ∈ ts, P t) → ∀ l ∈ ts.foldl (fun f t => f ++ f.map (· ++ [t])) f, ∀ x ∈ l, P x
  | [], f, h, _ => h
  | t :: ts, f, h, ht => by
    rw [List.foldl_cons]
    refine lots_all P ts _ (fun l hl x hx => ?_) fun u hu => ht u (List.mem_cons_of_mem _ hu)
    rcases List.mem_append.mp hl with hl | hl
    · exact h l hl x hx
    · obtain ⟨l0, hl0, rfl⟩ := List.mem_map.mp hl
      rcases List.mem_append.mp hx with hx | hx
      · exact h l0 hl0 x hx
      · rw [List.mem_singleton.mp hx]; exact ht t List.mem_cons_self
theorem lots_mem {ts : List Nat} {l : List Nat} (hl : l ∈ lots ts) {x : Nat} (hx : x ∈ l) : x ∈ ts := lots_all (· ∈ ts) ts [[]] (fun l hl x hx => by rw [List.mem_singleton.mp hl] at hx; cases hx) (fun t ht => ht) l hl x hx
theorem lots_short : ∀ (ts : List Nat) (f : List (List Nat)) (m : Nat), (∀ l ∈ f, l.length ≤ m) → ∀ l ∈ ts.foldl (fun f t => f ++ f.map (· ++ [t])) f, l.length ≤ m + ts.length
  | [], f, m, h => h
  | t :: ts, f, m, h => fun l hl => by
    rw [List.foldl_cons] at hl
    have := lots_short ts _ (m + 1) (fun l hl => by
      rcases List.mem_append.mp hl with hl | hl
      · have := h l hl; omega
      · obtain ⟨l0, hl0, rfl⟩ := List.mem_map.mp hl
        have := h l0 hl0
        rw [List.length_append, List.length_singleton]; omega) l hl
    rw [List.length_cons]; omega
theorem lots_le {ts : List Nat} {l : List Nat} (hl : l ∈ lots ts) : l.length ≤ ts.length := by
  have := lots_short ts [[]] 0 (fun l hl => by rw [List.mem_singleton.mp hl]; exact Nat.le_refl _) l hl
  omega
/-- ordered by length, then by items -/
def gLot : List D → Rs D := lamR 1 1 l_every_lot_1 []
theorem key_lot (l : List Nat) : gLot [natT l] = .ok (.tuple [.int l.length, natT l]) := by
  simp only [gLot, lamR, nestE, capSl, l_every_lot_1, len_nT, grd, one1_l, one1_t, Option.bind_some, putG, mAsg, mCallK, mUserK, permL, List.filterMap_cons, List.filterMap_nil, qTup, Nat.reduceLeDiff, Nat.reduceLT, Nat.zero_add, and_self, modR, fdR, mulMod, mulModL, Int.reduceLT, Int.reduceLE, Int.reduceNeg, at3_0, at3_1, at3_2, at2_0, at2_1, ix3_0, ix3_1, ix3_2, mulR, mulL, add_ii, sub_ii, gt_ii, lt_ii, ge_ii, le_ii, ix_l, ix_t, ofO_s, int_i, len_l, len_t, fnR, headB, rvOf, mSeq, mIf, mOrT, mAndT, mNotT, mTru, mBl, mVD, mVF, mUser, mUser1F, mAC, mAN, mRef, mVar, DL.M.bind, DL.M.ret, DL.M.lift, DL.M.fail, arSls, arSl, lendAt, updB, getL, ownSl, Rs.pure?, Rs.bind, pTru, pBl, mBin, mUn, mRet, mRetF, mSet, mSetF, put, mExpr, mCall, mCallF, mCallW, mPeek, mCons, mNil, mTup, mLst, mL, mAnd, mOr, mNot, mIfE, mStore, mStoreN, mSetAt, mGetL, mPutL, mIxW, mApp, mPar, putS, setSl, mXN, mXC, mXO, mPart, mPartN, mSl, mLam, mLam0, mCallV, mFnAt, callee, capV, mItems, mScr, mScrIx, mScrLen, mScrSl, gN, gT, gsC, gsN, List.getElem?_cons_zero, List.getElem?_cons_succ, List.map_cons, List.map_nil, List.cons_append, List.nil_append, List.length_cons, List.length_nil, List.replicate_zero, List.replicate_succ, List.set_cons_zero, List.set_cons_succ, ite_ap, if_true, if_false, Bool.false_eq_true, Bool.true_eq_false, reduceIte, Nat.reduceSub, Nat.reduceAdd, Bool.not_true, Bool.not_false, Bool.true_and, Bool.false_and, Bool.and_true, Bool.and_false]
theorem alike_nats : ∀ (a b : List Nat), PySem.W.alikeAll (a.map fun (k : Nat) => PyData.int k) (b.map fun (k : Nat) => PyData.int k) = true
  | [], _ => by simp [PySem.W.alikeAll]
  | _ :: _, [] => by simp [PySem.W.alikeAll]
  | x :: a, y :: b => by
    simp only [List.map_cons, PySem.W.alikeAll, PySem.W.alike, Bool.true_and]
    exact alike_nats a b
def kLot (l : List Nat) : D := .tuple (.int l.length :: [natT l])
def ltS (F : List (List Nat)) : List (List Nat) := F.mergeSort (fun a b => PySem.W.dataLe false (keyD gLot) (natT a) (natT b))
theorem lot_depth (F : List (List Nat)) : PyData.depthAll (F.map kLot) < 60 := by
  have := depth_each (k := 5) (xs := F.map kLot) fun x hx => by
    obtain ⟨l, _, rfl⟩ := List.mem_map.mp hx
    have : PyData.depthAll (l.map fun (k : Nat) => PyData.int k) ≤ 1 := depth_each fun y hy => by
      obtain ⟨k, _, rfl⟩ := List.mem_map.mp hy
      simp [PyData.depth]
    simp only [kLot, natT, PyData.depth, PyData.depthAll]
    omega
  omega
theorem lot_alike (F : List (List Nat)) : alikeB (F.map kLot) = true := alike_each kLot (fun a b => by
    simp only [kLot, natT, PySem.W.alike, PySem.W.alikeAll, Bool.true_and, Bool.and_true]
    exact alike_nats a b) (fun a z => nomatch z) F
theorem lot_sortable (F : List (List Nat)) : sortableB (F.map kLot) = true := sortable_tups (fun l : List Nat => .int l.length) (fun l => [natT l]) F
theorem keyD_lot (l : List Nat) : keyD gLot (natT l) = kLot l := by
  unfold keyD
  rw [key_lot]; rfl
theorem sort_lots (F : List (List Nat)) : qSortK gLot (F.map natT) = .ok ((ltS F).map natT) := by
  have hk : (F.map natT).map (keyD gLot) = F.map kLot := by
    rw [List.map_map]
    exact List.map_congr_left fun l _ => keyD_lot l
  have ho : okB gLot (F.map natT) = true := List.all_eq_true.mpr fun x hx => by
    obtain ⟨l, _, rfl⟩ := List.mem_map.mp hx
    rw [key_lot]
  unfold qSortK
  rw [if_pos ho, hk, grd_t ⟨lot_alike F, lot_sortable F, lot_depth F⟩, ltS, List.map_mergeSort (f := natT) (r := fun a b => PySem.W.dataLe false (keyD gLot) (natT a) (natT b)) (s := PySem.W.dataLe false (keyD gLot)) (l := F) (fun _ _ _ _ => rfl)]
theorem add_nT {l : List Nat} {t : Nat} (h : l.length ≤ 1000) : pAdd (natT l) (.tuple [.int t]) = .ok (natT (l ++ [t])) := by
  show grd ((l.map fun (k : Nat) => PyData.int k).length + [PyData.int t].length ≤ 16777216) _ = _
  rw [grd_t (by rw [List.length_map, List.length_singleton]; omega)]
  unfold natT
  rw [List.map_append]; rfl
theorem s_every_lot (n : Nat) (hn : n ≤ 12) : S_every_lot [.dat (natL (List.range n))] = (.ok (.d (ltL (ltS (lots (List.range n))))), []) := by
  have e := sort_lots (lots (List.range n))
  obtain ⟨ρ', q, s, rfl⟩ := for_map (mi := i_every_lot_1) (g := gN 2) (body := b_every_lot_1) (List.range n) (fun (k : Nat) => .int (k : Int)) (ρ := [.dat (natL (List.range n)), .dat (ltL (lots [])), .emp, .emp]) (ρ1 := [.dat (natL (List.range n)), .dat (ltL (lots [])), .emp, .emp])
    (fun done ρ => ∃ s, ρ = [.dat (natL (List.range n)), .dat (ltL (lots done)), s, .emp]) (by simp only [i_every_lot_1, natL, pItems, grd, one1_l, one1_t, Option.bind_some, putG, mAsg, mCallK, mUserK, permL, List.filterMap_cons, List.filterMap_nil, qTup, Nat.reduceLeDiff, Nat.reduceLT, Nat.zero_add, and_self, modR, fdR, mulMod, mulModL, Int.reduceLT, Int.reduceLE, Int.reduceNeg, at3_0, at3_1, at3_2, at2_0, at2_1, ix3_0, ix3_1, ix3_2, mulR, mulL, add_ii, sub_ii, gt_ii, lt_ii, ge_ii, le_ii, ix_l, ix_t, ofO_s, int_i, len_l, len_t, fnR, headB, rvOf, mSeq, mIf, mOrT, mAndT, mNotT, mTru, mBl, mVD, mVF, mUser, mUser1F, mAC, mAN, mRef, mVar, DL.M.bind, DL.M.ret, DL.M.lift, DL.M.fail, arSls, arSl, lendAt, updB, getL, ownSl, Rs.pure?, Rs.bind, pTru, pBl, mBin, mUn, mRet, mRetF, mSet, mSetF, put, mExpr, mCall, mCallF, mCallW, mPeek, mCons, mNil, mTup, mLst, mL, mAnd, mOr, mNot, mIfE, mStore, mStoreN, mSetAt, mGetL, mPutL, mIxW, mApp, mPar, putS, setSl, mXN, mXC, mXO, mPart, mPartN, mSl, mLam, mLam0, mCallV, mFnAt, callee, capV, mItems, mScr, mScrIx, mScrLen, mScrSl, gN, gT, gsC, gsN, List.getElem?_cons_zero, List.getElem?_cons_succ, List.map_cons, List.map_nil, List.cons_append, List.nil_append, List.length_cons, List.length_nil, List.replicate_zero, List.replicate_succ, List.set_cons_zero, List.set_cons_succ, ite_ap, if_true, if_false, Bool.false_eq_true, Bool.true_eq_false, reduceIte, Nat.reduceSub, Nat.reduceAdd, Bool.not_true, Bool.not_false, Bool.true_and, Bool.false_and, Bool.and_true, Bool.and_false]) ⟨_, rfl⟩ (fun done d rest hd ρ hI => by
      obtain ⟨s, rfl⟩ := hI
      have hl : done.length ≤ 12 := by
        have := congrArg List.length hd
        rw [List.length_range, List.length_append, List.length_cons] at this
        omega
      have h2 := lots_len hl
      have c : c_every_lot_1 [.dat (natL (List.range n)), .dat (ltL (lots done)), .dat (.int d), .emp] = (.ok ((lots done).map fun l => natT (l ++ [d])), [.dat (natL (List.range n)), .dat (ltL (lots done)), .dat (.int d), .emp]) := by
        unfold c_every_lot_1
        refine lc_each (lots done) natT _ (ρ1 := [.dat (natL (List.range n)), .dat (ltL (lots done)), .dat (.int d), .emp]) (by simp only [ltL, pItems, grd, one1_l, one1_t, Option.bind_some, putG, mAsg, mCallK, mUserK, permL, List.filterMap_cons, List.filterMap_nil, qTup, Nat.reduceLeDiff, Nat.reduceLT, Nat.zero_add, and_self, modR, fdR, mulMod, mulModL, Int.reduceLT, Int.reduceLE, Int.reduceNeg, at3_0, at3_1, at3_2, at2_0, at2_1, ix3_0, ix3_1, ix3_2, mulR, mulL, add_ii, sub_ii, gt_ii, lt_ii, ge_ii, le_ii, ix_l, ix_t, ofO_s, int_i, len_l, len_t, fnR, headB, rvOf, mSeq, mIf, mOrT, mAndT, mNotT, mTru, mBl, mVD, mVF, mUser, mUser1F, mAC, mAN, mRef, mVar, DL.M.bind, DL.M.ret, DL.M.lift, DL.M.fail, arSls, arSl, lendAt, updB, getL, ownSl, Rs.pure?, Rs.bind, pTru, pBl, mBin, mUn, mRet, mRetF, mSet, mSetF, put, mExpr, mCall, mCallF, mCallW, mPeek, mCons, mNil, mTup, mLst, mL, mAnd, mOr, mNot, mIfE, mStore, mStoreN, mSetAt, mGetL, mPutL, mIxW, mApp, mPar, putS, setSl, mXN, mXC, mXO, mPart, mPartN, mSl, mLam, mLam0, mCallV, mFnAt, callee, capV, mItems, mScr, mScrIx, mScrLen, mScrSl, gN, gT, gsC, gsN, List.getElem?_cons_zero, List.getElem?_cons_succ, List.map_cons, List.map_nil, List.cons_append, List.nil_append, List.length_cons, List.length_nil, List.replicate_zero, List.replicate_succ, List.set_cons_zero, List.set_cons_succ, ite_ap, if_true, if_false, Bool.false_eq_true, Bool.true_eq_false, reduceIte, Nat.reduceSub, Nat.reduceAdd, Bool.not_true, Bool.not_false, Bool.true_and, Bool.false_and, Bool.and_true, Bool.and_false]) (by omega) fun l hl2 => ?_
        refine ⟨[.dat (natL (List.range n)), .dat (ltL (lots done)), .dat (.int d), .dat (natT l)], rfl, rfl, ?_⟩
        have h3 := lots_le hl2
        simp only [add_nT (l := l) (t := d) (by omega), grd, one1_l, one1_t, Option.bind_some, putG, mAsg, mCallK, mUserK, permL, List.filterMap_cons, List.filterMap_nil, qTup, Nat.reduceLeDiff, Nat.reduceLT, Nat.zero_add, and_self, modR, fdR, mulMod, mulModL, Int.reduceLT, Int.reduceLE, Int.reduceNeg, at3_0, at3_1, at3_2, at2_0, at2_1, ix3_0, ix3_1, ix3_2, mulR, mulL, add_ii, sub_ii, gt_ii, lt_ii, ge_ii, le_ii, ix_l, ix_t, ofO_s, int_i, len_l, len_t, fnR, headB, rvOf, mSeq, mIf, mOrT, mAndT, mNotT, mTru, mBl, mVD, mVF, mUser, mUser1F, mAC, mAN, mRef, mVar, DL.M.bind, DL.M.ret, DL.M.lift, DL.M.fail, arSls, arSl, lendAt, updB, getL, ownSl, Rs.pure?, Rs.bind, pTru, pBl, mBin, mUn, mRet, mRetF, mSet, mSetF, put, mExpr, mCall, mCallF, mCallW, mPeek, mCons, mNil, mTup, mLst, mL, mAnd, mOr, mNot, mIfE, mStore, mStoreN, mSetAt, mGetL, mPutL, mIxW, mApp, mPar, putS, setSl, mXN, mXC, mXO, mPart, mPartN, mSl, mLam, mLam0, mCallV, mFnAt, callee, capV, mItems, mScr, mScrIx, mScrLen, mScrSl, gN, gT, gsC, gsN, List.getElem?_cons_zero, List.getElem?_cons_succ, List.map_cons, List.map_nil, List.cons_append, List.nil_append, List.length_cons, List.length_nil, List.replicate_zero, List.replicate_succ, List.set_cons_zero, List.set_cons_succ, ite_ap, if_true, if_false, Bool.false_eq_true, Bool.true_eq_false, reduceIte, Nat.reduceSub, Nat.reduceAdd, Bool.not_true, Bool.not_false, Bool.true_and, Bool.false_and, Bool.and_true, Bool.and_false]
      have a : pAdd (ltL (lots done)) (.list ((lots done).map fun l => natT (l ++ [d]))) = .ok (ltL (lots (done ++ [d]))) := by
        unfold ltL
        rw [add_LLs (by rw [List.length_map, List.length_map]; omega), lots_snoc, List.map_append, List.map_map]; rfl
      refine ⟨_, _, rfl, .inl ?_, .dat (.int d), rfl⟩
      simp only [b_every_lot_1, c, a, grd, one1_l, one1_t, Option.bind_some, putG, mAsg, mCallK, mUserK, permL, List.filterMap_cons, List.filterMap_nil, qTup, Nat.reduceLeDiff, Nat.reduceLT, Nat.zero_add, and_self, modR, fdR, mulMod, mulModL, Int.reduceLT, Int.reduceLE, Int.reduceNeg, at3_0, at3_1, at3_2, at2_0, at2_1, ix3_0, ix3_1, ix3_2, mulR, mulL, add_ii, sub_ii, gt_ii, lt_ii, ge_ii, le_ii, ix_l, ix_t, ofO_s, int_i, len_l, len_t, fnR, headB, rvOf, mSeq, mIf, mOrT, mAndT, mNotT, mTru, mBl, mVD, mVF, mUser, mUser1F, mAC, mAN, mRef, mVar, DL.M.bind, DL.M.ret, DL.M.lift, DL.M.fail, arSls, arSl, lendAt, updB, getL, ownSl, Rs.pure?, Rs.bind, pTru, pBl, mBin, mUn, mRet, mRetF, mSet, mSetF, put, mExpr, mCall, mCallF, mCallW, mPeek, mCons, mNil, mTup, mLst, mL, mAnd, mOr, mNot, mIfE, mStore, mStoreN, mSetAt, mGetL, mPutL, mIxW, mApp, mPar, putS, setSl, mXN, mXC, mXO, mPart, mPartN, mSl, mLam, mLam0, mCallV, mFnAt, callee, capV, mItems, mScr, mScrIx, mScrLen, mScrSl, gN, gT, gsC, gsN, List.getElem?_cons_zero, List.getElem?_cons_succ, List.map_cons, List.map_nil, List.cons_append, List.nil_append, List.length_cons, List.length_nil, List.replicate_zero, List.replicate_succ, List.set_cons_zero, List.set_cons_succ, ite_ap, if_true, if_false, Bool.false_eq_true, Bool.true_eq_false, reduceIte, Nat.reduceSub, Nat.reduceAdd, Bool.not_true, Bool.not_false, Bool.true_and, Bool.false_and, Bool.and_true, Bool.and_false])
  unfold S_every_lot
  refine fnR_non (r := .ok (.rt (ltL (ltS (lots (List.range n)))))) (ρ' := [.dat (natL (List.range n)), .dat (ltL (lots (List.range n))), s, .emp]) rfl ?_
  show m_every_lot [.dat (natL (List.range n)), .emp, .emp, .emp] = _
  have e' : sortKL (lamR 1 1 l_every_lot_1 []) (ltL (lots (List.range n))) = .ok ((ltS (lots (List.range n))).map natT) := e
  unfold m_every_lot
  rw [seqR (ρ1 := [.dat (natL (List.range n)), .dat (ltL (lots [])), .emp, .emp]) (by simp only [grd, one1_l, one1_t, Option.bind_some, putG, mAsg, mCallK, mUserK, permL, List.filterMap_cons, List.filterMap_nil, qTup, Nat.reduceLeDiff, Nat.reduceLT, Nat.zero_add, and_self, modR, fdR, mulMod, mulModL, Int.reduceLT, Int.reduceLE, Int.reduceNeg, at3_0, at3_1, at3_2, at2_0, at2_1, ix3_0, ix3_1, ix3_2, mulR, mulL, add_ii, sub_ii, gt_ii, lt_ii, ge_ii, le_ii, ix_l, ix_t, ofO_s, int_i, len_l, len_t, fnR, headB, rvOf, mSeq, mIf, mOrT, mAndT, mNotT, mTru, mBl, mVD, mVF, mUser, mUser1F, mAC, mAN, mRef, mVar, DL.M.bind, DL.M.ret, DL.M.lift, DL.M.fail, arSls, arSl, lendAt, updB, getL, ownSl, Rs.pure?, Rs.bind, pTru, pBl, mBin, mUn, mRet, mRetF, mSet, mSetF, put, mExpr, mCall, mCallF, mCallW, mPeek, mCons, mNil, mTup, mLst, mL, mAnd, mOr, mNot, mIfE, mStore, mStoreN, mSetAt, mGetL, mPutL, mIxW, mApp, mPar, putS, setSl, mXN, mXC, mXO, mPart, mPartN, mSl, mLam, mLam0, mCallV, mFnAt, callee, capV, mItems, mScr, mScrIx, mScrLen, mScrSl, gN, gT, gsC, gsN, List.getElem?_cons_zero, List.getElem?_cons_succ, List.map_cons, List.map_nil, List.cons_append, List.nil_append, List.length_cons, List.length_nil, List.replicate_zero, List.replicate_succ, List.set_cons_zero, List.set_cons_succ, ite_ap, if_true, if_false, Bool.false_eq_true, Bool.true_eq_false, reduceIte, Nat.reduceSub, Nat.reduceAdd, Bool.not_true, Bool.not_false, Bool.true_and, Bool.false_and, Bool.and_true, Bool.and_false]; rfl), seqR q]
  simp only [mSortK, capsB, List.map_nil, List.all_nil, e', grd, one1_l, one1_t, Option.bind_some, putG, mAsg, mCallK, mUserK, permL, List.filterMap_cons, List.filterMap_nil, qTup, Nat.reduceLeDiff, Nat.reduceLT, Nat.zero_add, and_self, modR, fdR, mulMod, mulModL, Int.reduceLT, Int.reduceLE, Int.reduceNeg, at3_0, at3_1, at3_2, at2_0, at2_1, ix3_0, ix3_1, ix3_2, mulR, mulL, add_ii, sub_ii, gt_ii, lt_ii, ge_ii, le_ii, ix_l, ix_t, ofO_s, int_i, len_l, len_t, fnR, headB, rvOf, mSeq, mIf, mOrT, mAndT, mNotT, mTru, mBl, mVD, mVF, mUser, mUser1F, mAC, mAN, mRef, mVar, DL.M.bind, DL.M.ret, DL.M.lift, DL.M.fail, arSls, arSl, lendAt, updB, getL, ownSl, Rs.pure?, Rs.bind, pTru, pBl, mBin, mUn, mRet, mRetF, mSet, mSetF, put, mExpr, mCall, mCallF, mCallW, mPeek, mCons, mNil, mTup, mLst, mL, mAnd, mOr, mNot, mIfE, mStore, mStoreN, mSetAt, mGetL, mPutL, mIxW, mApp, mPar, putS, setSl, mXN, mXC, mXO, mPart, mPartN, mSl, mLam, mLam0, mCallV, mFnAt, callee, capV, mItems, mScr, mScrIx, mScrLen, mScrSl, gN, gT, gsC, gsN, List.getElem?_cons_zero, List.getElem?_cons_succ, List.map_cons, List.map_nil, List.cons_append, List.nil_append, List.length_cons, List.length_nil, List.replicate_zero, List.replicate_succ, List.set_cons_zero, List.set_cons_succ, ite_ap, if_true, if_false, Bool.false_eq_true, Bool.true_eq_false, reduceIte, Nat.reduceSub, Nat.reduceAdd, Bool.not_true, Bool.not_false, Bool.true_and, Bool.false_and, Bool.and_true, Bool.and_false]
  rfl
theorem len_lt {L : List (List Nat)} : pLen [ltL L] = .ok (.int L.length) := by
  show Rs.ok (PyData.int ((L.map natT).length : Nat)) = _
  rw [List.length_map]
theorem items_lt {L : List (List Nat)} : pItems (ltL L) = .ok (L.map natT) := rfl
theorem at_last {α : Type} {f : α → D} {l : List α} {d : α} (h : l ≠ []) : atI (l.map f) (-1) = some (f (l.getLastD d)) := by
  have hl : 0 < l.length := List.length_pos_iff.mpr h
  have e : l.getLastD d = l[l.length - 1] := by
    rw [List.getLastD_eq_getLast?, List.getLast?_eq_getElem?, List.getElem?_eq_getElem (by omega)]; rfl
  have e2 : ixN (l.map f).length (-1) = some (l.length - 1) := by
    rw [List.length_map]
    unfold ixN
    simp
    omega
  unfold atI
  rw [e2, e]
  simp
  exact ⟨_, List.getElem?_eq_getElem (by omega), rfl⟩
theorem at_first {α : Type} {f : α → D} {l : List α} (h : l ≠ []) : ∃ x ∈ l, atI (l.map f) 0 = some (f x) := by
  cases l with
  | nil => exact absurd rfl h
  | cons x l => exact ⟨x, List.mem_cons_self, at_map (l := x :: l) (i := 0) (k := 0) rfl (by simp)⟩
def srtL (n : Nat) : List (List Nat) := ltS (lots (List.range n))
theorem srt_perm {n : Nat} (h : n ≤ 12) : (srtL n).Perm (lots (List.range n)) := List.mergeSort_perm _ _
theorem srt_eq {n : Nat} (h : n ≤ 12) : S_every_lot [.dat (.list ((List.range n).map fun (k : Nat) => .int (k : Int)))] = (.ok (.d (ltL (srtL n))), []) := s_every_lot n h
theorem srt_len {n : Nat} (h : n ≤ 12) : (srtL n).length ≤ 4096 := by
  rw [(srt_perm h).length_eq]; exact lots_len (by rw [List.length_range]; exact h)
theorem srt_mem {n : Nat} (h : n ≤ 12) {l : List Nat} (hl : l ∈ srtL n) : l.length ≤ 12 ∧ ∀ x ∈ l, x < n := by
  have h1 := (srt_perm h).mem_iff.mp hl
  refine ⟨?_, fun x hx => List.mem_range.mp (lots_mem h1 hx)⟩
  have := lots_le h1
  rw [List.length_range] at this
  omega
theorem srt_ex {n : Nat} (h : n ≤ 12) {t : List Nat → Bool} (he : ∃ l ∈ lots (List.range n), t l = true) : (srtL n).filter t ≠ [] := by
  obtain ⟨l, h1, h2⟩ := he
  intro z
  have := List.mem_filter.mpr ⟨(srt_perm h).mem_iff.mpr h1, h2⟩
  rw [z] at this; cases this
theorem in_lot {k : Nat} {l : List Nat} : pIn (.int k) (natT l) = .ok (.bool (decide (k ∈ l))) := in_nT rfl
theorem rng_n {n : Nat} (h : n ≤ 12) : rgG 0 (n : Int) ∧ rngL 0 ((n : Int) - 0).toNat = (List.range n).map fun (k : Nat) => .int (k : Int) := ⟨⟨by decide, by decide, by omega, by omega, by omega⟩, by rw [rng_map0]; congr 1⟩

/-! watchers -/
def seenA (r : List Int) : List (List Nat) := (List.range r.length).map (seenL r)
theorem s_seen_all (r : List Int) (h12 : r.length ≤ 12) : S_seen_by_all [.dat (intT r)] = (.ok (.d (ltL (seenA r))), []) := by
  have e : c_seen_by_all_1 [.dat (intT r), .dat (prT (sightsL r)), .emp] = (.ok ((seenA r).map natT), [.dat (intT r), .dat (prT (sightsL r)), .emp]) := by
    unfold c_seen_by_all_1 seenA
    rw [List.map_map]
    refine lc_each (List.range r.length) (fun (k : Nat) => .int (k : Int)) _ (ρ1 := [.dat (intT r), .dat (prT (sightsL r)), .emp]) (by simp only [DL.len_T, rng1_ok (show (r.length : Int) < 1000000000 by omega) (by omega), rng_map0, Int.toNat_natCast, grd, one1_l, one1_t, Option.bind_some, putG, mAsg, mCallK, mUserK, permL, List.filterMap_cons, List.filterMap_nil, qTup, Nat.reduceLeDiff, Nat.reduceLT, Nat.zero_add, and_self, modR, fdR, mulMod, mulModL, Int.reduceLT, Int.reduceLE, Int.reduceNeg, at3_0, at3_1, at3_2, at2_0, at2_1, ix3_0, ix3_1, ix3_2, mulR, mulL, add_ii, sub_ii, gt_ii, lt_ii, ge_ii, le_ii, ix_l, ix_t, ofO_s, int_i, len_l, len_t, fnR, headB, rvOf, mSeq, mIf, mOrT, mAndT, mNotT, mTru, mBl, mVD, mVF, mUser, mUser1F, mAC, mAN, mRef, mVar, DL.M.bind, DL.M.ret, DL.M.lift, DL.M.fail, arSls, arSl, lendAt, updB, getL, ownSl, Rs.pure?, Rs.bind, pTru, pBl, mBin, mUn, mRet, mRetF, mSet, mSetF, put, mExpr, mCall, mCallF, mCallW, mPeek, mCons, mNil, mTup, mLst, mL, mAnd, mOr, mNot, mIfE, mStore, mStoreN, mSetAt, mGetL, mPutL, mIxW, mApp, mPar, putS, setSl, mXN, mXC, mXO, mPart, mPartN, mSl, mLam, mLam0, mCallV, mFnAt, callee, capV, mItems, mScr, mScrIx, mScrLen, mScrSl, gN, gT, gsC, gsN, List.getElem?_cons_zero, List.getElem?_cons_succ, List.map_cons, List.map_nil, List.cons_append, List.nil_append, List.length_cons, List.length_nil, List.replicate_zero, List.replicate_succ, List.set_cons_zero, List.set_cons_succ, ite_ap, if_true, if_false, Bool.false_eq_true, Bool.true_eq_false, reduceIte, Nat.reduceSub, Nat.reduceAdd, Bool.not_true, Bool.not_false, Bool.true_and, Bool.false_and, Bool.and_true, Bool.and_false]) (by rw [List.length_range]; omega) fun k hk => ?_
    refine ⟨[.dat (intT r), .dat (prT (sightsL r)), .dat (.int k)], rfl, rfl, ?_⟩
    simp only [s_seen_from r h12 k (List.mem_range.mp hk), grd, one1_l, one1_t, Option.bind_some, putG, mAsg, mCallK, mUserK, permL, List.filterMap_cons, List.filterMap_nil, qTup, Nat.reduceLeDiff, Nat.reduceLT, Nat.zero_add, and_self, modR, fdR, mulMod, mulModL, Int.reduceLT, Int.reduceLE, Int.reduceNeg, at3_0, at3_1, at3_2, at2_0, at2_1, ix3_0, ix3_1, ix3_2, mulR, mulL, add_ii, sub_ii, gt_ii, lt_ii, ge_ii, le_ii, ix_l, ix_t, ofO_s, int_i, len_l, len_t, fnR, headB, rvOf, mSeq, mIf, mOrT, mAndT, mNotT, mTru, mBl, mVD, mVF, mUser, mUser1F, mAC, mAN, mRef, mVar, DL.M.bind, DL.M.ret, DL.M.lift, DL.M.fail, arSls, arSl, lendAt, updB, getL, ownSl, Rs.pure?, Rs.bind, pTru, pBl, mBin, mUn, mRet, mRetF, mSet, mSetF, put, mExpr, mCall, mCallF, mCallW, mPeek, mCons, mNil, mTup, mLst, mL, mAnd, mOr, mNot, mIfE, mStore, mStoreN, mSetAt, mGetL, mPutL, mIxW, mApp, mPar, putS, setSl, mXN, mXC, mXO, mPart, mPartN, mSl, mLam, mLam0, mCallV, mFnAt, callee, capV, mItems, mScr, mScrIx, mScrLen, mScrSl, gN, gT, gsC, gsN, List.getElem?_cons_zero, List.getElem?_cons_succ, List.map_cons, List.map_nil, List.cons_append, List.nil_append, List.length_cons, List.length_nil, List.replicate_zero, List.replicate_succ, List.set_cons_zero, List.set_cons_succ, ite_ap, if_true, if_false, Bool.false_eq_true, Bool.true_eq_false, reduceIte, Nat.reduceSub, Nat.reduceAdd, Bool.not_true, Bool.not_false, Bool.true_and, Bool.false_and, Bool.and_true, Bool.and_false]
    rfl
  simp only [S_seen_by_all, m_seen_by_all, N_seen_by_all, s_sights_of r h12, e, grd, one1_l, one1_t, Option.bind_some, putG, mAsg, mCallK, mUserK, permL, List.filterMap_cons, List.filterMap_nil, qTup, Nat.reduceLeDiff, Nat.reduceLT, Nat.zero_add, and_self, modR, fdR, mulMod, mulModL, Int.reduceLT, Int.reduceLE, Int.reduceNeg, at3_0, at3_1, at3_2, at2_0, at2_1, ix3_0, ix3_1, ix3_2, mulR, mulL, add_ii, sub_ii, gt_ii, lt_ii, ge_ii, le_ii, ix_l, ix_t, ofO_s, int_i, len_l, len_t, fnR, headB, rvOf, mSeq, mIf, mOrT, mAndT, mNotT, mTru, mBl, mVD, mVF, mUser, mUser1F, mAC, mAN, mRef, mVar, DL.M.bind, DL.M.ret, DL.M.lift, DL.M.fail, arSls, arSl, lendAt, updB, getL, ownSl, Rs.pure?, Rs.bind, pTru, pBl, mBin, mUn, mRet, mRetF, mSet, mSetF, put, mExpr, mCall, mCallF, mCallW, mPeek, mCons, mNil, mTup, mLst, mL, mAnd, mOr, mNot, mIfE, mStore, mStoreN, mSetAt, mGetL, mPutL, mIxW, mApp, mPar, putS, setSl, mXN, mXC, mXO, mPart, mPartN, mSl, mLam, mLam0, mCallV, mFnAt, callee, capV, mItems, mScr, mScrIx, mScrLen, mScrSl, gN, gT, gsC, gsN, List.getElem?_cons_zero, List.getElem?_cons_succ, List.map_cons, List.map_nil, List.cons_append, List.nil_append, List.length_cons, List.length_nil, List.replicate_zero, List.replicate_succ, List.set_cons_zero, List.set_cons_succ, ite_ap, if_true, if_false, Bool.false_eq_true, Bool.true_eq_false, reduceIte, Nat.reduceSub, Nat.reduceAdd, Bool.not_true, Bool.not_false, Bool.true_and, Bool.false_and, Bool.and_true, Bool.and_false]
  rfl
def watchB (Sn : List (List Nat)) (l : List Nat) : Bool := ((List.range Sn.length).filter fun j => !decide (j ∈ l)).all fun p => l.any fun o => decide (p ∈ Sn.getD o [])
theorem s_watch (Sn : List (List Nat)) (h12 : Sn.length ≤ 12) (l : List Nat) (hl : ∀ x ∈ l, x < Sn.length) (h2 : l.length ≤ 1000) : S_does_watch [.dat (ltL Sn), .dat (natT l)] = (.ok (.d (.bool (watchB Sn l))), []) := by
  have c1 : ∀ p : Nat, c_does_watch_1 [.dat (ltL Sn), .dat (natT l), .emp, .dat (.int p)] = (.ok (l.map fun o => .bool (decide (p ∈ Sn.getD o []))), [.dat (ltL Sn), .dat (natT l), .emp, .dat (.int p)]) := fun p => by
    unfold c_does_watch_1
    refine lc_each l (fun (k : Nat) => .int (k : Int)) _ (ρ1 := [.dat (ltL Sn), .dat (natT l), .emp, .dat (.int p)]) (by simp only [items_nT, grd, one1_l, one1_t, Option.bind_some, putG, mAsg, mCallK, mUserK, permL, List.filterMap_cons, List.filterMap_nil, qTup, Nat.reduceLeDiff, Nat.reduceLT, Nat.zero_add, and_self, modR, fdR, mulMod, mulModL, Int.reduceLT, Int.reduceLE, Int.reduceNeg, at3_0, at3_1, at3_2, at2_0, at2_1, ix3_0, ix3_1, ix3_2, mulR, mulL, add_ii, sub_ii, gt_ii, lt_ii, ge_ii, le_ii, ix_l, ix_t, ofO_s, int_i, len_l, len_t, fnR, headB, rvOf, mSeq, mIf, mOrT, mAndT, mNotT, mTru, mBl, mVD, mVF, mUser, mUser1F, mAC, mAN, mRef, mVar, DL.M.bind, DL.M.ret, DL.M.lift, DL.M.fail, arSls, arSl, lendAt, updB, getL, ownSl, Rs.pure?, Rs.bind, pTru, pBl, mBin, mUn, mRet, mRetF, mSet, mSetF, put, mExpr, mCall, mCallF, mCallW, mPeek, mCons, mNil, mTup, mLst, mL, mAnd, mOr, mNot, mIfE, mStore, mStoreN, mSetAt, mGetL, mPutL, mIxW, mApp, mPar, putS, setSl, mXN, mXC, mXO, mPart, mPartN, mSl, mLam, mLam0, mCallV, mFnAt, callee, capV, mItems, mScr, mScrIx, mScrLen, mScrSl, gN, gT, gsC, gsN, List.getElem?_cons_zero, List.getElem?_cons_succ, List.map_cons, List.map_nil, List.cons_append, List.nil_append, List.length_cons, List.length_nil, List.replicate_zero, List.replicate_succ, List.set_cons_zero, List.set_cons_succ, ite_ap, if_true, if_false, Bool.false_eq_true, Bool.true_eq_false, reduceIte, Nat.reduceSub, Nat.reduceAdd, Bool.not_true, Bool.not_false, Bool.true_and, Bool.false_and, Bool.and_true, Bool.and_false]) (by omega) fun o ho => ?_
    refine ⟨[.dat (ltL Sn), .dat (natT l), .dat (.int o), .dat (.int p)], rfl, rfl, ?_⟩
    have hx : pIx (ltL Sn) (.int o) = .ok (natT (Sn.getD o [])) := by
      unfold ltL
      rw [ix_l, at_map (k := o) rfl (hl o ho)]
      have : Sn.getD o [] = Sn[o]'(hl o ho) := by
        rw [List.getD_eq_getElem?_getD, List.getElem?_eq_getElem (hl o ho)]; rfl
      rw [this]; rfl
    simp only [hx, in_lot, grd, one1_l, one1_t, Option.bind_some, putG, mAsg, mCallK, mUserK, permL, List.filterMap_cons, List.filterMap_nil, qTup, Nat.reduceLeDiff, Nat.reduceLT, Nat.zero_add, and_self, modR, fdR, mulMod, mulModL, Int.reduceLT, Int.reduceLE, Int.reduceNeg, at3_0, at3_1, at3_2, at2_0, at2_1, ix3_0, ix3_1, ix3_2, mulR, mulL, add_ii, sub_ii, gt_ii, lt_ii, ge_ii, le_ii, ix_l, ix_t, ofO_s, int_i, len_l, len_t, fnR, headB, rvOf, mSeq, mIf, mOrT, mAndT, mNotT, mTru, mBl, mVD, mVF, mUser, mUser1F, mAC, mAN, mRef, mVar, DL.M.bind, DL.M.ret, DL.M.lift, DL.M.fail, arSls, arSl, lendAt, updB, getL, ownSl, Rs.pure?, Rs.bind, pTru, pBl, mBin, mUn, mRet, mRetF, mSet, mSetF, put, mExpr, mCall, mCallF, mCallW, mPeek, mCons, mNil, mTup, mLst, mL, mAnd, mOr, mNot, mIfE, mStore, mStoreN, mSetAt, mGetL, mPutL, mIxW, mApp, mPar, putS, setSl, mXN, mXC, mXO, mPart, mPartN, mSl, mLam, mLam0, mCallV, mFnAt, callee, capV, mItems, mScr, mScrIx, mScrLen, mScrSl, gN, gT, gsC, gsN, List.getElem?_cons_zero, List.getElem?_cons_succ, List.map_cons, List.map_nil, List.cons_append, List.nil_append, List.length_cons, List.length_nil, List.replicate_zero, List.replicate_succ, List.set_cons_zero, List.set_cons_succ, ite_ap, if_true, if_false, Bool.false_eq_true, Bool.true_eq_false, reduceIte, Nat.reduceSub, Nat.reduceAdd, Bool.not_true, Bool.not_false, Bool.true_and, Bool.false_and, Bool.and_true, Bool.and_false]
  have c2 : c_does_watch_2 [.dat (ltL Sn), .dat (natT l), .emp, .emp] = (.ok (((List.range Sn.length).filter fun j => !decide (j ∈ l)).map fun p => .bool (l.any fun o => decide (p ∈ Sn.getD o []))), [.dat (ltL Sn), .dat (natT l), .emp, .emp]) := by
    unfold c_does_watch_2
    refine lc_each _ (fun (k : Nat) => .int (k : Int)) _ (ρ1 := [.dat (ltL Sn), .dat (natT l), .emp, .emp]) (by simp only [len_lt, s_others_of Sn.length h12 l, items_nT, grd, one1_l, one1_t, Option.bind_some, putG, mAsg, mCallK, mUserK, permL, List.filterMap_cons, List.filterMap_nil, qTup, Nat.reduceLeDiff, Nat.reduceLT, Nat.zero_add, and_self, modR, fdR, mulMod, mulModL, Int.reduceLT, Int.reduceLE, Int.reduceNeg, at3_0, at3_1, at3_2, at2_0, at2_1, ix3_0, ix3_1, ix3_2, mulR, mulL, add_ii, sub_ii, gt_ii, lt_ii, ge_ii, le_ii, ix_l, ix_t, ofO_s, int_i, len_l, len_t, fnR, headB, rvOf, mSeq, mIf, mOrT, mAndT, mNotT, mTru, mBl, mVD, mVF, mUser, mUser1F, mAC, mAN, mRef, mVar, DL.M.bind, DL.M.ret, DL.M.lift, DL.M.fail, arSls, arSl, lendAt, updB, getL, ownSl, Rs.pure?, Rs.bind, pTru, pBl, mBin, mUn, mRet, mRetF, mSet, mSetF, put, mExpr, mCall, mCallF, mCallW, mPeek, mCons, mNil, mTup, mLst, mL, mAnd, mOr, mNot, mIfE, mStore, mStoreN, mSetAt, mGetL, mPutL, mIxW, mApp, mPar, putS, setSl, mXN, mXC, mXO, mPart, mPartN, mSl, mLam, mLam0, mCallV, mFnAt, callee, capV, mItems, mScr, mScrIx, mScrLen, mScrSl, gN, gT, gsC, gsN, List.getElem?_cons_zero, List.getElem?_cons_succ, List.map_cons, List.map_nil, List.cons_append, List.nil_append, List.length_cons, List.length_nil, List.replicate_zero, List.replicate_succ, List.set_cons_zero, List.set_cons_succ, ite_ap, if_true, if_false, Bool.false_eq_true, Bool.true_eq_false, reduceIte, Nat.reduceSub, Nat.reduceAdd, Bool.not_true, Bool.not_false, Bool.true_and, Bool.false_and, Bool.and_true, Bool.and_false]) (Nat.le_trans (List.length_filter_le _ _) (by rw [List.length_range]; omega)) fun p hp => ?_
    refine ⟨[.dat (ltL Sn), .dat (natT l), .emp, .dat (.int p)], rfl, rfl, ?_⟩
    have e2 := qAny_map (l := l) (f := fun o => PyData.bool (decide (p ∈ Sn.getD o []))) (fun o => decide (p ∈ Sn.getD o [])) (fun _ _ => rfl)
    simp only [c1, e2, grd, one1_l, one1_t, Option.bind_some, putG, mAsg, mCallK, mUserK, permL, List.filterMap_cons, List.filterMap_nil, qTup, Nat.reduceLeDiff, Nat.reduceLT, Nat.zero_add, and_self, modR, fdR, mulMod, mulModL, Int.reduceLT, Int.reduceLE, Int.reduceNeg, at3_0, at3_1, at3_2, at2_0, at2_1, ix3_0, ix3_1, ix3_2, mulR, mulL, add_ii, sub_ii, gt_ii, lt_ii, ge_ii, le_ii, ix_l, ix_t, ofO_s, int_i, len_l, len_t, fnR, headB, rvOf, mSeq, mIf, mOrT, mAndT, mNotT, mTru, mBl, mVD, mVF, mUser, mUser1F, mAC, mAN, mRef, mVar, DL.M.bind, DL.M.ret, DL.M.lift, DL.M.fail, arSls, arSl, lendAt, updB, getL, ownSl, Rs.pure?, Rs.bind, pTru, pBl, mBin, mUn, mRet, mRetF, mSet, mSetF, put, mExpr, mCall, mCallF, mCallW, mPeek, mCons, mNil, mTup, mLst, mL, mAnd, mOr, mNot, mIfE, mStore, mStoreN, mSetAt, mGetL, mPutL, mIxW, mApp, mPar, putS, setSl, mXN, mXC, mXO, mPart, mPartN, mSl, mLam, mLam0, mCallV, mFnAt, callee, capV, mItems, mScr, mScrIx, mScrLen, mScrSl, gN, gT, gsC, gsN, List.getElem?_cons_zero, List.getElem?_cons_succ, List.map_cons, List.map_nil, List.cons_append, List.nil_append, List.length_cons, List.length_nil, List.replicate_zero, List.replicate_succ, List.set_cons_zero, List.set_cons_succ, ite_ap, if_true, if_false, Bool.false_eq_true, Bool.true_eq_false, reduceIte, Nat.reduceSub, Nat.reduceAdd, Bool.not_true, Bool.not_false, Bool.true_and, Bool.false_and, Bool.and_true, Bool.and_false]
  have e2 := qAll_map (l := (List.range Sn.length).filter fun j => !decide (j ∈ l)) (f := fun p => PyData.bool (l.any fun o => decide (p ∈ Sn.getD o []))) (fun p => l.any fun o => decide (p ∈ Sn.getD o [])) (fun _ _ => rfl)
  simp only [S_does_watch, m_does_watch, N_does_watch, c2, e2, grd, one1_l, one1_t, Option.bind_some, putG, mAsg, mCallK, mUserK, permL, List.filterMap_cons, List.filterMap_nil, qTup, Nat.reduceLeDiff, Nat.reduceLT, Nat.zero_add, and_self, modR, fdR, mulMod, mulModL, Int.reduceLT, Int.reduceLE, Int.reduceNeg, at3_0, at3_1, at3_2, at2_0, at2_1, ix3_0, ix3_1, ix3_2, mulR, mulL, add_ii, sub_ii, gt_ii, lt_ii, ge_ii, le_ii, ix_l, ix_t, ofO_s, int_i, len_l, len_t, fnR, headB, rvOf, mSeq, mIf, mOrT, mAndT, mNotT, mTru, mBl, mVD, mVF, mUser, mUser1F, mAC, mAN, mRef, mVar, DL.M.bind, DL.M.ret, DL.M.lift, DL.M.fail, arSls, arSl, lendAt, updB, getL, ownSl, Rs.pure?, Rs.bind, pTru, pBl, mBin, mUn, mRet, mRetF, mSet, mSetF, put, mExpr, mCall, mCallF, mCallW, mPeek, mCons, mNil, mTup, mLst, mL, mAnd, mOr, mNot, mIfE, mStore, mStoreN, mSetAt, mGetL, mPutL, mIxW, mApp, mPar, putS, setSl, mXN, mXC, mXO, mPart, mPartN, mSl, mLam, mLam0, mCallV, mFnAt, callee, capV, mItems, mScr, mScrIx, mScrLen, mScrSl, gN, gT, gsC, gsN, List.getElem?_cons_zero, List.getElem?_cons_succ, List.map_cons, List.map_nil, List.cons_append, List.nil_append, List.length_cons, List.length_nil, List.replicate_zero, List.replicate_succ, List.set_cons_zero, List.set_cons_succ, ite_ap, if_true, if_false, Bool.false_eq_true, Bool.true_eq_false, reduceIte, Nat.reduceSub, Nat.reduceAdd, Bool.not_true, Bool.not_false, Bool.true_and, Bool.false_and, Bool.and_true, Bool.and_false]
  rfl
def wtL (r : List Int) : List (List Nat) := (srtL r.length).filter (watchB (seenA r))
theorem seenA_len (r : List Int) : (seenA r).length = r.length := by unfold seenA; rw [List.length_map, List.length_range]
theorem s_least_watchers (r : List Int) (h12 : r.length ≤ 12) (hw : wtL r ≠ []) : ∃ l, S_least_watchers [.dat (intT r)] = (.ok (.d (natT l)), []) := by
  obtain ⟨g1, g2⟩ := rng_n h12
  have e : c_least_watchers_1 [.dat (intT r), .dat (ltL (seenA r)), .emp] = (.ok ((wtL r).map natT), [.dat (intT r), .dat (ltL (seenA r)), .emp]) := by
    unfold c_least_watchers_1 wtL
    refine lc_map (srtL r.length) natT _ _ (ρ1 := [.dat (intT r), .dat (ltL (seenA r)), .emp]) (by simp only [DL.len_T, mLRg, mRg1, eq_true g1, g2, srt_eq h12, items_lt, grd, one1_l, one1_t, Option.bind_some, putG, mAsg, mCallK, mUserK, permL, List.filterMap_cons, List.filterMap_nil, qTup, Nat.reduceLeDiff, Nat.reduceLT, Nat.zero_add, and_self, modR, fdR, mulMod, mulModL, Int.reduceLT, Int.reduceLE, Int.reduceNeg, at3_0, at3_1, at3_2, at2_0, at2_1, ix3_0, ix3_1, ix3_2, mulR, mulL, add_ii, sub_ii, gt_ii, lt_ii, ge_ii, le_ii, ix_l, ix_t, ofO_s, int_i, len_l, len_t, fnR, headB, rvOf, mSeq, mIf, mOrT, mAndT, mNotT, mTru, mBl, mVD, mVF, mUser, mUser1F, mAC, mAN, mRef, mVar, DL.M.bind, DL.M.ret, DL.M.lift, DL.M.fail, arSls, arSl, lendAt, updB, getL, ownSl, Rs.pure?, Rs.bind, pTru, pBl, mBin, mUn, mRet, mRetF, mSet, mSetF, put, mExpr, mCall, mCallF, mCallW, mPeek, mCons, mNil, mTup, mLst, mL, mAnd, mOr, mNot, mIfE, mStore, mStoreN, mSetAt, mGetL, mPutL, mIxW, mApp, mPar, putS, setSl, mXN, mXC, mXO, mPart, mPartN, mSl, mLam, mLam0, mCallV, mFnAt, callee, capV, mItems, mScr, mScrIx, mScrLen, mScrSl, gN, gT, gsC, gsN, List.getElem?_cons_zero, List.getElem?_cons_succ, List.map_cons, List.map_nil, List.cons_append, List.nil_append, List.length_cons, List.length_nil, List.replicate_zero, List.replicate_succ, List.set_cons_zero, List.set_cons_succ, ite_ap, if_true, if_false, Bool.false_eq_true, Bool.true_eq_false, reduceIte, Nat.reduceSub, Nat.reduceAdd, Bool.not_true, Bool.not_false, Bool.true_and, Bool.false_and, Bool.and_true, Bool.and_false]) (Nat.le_trans (srt_len h12) (by decide)) fun l hl => ?_
    obtain ⟨m1, m2⟩ := srt_mem h12 hl
    refine ⟨[.dat (intT r), .dat (ltL (seenA r)), .dat (natT l)], rfl, rfl, ?_, fun _ => rfl⟩
    simp only [s_watch (seenA r) (by rw [seenA_len]; exact h12) l (by rw [seenA_len]; exact m2) (by omega), grd, one1_l, one1_t, Option.bind_some, putG, mAsg, mCallK, mUserK, permL, List.filterMap_cons, List.filterMap_nil, qTup, Nat.reduceLeDiff, Nat.reduceLT, Nat.zero_add, and_self, modR, fdR, mulMod, mulModL, Int.reduceLT, Int.reduceLE, Int.reduceNeg, at3_0, at3_1, at3_2, at2_0, at2_1, ix3_0, ix3_1, ix3_2, mulR, mulL, add_ii, sub_ii, gt_ii, lt_ii, ge_ii, le_ii, ix_l, ix_t, ofO_s, int_i, len_l, len_t, fnR, headB, rvOf, mSeq, mIf, mOrT, mAndT, mNotT, mTru, mBl, mVD, mVF, mUser, mUser1F, mAC, mAN, mRef, mVar, DL.M.bind, DL.M.ret, DL.M.lift, DL.M.fail, arSls, arSl, lendAt, updB, getL, ownSl, Rs.pure?, Rs.bind, pTru, pBl, mBin, mUn, mRet, mRetF, mSet, mSetF, put, mExpr, mCall, mCallF, mCallW, mPeek, mCons, mNil, mTup, mLst, mL, mAnd, mOr, mNot, mIfE, mStore, mStoreN, mSetAt, mGetL, mPutL, mIxW, mApp, mPar, putS, setSl, mXN, mXC, mXO, mPart, mPartN, mSl, mLam, mLam0, mCallV, mFnAt, callee, capV, mItems, mScr, mScrIx, mScrLen, mScrSl, gN, gT, gsC, gsN, List.getElem?_cons_zero, List.getElem?_cons_succ, List.map_cons, List.map_nil, List.cons_append, List.nil_append, List.length_cons, List.length_nil, List.replicate_zero, List.replicate_succ, List.set_cons_zero, List.set_cons_succ, ite_ap, if_true, if_false, Bool.false_eq_true, Bool.true_eq_false, reduceIte, Nat.reduceSub, Nat.reduceAdd, Bool.not_true, Bool.not_false, Bool.true_and, Bool.false_and, Bool.and_true, Bool.and_false]
  obtain ⟨x, _, hx⟩ := at_first (f := natT) hw
  refine ⟨x, ?_⟩
  simp only [S_least_watchers, m_least_watchers, N_least_watchers, s_seen_all r h12, e, hx, grd, one1_l, one1_t, Option.bind_some, putG, mAsg, mCallK, mUserK, permL, List.filterMap_cons, List.filterMap_nil, qTup, Nat.reduceLeDiff, Nat.reduceLT, Nat.zero_add, and_self, modR, fdR, mulMod, mulModL, Int.reduceLT, Int.reduceLE, Int.reduceNeg, at3_0, at3_1, at3_2, at2_0, at2_1, ix3_0, ix3_1, ix3_2, mulR, mulL, add_ii, sub_ii, gt_ii, lt_ii, ge_ii, le_ii, ix_l, ix_t, ofO_s, int_i, len_l, len_t, fnR, headB, rvOf, mSeq, mIf, mOrT, mAndT, mNotT, mTru, mBl, mVD, mVF, mUser, mUser1F, mAC, mAN, mRef, mVar, DL.M.bind, DL.M.ret, DL.M.lift, DL.M.fail, arSls, arSl, lendAt, updB, getL, ownSl, Rs.pure?, Rs.bind, pTru, pBl, mBin, mUn, mRet, mRetF, mSet, mSetF, put, mExpr, mCall, mCallF, mCallW, mPeek, mCons, mNil, mTup, mLst, mL, mAnd, mOr, mNot, mIfE, mStore, mStoreN, mSetAt, mGetL, mPutL, mIxW, mApp, mPar, putS, setSl, mXN, mXC, mXO, mPart, mPartN, mSl, mLam, mLam0, mCallV, mFnAt, callee, capV, mItems, mScr, mScrIx, mScrLen, mScrSl, gN, gT, gsC, gsN, List.getElem?_cons_zero, List.getElem?_cons_succ, List.map_cons, List.map_nil, List.cons_append, List.nil_append, List.length_cons, List.length_nil, List.replicate_zero, List.replicate_succ, List.set_cons_zero, List.set_cons_succ, ite_ap, if_true, if_false, Bool.false_eq_true, Bool.true_eq_false, reduceIte, Nat.reduceSub, Nat.reduceAdd, Bool.not_true, Bool.not_false, Bool.true_and, Bool.false_and, Bool.and_true, Bool.and_false]

/-! the law's lots -/
theorem lt_eq (F : List (List Nat)) : F.mergeSort (fun a b => PySem.W.dataLe false id (kLot a) (kLot b)) = ltS F := by
  unfold ltS
  congr 1
  funext a b
  unfold PySem.W.dataLe PySem.W.sortLe
  simp only [keyD_lot, id]
theorem qsort_lots (F : List (List Nat)) : qSort (F.map kLot) = .ok ((ltS F).map kLot) := by
  unfold qSort
  rw [grd_t ⟨lot_alike F, lot_sortable F, lot_depth F⟩, ← lt_eq, List.map_mergeSort (f := kLot) (r := fun a b => PySem.W.dataLe false id (kLot a) (kLot b)) (s := PySem.W.dataLe false id) (l := F) (fun _ _ _ _ => rfl)]
theorem s_law_lots (n : Nat) (hn : n ≤ 12) : S__law_lots [.dat (.int n)] = (.ok (.d (ltL (srtL n))), []) := by
  obtain ⟨ρ', q, s, rfl⟩ := for_map (mi := i__law_lots_1) (g := gN 2) (body := b__law_lots_1) (List.range n) (fun (k : Nat) => .int (k : Int)) (ρ := [.dat (.int n), .dat (ltL (lots [])), .emp, .emp, .emp]) (ρ1 := [.dat (.int n), .dat (ltL (lots [])), .emp, .emp, .emp])
    (fun done ρ => ∃ s, ρ = [.dat (.int n), .dat (ltL (lots done)), s, .emp, .emp]) (by simp only [i__law_lots_1, rng1_ok (show (n : Int) < 1000000000 by omega) (by omega), rng_map0, Int.toNat_natCast, grd, one1_l, one1_t, Option.bind_some, putG, mAsg, mCallK, mUserK, permL, List.filterMap_cons, List.filterMap_nil, qTup, Nat.reduceLeDiff, Nat.reduceLT, Nat.zero_add, and_self, modR, fdR, mulMod, mulModL, Int.reduceLT, Int.reduceLE, Int.reduceNeg, at3_0, at3_1, at3_2, at2_0, at2_1, ix3_0, ix3_1, ix3_2, mulR, mulL, add_ii, sub_ii, gt_ii, lt_ii, ge_ii, le_ii, ix_l, ix_t, ofO_s, int_i, len_l, len_t, fnR, headB, rvOf, mSeq, mIf, mOrT, mAndT, mNotT, mTru, mBl, mVD, mVF, mUser, mUser1F, mAC, mAN, mRef, mVar, DL.M.bind, DL.M.ret, DL.M.lift, DL.M.fail, arSls, arSl, lendAt, updB, getL, ownSl, Rs.pure?, Rs.bind, pTru, pBl, mBin, mUn, mRet, mRetF, mSet, mSetF, put, mExpr, mCall, mCallF, mCallW, mPeek, mCons, mNil, mTup, mLst, mL, mAnd, mOr, mNot, mIfE, mStore, mStoreN, mSetAt, mGetL, mPutL, mIxW, mApp, mPar, putS, setSl, mXN, mXC, mXO, mPart, mPartN, mSl, mLam, mLam0, mCallV, mFnAt, callee, capV, mItems, mScr, mScrIx, mScrLen, mScrSl, gN, gT, gsC, gsN, List.getElem?_cons_zero, List.getElem?_cons_succ, List.map_cons, List.map_nil, List.cons_append, List.nil_append, List.length_cons, List.length_nil, List.replicate_zero, List.replicate_succ, List.set_cons_zero, List.set_cons_succ, ite_ap, if_true, if_false, Bool.false_eq_true, Bool.true_eq_false, reduceIte, Nat.reduceSub, Nat.reduceAdd, Bool.not_true, Bool.not_false, Bool.true_and, Bool.false_and, Bool.and_true, Bool.and_false]) ⟨_, rfl⟩ (fun done d rest hd ρ hI => by
      obtain ⟨s, rfl⟩ := hI
      have hl : done.length ≤ 12 := by
        have := congrArg List.length hd
        rw [List.length_range, List.length_append, List.length_cons] at this
        omega
      have h2 := lots_len hl
      have c : c__law_lots_1 [.dat (.int n), .dat (ltL (lots done)), .dat (.int d), .emp, .emp] = (.ok ((lots done).map fun l => natT (l ++ [d])), [.dat (.int n), .dat (ltL (lots done)), .dat (.int d), .emp, .emp]) := by
        unfold c__law_lots_1
        refine lc_each (lots done) natT _ (ρ1 := [.dat (.int n), .dat (ltL (lots done)), .dat (.int d), .emp, .emp]) (by simp only [ltL, pItems, grd, one1_l, one1_t, Option.bind_some, putG, mAsg, mCallK, mUserK, permL, List.filterMap_cons, List.filterMap_nil, qTup, Nat.reduceLeDiff, Nat.reduceLT, Nat.zero_add, and_self, modR, fdR, mulMod, mulModL, Int.reduceLT, Int.reduceLE, Int.reduceNeg, at3_0, at3_1, at3_2, at2_0, at2_1, ix3_0, ix3_1, ix3_2, mulR, mulL, add_ii, sub_ii, gt_ii, lt_ii, ge_ii, le_ii, ix_l, ix_t, ofO_s, int_i, len_l, len_t, fnR, headB, rvOf, mSeq, mIf, mOrT, mAndT, mNotT, mTru, mBl, mVD, mVF, mUser, mUser1F, mAC, mAN, mRef, mVar, DL.M.bind, DL.M.ret, DL.M.lift, DL.M.fail, arSls, arSl, lendAt, updB, getL, ownSl, Rs.pure?, Rs.bind, pTru, pBl, mBin, mUn, mRet, mRetF, mSet, mSetF, put, mExpr, mCall, mCallF, mCallW, mPeek, mCons, mNil, mTup, mLst, mL, mAnd, mOr, mNot, mIfE, mStore, mStoreN, mSetAt, mGetL, mPutL, mIxW, mApp, mPar, putS, setSl, mXN, mXC, mXO, mPart, mPartN, mSl, mLam, mLam0, mCallV, mFnAt, callee, capV, mItems, mScr, mScrIx, mScrLen, mScrSl, gN, gT, gsC, gsN, List.getElem?_cons_zero, List.getElem?_cons_succ, List.map_cons, List.map_nil, List.cons_append, List.nil_append, List.length_cons, List.length_nil, List.replicate_zero, List.replicate_succ, List.set_cons_zero, List.set_cons_succ, ite_ap, if_true, if_false, Bool.false_eq_true, Bool.true_eq_false, reduceIte, Nat.reduceSub, Nat.reduceAdd, Bool.not_true, Bool.not_false, Bool.true_and, Bool.false_and, Bool.and_true, Bool.and_false]) (by omega) fun l hl2 => ?_
        refine ⟨[.dat (.int n), .dat (ltL (lots done)), .dat (.int d), .dat (natT l), .emp], rfl, rfl, ?_⟩
        have h3 := lots_le hl2
        simp only [add_nT (l := l) (t := d) (by omega), grd, one1_l, one1_t, Option.bind_some, putG, mAsg, mCallK, mUserK, permL, List.filterMap_cons, List.filterMap_nil, qTup, Nat.reduceLeDiff, Nat.reduceLT, Nat.zero_add, and_self, modR, fdR, mulMod, mulModL, Int.reduceLT, Int.reduceLE, Int.reduceNeg, at3_0, at3_1, at3_2, at2_0, at2_1, ix3_0, ix3_1, ix3_2, mulR, mulL, add_ii, sub_ii, gt_ii, lt_ii, ge_ii, le_ii, ix_l, ix_t, ofO_s, int_i, len_l, len_t, fnR, headB, rvOf, mSeq, mIf, mOrT, mAndT, mNotT, mTru, mBl, mVD, mVF, mUser, mUser1F, mAC, mAN, mRef, mVar, DL.M.bind, DL.M.ret, DL.M.lift, DL.M.fail, arSls, arSl, lendAt, updB, getL, ownSl, Rs.pure?, Rs.bind, pTru, pBl, mBin, mUn, mRet, mRetF, mSet, mSetF, put, mExpr, mCall, mCallF, mCallW, mPeek, mCons, mNil, mTup, mLst, mL, mAnd, mOr, mNot, mIfE, mStore, mStoreN, mSetAt, mGetL, mPutL, mIxW, mApp, mPar, putS, setSl, mXN, mXC, mXO, mPart, mPartN, mSl, mLam, mLam0, mCallV, mFnAt, callee, capV, mItems, mScr, mScrIx, mScrLen, mScrSl, gN, gT, gsC, gsN, List.getElem?_cons_zero, List.getElem?_cons_succ, List.map_cons, List.map_nil, List.cons_append, List.nil_append, List.length_cons, List.length_nil, List.replicate_zero, List.replicate_succ, List.set_cons_zero, List.set_cons_succ, ite_ap, if_true, if_false, Bool.false_eq_true, Bool.true_eq_false, reduceIte, Nat.reduceSub, Nat.reduceAdd, Bool.not_true, Bool.not_false, Bool.true_and, Bool.false_and, Bool.and_true, Bool.and_false]
      have a : pAdd (ltL (lots done)) (.list ((lots done).map fun l => natT (l ++ [d]))) = .ok (ltL (lots (done ++ [d]))) := by
        unfold ltL
        rw [add_LLs (by rw [List.length_map, List.length_map]; omega), lots_snoc, List.map_append, List.map_map]; rfl
      refine ⟨_, _, rfl, .inl ?_, .dat (.int d), rfl⟩
      simp only [b__law_lots_1, c, a, grd, one1_l, one1_t, Option.bind_some, putG, mAsg, mCallK, mUserK, permL, List.filterMap_cons, List.filterMap_nil, qTup, Nat.reduceLeDiff, Nat.reduceLT, Nat.zero_add, and_self, modR, fdR, mulMod, mulModL, Int.reduceLT, Int.reduceLE, Int.reduceNeg, at3_0, at3_1, at3_2, at2_0, at2_1, ix3_0, ix3_1, ix3_2, mulR, mulL, add_ii, sub_ii, gt_ii, lt_ii, ge_ii, le_ii, ix_l, ix_t, ofO_s, int_i, len_l, len_t, fnR, headB, rvOf, mSeq, mIf, mOrT, mAndT, mNotT, mTru, mBl, mVD, mVF, mUser, mUser1F, mAC, mAN, mRef, mVar, DL.M.bind, DL.M.ret, DL.M.lift, DL.M.fail, arSls, arSl, lendAt, updB, getL, ownSl, Rs.pure?, Rs.bind, pTru, pBl, mBin, mUn, mRet, mRetF, mSet, mSetF, put, mExpr, mCall, mCallF, mCallW, mPeek, mCons, mNil, mTup, mLst, mL, mAnd, mOr, mNot, mIfE, mStore, mStoreN, mSetAt, mGetL, mPutL, mIxW, mApp, mPar, putS, setSl, mXN, mXC, mXO, mPart, mPartN, mSl, mLam, mLam0, mCallV, mFnAt, callee, capV, mItems, mScr, mScrIx, mScrLen, mScrSl, gN, gT, gsC, gsN, List.getElem?_cons_zero, List.getElem?_cons_succ, List.map_cons, List.map_nil, List.cons_append, List.nil_append, List.length_cons, List.length_nil, List.replicate_zero, List.replicate_succ, List.set_cons_zero, List.set_cons_succ, ite_ap, if_true, if_false, Bool.false_eq_true, Bool.true_eq_false, reduceIte, Nat.reduceSub, Nat.reduceAdd, Bool.not_true, Bool.not_false, Bool.true_and, Bool.false_and, Bool.and_true, Bool.and_false])
  have hF := lots_len (ts := List.range n) (by rw [List.length_range]; exact hn)
  have c2 : c__law_lots_2 [.dat (.int n), .dat (ltL (lots (List.range n))), s, .emp, .emp] = (.ok ((lots (List.range n)).map kLot), [.dat (.int n), .dat (ltL (lots (List.range n))), s, .emp, .emp]) := by
    unfold c__law_lots_2
    refine lc_each (lots (List.range n)) natT _ (ρ1 := [.dat (.int n), .dat (ltL (lots (List.range n))), s, .emp, .emp]) (by simp only [ltL, pItems, grd, one1_l, one1_t, Option.bind_some, putG, mAsg, mCallK, mUserK, permL, List.filterMap_cons, List.filterMap_nil, qTup, Nat.reduceLeDiff, Nat.reduceLT, Nat.zero_add, and_self, modR, fdR, mulMod, mulModL, Int.reduceLT, Int.reduceLE, Int.reduceNeg, at3_0, at3_1, at3_2, at2_0, at2_1, ix3_0, ix3_1, ix3_2, mulR, mulL, add_ii, sub_ii, gt_ii, lt_ii, ge_ii, le_ii, ix_l, ix_t, ofO_s, int_i, len_l, len_t, fnR, headB, rvOf, mSeq, mIf, mOrT, mAndT, mNotT, mTru, mBl, mVD, mVF, mUser, mUser1F, mAC, mAN, mRef, mVar, DL.M.bind, DL.M.ret, DL.M.lift, DL.M.fail, arSls, arSl, lendAt, updB, getL, ownSl, Rs.pure?, Rs.bind, pTru, pBl, mBin, mUn, mRet, mRetF, mSet, mSetF, put, mExpr, mCall, mCallF, mCallW, mPeek, mCons, mNil, mTup, mLst, mL, mAnd, mOr, mNot, mIfE, mStore, mStoreN, mSetAt, mGetL, mPutL, mIxW, mApp, mPar, putS, setSl, mXN, mXC, mXO, mPart, mPartN, mSl, mLam, mLam0, mCallV, mFnAt, callee, capV, mItems, mScr, mScrIx, mScrLen, mScrSl, gN, gT, gsC, gsN, List.getElem?_cons_zero, List.getElem?_cons_succ, List.map_cons, List.map_nil, List.cons_append, List.nil_append, List.length_cons, List.length_nil, List.replicate_zero, List.replicate_succ, List.set_cons_zero, List.set_cons_succ, ite_ap, if_true, if_false, Bool.false_eq_true, Bool.true_eq_false, reduceIte, Nat.reduceSub, Nat.reduceAdd, Bool.not_true, Bool.not_false, Bool.true_and, Bool.false_and, Bool.and_true, Bool.and_false]) (by omega) fun l hl2 => ?_
    refine ⟨[.dat (.int n), .dat (ltL (lots (List.range n))), hideS s, .dat (natT l), .emp], rfl, ?_, ?_⟩
    · cases s <;> rfl
    · simp only [len_nT, grd, one1_l, one1_t, Option.bind_some, putG, mAsg, mCallK, mUserK, permL, List.filterMap_cons, List.filterMap_nil, qTup, Nat.reduceLeDiff, Nat.reduceLT, Nat.zero_add, and_self, modR, fdR, mulMod, mulModL, Int.reduceLT, Int.reduceLE, Int.reduceNeg, at3_0, at3_1, at3_2, at2_0, at2_1, ix3_0, ix3_1, ix3_2, mulR, mulL, add_ii, sub_ii, gt_ii, lt_ii, ge_ii, le_ii, ix_l, ix_t, ofO_s, int_i, len_l, len_t, fnR, headB, rvOf, mSeq, mIf, mOrT, mAndT, mNotT, mTru, mBl, mVD, mVF, mUser, mUser1F, mAC, mAN, mRef, mVar, DL.M.bind, DL.M.ret, DL.M.lift, DL.M.fail, arSls, arSl, lendAt, updB, getL, ownSl, Rs.pure?, Rs.bind, pTru, pBl, mBin, mUn, mRet, mRetF, mSet, mSetF, put, mExpr, mCall, mCallF, mCallW, mPeek, mCons, mNil, mTup, mLst, mL, mAnd, mOr, mNot, mIfE, mStore, mStoreN, mSetAt, mGetL, mPutL, mIxW, mApp, mPar, putS, setSl, mXN, mXC, mXO, mPart, mPartN, mSl, mLam, mLam0, mCallV, mFnAt, callee, capV, mItems, mScr, mScrIx, mScrLen, mScrSl, gN, gT, gsC, gsN, List.getElem?_cons_zero, List.getElem?_cons_succ, List.map_cons, List.map_nil, List.cons_append, List.nil_append, List.length_cons, List.length_nil, List.replicate_zero, List.replicate_succ, List.set_cons_zero, List.set_cons_succ, ite_ap, if_true, if_false, Bool.false_eq_true, Bool.true_eq_false, reduceIte, Nat.reduceSub, Nat.reduceAdd, Bool.not_true, Bool.not_false, Bool.true_and, Bool.false_and, Bool.and_true, Bool.and_false]
      rfl
  have c3 : c__law_lots_3 [.dat (.int n), .dat (ltL (lots (List.range n))), s, .emp, .emp] = (.ok ((srtL n).map natT), [.dat (.int n), .dat (ltL (lots (List.range n))), s, .emp, .emp]) := by
    unfold c__law_lots_3
    refine lc_each (srtL n) kLot natT (ρ1 := [.dat (.int n), .dat (ltL (lots (List.range n))), s, .emp, .emp]) (by simp only [c2, qsort_lots, pItems, grd, one1_l, one1_t, Option.bind_some, putG, mAsg, mCallK, mUserK, permL, List.filterMap_cons, List.filterMap_nil, qTup, Nat.reduceLeDiff, Nat.reduceLT, Nat.zero_add, and_self, modR, fdR, mulMod, mulModL, Int.reduceLT, Int.reduceLE, Int.reduceNeg, at3_0, at3_1, at3_2, at2_0, at2_1, ix3_0, ix3_1, ix3_2, mulR, mulL, add_ii, sub_ii, gt_ii, lt_ii, ge_ii, le_ii, ix_l, ix_t, ofO_s, int_i, len_l, len_t, fnR, headB, rvOf, mSeq, mIf, mOrT, mAndT, mNotT, mTru, mBl, mVD, mVF, mUser, mUser1F, mAC, mAN, mRef, mVar, DL.M.bind, DL.M.ret, DL.M.lift, DL.M.fail, arSls, arSl, lendAt, updB, getL, ownSl, Rs.pure?, Rs.bind, pTru, pBl, mBin, mUn, mRet, mRetF, mSet, mSetF, put, mExpr, mCall, mCallF, mCallW, mPeek, mCons, mNil, mTup, mLst, mL, mAnd, mOr, mNot, mIfE, mStore, mStoreN, mSetAt, mGetL, mPutL, mIxW, mApp, mPar, putS, setSl, mXN, mXC, mXO, mPart, mPartN, mSl, mLam, mLam0, mCallV, mFnAt, callee, capV, mItems, mScr, mScrIx, mScrLen, mScrSl, gN, gT, gsC, gsN, List.getElem?_cons_zero, List.getElem?_cons_succ, List.map_cons, List.map_nil, List.cons_append, List.nil_append, List.length_cons, List.length_nil, List.replicate_zero, List.replicate_succ, List.set_cons_zero, List.set_cons_succ, ite_ap, if_true, if_false, Bool.false_eq_true, Bool.true_eq_false, reduceIte, Nat.reduceSub, Nat.reduceAdd, Bool.not_true, Bool.not_false, Bool.true_and, Bool.false_and, Bool.and_true, Bool.and_false]; rfl) (Nat.le_trans (srt_len hn) (by decide)) fun l hl2 => ?_
    refine ⟨[.dat (.int n), .dat (ltL (lots (List.range n))), hideS s, .dat (natT l), .dat (.int l.length)], rfl, ?_, ?_⟩
    · cases s <;> rfl
    · simp only [grd, one1_l, one1_t, Option.bind_some, putG, mAsg, mCallK, mUserK, permL, List.filterMap_cons, List.filterMap_nil, qTup, Nat.reduceLeDiff, Nat.reduceLT, Nat.zero_add, and_self, modR, fdR, mulMod, mulModL, Int.reduceLT, Int.reduceLE, Int.reduceNeg, at3_0, at3_1, at3_2, at2_0, at2_1, ix3_0, ix3_1, ix3_2, mulR, mulL, add_ii, sub_ii, gt_ii, lt_ii, ge_ii, le_ii, ix_l, ix_t, ofO_s, int_i, len_l, len_t, fnR, headB, rvOf, mSeq, mIf, mOrT, mAndT, mNotT, mTru, mBl, mVD, mVF, mUser, mUser1F, mAC, mAN, mRef, mVar, DL.M.bind, DL.M.ret, DL.M.lift, DL.M.fail, arSls, arSl, lendAt, updB, getL, ownSl, Rs.pure?, Rs.bind, pTru, pBl, mBin, mUn, mRet, mRetF, mSet, mSetF, put, mExpr, mCall, mCallF, mCallW, mPeek, mCons, mNil, mTup, mLst, mL, mAnd, mOr, mNot, mIfE, mStore, mStoreN, mSetAt, mGetL, mPutL, mIxW, mApp, mPar, putS, setSl, mXN, mXC, mXO, mPart, mPartN, mSl, mLam, mLam0, mCallV, mFnAt, callee, capV, mItems, mScr, mScrIx, mScrLen, mScrSl, gN, gT, gsC, gsN, List.getElem?_cons_zero, List.getElem?_cons_succ, List.map_cons, List.map_nil, List.cons_append, List.nil_append, List.length_cons, List.length_nil, List.replicate_zero, List.replicate_succ, List.set_cons_zero, List.set_cons_succ, ite_ap, if_true, if_false, Bool.false_eq_true, Bool.true_eq_false, reduceIte, Nat.reduceSub, Nat.reduceAdd, Bool.not_true, Bool.not_false, Bool.true_and, Bool.false_and, Bool.and_true, Bool.and_false]
  unfold S__law_lots
  refine fnR_non (r := .ok (.rt (ltL (srtL n)))) (ρ' := [.dat (.int n), .dat (ltL (lots (List.range n))), s, .emp, .emp]) rfl ?_
  show m__law_lots [.dat (.int n), .emp, .emp, .emp, .emp] = _
  unfold m__law_lots
  rw [seqR (ρ1 := [.dat (.int n), .dat (ltL (lots [])), .emp, .emp, .emp]) (by simp only [grd, one1_l, one1_t, Option.bind_some, putG, mAsg, mCallK, mUserK, permL, List.filterMap_cons, List.filterMap_nil, qTup, Nat.reduceLeDiff, Nat.reduceLT, Nat.zero_add, and_self, modR, fdR, mulMod, mulModL, Int.reduceLT, Int.reduceLE, Int.reduceNeg, at3_0, at3_1, at3_2, at2_0, at2_1, ix3_0, ix3_1, ix3_2, mulR, mulL, add_ii, sub_ii, gt_ii, lt_ii, ge_ii, le_ii, ix_l, ix_t, ofO_s, int_i, len_l, len_t, fnR, headB, rvOf, mSeq, mIf, mOrT, mAndT, mNotT, mTru, mBl, mVD, mVF, mUser, mUser1F, mAC, mAN, mRef, mVar, DL.M.bind, DL.M.ret, DL.M.lift, DL.M.fail, arSls, arSl, lendAt, updB, getL, ownSl, Rs.pure?, Rs.bind, pTru, pBl, mBin, mUn, mRet, mRetF, mSet, mSetF, put, mExpr, mCall, mCallF, mCallW, mPeek, mCons, mNil, mTup, mLst, mL, mAnd, mOr, mNot, mIfE, mStore, mStoreN, mSetAt, mGetL, mPutL, mIxW, mApp, mPar, putS, setSl, mXN, mXC, mXO, mPart, mPartN, mSl, mLam, mLam0, mCallV, mFnAt, callee, capV, mItems, mScr, mScrIx, mScrLen, mScrSl, gN, gT, gsC, gsN, List.getElem?_cons_zero, List.getElem?_cons_succ, List.map_cons, List.map_nil, List.cons_append, List.nil_append, List.length_cons, List.length_nil, List.replicate_zero, List.replicate_succ, List.set_cons_zero, List.set_cons_succ, ite_ap, if_true, if_false, Bool.false_eq_true, Bool.true_eq_false, reduceIte, Nat.reduceSub, Nat.reduceAdd, Bool.not_true, Bool.not_false, Bool.true_and, Bool.false_and, Bool.and_true, Bool.and_false]; rfl), seqR q]
  simp only [c3, grd, one1_l, one1_t, Option.bind_some, putG, mAsg, mCallK, mUserK, permL, List.filterMap_cons, List.filterMap_nil, qTup, Nat.reduceLeDiff, Nat.reduceLT, Nat.zero_add, and_self, modR, fdR, mulMod, mulModL, Int.reduceLT, Int.reduceLE, Int.reduceNeg, at3_0, at3_1, at3_2, at2_0, at2_1, ix3_0, ix3_1, ix3_2, mulR, mulL, add_ii, sub_ii, gt_ii, lt_ii, ge_ii, le_ii, ix_l, ix_t, ofO_s, int_i, len_l, len_t, fnR, headB, rvOf, mSeq, mIf, mOrT, mAndT, mNotT, mTru, mBl, mVD, mVF, mUser, mUser1F, mAC, mAN, mRef, mVar, DL.M.bind, DL.M.ret, DL.M.lift, DL.M.fail, arSls, arSl, lendAt, updB, getL, ownSl, Rs.pure?, Rs.bind, pTru, pBl, mBin, mUn, mRet, mRetF, mSet, mSetF, put, mExpr, mCall, mCallF, mCallW, mPeek, mCons, mNil, mTup, mLst, mL, mAnd, mOr, mNot, mIfE, mStore, mStoreN, mSetAt, mGetL, mPutL, mIxW, mApp, mPar, putS, setSl, mXN, mXC, mXO, mPart, mPartN, mSl, mLam, mLam0, mCallV, mFnAt, callee, capV, mItems, mScr, mScrIx, mScrLen, mScrSl, gN, gT, gsC, gsN, List.getElem?_cons_zero, List.getElem?_cons_succ, List.map_cons, List.map_nil, List.cons_append, List.nil_append, List.length_cons, List.length_nil, List.replicate_zero, List.replicate_succ, List.set_cons_zero, List.set_cons_succ, ite_ap, if_true, if_false, Bool.false_eq_true, Bool.true_eq_false, reduceIte, Nat.reduceSub, Nat.reduceAdd, Bool.not_true, Bool.not_false, Bool.true_and, Bool.false_and, Bool.and_true, Bool.and_false]
  rfl
/-! who is watched, as the law says -/
theorem getD_seenA {r : List Int} {o : Nat} (h : o < r.length) : (seenA r).getD o [] = seenL r o := by
  unfold seenA
  rw [List.getD_eq_getElem?_getD, List.getElem?_map, List.getElem?_range h]; rfl
theorem watch_iff {r : List Int} {l : List Nat} (hl : ∀ x ∈ l, x < r.length) : watchB (seenA r) l = (List.range r.length).all fun k => decide (k ∈ l) || !((l.filter fun o => seesB r o k).isEmpty) := by
  rw [Bool.eq_iff_iff]
  unfold watchB
  rw [seenA_len, List.all_eq_true, List.all_eq_true]
  constructor
  · intro h k hk
    by_cases z : k ∈ l
    · rw [decide_eq_true z]; rfl
    · have := h k (List.mem_filter.mpr ⟨hk, by rw [decide_eq_false z]; rfl⟩)
      obtain ⟨o, ho, e⟩ := List.any_eq_true.mp this
      rw [getD_seenA (hl o ho)] at e
      have e := of_decide_eq_true e
      obtain ⟨_, _, e3⟩ := seen_mem.mp e
      have : o ∈ l.filter fun o => seesB r o k := List.mem_filter.mpr ⟨ho, e3⟩
      rw [decide_eq_false z, Bool.false_or]
      cases q : l.filter fun o => seesB r o k with
      | nil => rw [q] at this; cases this
      | cons _ _ => rfl
  · intro h p hp
    obtain ⟨h1, h2⟩ := List.mem_filter.mp hp
    have := h p h1
    have z : p ∉ l := by
      intro z
      rw [decide_eq_true z] at h2; cases h2
    rw [decide_eq_false z, Bool.false_or] at this
    cases q : l.filter fun o => seesB r o p with
    | nil => rw [q] at this; cases this
    | cons o os =>
      have hm : o ∈ l.filter fun o => seesB r o p := by rw [q]; exact List.mem_cons_self
      obtain ⟨m1, m2⟩ := List.mem_filter.mp hm
      refine List.any_eq_true.mpr ⟨o, m1, ?_⟩
      rw [getD_seenA (hl o m1)]
      exact decide_eq_true (seen_mem.mpr ⟨List.mem_range.mp h1, fun e => z (by rw [e]; exact m1), m2⟩)
theorem notin_nT {k : Nat} {l : List Nat} : pNotIn (.int k) (natT l) = .ok (.bool (!decide (k ∈ l))) := by
  show (grd (shp 20 (.int k) = true ∧ shp 20 (natT l) = true) (.ok (dIn (.int k) (l.map fun (k : Nat) => PyData.int k)))).bind _ = _
  rw [grd_t ⟨shp_int, shp_tup (natT_shp l)⟩, dIn_nat (i := (k : Int)) rfl]; rfl
theorem s_law_watched (r : List Int) (hr : r.Nodup) (h12 : r.length ≤ 12) (l : List Nat) (hl : ∀ x ∈ l, x < r.length) (h2 : l.length ≤ 1000) : S__law_watched [.dat (intT r), .dat (natT l)] = (.ok (.d (.bool (watchB (seenA r) l))), []) := by
  obtain ⟨ρ', q, s, rfl⟩ := for_ret (mi := i__law_watched_1) (g := gN 2) (body := b__law_watched_1) (List.range r.length) (fun (k : Nat) => .int (k : Int)) (fun k => decide (k ∈ l) || !((l.filter fun o => seesB r o k).isEmpty)) (.bool false) (ρ := [.dat (intT r), .dat (natT l), .emp, .emp]) (ρ1 := [.dat (intT r), .dat (natT l), .emp, .emp])
    (fun ρ => ∃ s, ρ = [.dat (intT r), .dat (natT l), s, .emp]) (by simp only [i__law_watched_1, DL.len_T, rng1_ok (show (r.length : Int) < 1000000000 by omega) (by omega), rng_map0, Int.toNat_natCast, grd, one1_l, one1_t, Option.bind_some, putG, mAsg, mCallK, mUserK, permL, List.filterMap_cons, List.filterMap_nil, qTup, Nat.reduceLeDiff, Nat.reduceLT, Nat.zero_add, and_self, modR, fdR, mulMod, mulModL, Int.reduceLT, Int.reduceLE, Int.reduceNeg, at3_0, at3_1, at3_2, at2_0, at2_1, ix3_0, ix3_1, ix3_2, mulR, mulL, add_ii, sub_ii, gt_ii, lt_ii, ge_ii, le_ii, ix_l, ix_t, ofO_s, int_i, len_l, len_t, fnR, headB, rvOf, mSeq, mIf, mOrT, mAndT, mNotT, mTru, mBl, mVD, mVF, mUser, mUser1F, mAC, mAN, mRef, mVar, DL.M.bind, DL.M.ret, DL.M.lift, DL.M.fail, arSls, arSl, lendAt, updB, getL, ownSl, Rs.pure?, Rs.bind, pTru, pBl, mBin, mUn, mRet, mRetF, mSet, mSetF, put, mExpr, mCall, mCallF, mCallW, mPeek, mCons, mNil, mTup, mLst, mL, mAnd, mOr, mNot, mIfE, mStore, mStoreN, mSetAt, mGetL, mPutL, mIxW, mApp, mPar, putS, setSl, mXN, mXC, mXO, mPart, mPartN, mSl, mLam, mLam0, mCallV, mFnAt, callee, capV, mItems, mScr, mScrIx, mScrLen, mScrSl, gN, gT, gsC, gsN, List.getElem?_cons_zero, List.getElem?_cons_succ, List.map_cons, List.map_nil, List.cons_append, List.nil_append, List.length_cons, List.length_nil, List.replicate_zero, List.replicate_succ, List.set_cons_zero, List.set_cons_succ, ite_ap, if_true, if_false, Bool.false_eq_true, Bool.true_eq_false, reduceIte, Nat.reduceSub, Nat.reduceAdd, Bool.not_true, Bool.not_false, Bool.true_and, Bool.false_and, Bool.and_true, Bool.and_false]) ⟨_, rfl⟩ (fun k hk ρ hI => by
      obtain ⟨s, rfl⟩ := hI
      have hk := List.mem_range.mp hk
      refine ⟨[.dat (intT r), .dat (natT l), .dat (.int k), .emp], [.dat (intT r), .dat (natT l), .dat (.int k), .emp], rfl, ?_, _, rfl⟩
      by_cases z : k ∈ l
      · simp only [b__law_watched_1, notin_nT, decide_eq_true z, Bool.true_or, grd, one1_l, one1_t, Option.bind_some, putG, mAsg, mCallK, mUserK, permL, List.filterMap_cons, List.filterMap_nil, qTup, Nat.reduceLeDiff, Nat.reduceLT, Nat.zero_add, and_self, modR, fdR, mulMod, mulModL, Int.reduceLT, Int.reduceLE, Int.reduceNeg, at3_0, at3_1, at3_2, at2_0, at2_1, ix3_0, ix3_1, ix3_2, mulR, mulL, add_ii, sub_ii, gt_ii, lt_ii, ge_ii, le_ii, ix_l, ix_t, ofO_s, int_i, len_l, len_t, fnR, headB, rvOf, mSeq, mIf, mOrT, mAndT, mNotT, mTru, mBl, mVD, mVF, mUser, mUser1F, mAC, mAN, mRef, mVar, DL.M.bind, DL.M.ret, DL.M.lift, DL.M.fail, arSls, arSl, lendAt, updB, getL, ownSl, Rs.pure?, Rs.bind, pTru, pBl, mBin, mUn, mRet, mRetF, mSet, mSetF, put, mExpr, mCall, mCallF, mCallW, mPeek, mCons, mNil, mTup, mLst, mL, mAnd, mOr, mNot, mIfE, mStore, mStoreN, mSetAt, mGetL, mPutL, mIxW, mApp, mPar, putS, setSl, mXN, mXC, mXO, mPart, mPartN, mSl, mLam, mLam0, mCallV, mFnAt, callee, capV, mItems, mScr, mScrIx, mScrLen, mScrSl, gN, gT, gsC, gsN, List.getElem?_cons_zero, List.getElem?_cons_succ, List.map_cons, List.map_nil, List.cons_append, List.nil_append, List.length_cons, List.length_nil, List.replicate_zero, List.replicate_succ, List.set_cons_zero, List.set_cons_succ, ite_ap, if_true, if_false, Bool.false_eq_true, Bool.true_eq_false, reduceIte, Nat.reduceSub, Nat.reduceAdd, Bool.not_true, Bool.not_false, Bool.true_and, Bool.false_and, Bool.and_true, Bool.and_false]
      · have c : c__law_watched_1 [.dat (intT r), .dat (natT l), .dat (.int k), .emp] = (.ok ((l.filter fun o => seesB r o k).map fun (k : Nat) => .int (k : Int)), [.dat (intT r), .dat (natT l), .dat (.int k), .emp]) := by
          unfold c__law_watched_1
          refine lc_map l (fun (k : Nat) => .int (k : Int)) _ _ (ρ1 := [.dat (intT r), .dat (natT l), .dat (.int k), .emp]) (by simp only [items_nT, grd, one1_l, one1_t, Option.bind_some, putG, mAsg, mCallK, mUserK, permL, List.filterMap_cons, List.filterMap_nil, qTup, Nat.reduceLeDiff, Nat.reduceLT, Nat.zero_add, and_self, modR, fdR, mulMod, mulModL, Int.reduceLT, Int.reduceLE, Int.reduceNeg, at3_0, at3_1, at3_2, at2_0, at2_1, ix3_0, ix3_1, ix3_2, mulR, mulL, add_ii, sub_ii, gt_ii, lt_ii, ge_ii, le_ii, ix_l, ix_t, ofO_s, int_i, len_l, len_t, fnR, headB, rvOf, mSeq, mIf, mOrT, mAndT, mNotT, mTru, mBl, mVD, mVF, mUser, mUser1F, mAC, mAN, mRef, mVar, DL.M.bind, DL.M.ret, DL.M.lift, DL.M.fail, arSls, arSl, lendAt, updB, getL, ownSl, Rs.pure?, Rs.bind, pTru, pBl, mBin, mUn, mRet, mRetF, mSet, mSetF, put, mExpr, mCall, mCallF, mCallW, mPeek, mCons, mNil, mTup, mLst, mL, mAnd, mOr, mNot, mIfE, mStore, mStoreN, mSetAt, mGetL, mPutL, mIxW, mApp, mPar, putS, setSl, mXN, mXC, mXO, mPart, mPartN, mSl, mLam, mLam0, mCallV, mFnAt, callee, capV, mItems, mScr, mScrIx, mScrLen, mScrSl, gN, gT, gsC, gsN, List.getElem?_cons_zero, List.getElem?_cons_succ, List.map_cons, List.map_nil, List.cons_append, List.nil_append, List.length_cons, List.length_nil, List.replicate_zero, List.replicate_succ, List.set_cons_zero, List.set_cons_succ, ite_ap, if_true, if_false, Bool.false_eq_true, Bool.true_eq_false, reduceIte, Nat.reduceSub, Nat.reduceAdd, Bool.not_true, Bool.not_false, Bool.true_and, Bool.false_and, Bool.and_true, Bool.and_false]) (by omega) fun o ho => ?_
          refine ⟨[.dat (intT r), .dat (natT l), .dat (.int k), .dat (.int o)], rfl, rfl, ?_, fun _ => rfl⟩
          have e := s_law_sees2 r o k (hl o ho) hk (fun e => z (e ▸ ho)) h12 hr (seq_T r)
          simp only [e, seesB, grd, one1_l, one1_t, Option.bind_some, putG, mAsg, mCallK, mUserK, permL, List.filterMap_cons, List.filterMap_nil, qTup, Nat.reduceLeDiff, Nat.reduceLT, Nat.zero_add, and_self, modR, fdR, mulMod, mulModL, Int.reduceLT, Int.reduceLE, Int.reduceNeg, at3_0, at3_1, at3_2, at2_0, at2_1, ix3_0, ix3_1, ix3_2, mulR, mulL, add_ii, sub_ii, gt_ii, lt_ii, ge_ii, le_ii, ix_l, ix_t, ofO_s, int_i, len_l, len_t, fnR, headB, rvOf, mSeq, mIf, mOrT, mAndT, mNotT, mTru, mBl, mVD, mVF, mUser, mUser1F, mAC, mAN, mRef, mVar, DL.M.bind, DL.M.ret, DL.M.lift, DL.M.fail, arSls, arSl, lendAt, updB, getL, ownSl, Rs.pure?, Rs.bind, pTru, pBl, mBin, mUn, mRet, mRetF, mSet, mSetF, put, mExpr, mCall, mCallF, mCallW, mPeek, mCons, mNil, mTup, mLst, mL, mAnd, mOr, mNot, mIfE, mStore, mStoreN, mSetAt, mGetL, mPutL, mIxW, mApp, mPar, putS, setSl, mXN, mXC, mXO, mPart, mPartN, mSl, mLam, mLam0, mCallV, mFnAt, callee, capV, mItems, mScr, mScrIx, mScrLen, mScrSl, gN, gT, gsC, gsN, List.getElem?_cons_zero, List.getElem?_cons_succ, List.map_cons, List.map_nil, List.cons_append, List.nil_append, List.length_cons, List.length_nil, List.replicate_zero, List.replicate_succ, List.set_cons_zero, List.set_cons_succ, ite_ap, if_true, if_false, Bool.false_eq_true, Bool.true_eq_false, reduceIte, Nat.reduceSub, Nat.reduceAdd, Bool.not_true, Bool.not_false, Bool.true_and, Bool.false_and, Bool.and_true, Bool.and_false]
        have e2 : pEq (.list ((l.filter fun o => seesB r o k).map fun (k : Nat) => PyData.int (k : Int))) (.list []) = .ok (.bool (l.filter fun o => seesB r o k).isEmpty) := by
          rw [eq_l0 (natT_shp _), List.isEmpty_map]
        cases y : (l.filter fun o => seesB r o k).isEmpty with
        | true =>
          rw [y] at e2
          simp only [b__law_watched_1, notin_nT, decide_eq_false z, c, e2, Bool.false_or, grd, one1_l, one1_t, Option.bind_some, putG, mAsg, mCallK, mUserK, permL, List.filterMap_cons, List.filterMap_nil, qTup, Nat.reduceLeDiff, Nat.reduceLT, Nat.zero_add, and_self, modR, fdR, mulMod, mulModL, Int.reduceLT, Int.reduceLE, Int.reduceNeg, at3_0, at3_1, at3_2, at2_0, at2_1, ix3_0, ix3_1, ix3_2, mulR, mulL, add_ii, sub_ii, gt_ii, lt_ii, ge_ii, le_ii, ix_l, ix_t, ofO_s, int_i, len_l, len_t, fnR, headB, rvOf, mSeq, mIf, mOrT, mAndT, mNotT, mTru, mBl, mVD, mVF, mUser, mUser1F, mAC, mAN, mRef, mVar, DL.M.bind, DL.M.ret, DL.M.lift, DL.M.fail, arSls, arSl, lendAt, updB, getL, ownSl, Rs.pure?, Rs.bind, pTru, pBl, mBin, mUn, mRet, mRetF, mSet, mSetF, put, mExpr, mCall, mCallF, mCallW, mPeek, mCons, mNil, mTup, mLst, mL, mAnd, mOr, mNot, mIfE, mStore, mStoreN, mSetAt, mGetL, mPutL, mIxW, mApp, mPar, putS, setSl, mXN, mXC, mXO, mPart, mPartN, mSl, mLam, mLam0, mCallV, mFnAt, callee, capV, mItems, mScr, mScrIx, mScrLen, mScrSl, gN, gT, gsC, gsN, List.getElem?_cons_zero, List.getElem?_cons_succ, List.map_cons, List.map_nil, List.cons_append, List.nil_append, List.length_cons, List.length_nil, List.replicate_zero, List.replicate_succ, List.set_cons_zero, List.set_cons_succ, ite_ap, if_true, if_false, Bool.false_eq_true, Bool.true_eq_false, reduceIte, Nat.reduceSub, Nat.reduceAdd, Bool.not_true, Bool.not_false, Bool.true_and, Bool.false_and, Bool.and_true, Bool.and_false]
        | false =>
          rw [y] at e2
          simp only [b__law_watched_1, notin_nT, decide_eq_false z, c, e2, Bool.false_or, grd, one1_l, one1_t, Option.bind_some, putG, mAsg, mCallK, mUserK, permL, List.filterMap_cons, List.filterMap_nil, qTup, Nat.reduceLeDiff, Nat.reduceLT, Nat.zero_add, and_self, modR, fdR, mulMod, mulModL, Int.reduceLT, Int.reduceLE, Int.reduceNeg, at3_0, at3_1, at3_2, at2_0, at2_1, ix3_0, ix3_1, ix3_2, mulR, mulL, add_ii, sub_ii, gt_ii, lt_ii, ge_ii, le_ii, ix_l, ix_t, ofO_s, int_i, len_l, len_t, fnR, headB, rvOf, mSeq, mIf, mOrT, mAndT, mNotT, mTru, mBl, mVD, mVF, mUser, mUser1F, mAC, mAN, mRef, mVar, DL.M.bind, DL.M.ret, DL.M.lift, DL.M.fail, arSls, arSl, lendAt, updB, getL, ownSl, Rs.pure?, Rs.bind, pTru, pBl, mBin, mUn, mRet, mRetF, mSet, mSetF, put, mExpr, mCall, mCallF, mCallW, mPeek, mCons, mNil, mTup, mLst, mL, mAnd, mOr, mNot, mIfE, mStore, mStoreN, mSetAt, mGetL, mPutL, mIxW, mApp, mPar, putS, setSl, mXN, mXC, mXO, mPart, mPartN, mSl, mLam, mLam0, mCallV, mFnAt, callee, capV, mItems, mScr, mScrIx, mScrLen, mScrSl, gN, gT, gsC, gsN, List.getElem?_cons_zero, List.getElem?_cons_succ, List.map_cons, List.map_nil, List.cons_append, List.nil_append, List.length_cons, List.length_nil, List.replicate_zero, List.replicate_succ, List.set_cons_zero, List.set_cons_succ, ite_ap, if_true, if_false, Bool.false_eq_true, Bool.true_eq_false, reduceIte, Nat.reduceSub, Nat.reduceAdd, Bool.not_true, Bool.not_false, Bool.true_and, Bool.false_and, Bool.and_true, Bool.and_false])
  rw [watch_iff hl]
  cases y : (List.range r.length).all fun k => decide (k ∈ l) || !((l.filter fun o => seesB r o k).isEmpty) with
  | true =>
    rw [y] at q
    unfold S__law_watched
    refine fnR_non (r := .ok (.rt (.bool true))) (ρ' := [.dat (intT r), .dat (natT l), s, .emp]) rfl ?_
    show m__law_watched [.dat (intT r), .dat (natT l), .emp, .emp] = _
    unfold m__law_watched
    rw [seqR q]
    simp only [grd, one1_l, one1_t, Option.bind_some, putG, mAsg, mCallK, mUserK, permL, List.filterMap_cons, List.filterMap_nil, qTup, Nat.reduceLeDiff, Nat.reduceLT, Nat.zero_add, and_self, modR, fdR, mulMod, mulModL, Int.reduceLT, Int.reduceLE, Int.reduceNeg, at3_0, at3_1, at3_2, at2_0, at2_1, ix3_0, ix3_1, ix3_2, mulR, mulL, add_ii, sub_ii, gt_ii, lt_ii, ge_ii, le_ii, ix_l, ix_t, ofO_s, int_i, len_l, len_t, fnR, headB, rvOf, mSeq, mIf, mOrT, mAndT, mNotT, mTru, mBl, mVD, mVF, mUser, mUser1F, mAC, mAN, mRef, mVar, DL.M.bind, DL.M.ret, DL.M.lift, DL.M.fail, arSls, arSl, lendAt, updB, getL, ownSl, Rs.pure?, Rs.bind, pTru, pBl, mBin, mUn, mRet, mRetF, mSet, mSetF, put, mExpr, mCall, mCallF, mCallW, mPeek, mCons, mNil, mTup, mLst, mL, mAnd, mOr, mNot, mIfE, mStore, mStoreN, mSetAt, mGetL, mPutL, mIxW, mApp, mPar, putS, setSl, mXN, mXC, mXO, mPart, mPartN, mSl, mLam, mLam0, mCallV, mFnAt, callee, capV, mItems, mScr, mScrIx, mScrLen, mScrSl, gN, gT, gsC, gsN, List.getElem?_cons_zero, List.getElem?_cons_succ, List.map_cons, List.map_nil, List.cons_append, List.nil_append, List.length_cons, List.length_nil, List.replicate_zero, List.replicate_succ, List.set_cons_zero, List.set_cons_succ, ite_ap, if_true, if_false, Bool.false_eq_true, Bool.true_eq_false, reduceIte, Nat.reduceSub, Nat.reduceAdd, Bool.not_true, Bool.not_false, Bool.true_and, Bool.false_and, Bool.and_true, Bool.and_false]
  | false =>
    rw [y] at q
    unfold S__law_watched
    refine fnR_non (r := .ok (.rt (.bool false))) (ρ' := [.dat (intT r), .dat (natT l), s, .emp]) rfl ?_
    show m__law_watched [.dat (intT r), .dat (natT l), .emp, .emp] = _
    unfold m__law_watched mSeq M.bind
    rw [q]
    rfl
/-! lots are in order -/
theorem lots_asc : ∀ n : Nat, ∀ l ∈ lots (List.range n), l.Pairwise (· < ·)
  | 0, l, h => by
    rw [show l = [] from List.mem_singleton.mp h]; exact List.Pairwise.nil
  | n + 1, l, h => by
    rw [List.range_succ, lots_snoc] at h
    rcases List.mem_append.mp h with h | h
    · exact lots_asc n l h
    · obtain ⟨l0, h0, rfl⟩ := List.mem_map.mp h
      refine List.pairwise_append.mpr ⟨lots_asc n l0 h0, List.pairwise_singleton _ _, fun a ha b hb => ?_⟩
      rw [List.mem_singleton.mp hb]
      exact List.mem_range.mp (lots_mem h0 ha)
theorem lots_full : ∀ n : Nat, List.range n ∈ lots (List.range n)
  | 0 => List.mem_cons_self
  | n + 1 => by
    rw [List.range_succ, lots_snoc]
    exact List.mem_append.mpr (.inr (List.mem_map.mpr ⟨_, lots_full n, rfl⟩))
theorem wt_ne {r : List Int} (h12 : r.length ≤ 12) : wtL r ≠ [] := srt_ex h12 ⟨_, lots_full _, by
  unfold watchB
  rw [seenA_len, List.filter_eq_nil_iff.mpr (fun a ha => by simp [List.mem_range.mp ha])]; rfl⟩
theorem s_above (t : List Nat) (i : Nat) (h : ∀ x ∈ t, x < i) : S_is_above_last [.dat (.int i), .dat (natT t)] = (.ok (.d (.bool true)), []) := by
  have h0 : pEq (natT t) (.tuple ([] : List D)) = .ok (.bool t.isEmpty) := by
    unfold natT
    rw [DL.eq_t0 (natT_shp _), List.isEmpty_map]
  by_cases z : t = []
  · subst z
    simp only [S_is_above_last, m_is_above_last, N_is_above_last, h0, List.isEmpty_nil, grd, one1_l, one1_t, Option.bind_some, putG, mAsg, mCallK, mUserK, permL, List.filterMap_cons, List.filterMap_nil, qTup, Nat.reduceLeDiff, Nat.reduceLT, Nat.zero_add, and_self, modR, fdR, mulMod, mulModL, Int.reduceLT, Int.reduceLE, Int.reduceNeg, at3_0, at3_1, at3_2, at2_0, at2_1, ix3_0, ix3_1, ix3_2, mulR, mulL, add_ii, sub_ii, gt_ii, lt_ii, ge_ii, le_ii, ix_l, ix_t, ofO_s, int_i, len_l, len_t, fnR, headB, rvOf, mSeq, mIf, mOrT, mAndT, mNotT, mTru, mBl, mVD, mVF, mUser, mUser1F, mAC, mAN, mRef, mVar, DL.M.bind, DL.M.ret, DL.M.lift, DL.M.fail, arSls, arSl, lendAt, updB, getL, ownSl, Rs.pure?, Rs.bind, pTru, pBl, mBin, mUn, mRet, mRetF, mSet, mSetF, put, mExpr, mCall, mCallF, mCallW, mPeek, mCons, mNil, mTup, mLst, mL, mAnd, mOr, mNot, mIfE, mStore, mStoreN, mSetAt, mGetL, mPutL, mIxW, mApp, mPar, putS, setSl, mXN, mXC, mXO, mPart, mPartN, mSl, mLam, mLam0, mCallV, mFnAt, callee, capV, mItems, mScr, mScrIx, mScrLen, mScrSl, gN, gT, gsC, gsN, List.getElem?_cons_zero, List.getElem?_cons_succ, List.map_cons, List.map_nil, List.cons_append, List.nil_append, List.length_cons, List.length_nil, List.replicate_zero, List.replicate_succ, List.set_cons_zero, List.set_cons_succ, ite_ap, if_true, if_false, Bool.false_eq_true, Bool.true_eq_false, reduceIte, Nat.reduceSub, Nat.reduceAdd, Bool.not_true, Bool.not_false, Bool.true_and, Bool.false_and, Bool.and_true, Bool.and_false]
  · have hn : pNeg (.int 1) = .ok (.int (-1)) := rfl
    have hx : pIx (natT t) (.int (-1)) = .ok (.int (t.getLastD 0 : Nat)) := by
      unfold natT
      rw [ix_t, at_last (d := 0) z]; rfl
    have hz : t.isEmpty = false := by cases t with | nil => exact absurd rfl z | cons => rfl
    have hm : t.getLastD 0 ∈ t := by
      rw [List.getLastD_eq_getLast?, List.getLast?_eq_some_getLast z]
      exact List.getLast_mem z
    have hlt : decide (((t.getLastD 0 : Nat) : Int) < (i : Int)) = true := decide_eq_true (by have := h _ hm; omega)
    simp only [S_is_above_last, m_is_above_last, N_is_above_last, h0, hz, hn, hx, hlt, grd, one1_l, one1_t, Option.bind_some, putG, mAsg, mCallK, mUserK, permL, List.filterMap_cons, List.filterMap_nil, qTup, Nat.reduceLeDiff, Nat.reduceLT, Nat.zero_add, and_self, modR, fdR, mulMod, mulModL, Int.reduceLT, Int.reduceLE, Int.reduceNeg, at3_0, at3_1, at3_2, at2_0, at2_1, ix3_0, ix3_1, ix3_2, mulR, mulL, add_ii, sub_ii, gt_ii, lt_ii, ge_ii, le_ii, ix_l, ix_t, ofO_s, int_i, len_l, len_t, fnR, headB, rvOf, mSeq, mIf, mOrT, mAndT, mNotT, mTru, mBl, mVD, mVF, mUser, mUser1F, mAC, mAN, mRef, mVar, DL.M.bind, DL.M.ret, DL.M.lift, DL.M.fail, arSls, arSl, lendAt, updB, getL, ownSl, Rs.pure?, Rs.bind, pTru, pBl, mBin, mUn, mRet, mRetF, mSet, mSetF, put, mExpr, mCall, mCallF, mCallW, mPeek, mCons, mNil, mTup, mLst, mL, mAnd, mOr, mNot, mIfE, mStore, mStoreN, mSetAt, mGetL, mPutL, mIxW, mApp, mPar, putS, setSl, mXN, mXC, mXO, mPart, mPartN, mSl, mLam, mLam0, mCallV, mFnAt, callee, capV, mItems, mScr, mScrIx, mScrLen, mScrSl, gN, gT, gsC, gsN, List.getElem?_cons_zero, List.getElem?_cons_succ, List.map_cons, List.map_nil, List.cons_append, List.nil_append, List.length_cons, List.length_nil, List.replicate_zero, List.replicate_succ, List.set_cons_zero, List.set_cons_succ, ite_ap, if_true, if_false, Bool.false_eq_true, Bool.true_eq_false, reduceIte, Nat.reduceSub, Nat.reduceAdd, Bool.not_true, Bool.not_false, Bool.true_and, Bool.false_and, Bool.and_true, Bool.and_false]
theorem s_check_lot_of (n : Nat) (l : List Nat) (ha : l.Pairwise (· < ·)) (hl : ∀ x ∈ l, x < n) : S_check_lot_of [.dat (.int n), .dat (natT l)] = (.ok (.d .none), []) := by
  have h := s_wrong_at (l.map fun (k : Nat) => PyData.int k) (lamR 3 2 l_check_lot_of_1 [.d (.int n)]) (fun i hi => by
    rw [List.length_map] at hi
    have h1 : decide ((0 : Int) ≤ (l[i] : Nat) ∧ ((l[i] : Nat) : Int) ≤ (n : Int) - 1) = true := decide_eq_true ⟨by omega, by have := hl l[i] (List.getElem_mem hi); omega⟩
    have h2 := s_above (l.take i) l[i] fun x hx => by
      obtain ⟨j, hj, e⟩ := List.getElem_of_mem hx
      rw [List.length_take] at hj
      rw [List.getElem_take] at e
      rw [← e]
      exact List.pairwise_iff_getElem.mp ha j i (by omega) hi (by omega)
    unfold natT at h2
    rw [List.getElem_map, ← List.map_take]
    simp only [lamR, nestE, capSl, l_check_lot_of_1, s_number, h1, h2, grd, one1_l, one1_t, Option.bind_some, putG, mAsg, mCallK, mUserK, permL, List.filterMap_cons, List.filterMap_nil, qTup, Nat.reduceLeDiff, Nat.reduceLT, Nat.zero_add, and_self, modR, fdR, mulMod, mulModL, Int.reduceLT, Int.reduceLE, Int.reduceNeg, at3_0, at3_1, at3_2, at2_0, at2_1, ix3_0, ix3_1, ix3_2, mulR, mulL, add_ii, sub_ii, gt_ii, lt_ii, ge_ii, le_ii, ix_l, ix_t, ofO_s, int_i, len_l, len_t, fnR, headB, rvOf, mSeq, mIf, mOrT, mAndT, mNotT, mTru, mBl, mVD, mVF, mUser, mUser1F, mAC, mAN, mRef, mVar, DL.M.bind, DL.M.ret, DL.M.lift, DL.M.fail, arSls, arSl, lendAt, updB, getL, ownSl, Rs.pure?, Rs.bind, pTru, pBl, mBin, mUn, mRet, mRetF, mSet, mSetF, put, mExpr, mCall, mCallF, mCallW, mPeek, mCons, mNil, mTup, mLst, mL, mAnd, mOr, mNot, mIfE, mStore, mStoreN, mSetAt, mGetL, mPutL, mIxW, mApp, mPar, putS, setSl, mXN, mXC, mXO, mPart, mPartN, mSl, mLam, mLam0, mCallV, mFnAt, callee, capV, mItems, mScr, mScrIx, mScrLen, mScrSl, gN, gT, gsC, gsN, List.getElem?_cons_zero, List.getElem?_cons_succ, List.map_cons, List.map_nil, List.cons_append, List.nil_append, List.length_cons, List.length_nil, List.replicate_zero, List.replicate_succ, List.set_cons_zero, List.set_cons_succ, ite_ap, if_true, if_false, Bool.false_eq_true, Bool.true_eq_false, reduceIte, Nat.reduceSub, Nat.reduceAdd, Bool.not_true, Bool.not_false, Bool.true_and, Bool.false_and, Bool.and_true, Bool.and_false])
  have h' : S_wrong_at [.dat (natT l), .fn (lamR 3 2 l_check_lot_of_1 [.d (.int n)])] = (.ok (.d (.list [])), []) := h
  simp only [S_check_lot_of, m_check_lot_of, N_check_lot_of, mFor, i_check_lot_of_1, h', pItems, DL.forM, grd, one1_l, one1_t, Option.bind_some, putG, mAsg, mCallK, mUserK, permL, List.filterMap_cons, List.filterMap_nil, qTup, Nat.reduceLeDiff, Nat.reduceLT, Nat.zero_add, and_self, modR, fdR, mulMod, mulModL, Int.reduceLT, Int.reduceLE, Int.reduceNeg, at3_0, at3_1, at3_2, at2_0, at2_1, ix3_0, ix3_1, ix3_2, mulR, mulL, add_ii, sub_ii, gt_ii, lt_ii, ge_ii, le_ii, ix_l, ix_t, ofO_s, int_i, len_l, len_t, fnR, headB, rvOf, mSeq, mIf, mOrT, mAndT, mNotT, mTru, mBl, mVD, mVF, mUser, mUser1F, mAC, mAN, mRef, mVar, DL.M.bind, DL.M.ret, DL.M.lift, DL.M.fail, arSls, arSl, lendAt, updB, getL, ownSl, Rs.pure?, Rs.bind, pTru, pBl, mBin, mUn, mRet, mRetF, mSet, mSetF, put, mExpr, mCall, mCallF, mCallW, mPeek, mCons, mNil, mTup, mLst, mL, mAnd, mOr, mNot, mIfE, mStore, mStoreN, mSetAt, mGetL, mPutL, mIxW, mApp, mPar, putS, setSl, mXN, mXC, mXO, mPart, mPartN, mSl, mLam, mLam0, mCallV, mFnAt, callee, capV, mItems, mScr, mScrIx, mScrLen, mScrSl, gN, gT, gsC, gsN, List.getElem?_cons_zero, List.getElem?_cons_succ, List.map_cons, List.map_nil, List.cons_append, List.nil_append, List.length_cons, List.length_nil, List.replicate_zero, List.replicate_succ, List.set_cons_zero, List.set_cons_succ, ite_ap, if_true, if_false, Bool.false_eq_true, Bool.true_eq_false, reduceIte, Nat.reduceSub, Nat.reduceAdd, Bool.not_true, Bool.not_false, Bool.true_and, Bool.false_and, Bool.and_true, Bool.and_false]
theorem s_is_watched (r : List Int) (hr : rowOk r) (l : List Nat) (ha : l.Pairwise (· < ·)) (hl : ∀ x ∈ l, x < r.length) (h2 : l.length ≤ 1000) : S_is_watched [.dat (intT r), .dat (natT l)] = (.ok (.d (.bool (watchB (seenA r) l))), []) := by
  have h12 := hr.2.2.2
  have cl : S_check_lot [.dat (intT r), .dat (natT l)] = (.ok (.d .none), []) := by simp only [S_check_lot, m_check_lot, N_check_lot, s_check_row r hr, DL.len_T, s_check_lot_of r.length l ha hl, grd, one1_l, one1_t, Option.bind_some, putG, mAsg, mCallK, mUserK, permL, List.filterMap_cons, List.filterMap_nil, qTup, Nat.reduceLeDiff, Nat.reduceLT, Nat.zero_add, and_self, modR, fdR, mulMod, mulModL, Int.reduceLT, Int.reduceLE, Int.reduceNeg, at3_0, at3_1, at3_2, at2_0, at2_1, ix3_0, ix3_1, ix3_2, mulR, mulL, add_ii, sub_ii, gt_ii, lt_ii, ge_ii, le_ii, ix_l, ix_t, ofO_s, int_i, len_l, len_t, fnR, headB, rvOf, mSeq, mIf, mOrT, mAndT, mNotT, mTru, mBl, mVD, mVF, mUser, mUser1F, mAC, mAN, mRef, mVar, DL.M.bind, DL.M.ret, DL.M.lift, DL.M.fail, arSls, arSl, lendAt, updB, getL, ownSl, Rs.pure?, Rs.bind, pTru, pBl, mBin, mUn, mRet, mRetF, mSet, mSetF, put, mExpr, mCall, mCallF, mCallW, mPeek, mCons, mNil, mTup, mLst, mL, mAnd, mOr, mNot, mIfE, mStore, mStoreN, mSetAt, mGetL, mPutL, mIxW, mApp, mPar, putS, setSl, mXN, mXC, mXO, mPart, mPartN, mSl, mLam, mLam0, mCallV, mFnAt, callee, capV, mItems, mScr, mScrIx, mScrLen, mScrSl, gN, gT, gsC, gsN, List.getElem?_cons_zero, List.getElem?_cons_succ, List.map_cons, List.map_nil, List.cons_append, List.nil_append, List.length_cons, List.length_nil, List.replicate_zero, List.replicate_succ, List.set_cons_zero, List.set_cons_succ, ite_ap, if_true, if_false, Bool.false_eq_true, Bool.true_eq_false, reduceIte, Nat.reduceSub, Nat.reduceAdd, Bool.not_true, Bool.not_false, Bool.true_and, Bool.false_and, Bool.and_true, Bool.and_false]
  simp only [S_is_watched, m_is_watched, N_is_watched, cl, s_seen_all r h12, s_watch (seenA r) (by rw [seenA_len]; exact h12) l (by rw [seenA_len]; exact hl) h2, grd, one1_l, one1_t, Option.bind_some, putG, mAsg, mCallK, mUserK, permL, List.filterMap_cons, List.filterMap_nil, qTup, Nat.reduceLeDiff, Nat.reduceLT, Nat.zero_add, and_self, modR, fdR, mulMod, mulModL, Int.reduceLT, Int.reduceLE, Int.reduceNeg, at3_0, at3_1, at3_2, at2_0, at2_1, ix3_0, ix3_1, ix3_2, mulR, mulL, add_ii, sub_ii, gt_ii, lt_ii, ge_ii, le_ii, ix_l, ix_t, ofO_s, int_i, len_l, len_t, fnR, headB, rvOf, mSeq, mIf, mOrT, mAndT, mNotT, mTru, mBl, mVD, mVF, mUser, mUser1F, mAC, mAN, mRef, mVar, DL.M.bind, DL.M.ret, DL.M.lift, DL.M.fail, arSls, arSl, lendAt, updB, getL, ownSl, Rs.pure?, Rs.bind, pTru, pBl, mBin, mUn, mRet, mRetF, mSet, mSetF, put, mExpr, mCall, mCallF, mCallW, mPeek, mCons, mNil, mTup, mLst, mL, mAnd, mOr, mNot, mIfE, mStore, mStoreN, mSetAt, mGetL, mPutL, mIxW, mApp, mPar, putS, setSl, mXN, mXC, mXO, mPart, mPartN, mSl, mLam, mLam0, mCallV, mFnAt, callee, capV, mItems, mScr, mScrIx, mScrLen, mScrSl, gN, gT, gsC, gsN, List.getElem?_cons_zero, List.getElem?_cons_succ, List.map_cons, List.map_nil, List.cons_append, List.nil_append, List.length_cons, List.length_nil, List.replicate_zero, List.replicate_succ, List.set_cons_zero, List.set_cons_succ, ite_ap, if_true, if_false, Bool.false_eq_true, Bool.true_eq_false, reduceIte, Nat.reduceSub, Nat.reduceAdd, Bool.not_true, Bool.not_false, Bool.true_and, Bool.false_and, Bool.and_true, Bool.and_false]
/-! the law -/
theorem s_least2 (r : List Int) (h12 : r.length ≤ 12) {x : List Nat} {xs : List (List Nat)} (hw : wtL r = x :: xs) : S_least_watchers [.dat (intT r)] = (.ok (.d (natT x)), []) := by
  obtain ⟨g1, g2⟩ := rng_n h12
  have e : c_least_watchers_1 [.dat (intT r), .dat (ltL (seenA r)), .emp] = (.ok ((wtL r).map natT), [.dat (intT r), .dat (ltL (seenA r)), .emp]) := by
    unfold c_least_watchers_1 wtL
    refine lc_map (srtL r.length) natT _ _ (ρ1 := [.dat (intT r), .dat (ltL (seenA r)), .emp]) (by simp only [DL.len_T, mLRg, mRg1, eq_true g1, g2, srt_eq h12, items_lt, grd, one1_l, one1_t, Option.bind_some, putG, mAsg, mCallK, mUserK, permL, List.filterMap_cons, List.filterMap_nil, qTup, Nat.reduceLeDiff, Nat.reduceLT, Nat.zero_add, and_self, modR, fdR, mulMod, mulModL, Int.reduceLT, Int.reduceLE, Int.reduceNeg, at3_0, at3_1, at3_2, at2_0, at2_1, ix3_0, ix3_1, ix3_2, mulR, mulL, add_ii, sub_ii, gt_ii, lt_ii, ge_ii, le_ii, ix_l, ix_t, ofO_s, int_i, len_l, len_t, fnR, headB, rvOf, mSeq, mIf, mOrT, mAndT, mNotT, mTru, mBl, mVD, mVF, mUser, mUser1F, mAC, mAN, mRef, mVar, DL.M.bind, DL.M.ret, DL.M.lift, DL.M.fail, arSls, arSl, lendAt, updB, getL, ownSl, Rs.pure?, Rs.bind, pTru, pBl, mBin, mUn, mRet, mRetF, mSet, mSetF, put, mExpr, mCall, mCallF, mCallW, mPeek, mCons, mNil, mTup, mLst, mL, mAnd, mOr, mNot, mIfE, mStore, mStoreN, mSetAt, mGetL, mPutL, mIxW, mApp, mPar, putS, setSl, mXN, mXC, mXO, mPart, mPartN, mSl, mLam, mLam0, mCallV, mFnAt, callee, capV, mItems, mScr, mScrIx, mScrLen, mScrSl, gN, gT, gsC, gsN, List.getElem?_cons_zero, List.getElem?_cons_succ, List.map_cons, List.map_nil, List.cons_append, List.nil_append, List.length_cons, List.length_nil, List.replicate_zero, List.replicate_succ, List.set_cons_zero, List.set_cons_succ, ite_ap, if_true, if_false, Bool.false_eq_true, Bool.true_eq_false, reduceIte, Nat.reduceSub, Nat.reduceAdd, Bool.not_true, Bool.not_false, Bool.true_and, Bool.false_and, Bool.and_true, Bool.and_false]) (Nat.le_trans (srt_len h12) (by decide)) fun l hl => ?_
    obtain ⟨m1, m2⟩ := srt_mem h12 hl
    refine ⟨[.dat (intT r), .dat (ltL (seenA r)), .dat (natT l)], rfl, rfl, ?_, fun _ => rfl⟩
    simp only [s_watch (seenA r) (by rw [seenA_len]; exact h12) l (by rw [seenA_len]; exact m2) (by omega), grd, one1_l, one1_t, Option.bind_some, putG, mAsg, mCallK, mUserK, permL, List.filterMap_cons, List.filterMap_nil, qTup, Nat.reduceLeDiff, Nat.reduceLT, Nat.zero_add, and_self, modR, fdR, mulMod, mulModL, Int.reduceLT, Int.reduceLE, Int.reduceNeg, at3_0, at3_1, at3_2, at2_0, at2_1, ix3_0, ix3_1, ix3_2, mulR, mulL, add_ii, sub_ii, gt_ii, lt_ii, ge_ii, le_ii, ix_l, ix_t, ofO_s, int_i, len_l, len_t, fnR, headB, rvOf, mSeq, mIf, mOrT, mAndT, mNotT, mTru, mBl, mVD, mVF, mUser, mUser1F, mAC, mAN, mRef, mVar, DL.M.bind, DL.M.ret, DL.M.lift, DL.M.fail, arSls, arSl, lendAt, updB, getL, ownSl, Rs.pure?, Rs.bind, pTru, pBl, mBin, mUn, mRet, mRetF, mSet, mSetF, put, mExpr, mCall, mCallF, mCallW, mPeek, mCons, mNil, mTup, mLst, mL, mAnd, mOr, mNot, mIfE, mStore, mStoreN, mSetAt, mGetL, mPutL, mIxW, mApp, mPar, putS, setSl, mXN, mXC, mXO, mPart, mPartN, mSl, mLam, mLam0, mCallV, mFnAt, callee, capV, mItems, mScr, mScrIx, mScrLen, mScrSl, gN, gT, gsC, gsN, List.getElem?_cons_zero, List.getElem?_cons_succ, List.map_cons, List.map_nil, List.cons_append, List.nil_append, List.length_cons, List.length_nil, List.replicate_zero, List.replicate_succ, List.set_cons_zero, List.set_cons_succ, ite_ap, if_true, if_false, Bool.false_eq_true, Bool.true_eq_false, reduceIte, Nat.reduceSub, Nat.reduceAdd, Bool.not_true, Bool.not_false, Bool.true_and, Bool.false_and, Bool.and_true, Bool.and_false]
  have hx : atI ((wtL r).map natT) 0 = some (natT x) := by
    rw [hw]
    exact at_map (l := x :: xs) (i := 0) (k := 0) rfl (by simp)
  simp only [S_least_watchers, m_least_watchers, N_least_watchers, s_seen_all r h12, e, hx, grd, one1_l, one1_t, Option.bind_some, putG, mAsg, mCallK, mUserK, permL, List.filterMap_cons, List.filterMap_nil, qTup, Nat.reduceLeDiff, Nat.reduceLT, Nat.zero_add, and_self, modR, fdR, mulMod, mulModL, Int.reduceLT, Int.reduceLE, Int.reduceNeg, at3_0, at3_1, at3_2, at2_0, at2_1, ix3_0, ix3_1, ix3_2, mulR, mulL, add_ii, sub_ii, gt_ii, lt_ii, ge_ii, le_ii, ix_l, ix_t, ofO_s, int_i, len_l, len_t, fnR, headB, rvOf, mSeq, mIf, mOrT, mAndT, mNotT, mTru, mBl, mVD, mVF, mUser, mUser1F, mAC, mAN, mRef, mVar, DL.M.bind, DL.M.ret, DL.M.lift, DL.M.fail, arSls, arSl, lendAt, updB, getL, ownSl, Rs.pure?, Rs.bind, pTru, pBl, mBin, mUn, mRet, mRetF, mSet, mSetF, put, mExpr, mCall, mCallF, mCallW, mPeek, mCons, mNil, mTup, mLst, mL, mAnd, mOr, mNot, mIfE, mStore, mStoreN, mSetAt, mGetL, mPutL, mIxW, mApp, mPar, putS, setSl, mXN, mXC, mXO, mPart, mPartN, mSl, mLam, mLam0, mCallV, mFnAt, callee, capV, mItems, mScr, mScrIx, mScrLen, mScrSl, gN, gT, gsC, gsN, List.getElem?_cons_zero, List.getElem?_cons_succ, List.map_cons, List.map_nil, List.cons_append, List.nil_append, List.length_cons, List.length_nil, List.replicate_zero, List.replicate_succ, List.set_cons_zero, List.set_cons_succ, ite_ap, if_true, if_false, Bool.false_eq_true, Bool.true_eq_false, reduceIte, Nat.reduceSub, Nat.reduceAdd, Bool.not_true, Bool.not_false, Bool.true_and, Bool.false_and, Bool.and_true, Bool.and_false]
theorem s_fewest (r : List Int) (hr : rowOk r) {x : List Nat} {xs : List (List Nat)} (hw : wtL r = x :: xs) : S_fewest_watchers [.dat (intT r)] = (.ok (.d (.int x.length)), []) := by
  simp only [S_fewest_watchers, m_fewest_watchers, N_fewest_watchers, s_check_row r hr, s_least2 r hr.2.2.2 hw, len_nT, grd, one1_l, one1_t, Option.bind_some, putG, mAsg, mCallK, mUserK, permL, List.filterMap_cons, List.filterMap_nil, qTup, Nat.reduceLeDiff, Nat.reduceLT, Nat.zero_add, and_self, modR, fdR, mulMod, mulModL, Int.reduceLT, Int.reduceLE, Int.reduceNeg, at3_0, at3_1, at3_2, at2_0, at2_1, ix3_0, ix3_1, ix3_2, mulR, mulL, add_ii, sub_ii, gt_ii, lt_ii, ge_ii, le_ii, ix_l, ix_t, ofO_s, int_i, len_l, len_t, fnR, headB, rvOf, mSeq, mIf, mOrT, mAndT, mNotT, mTru, mBl, mVD, mVF, mUser, mUser1F, mAC, mAN, mRef, mVar, DL.M.bind, DL.M.ret, DL.M.lift, DL.M.fail, arSls, arSl, lendAt, updB, getL, ownSl, Rs.pure?, Rs.bind, pTru, pBl, mBin, mUn, mRet, mRetF, mSet, mSetF, put, mExpr, mCall, mCallF, mCallW, mPeek, mCons, mNil, mTup, mLst, mL, mAnd, mOr, mNot, mIfE, mStore, mStoreN, mSetAt, mGetL, mPutL, mIxW, mApp, mPar, putS, setSl, mXN, mXC, mXO, mPart, mPartN, mSl, mLam, mLam0, mCallV, mFnAt, callee, capV, mItems, mScr, mScrIx, mScrLen, mScrSl, gN, gT, gsC, gsN, List.getElem?_cons_zero, List.getElem?_cons_succ, List.map_cons, List.map_nil, List.cons_append, List.nil_append, List.length_cons, List.length_nil, List.replicate_zero, List.replicate_succ, List.set_cons_zero, List.set_cons_succ, ite_ap, if_true, if_false, Bool.false_eq_true, Bool.true_eq_false, reduceIte, Nat.reduceSub, Nat.reduceAdd, Bool.not_true, Bool.not_false, Bool.true_and, Bool.false_and, Bool.and_true, Bool.and_false]
theorem s_first (r : List Int) (hr : rowOk r) {x : List Nat} {xs : List (List Nat)} (hw : wtL r = x :: xs) : S_first_watchers [.dat (intT r)] = (.ok (.d (natT x)), []) := by
  simp only [S_first_watchers, m_first_watchers, N_first_watchers, s_check_row r hr, s_least2 r hr.2.2.2 hw, grd, one1_l, one1_t, Option.bind_some, putG, mAsg, mCallK, mUserK, permL, List.filterMap_cons, List.filterMap_nil, qTup, Nat.reduceLeDiff, Nat.reduceLT, Nat.zero_add, and_self, modR, fdR, mulMod, mulModL, Int.reduceLT, Int.reduceLE, Int.reduceNeg, at3_0, at3_1, at3_2, at2_0, at2_1, ix3_0, ix3_1, ix3_2, mulR, mulL, add_ii, sub_ii, gt_ii, lt_ii, ge_ii, le_ii, ix_l, ix_t, ofO_s, int_i, len_l, len_t, fnR, headB, rvOf, mSeq, mIf, mOrT, mAndT, mNotT, mTru, mBl, mVD, mVF, mUser, mUser1F, mAC, mAN, mRef, mVar, DL.M.bind, DL.M.ret, DL.M.lift, DL.M.fail, arSls, arSl, lendAt, updB, getL, ownSl, Rs.pure?, Rs.bind, pTru, pBl, mBin, mUn, mRet, mRetF, mSet, mSetF, put, mExpr, mCall, mCallF, mCallW, mPeek, mCons, mNil, mTup, mLst, mL, mAnd, mOr, mNot, mIfE, mStore, mStoreN, mSetAt, mGetL, mPutL, mIxW, mApp, mPar, putS, setSl, mXN, mXC, mXO, mPart, mPartN, mSl, mLam, mLam0, mCallV, mFnAt, callee, capV, mItems, mScr, mScrIx, mScrLen, mScrSl, gN, gT, gsC, gsN, List.getElem?_cons_zero, List.getElem?_cons_succ, List.map_cons, List.map_nil, List.cons_append, List.nil_append, List.length_cons, List.length_nil, List.replicate_zero, List.replicate_succ, List.set_cons_zero, List.set_cons_succ, ite_ap, if_true, if_false, Bool.false_eq_true, Bool.true_eq_false, reduceIte, Nat.reduceSub, Nat.reduceAdd, Bool.not_true, Bool.not_false, Bool.true_and, Bool.false_and, Bool.and_true, Bool.and_false]
def dueD : Option (List Nat) → D
  | none => .none
  | some l => natT l
theorem isn_T {l : List Nat} : pIsN (natT l) .none = .ok (.bool false) := rfl
theorem isn_N : pIsN (.none : D) .none = .ok (.bool true) := rfl
theorem mul2 (x : D) : pMul (.list [x]) (.int 2) = .ok (.list [x, x]) := grd_t ⟨by decide, by decide, by show 1 * 2 ≤ 16777216; decide⟩
theorem ne_same (x : Str) : pNe (.str x) (.str x) = .ok (.bool false) := by
  show (Rs.ok (decide (x = x))).bind _ = _
  rw [decide_eq_true rfl]; rfl
def q1 : MS := (mPar [2, 3] (mXC (mVD (mUser S__law_row (mRef 0 (mAC (.ret (.int 9)) mAN)))) (mXC (.ret .none) mXN)))
def q2 : MS := (mSet 4 (mVD (mUser S__law_lots (mAC (mCall pLen (mCons (mVar 2) mNil)) mAN))))
def q3 : MS := (mFor i__law_right_1 (gN 5) b__law_right_1)
def q4 : MS := (mSet 6 (mL (mLst (mCons (mVD (mUser S_fewest_watchers (mAC (mVar 2) mAN))) (mCons (mVD (mUserK S_fewest_watchers (fun {_} => permL [0]) mAN (mAC (mVar 2) mAN))) (mCons (mVD (mUser S_first_watchers (mAC (mVar 2) mAN))) (mCons (mVD (mUserK S_first_watchers (fun {_} => permL [0]) mAN (mAC (mVar 2) mAN))) mNil)))))))
def q5 : MS := (mIf (mBl (mBin pNe (mCall pRepr (mCons (mVar 6) mNil)) (mCall pRepr (mCons (mBin pAdd (mBin pMul (mL (mLst (mCons (mCall pLen (mCons (mVar 3) mNil)) mNil))) (.ret (.int 2))) (mBin pMul (mL (mLst (mCons (mVar 3) mNil))) (.ret (.int 2)))) mNil)))) (mRet (.ret (.bool false))) (.ret .nx))
def q6 : MS := (mFor i__law_right_2 (gN 7) b__law_right_2)
def q7 : MS := (mSet 9 (mVD (mUser S__law_row (mRef 0 (mAC (.ret (.int 12)) mAN)))))
def q8 : MS := (mSet 5 (mCall (one1 qTup qTup) (mCons (mL c__law_right_1) mNil)))
def q9 : MS := (mIf (mBl (mBin pNe (mCall pRepr (mCons (mVD (mUser S_is_watched (mAC (mVar 9) (mAC (mVar 5) mAN)))) mNil)) (mCall pRepr (mCons (mVD (mUser S__law_watched (mAC (mVar 9) (mAC (mVar 5) mAN)))) mNil)))) (mRet (.ret (.bool false))) (.ret .nx))
theorem b3_eq : b__law_right_3 = mSeq q1 (mSeq q2 (mSeq q3 (mSeq q4 (mSeq q5 (mSeq q6 (mSeq q7 (mSeq q8 q9))))))) := rfl
theorem due_loop (r : List Int) (hr : rowOk r) (s0 s1 s5 s6 s7 s8 s9 s10 : Slot) : ∃ s5', q3 [s0, s1, .dat (intT r), .dat .none, .dat (ltL (srtL r.length)), s5, s6, s7, s8, s9, s10] = (.ok .nx, [s0, s1, .dat (intT r), .dat (dueD ((srtL r.length).find? (watchB (seenA r)))), .dat (ltL (srtL r.length)), s5', s6, s7, s8, s9, s10]) := by
  have h12 := hr.2.2.2
  obtain ⟨ρ', q, s5', rfl⟩ := for_map (mi := i__law_right_1) (g := gN 5) (body := b__law_right_1) (srtL r.length) natT (ρ := [s0, s1, .dat (intT r), .dat .none, .dat (ltL (srtL r.length)), s5, s6, s7, s8, s9, s10]) (ρ1 := [s0, s1, .dat (intT r), .dat .none, .dat (ltL (srtL r.length)), s5, s6, s7, s8, s9, s10])
    (fun done ρ => ∃ s5, ρ = [s0, s1, .dat (intT r), .dat (dueD (done.find? (watchB (seenA r)))), .dat (ltL (srtL r.length)), s5, s6, s7, s8, s9, s10]) (by simp only [i__law_right_1, items_lt, grd, one1_l, one1_t, Option.bind_some, putG, mAsg, mCallK, mUserK, permL, List.filterMap_cons, List.filterMap_nil, qTup, Nat.reduceLeDiff, Nat.reduceLT, Nat.zero_add, and_self, modR, fdR, mulMod, mulModL, Int.reduceLT, Int.reduceLE, Int.reduceNeg, at3_0, at3_1, at3_2, at2_0, at2_1, ix3_0, ix3_1, ix3_2, mulR, mulL, add_ii, sub_ii, gt_ii, lt_ii, ge_ii, le_ii, ix_l, ix_t, ofO_s, int_i, len_l, len_t, fnR, headB, rvOf, mSeq, mIf, mOrT, mAndT, mNotT, mTru, mBl, mVD, mVF, mUser, mUser1F, mAC, mAN, mRef, mVar, DL.M.bind, DL.M.ret, DL.M.lift, DL.M.fail, arSls, arSl, lendAt, updB, getL, ownSl, Rs.pure?, Rs.bind, pTru, pBl, mBin, mUn, mRet, mRetF, mSet, mSetF, put, mExpr, mCall, mCallF, mCallW, mPeek, mCons, mNil, mTup, mLst, mL, mAnd, mOr, mNot, mIfE, mStore, mStoreN, mSetAt, mGetL, mPutL, mIxW, mApp, mPar, putS, setSl, mXN, mXC, mXO, mPart, mPartN, mSl, mLam, mLam0, mCallV, mFnAt, callee, capV, mItems, mScr, mScrIx, mScrLen, mScrSl, gN, gT, gsC, gsN, List.getElem?_cons_zero, List.getElem?_cons_succ, List.map_cons, List.map_nil, List.cons_append, List.nil_append, List.length_cons, List.length_nil, List.replicate_zero, List.replicate_succ, List.set_cons_zero, List.set_cons_succ, ite_ap, if_true, if_false, Bool.false_eq_true, Bool.true_eq_false, reduceIte, Nat.reduceSub, Nat.reduceAdd, Bool.not_true, Bool.not_false, Bool.true_and, Bool.false_and, Bool.and_true, Bool.and_false]) ⟨_, rfl⟩ (fun done d rest hd ρ hI => by
      obtain ⟨s5, rfl⟩ := hI
      obtain ⟨m1, m2⟩ := srt_mem h12 (show d ∈ srtL r.length by rw [hd]; simp)
      have e := s_law_watched r hr.1 h12 d m2 (by omega)
      refine ⟨_, _, rfl, .inl ?_, .dat (natT d), rfl⟩
      rw [List.find?_append]
      cases z : done.find? (watchB (seenA r)) with
      | some x => simp only [b__law_right_1, dueD, isn_T, Option.some_or, grd, one1_l, one1_t, Option.bind_some, putG, mAsg, mCallK, mUserK, permL, List.filterMap_cons, List.filterMap_nil, qTup, Nat.reduceLeDiff, Nat.reduceLT, Nat.zero_add, and_self, modR, fdR, mulMod, mulModL, Int.reduceLT, Int.reduceLE, Int.reduceNeg, at3_0, at3_1, at3_2, at2_0, at2_1, ix3_0, ix3_1, ix3_2, mulR, mulL, add_ii, sub_ii, gt_ii, lt_ii, ge_ii, le_ii, ix_l, ix_t, ofO_s, int_i, len_l, len_t, fnR, headB, rvOf, mSeq, mIf, mOrT, mAndT, mNotT, mTru, mBl, mVD, mVF, mUser, mUser1F, mAC, mAN, mRef, mVar, DL.M.bind, DL.M.ret, DL.M.lift, DL.M.fail, arSls, arSl, lendAt, updB, getL, ownSl, Rs.pure?, Rs.bind, pTru, pBl, mBin, mUn, mRet, mRetF, mSet, mSetF, put, mExpr, mCall, mCallF, mCallW, mPeek, mCons, mNil, mTup, mLst, mL, mAnd, mOr, mNot, mIfE, mStore, mStoreN, mSetAt, mGetL, mPutL, mIxW, mApp, mPar, putS, setSl, mXN, mXC, mXO, mPart, mPartN, mSl, mLam, mLam0, mCallV, mFnAt, callee, capV, mItems, mScr, mScrIx, mScrLen, mScrSl, gN, gT, gsC, gsN, List.getElem?_cons_zero, List.getElem?_cons_succ, List.map_cons, List.map_nil, List.cons_append, List.nil_append, List.length_cons, List.length_nil, List.replicate_zero, List.replicate_succ, List.set_cons_zero, List.set_cons_succ, ite_ap, if_true, if_false, Bool.false_eq_true, Bool.true_eq_false, reduceIte, Nat.reduceSub, Nat.reduceAdd, Bool.not_true, Bool.not_false, Bool.true_and, Bool.false_and, Bool.and_true, Bool.and_false]
      | none =>
        cases y : watchB (seenA r) d with
        | true =>
          rw [y] at e
          simp only [b__law_right_1, dueD, isn_N, e, List.find?_cons, y, Option.none_or, grd, one1_l, one1_t, Option.bind_some, putG, mAsg, mCallK, mUserK, permL, List.filterMap_cons, List.filterMap_nil, qTup, Nat.reduceLeDiff, Nat.reduceLT, Nat.zero_add, and_self, modR, fdR, mulMod, mulModL, Int.reduceLT, Int.reduceLE, Int.reduceNeg, at3_0, at3_1, at3_2, at2_0, at2_1, ix3_0, ix3_1, ix3_2, mulR, mulL, add_ii, sub_ii, gt_ii, lt_ii, ge_ii, le_ii, ix_l, ix_t, ofO_s, int_i, len_l, len_t, fnR, headB, rvOf, mSeq, mIf, mOrT, mAndT, mNotT, mTru, mBl, mVD, mVF, mUser, mUser1F, mAC, mAN, mRef, mVar, DL.M.bind, DL.M.ret, DL.M.lift, DL.M.fail, arSls, arSl, lendAt, updB, getL, ownSl, Rs.pure?, Rs.bind, pTru, pBl, mBin, mUn, mRet, mRetF, mSet, mSetF, put, mExpr, mCall, mCallF, mCallW, mPeek, mCons, mNil, mTup, mLst, mL, mAnd, mOr, mNot, mIfE, mStore, mStoreN, mSetAt, mGetL, mPutL, mIxW, mApp, mPar, putS, setSl, mXN, mXC, mXO, mPart, mPartN, mSl, mLam, mLam0, mCallV, mFnAt, callee, capV, mItems, mScr, mScrIx, mScrLen, mScrSl, gN, gT, gsC, gsN, List.getElem?_cons_zero, List.getElem?_cons_succ, List.map_cons, List.map_nil, List.cons_append, List.nil_append, List.length_cons, List.length_nil, List.replicate_zero, List.replicate_succ, List.set_cons_zero, List.set_cons_succ, ite_ap, if_true, if_false, Bool.false_eq_true, Bool.true_eq_false, reduceIte, Nat.reduceSub, Nat.reduceAdd, Bool.not_true, Bool.not_false, Bool.true_and, Bool.false_and, Bool.and_true, Bool.and_false]
        | false =>
          rw [y] at e
          simp only [b__law_right_1, dueD, isn_N, e, List.find?_cons, List.find?_nil, y, Option.none_or, grd, one1_l, one1_t, Option.bind_some, putG, mAsg, mCallK, mUserK, permL, List.filterMap_cons, List.filterMap_nil, qTup, Nat.reduceLeDiff, Nat.reduceLT, Nat.zero_add, and_self, modR, fdR, mulMod, mulModL, Int.reduceLT, Int.reduceLE, Int.reduceNeg, at3_0, at3_1, at3_2, at2_0, at2_1, ix3_0, ix3_1, ix3_2, mulR, mulL, add_ii, sub_ii, gt_ii, lt_ii, ge_ii, le_ii, ix_l, ix_t, ofO_s, int_i, len_l, len_t, fnR, headB, rvOf, mSeq, mIf, mOrT, mAndT, mNotT, mTru, mBl, mVD, mVF, mUser, mUser1F, mAC, mAN, mRef, mVar, DL.M.bind, DL.M.ret, DL.M.lift, DL.M.fail, arSls, arSl, lendAt, updB, getL, ownSl, Rs.pure?, Rs.bind, pTru, pBl, mBin, mUn, mRet, mRetF, mSet, mSetF, put, mExpr, mCall, mCallF, mCallW, mPeek, mCons, mNil, mTup, mLst, mL, mAnd, mOr, mNot, mIfE, mStore, mStoreN, mSetAt, mGetL, mPutL, mIxW, mApp, mPar, putS, setSl, mXN, mXC, mXO, mPart, mPartN, mSl, mLam, mLam0, mCallV, mFnAt, callee, capV, mItems, mScr, mScrIx, mScrLen, mScrSl, gN, gT, gsC, gsN, List.getElem?_cons_zero, List.getElem?_cons_succ, List.map_cons, List.map_nil, List.cons_append, List.nil_append, List.length_cons, List.length_nil, List.replicate_zero, List.replicate_succ, List.set_cons_zero, List.set_cons_succ, ite_ap, if_true, if_false, Bool.false_eq_true, Bool.true_eq_false, reduceIte, Nat.reduceSub, Nat.reduceAdd, Bool.not_true, Bool.not_false, Bool.true_and, Bool.false_and, Bool.and_true, Bool.and_false])
  exact ⟨s5', q⟩
theorem lap_4 (r : List Int) (hr : rowOk r) (A B C : Int) (s1 s3 s5 s6 s7 s8 s9 s10 : Slot) : ∃ A' B' C' s5' s7' s8', q6 [.bor [.int A, .int B, .int C], s1, .dat (intT r), s3, .dat (ltL (srtL r.length)), s5, s6, s7, s8, s9, s10] = (.ok .nx, [.bor [.int A', .int B', .int C'], s1, .dat (intT r), s3, .dat (ltL (srtL r.length)), s5', s6, s7', s8', s9, s10]) := by
  have h12 := hr.2.2.2
  have hne : srtL r.length ≠ [] := fun z => by
    have := (srt_perm h12).mem_iff.mpr (lots_full r.length)
    rw [z] at this; cases this
  have hL := srt_len h12
  obtain ⟨ρ', q, A', B', C', s5', s7', s8', rfl⟩ := for_keep (mi := i__law_right_2) (g := gN 7) (body := b__law_right_2) (List.range 4) (fun (i : Nat) => .int (i : Int)) (ρ := [.bor [.int A, .int B, .int C], s1, .dat (intT r), s3, .dat (ltL (srtL r.length)), s5, s6, s7, s8, s9, s10]) (ρ1 := [.bor [.int A, .int B, .int C], s1, .dat (intT r), s3, .dat (ltL (srtL r.length)), s5, s6, s7, s8, s9, s10])
    (fun ρ => ∃ A' B' C' s5' s7' s8', ρ = [.bor [.int A', .int B', .int C'], s1, .dat (intT r), s3, .dat (ltL (srtL r.length)), s5', s6, s7', s8', s9, s10])
    (by simp only [i__law_right_2, rng1_ok (show (4 : Int) < 1000000000 by decide) (by decide), rng_map0, grd, one1_l, one1_t, Option.bind_some, putG, mAsg, mCallK, mUserK, permL, List.filterMap_cons, List.filterMap_nil, qTup, Nat.reduceLeDiff, Nat.reduceLT, Nat.zero_add, and_self, modR, fdR, mulMod, mulModL, Int.reduceLT, Int.reduceLE, Int.reduceNeg, at3_0, at3_1, at3_2, at2_0, at2_1, ix3_0, ix3_1, ix3_2, mulR, mulL, add_ii, sub_ii, gt_ii, lt_ii, ge_ii, le_ii, ix_l, ix_t, ofO_s, int_i, len_l, len_t, fnR, headB, rvOf, mSeq, mIf, mOrT, mAndT, mNotT, mTru, mBl, mVD, mVF, mUser, mUser1F, mAC, mAN, mRef, mVar, DL.M.bind, DL.M.ret, DL.M.lift, DL.M.fail, arSls, arSl, lendAt, updB, getL, ownSl, Rs.pure?, Rs.bind, pTru, pBl, mBin, mUn, mRet, mRetF, mSet, mSetF, put, mExpr, mCall, mCallF, mCallW, mPeek, mCons, mNil, mTup, mLst, mL, mAnd, mOr, mNot, mIfE, mStore, mStoreN, mSetAt, mGetL, mPutL, mIxW, mApp, mPar, putS, setSl, mXN, mXC, mXO, mPart, mPartN, mSl, mLam, mLam0, mCallV, mFnAt, callee, capV, mItems, mScr, mScrIx, mScrLen, mScrSl, gN, gT, gsC, gsN, List.getElem?_cons_zero, List.getElem?_cons_succ, List.map_cons, List.map_nil, List.cons_append, List.nil_append, List.length_cons, List.length_nil, List.replicate_zero, List.replicate_succ, List.set_cons_zero, List.set_cons_succ, ite_ap, if_true, if_false, Bool.false_eq_true, Bool.true_eq_false, reduceIte, Nat.reduceSub, Nat.reduceAdd, Bool.not_true, Bool.not_false, Bool.true_and, Bool.false_and, Bool.and_true, Bool.and_false]; rfl) ⟨A, B, C, _, _, _, rfl⟩ (fun d _ ρ hI => by
      obtain ⟨A, B, C, s5, s7, s8, rfl⟩ := hI
      obtain ⟨x, hx, A1, B1, C1, e1⟩ := s_of A B C ((srtL r.length).map natT) (by simpa using hne) (by rw [List.length_map]; omega) (ltL (srtL r.length)) (.inl rfl)
      obtain ⟨l, hl, rfl⟩ := List.mem_map.mp hx
      obtain ⟨m1, m2⟩ := srt_mem h12 hl
      have e2 := s_law_watched r hr.1 h12 l m2 (by omega)
      have e3 := s_is_watched r hr l (lots_asc _ _ ((srt_perm h12).mem_iff.mp hl)) m2 (by omega)
      have er := repr_ok (d := .list [.bool (watchB (seenA r) l), .bool (watchB (seenA r) l)]) (n := 100) (Rp.list (k := 19) (m := 10) (fun z hz => by
        rcases List.mem_cons.mp hz with rfl | hz
        · exact Rp.bool
        · rw [List.mem_singleton.mp hz]; exact Rp.bool) (by show 2 * 11 ≤ 100; decide)) (by decide)
      refine ⟨_, _, rfl, .inl ?_, A1, B1, C1, .dat (natT l), .dat (.int d), .dat (.bool (watchB (seenA r) l)), rfl⟩
      simp only [b__law_right_2, e1, e2, e3, er, ne_same, grd, one1_l, one1_t, Option.bind_some, putG, mAsg, mCallK, mUserK, permL, List.filterMap_cons, List.filterMap_nil, qTup, Nat.reduceLeDiff, Nat.reduceLT, Nat.zero_add, and_self, modR, fdR, mulMod, mulModL, Int.reduceLT, Int.reduceLE, Int.reduceNeg, at3_0, at3_1, at3_2, at2_0, at2_1, ix3_0, ix3_1, ix3_2, mulR, mulL, add_ii, sub_ii, gt_ii, lt_ii, ge_ii, le_ii, ix_l, ix_t, ofO_s, int_i, len_l, len_t, fnR, headB, rvOf, mSeq, mIf, mOrT, mAndT, mNotT, mTru, mBl, mVD, mVF, mUser, mUser1F, mAC, mAN, mRef, mVar, DL.M.bind, DL.M.ret, DL.M.lift, DL.M.fail, arSls, arSl, lendAt, updB, getL, ownSl, Rs.pure?, Rs.bind, pTru, pBl, mBin, mUn, mRet, mRetF, mSet, mSetF, put, mExpr, mCall, mCallF, mCallW, mPeek, mCons, mNil, mTup, mLst, mL, mAnd, mOr, mNot, mIfE, mStore, mStoreN, mSetAt, mGetL, mPutL, mIxW, mApp, mPar, putS, setSl, mXN, mXC, mXO, mPart, mPartN, mSl, mLam, mLam0, mCallV, mFnAt, callee, capV, mItems, mScr, mScrIx, mScrLen, mScrSl, gN, gT, gsC, gsN, List.getElem?_cons_zero, List.getElem?_cons_succ, List.map_cons, List.map_nil, List.cons_append, List.nil_append, List.length_cons, List.length_nil, List.replicate_zero, List.replicate_succ, List.set_cons_zero, List.set_cons_succ, ite_ap, if_true, if_false, Bool.false_eq_true, Bool.true_eq_false, reduceIte, Nat.reduceSub, Nat.reduceAdd, Bool.not_true, Bool.not_false, Bool.true_and, Bool.false_and, Bool.and_true, Bool.and_false])
  exact ⟨A', B', C', s5', s7', s8', q⟩
theorem lot_drawn (A B C : Int) (n : Nat) (hn : n ≤ 12) (s1 s2 s3 s4 s5 s6 s7 s8 : Slot) (R : D) (hR : pLen [R] = .ok (.int n)) : ∃ (lot : List Nat) (A' B' C' : Int), c__law_right_1 [.bor [.int A, .int B, .int C], s1, s2, s3, s4, s5, s6, s7, s8, .dat R, .emp] = (.ok (lot.map fun (k : Nat) => .int (k : Int)), [.bor [.int A', .int B', .int C'], s1, s2, s3, s4, s5, s6, s7, s8, .dat R, .emp]) ∧ lot.Sublist (List.range n) := by
  obtain ⟨ds, ρ2, ec, A', B', C', lot, rfl, rfl, hm⟩ := lcS_filt (vs := [10]) (g := gN 10) (mt := mBl (mBin pEq (mVD (mUser S__law_take (mRef 0 (mAC (.ret (.int 3)) mAN)))) (.ret (.int 0)))) (me := mVar 10) (List.range n) (fun (i : Nat) => .int (i : Int)) (mi := mCallF pRng1 (mCons (mCall pLen (mCons (mVar 9) mNil)) mNil)) (ρ := [.bor [.int A, .int B, .int C], s1, s2, s3, s4, s5, s6, s7, s8, .dat R, .emp]) (ρ1 := [.bor [.int A, .int B, .int C], s1, s2, s3, s4, s5, s6, s7, s8, .dat R, .emp])
    (fun done acc ρ => ∃ (A B C : Int) (lot : List Nat), ρ = [.bor [.int A, .int B, .int C], hideS s1, hideS s2, hideS s3, hideS s4, hideS s5, hideS s6, hideS s7, hideS s8, .dat R, .emp] ∧ acc = lot.map (fun (k : Nat) => .int (k : Int)) ∧ lot.Sublist done)
    (by simp only [hR, rng1_ok (show (n : Int) < 1000000000 by omega) (by omega), rng_map0, Int.toNat_natCast, grd, one1_l, one1_t, Option.bind_some, putG, mAsg, mCallK, mUserK, permL, List.filterMap_cons, List.filterMap_nil, qTup, Nat.reduceLeDiff, Nat.reduceLT, Nat.zero_add, and_self, modR, fdR, mulMod, mulModL, Int.reduceLT, Int.reduceLE, Int.reduceNeg, at3_0, at3_1, at3_2, at2_0, at2_1, ix3_0, ix3_1, ix3_2, mulR, mulL, add_ii, sub_ii, gt_ii, lt_ii, ge_ii, le_ii, ix_l, ix_t, ofO_s, int_i, len_l, len_t, fnR, headB, rvOf, mSeq, mIf, mOrT, mAndT, mNotT, mTru, mBl, mVD, mVF, mUser, mUser1F, mAC, mAN, mRef, mVar, DL.M.bind, DL.M.ret, DL.M.lift, DL.M.fail, arSls, arSl, lendAt, updB, getL, ownSl, Rs.pure?, Rs.bind, pTru, pBl, mBin, mUn, mRet, mRetF, mSet, mSetF, put, mExpr, mCall, mCallF, mCallW, mPeek, mCons, mNil, mTup, mLst, mL, mAnd, mOr, mNot, mIfE, mStore, mStoreN, mSetAt, mGetL, mPutL, mIxW, mApp, mPar, putS, setSl, mXN, mXC, mXO, mPart, mPartN, mSl, mLam, mLam0, mCallV, mFnAt, callee, capV, mItems, mScr, mScrIx, mScrLen, mScrSl, gN, gT, gsC, gsN, List.getElem?_cons_zero, List.getElem?_cons_succ, List.map_cons, List.map_nil, List.cons_append, List.nil_append, List.length_cons, List.length_nil, List.replicate_zero, List.replicate_succ, List.set_cons_zero, List.set_cons_succ, ite_ap, if_true, if_false, Bool.false_eq_true, Bool.true_eq_false, reduceIte, Nat.reduceSub, Nat.reduceAdd, Bool.not_true, Bool.not_false, Bool.true_and, Bool.false_and, Bool.and_true, Bool.and_false]) (by rw [List.length_range]; omega) ⟨A, B, C, [], rfl, rfl, List.Sublist.refl _⟩ (fun done k rest acc ρ hd hI => by
      obtain ⟨A, B, C, lot, rfl, rfl, hm⟩ := hI
      obtain ⟨v, A1, B1, C1, e1, v0, v1⟩ := s_take A B C 3 (by decide) (by decide)
      refine ⟨[.bor [.int A, .int B, .int C], hideS s1, hideS s2, hideS s3, hideS s4, hideS s5, hideS s6, hideS s7, hideS s8, .dat R, .dat (.int k)], [.bor [.int A1, .int B1, .int C1], hideS s1, hideS s2, hideS s3, hideS s4, hideS s5, hideS s6, hideS s7, hideS s8, .dat R, .dat (.int k)], decide (v = 0), .int k, rfl, ?_, fun _ => by simp only [grd, one1_l, one1_t, Option.bind_some, putG, mAsg, mCallK, mUserK, permL, List.filterMap_cons, List.filterMap_nil, qTup, Nat.reduceLeDiff, Nat.reduceLT, Nat.zero_add, and_self, modR, fdR, mulMod, mulModL, Int.reduceLT, Int.reduceLE, Int.reduceNeg, at3_0, at3_1, at3_2, at2_0, at2_1, ix3_0, ix3_1, ix3_2, mulR, mulL, add_ii, sub_ii, gt_ii, lt_ii, ge_ii, le_ii, ix_l, ix_t, ofO_s, int_i, len_l, len_t, fnR, headB, rvOf, mSeq, mIf, mOrT, mAndT, mNotT, mTru, mBl, mVD, mVF, mUser, mUser1F, mAC, mAN, mRef, mVar, DL.M.bind, DL.M.ret, DL.M.lift, DL.M.fail, arSls, arSl, lendAt, updB, getL, ownSl, Rs.pure?, Rs.bind, pTru, pBl, mBin, mUn, mRet, mRetF, mSet, mSetF, put, mExpr, mCall, mCallF, mCallW, mPeek, mCons, mNil, mTup, mLst, mL, mAnd, mOr, mNot, mIfE, mStore, mStoreN, mSetAt, mGetL, mPutL, mIxW, mApp, mPar, putS, setSl, mXN, mXC, mXO, mPart, mPartN, mSl, mLam, mLam0, mCallV, mFnAt, callee, capV, mItems, mScr, mScrIx, mScrLen, mScrSl, gN, gT, gsC, gsN, List.getElem?_cons_zero, List.getElem?_cons_succ, List.map_cons, List.map_nil, List.cons_append, List.nil_append, List.length_cons, List.length_nil, List.replicate_zero, List.replicate_succ, List.set_cons_zero, List.set_cons_succ, ite_ap, if_true, if_false, Bool.false_eq_true, Bool.true_eq_false, reduceIte, Nat.reduceSub, Nat.reduceAdd, Bool.not_true, Bool.not_false, Bool.true_and, Bool.false_and, Bool.and_true, Bool.and_false], A1, B1, C1, (if decide (v = 0) = true then lot ++ [k] else lot), rfl, ?_, ?_⟩
      · simp only [eq_ii, e1, grd, one1_l, one1_t, Option.bind_some, putG, mAsg, mCallK, mUserK, permL, List.filterMap_cons, List.filterMap_nil, qTup, Nat.reduceLeDiff, Nat.reduceLT, Nat.zero_add, and_self, modR, fdR, mulMod, mulModL, Int.reduceLT, Int.reduceLE, Int.reduceNeg, at3_0, at3_1, at3_2, at2_0, at2_1, ix3_0, ix3_1, ix3_2, mulR, mulL, add_ii, sub_ii, gt_ii, lt_ii, ge_ii, le_ii, ix_l, ix_t, ofO_s, int_i, len_l, len_t, fnR, headB, rvOf, mSeq, mIf, mOrT, mAndT, mNotT, mTru, mBl, mVD, mVF, mUser, mUser1F, mAC, mAN, mRef, mVar, DL.M.bind, DL.M.ret, DL.M.lift, DL.M.fail, arSls, arSl, lendAt, updB, getL, ownSl, Rs.pure?, Rs.bind, pTru, pBl, mBin, mUn, mRet, mRetF, mSet, mSetF, put, mExpr, mCall, mCallF, mCallW, mPeek, mCons, mNil, mTup, mLst, mL, mAnd, mOr, mNot, mIfE, mStore, mStoreN, mSetAt, mGetL, mPutL, mIxW, mApp, mPar, putS, setSl, mXN, mXC, mXO, mPart, mPartN, mSl, mLam, mLam0, mCallV, mFnAt, callee, capV, mItems, mScr, mScrIx, mScrLen, mScrSl, gN, gT, gsC, gsN, List.getElem?_cons_zero, List.getElem?_cons_succ, List.map_cons, List.map_nil, List.cons_append, List.nil_append, List.length_cons, List.length_nil, List.replicate_zero, List.replicate_succ, List.set_cons_zero, List.set_cons_succ, ite_ap, if_true, if_false, Bool.false_eq_true, Bool.true_eq_false, reduceIte, Nat.reduceSub, Nat.reduceAdd, Bool.not_true, Bool.not_false, Bool.true_and, Bool.false_and, Bool.and_true, Bool.and_false]
      · split
        · rw [List.map_append]; rfl
        · rfl
      · split
        · exact List.Sublist.append hm (List.Sublist.refl _)
        · exact hm.trans (List.sublist_append_left _ _))
  refine ⟨lot, A', B', C', ?_, hm⟩
  have el : leaveR [10] [.bor [.int A, .int B, .int C], s1, s2, s3, s4, s5, s6, s7, s8, .dat R, .emp] [.bor [.int A', .int B', .int C'], hideS s1, hideS s2, hideS s3, hideS s4, hideS s5, hideS s6, hideS s7, hideS s8, .dat R, .emp] = [.bor [.int A', .int B', .int C'], s1, s2, s3, s4, s5, s6, s7, s8, .dat R, .emp] := by
    show [_, leaveS s1 (hideS s1), leaveS s2 (hideS s2), leaveS s3 (hideS s3), leaveS s4 (hideS s4), leaveS s5 (hideS s5), leaveS s6 (hideS s6), leaveS s7 (hideS s7), leaveS s8 (hideS s8), _, _] = _
    rw [leave_hide, leave_hide, leave_hide, leave_hide, leave_hide, leave_hide, leave_hide, leave_hide]
    rfl
  unfold c__law_right_1
  rw [ec, el]
theorem r_lap (A B C : Int) (s1 s2 s3 s4 s5 s6 s7 s8 s9 : Slot) : ∃ A' B' C' t2 t3 t4 t5 t6 t7 t8 t9, b__law_right_3 [.bor [.int A, .int B, .int C], s1, s2, s3, s4, s5, s6, s7, s8, s9, .emp] = (.ok .nx, [.bor [.int A', .int B', .int C'], s1, t2, t3, t4, t5, t6, t7, t8, t9, .emp]) := by
  obtain ⟨r, A1, B1, C1, e1, r1, r2, r3, r4⟩ := s_row A B C 9 (by decide) (by decide)
  have hr : rowOk r := ⟨r1, r2, r3, by omega⟩
  have h12 := hr.2.2.2
  obtain ⟨x, xs, hw⟩ : ∃ x xs, wtL r = x :: xs := by
    cases z : wtL r with
    | nil => exact absurd z (wt_ne h12)
    | cons x xs => exact ⟨x, xs, rfl⟩
  have hf : (srtL r.length).find? (watchB (seenA r)) = some x := by
    rw [← List.head?_filter]
    show (wtL r).head? = _
    rw [hw]; rfl
  have hxm : x ∈ srtL r.length := by
    have : x ∈ wtL r := by rw [hw]; exact List.mem_cons_self
    exact (List.mem_filter.mp this).1
  obtain ⟨m1, m2⟩ := srt_mem h12 hxm
  obtain ⟨t5, e3⟩ := due_loop r hr (.bor [.int A1, .int B1, .int C1]) s1 s5 s6 s7 s8 s9 .emp
  rw [hf] at e3
  have f1 := s_fewest r hr hw
  have f2 := s_first r hr hw
  have rpx : Rp 19 300 (natT x) := Rp.tup (k := 18) (m := 10) (fun z hz => by
    obtain ⟨k, hk, rfl⟩ := List.mem_map.mp hz
    have := m2 k hk
    exact Rp.int (by omega)) (by rw [List.length_map]; omega)
  have er := repr_ok (d := .list [.int x.length, .int x.length, natT x, natT x]) (n := 10000) (Rp.list (k := 19) (m := 300) (fun z hz => by
    simp only [List.mem_cons, List.not_mem_nil, or_false] at hz
    rcases hz with rfl | rfl | rfl | rfl
    · exact Rp.int (by omega)
    · exact Rp.int (by omega)
    · exact rpx
    · exact rpx) (by show 4 * 301 ≤ 10000; decide)) (by decide)
  obtain ⟨A2, B2, C2, t5', t7, t8, e6⟩ := lap_4 r hr A1 B1 C1 s1 (.dat (natT x)) t5 (.dat (.list [.int x.length, .int x.length, natT x, natT x])) s7 s8 s9 .emp
  obtain ⟨r', A3, B3, C3, e7, p1, p2, p3, p4⟩ := s_row A2 B2 C2 12 (by decide) (by decide)
  have hr' : rowOk r' := ⟨p1, p2, p3, by omega⟩
  obtain ⟨lot, A4, B4, C4, e8, hs⟩ := lot_drawn A3 B3 C3 r'.length hr'.2.2.2 s1 (.dat (intT r)) (.dat (natT x)) (.dat (ltL (srtL r.length))) t5' (.dat (.list [.int x.length, .int x.length, natT x, natT x])) t7 t8 (intT r') DL.len_T
  have l1 : lot.Pairwise (· < ·) := List.Pairwise.sublist hs List.pairwise_lt_range
  have l2 : ∀ y ∈ lot, y < r'.length := fun y hy => List.mem_range.mp (hs.subset hy)
  have l3 : lot.length ≤ 1000 := by
    have := hs.length_le
    rw [List.length_range] at this
    have := hr'.2.2.2
    omega
  have e9 := s_is_watched r' hr' lot l1 l2 l3
  have e10 := s_law_watched r' hr'.1 hr'.2.2.2 lot l2 l3
  have er2 := repr_ok (d := .bool (watchB (seenA r') lot)) (n := 100) Rp.bool (by decide)
  have et : ∀ ρ : Env', mCall (one1 qTup qTup) (mCons (mL fun _ => (.ok (lot.map fun (k : Nat) => PyData.int (k : Int)), ρ)) mNil) ρ = (.ok (natT lot), ρ) := fun ρ => rfl
  refine ⟨A4, B4, C4, .dat (intT r), .dat (natT x), .dat (ltL (srtL r.length)), .dat (natT lot), .dat (.list [.int x.length, .int x.length, natT x, natT x]), t7, t8, .dat (intT r'), ?_⟩
  rw [b3_eq, seqR (ρ1 := [.bor [.int A1, .int B1, .int C1], s1, .dat (intT r), .dat .none, s4, s5, s6, s7, s8, s9, .emp]) (by simp only [q1, e1, grd, one1_l, one1_t, Option.bind_some, putG, mAsg, mCallK, mUserK, permL, List.filterMap_cons, List.filterMap_nil, qTup, Nat.reduceLeDiff, Nat.reduceLT, Nat.zero_add, and_self, modR, fdR, mulMod, mulModL, Int.reduceLT, Int.reduceLE, Int.reduceNeg, at3_0, at3_1, at3_2, at2_0, at2_1, ix3_0, ix3_1, ix3_2, mulR, mulL, add_ii, sub_ii, gt_ii, lt_ii, ge_ii, le_ii, ix_l, ix_t, ofO_s, int_i, len_l, len_t, fnR, headB, rvOf, mSeq, mIf, mOrT, mAndT, mNotT, mTru, mBl, mVD, mVF, mUser, mUser1F, mAC, mAN, mRef, mVar, DL.M.bind, DL.M.ret, DL.M.lift, DL.M.fail, arSls, arSl, lendAt, updB, getL, ownSl, Rs.pure?, Rs.bind, pTru, pBl, mBin, mUn, mRet, mRetF, mSet, mSetF, put, mExpr, mCall, mCallF, mCallW, mPeek, mCons, mNil, mTup, mLst, mL, mAnd, mOr, mNot, mIfE, mStore, mStoreN, mSetAt, mGetL, mPutL, mIxW, mApp, mPar, putS, setSl, mXN, mXC, mXO, mPart, mPartN, mSl, mLam, mLam0, mCallV, mFnAt, callee, capV, mItems, mScr, mScrIx, mScrLen, mScrSl, gN, gT, gsC, gsN, List.getElem?_cons_zero, List.getElem?_cons_succ, List.map_cons, List.map_nil, List.cons_append, List.nil_append, List.length_cons, List.length_nil, List.replicate_zero, List.replicate_succ, List.set_cons_zero, List.set_cons_succ, ite_ap, if_true, if_false, Bool.false_eq_true, Bool.true_eq_false, reduceIte, Nat.reduceSub, Nat.reduceAdd, Bool.not_true, Bool.not_false, Bool.true_and, Bool.false_and, Bool.and_true, Bool.and_false]),
    seqR (ρ1 := [.bor [.int A1, .int B1, .int C1], s1, .dat (intT r), .dat .none, .dat (ltL (srtL r.length)), s5, s6, s7, s8, s9, .emp]) (by simp only [q2, DL.len_T, s_law_lots r.length h12, grd, one1_l, one1_t, Option.bind_some, putG, mAsg, mCallK, mUserK, permL, List.filterMap_cons, List.filterMap_nil, qTup, Nat.reduceLeDiff, Nat.reduceLT, Nat.zero_add, and_self, modR, fdR, mulMod, mulModL, Int.reduceLT, Int.reduceLE, Int.reduceNeg, at3_0, at3_1, at3_2, at2_0, at2_1, ix3_0, ix3_1, ix3_2, mulR, mulL, add_ii, sub_ii, gt_ii, lt_ii, ge_ii, le_ii, ix_l, ix_t, ofO_s, int_i, len_l, len_t, fnR, headB, rvOf, mSeq, mIf, mOrT, mAndT, mNotT, mTru, mBl, mVD, mVF, mUser, mUser1F, mAC, mAN, mRef, mVar, DL.M.bind, DL.M.ret, DL.M.lift, DL.M.fail, arSls, arSl, lendAt, updB, getL, ownSl, Rs.pure?, Rs.bind, pTru, pBl, mBin, mUn, mRet, mRetF, mSet, mSetF, put, mExpr, mCall, mCallF, mCallW, mPeek, mCons, mNil, mTup, mLst, mL, mAnd, mOr, mNot, mIfE, mStore, mStoreN, mSetAt, mGetL, mPutL, mIxW, mApp, mPar, putS, setSl, mXN, mXC, mXO, mPart, mPartN, mSl, mLam, mLam0, mCallV, mFnAt, callee, capV, mItems, mScr, mScrIx, mScrLen, mScrSl, gN, gT, gsC, gsN, List.getElem?_cons_zero, List.getElem?_cons_succ, List.map_cons, List.map_nil, List.cons_append, List.nil_append, List.length_cons, List.length_nil, List.replicate_zero, List.replicate_succ, List.set_cons_zero, List.set_cons_succ, ite_ap, if_true, if_false, Bool.false_eq_true, Bool.true_eq_false, reduceIte, Nat.reduceSub, Nat.reduceAdd, Bool.not_true, Bool.not_false, Bool.true_and, Bool.false_and, Bool.and_true, Bool.and_false]),
    seqR e3,
    seqR (ρ1 := [.bor [.int A1, .int B1, .int C1], s1, .dat (intT r), .dat (natT x), .dat (ltL (srtL r.length)), t5, .dat (.list [.int x.length, .int x.length, natT x, natT x]), s7, s8, s9, .emp]) (by simp only [q4, dueD, f1, f2, grd, one1_l, one1_t, Option.bind_some, putG, mAsg, mCallK, mUserK, permL, List.filterMap_cons, List.filterMap_nil, qTup, Nat.reduceLeDiff, Nat.reduceLT, Nat.zero_add, and_self, modR, fdR, mulMod, mulModL, Int.reduceLT, Int.reduceLE, Int.reduceNeg, at3_0, at3_1, at3_2, at2_0, at2_1, ix3_0, ix3_1, ix3_2, mulR, mulL, add_ii, sub_ii, gt_ii, lt_ii, ge_ii, le_ii, ix_l, ix_t, ofO_s, int_i, len_l, len_t, fnR, headB, rvOf, mSeq, mIf, mOrT, mAndT, mNotT, mTru, mBl, mVD, mVF, mUser, mUser1F, mAC, mAN, mRef, mVar, DL.M.bind, DL.M.ret, DL.M.lift, DL.M.fail, arSls, arSl, lendAt, updB, getL, ownSl, Rs.pure?, Rs.bind, pTru, pBl, mBin, mUn, mRet, mRetF, mSet, mSetF, put, mExpr, mCall, mCallF, mCallW, mPeek, mCons, mNil, mTup, mLst, mL, mAnd, mOr, mNot, mIfE, mStore, mStoreN, mSetAt, mGetL, mPutL, mIxW, mApp, mPar, putS, setSl, mXN, mXC, mXO, mPart, mPartN, mSl, mLam, mLam0, mCallV, mFnAt, callee, capV, mItems, mScr, mScrIx, mScrLen, mScrSl, gN, gT, gsC, gsN, List.getElem?_cons_zero, List.getElem?_cons_succ, List.map_cons, List.map_nil, List.cons_append, List.nil_append, List.length_cons, List.length_nil, List.replicate_zero, List.replicate_succ, List.set_cons_zero, List.set_cons_succ, ite_ap, if_true, if_false, Bool.false_eq_true, Bool.true_eq_false, reduceIte, Nat.reduceSub, Nat.reduceAdd, Bool.not_true, Bool.not_false, Bool.true_and, Bool.false_and, Bool.and_true, Bool.and_false]),
    seqR (ρ1 := [.bor [.int A1, .int B1, .int C1], s1, .dat (intT r), .dat (natT x), .dat (ltL (srtL r.length)), t5, .dat (.list [.int x.length, .int x.length, natT x, natT x]), s7, s8, s9, .emp]) (by simp only [q5, er, len_nT, mul2, add_LLs, ne_same, grd, one1_l, one1_t, Option.bind_some, putG, mAsg, mCallK, mUserK, permL, List.filterMap_cons, List.filterMap_nil, qTup, Nat.reduceLeDiff, Nat.reduceLT, Nat.zero_add, and_self, modR, fdR, mulMod, mulModL, Int.reduceLT, Int.reduceLE, Int.reduceNeg, at3_0, at3_1, at3_2, at2_0, at2_1, ix3_0, ix3_1, ix3_2, mulR, mulL, add_ii, sub_ii, gt_ii, lt_ii, ge_ii, le_ii, ix_l, ix_t, ofO_s, int_i, len_l, len_t, fnR, headB, rvOf, mSeq, mIf, mOrT, mAndT, mNotT, mTru, mBl, mVD, mVF, mUser, mUser1F, mAC, mAN, mRef, mVar, DL.M.bind, DL.M.ret, DL.M.lift, DL.M.fail, arSls, arSl, lendAt, updB, getL, ownSl, Rs.pure?, Rs.bind, pTru, pBl, mBin, mUn, mRet, mRetF, mSet, mSetF, put, mExpr, mCall, mCallF, mCallW, mPeek, mCons, mNil, mTup, mLst, mL, mAnd, mOr, mNot, mIfE, mStore, mStoreN, mSetAt, mGetL, mPutL, mIxW, mApp, mPar, putS, setSl, mXN, mXC, mXO, mPart, mPartN, mSl, mLam, mLam0, mCallV, mFnAt, callee, capV, mItems, mScr, mScrIx, mScrLen, mScrSl, gN, gT, gsC, gsN, List.getElem?_cons_zero, List.getElem?_cons_succ, List.map_cons, List.map_nil, List.cons_append, List.nil_append, List.length_cons, List.length_nil, List.replicate_zero, List.replicate_succ, List.set_cons_zero, List.set_cons_succ, ite_ap, if_true, if_false, Bool.false_eq_true, Bool.true_eq_false, reduceIte, Nat.reduceSub, Nat.reduceAdd, Bool.not_true, Bool.not_false, Bool.true_and, Bool.false_and, Bool.and_true, Bool.and_false]),
    seqR e6,
    seqR (ρ1 := [.bor [.int A3, .int B3, .int C3], s1, .dat (intT r), .dat (natT x), .dat (ltL (srtL r.length)), t5', .dat (.list [.int x.length, .int x.length, natT x, natT x]), t7, t8, .dat (intT r'), .emp]) (by simp only [q7, e7, grd, one1_l, one1_t, Option.bind_some, putG, mAsg, mCallK, mUserK, permL, List.filterMap_cons, List.filterMap_nil, qTup, Nat.reduceLeDiff, Nat.reduceLT, Nat.zero_add, and_self, modR, fdR, mulMod, mulModL, Int.reduceLT, Int.reduceLE, Int.reduceNeg, at3_0, at3_1, at3_2, at2_0, at2_1, ix3_0, ix3_1, ix3_2, mulR, mulL, add_ii, sub_ii, gt_ii, lt_ii, ge_ii, le_ii, ix_l, ix_t, ofO_s, int_i, len_l, len_t, fnR, headB, rvOf, mSeq, mIf, mOrT, mAndT, mNotT, mTru, mBl, mVD, mVF, mUser, mUser1F, mAC, mAN, mRef, mVar, DL.M.bind, DL.M.ret, DL.M.lift, DL.M.fail, arSls, arSl, lendAt, updB, getL, ownSl, Rs.pure?, Rs.bind, pTru, pBl, mBin, mUn, mRet, mRetF, mSet, mSetF, put, mExpr, mCall, mCallF, mCallW, mPeek, mCons, mNil, mTup, mLst, mL, mAnd, mOr, mNot, mIfE, mStore, mStoreN, mSetAt, mGetL, mPutL, mIxW, mApp, mPar, putS, setSl, mXN, mXC, mXO, mPart, mPartN, mSl, mLam, mLam0, mCallV, mFnAt, callee, capV, mItems, mScr, mScrIx, mScrLen, mScrSl, gN, gT, gsC, gsN, List.getElem?_cons_zero, List.getElem?_cons_succ, List.map_cons, List.map_nil, List.cons_append, List.nil_append, List.length_cons, List.length_nil, List.replicate_zero, List.replicate_succ, List.set_cons_zero, List.set_cons_succ, ite_ap, if_true, if_false, Bool.false_eq_true, Bool.true_eq_false, reduceIte, Nat.reduceSub, Nat.reduceAdd, Bool.not_true, Bool.not_false, Bool.true_and, Bool.false_and, Bool.and_true, Bool.and_false]),
    seqR (ρ1 := [.bor [.int A4, .int B4, .int C4], s1, .dat (intT r), .dat (natT x), .dat (ltL (srtL r.length)), .dat (natT lot), .dat (.list [.int x.length, .int x.length, natT x, natT x]), t7, t8, .dat (intT r'), .emp]) (by simp only [q8, e8, grd, one1_l, one1_t, Option.bind_some, putG, mAsg, mCallK, mUserK, permL, List.filterMap_cons, List.filterMap_nil, qTup, Nat.reduceLeDiff, Nat.reduceLT, Nat.zero_add, and_self, modR, fdR, mulMod, mulModL, Int.reduceLT, Int.reduceLE, Int.reduceNeg, at3_0, at3_1, at3_2, at2_0, at2_1, ix3_0, ix3_1, ix3_2, mulR, mulL, add_ii, sub_ii, gt_ii, lt_ii, ge_ii, le_ii, ix_l, ix_t, ofO_s, int_i, len_l, len_t, fnR, headB, rvOf, mSeq, mIf, mOrT, mAndT, mNotT, mTru, mBl, mVD, mVF, mUser, mUser1F, mAC, mAN, mRef, mVar, DL.M.bind, DL.M.ret, DL.M.lift, DL.M.fail, arSls, arSl, lendAt, updB, getL, ownSl, Rs.pure?, Rs.bind, pTru, pBl, mBin, mUn, mRet, mRetF, mSet, mSetF, put, mExpr, mCall, mCallF, mCallW, mPeek, mCons, mNil, mTup, mLst, mL, mAnd, mOr, mNot, mIfE, mStore, mStoreN, mSetAt, mGetL, mPutL, mIxW, mApp, mPar, putS, setSl, mXN, mXC, mXO, mPart, mPartN, mSl, mLam, mLam0, mCallV, mFnAt, callee, capV, mItems, mScr, mScrIx, mScrLen, mScrSl, gN, gT, gsC, gsN, List.getElem?_cons_zero, List.getElem?_cons_succ, List.map_cons, List.map_nil, List.cons_append, List.nil_append, List.length_cons, List.length_nil, List.replicate_zero, List.replicate_succ, List.set_cons_zero, List.set_cons_succ, ite_ap, if_true, if_false, Bool.false_eq_true, Bool.true_eq_false, reduceIte, Nat.reduceSub, Nat.reduceAdd, Bool.not_true, Bool.not_false, Bool.true_and, Bool.false_and, Bool.and_true, Bool.and_false]; rfl)]
  simp only [q9, e9, e10, er2, ne_same, grd, one1_l, one1_t, Option.bind_some, putG, mAsg, mCallK, mUserK, permL, List.filterMap_cons, List.filterMap_nil, qTup, Nat.reduceLeDiff, Nat.reduceLT, Nat.zero_add, and_self, modR, fdR, mulMod, mulModL, Int.reduceLT, Int.reduceLE, Int.reduceNeg, at3_0, at3_1, at3_2, at2_0, at2_1, ix3_0, ix3_1, ix3_2, mulR, mulL, add_ii, sub_ii, gt_ii, lt_ii, ge_ii, le_ii, ix_l, ix_t, ofO_s, int_i, len_l, len_t, fnR, headB, rvOf, mSeq, mIf, mOrT, mAndT, mNotT, mTru, mBl, mVD, mVF, mUser, mUser1F, mAC, mAN, mRef, mVar, DL.M.bind, DL.M.ret, DL.M.lift, DL.M.fail, arSls, arSl, lendAt, updB, getL, ownSl, Rs.pure?, Rs.bind, pTru, pBl, mBin, mUn, mRet, mRetF, mSet, mSetF, put, mExpr, mCall, mCallF, mCallW, mPeek, mCons, mNil, mTup, mLst, mL, mAnd, mOr, mNot, mIfE, mStore, mStoreN, mSetAt, mGetL, mPutL, mIxW, mApp, mPar, putS, setSl, mXN, mXC, mXO, mPart, mPartN, mSl, mLam, mLam0, mCallV, mFnAt, callee, capV, mItems, mScr, mScrIx, mScrLen, mScrSl, gN, gT, gsC, gsN, List.getElem?_cons_zero, List.getElem?_cons_succ, List.map_cons, List.map_nil, List.cons_append, List.nil_append, List.length_cons, List.length_nil, List.replicate_zero, List.replicate_succ, List.set_cons_zero, List.set_cons_succ, ite_ap, if_true, if_false, Bool.false_eq_true, Bool.true_eq_false, reduceIte, Nat.reduceSub, Nat.reduceAdd, Bool.not_true, Bool.not_false, Bool.true_and, Bool.false_and, Bool.and_true, Bool.and_false]
theorem s_right (A B C : Int) : ∃ ys, S__law_right [.bor [.int A, .int B, .int C]] = (.ok (.d (.bool true)), ys) := by
  obtain ⟨ρ', q, A', B', C', s1, s2, s3, s4, s5, s6, s7, s8, s9, rfl⟩ := for_keep (mi := i__law_right_3) (g := gN 1) (body := b__law_right_3) (List.range 2) (fun (i : Nat) => .int (i : Int)) (ρ := [.bor [.int A, .int B, .int C], .emp, .emp, .emp, .emp, .emp, .emp, .emp, .emp, .emp, .emp]) (ρ1 := [.bor [.int A, .int B, .int C], .emp, .emp, .emp, .emp, .emp, .emp, .emp, .emp, .emp, .emp])
    (fun ρ => ∃ A' B' C' s1 s2 s3 s4 s5 s6 s7 s8 s9, ρ = [.bor [.int A', .int B', .int C'], s1, s2, s3, s4, s5, s6, s7, s8, s9, .emp])
    (by simp only [i__law_right_3, rng1_ok (show (2 : Int) < 1000000000 by decide) (by decide), rng_map0, grd, one1_l, one1_t, Option.bind_some, putG, mAsg, mCallK, mUserK, permL, List.filterMap_cons, List.filterMap_nil, qTup, Nat.reduceLeDiff, Nat.reduceLT, Nat.zero_add, and_self, modR, fdR, mulMod, mulModL, Int.reduceLT, Int.reduceLE, Int.reduceNeg, at3_0, at3_1, at3_2, at2_0, at2_1, ix3_0, ix3_1, ix3_2, mulR, mulL, add_ii, sub_ii, gt_ii, lt_ii, ge_ii, le_ii, ix_l, ix_t, ofO_s, int_i, len_l, len_t, fnR, headB, rvOf, mSeq, mIf, mOrT, mAndT, mNotT, mTru, mBl, mVD, mVF, mUser, mUser1F, mAC, mAN, mRef, mVar, DL.M.bind, DL.M.ret, DL.M.lift, DL.M.fail, arSls, arSl, lendAt, updB, getL, ownSl, Rs.pure?, Rs.bind, pTru, pBl, mBin, mUn, mRet, mRetF, mSet, mSetF, put, mExpr, mCall, mCallF, mCallW, mPeek, mCons, mNil, mTup, mLst, mL, mAnd, mOr, mNot, mIfE, mStore, mStoreN, mSetAt, mGetL, mPutL, mIxW, mApp, mPar, putS, setSl, mXN, mXC, mXO, mPart, mPartN, mSl, mLam, mLam0, mCallV, mFnAt, callee, capV, mItems, mScr, mScrIx, mScrLen, mScrSl, gN, gT, gsC, gsN, List.getElem?_cons_zero, List.getElem?_cons_succ, List.map_cons, List.map_nil, List.cons_append, List.nil_append, List.length_cons, List.length_nil, List.replicate_zero, List.replicate_succ, List.set_cons_zero, List.set_cons_succ, ite_ap, if_true, if_false, Bool.false_eq_true, Bool.true_eq_false, reduceIte, Nat.reduceSub, Nat.reduceAdd, Bool.not_true, Bool.not_false, Bool.true_and, Bool.false_and, Bool.and_true, Bool.and_false]; rfl) ⟨A, B, C, _, _, _, _, _, _, _, _, _, rfl⟩ (fun d _ ρ hI => by
      obtain ⟨A, B, C, s1, s2, s3, s4, s5, s6, s7, s8, s9, rfl⟩ := hI
      obtain ⟨A', B', C', t2, t3, t4, t5, t6, t7, t8, t9, e⟩ := r_lap A B C (.dat (.int d)) s2 s3 s4 s5 s6 s7 s8 s9
      exact ⟨_, _, rfl, .inl e, A', B', C', _, _, _, _, _, _, _, _, _, rfl⟩)
  refine ⟨[.int A', .int B', .int C'], ?_⟩
  unfold S__law_right
  refine fnR_bor (r := .ok (.rt (.bool true))) (ρ' := [s1, s2, s3, s4, s5, s6, s7, s8, s9, .emp]) ?_
  show m__law_right [.bor [.int A, .int B, .int C], .emp, .emp, .emp, .emp, .emp, .emp, .emp, .emp, .emp, .emp] = _
  unfold m__law_right
  rw [seqR q]
  simp only [grd, one1_l, one1_t, Option.bind_some, putG, mAsg, mCallK, mUserK, permL, List.filterMap_cons, List.filterMap_nil, qTup, Nat.reduceLeDiff, Nat.reduceLT, Nat.zero_add, and_self, modR, fdR, mulMod, mulModL, Int.reduceLT, Int.reduceLE, Int.reduceNeg, at3_0, at3_1, at3_2, at2_0, at2_1, ix3_0, ix3_1, ix3_2, mulR, mulL, add_ii, sub_ii, gt_ii, lt_ii, ge_ii, le_ii, ix_l, ix_t, ofO_s, int_i, len_l, len_t, fnR, headB, rvOf, mSeq, mIf, mOrT, mAndT, mNotT, mTru, mBl, mVD, mVF, mUser, mUser1F, mAC, mAN, mRef, mVar, DL.M.bind, DL.M.ret, DL.M.lift, DL.M.fail, arSls, arSl, lendAt, updB, getL, ownSl, Rs.pure?, Rs.bind, pTru, pBl, mBin, mUn, mRet, mRetF, mSet, mSetF, put, mExpr, mCall, mCallF, mCallW, mPeek, mCons, mNil, mTup, mLst, mL, mAnd, mOr, mNot, mIfE, mStore, mStoreN, mSetAt, mGetL, mPutL, mIxW, mApp, mPar, putS, setSl, mXN, mXC, mXO, mPart, mPartN, mSl, mLam, mLam0, mCallV, mFnAt, callee, capV, mItems, mScr, mScrIx, mScrLen, mScrSl, gN, gT, gsC, gsN, List.getElem?_cons_zero, List.getElem?_cons_succ, List.map_cons, List.map_nil, List.cons_append, List.nil_append, List.length_cons, List.length_nil, List.replicate_zero, List.replicate_succ, List.set_cons_zero, List.set_cons_succ, ite_ap, if_true, if_false, Bool.false_eq_true, Bool.true_eq_false, reduceIte, Nat.reduceSub, Nat.reduceAdd, Bool.not_true, Bool.not_false, Bool.true_and, Bool.false_and, Bool.and_true, Bool.and_false]
theorem pow15 : pPow (.int 10) (.int 15) = .ok (.int 1000000000000000) := grd_t ⟨by decide, by decide, by decide⟩
theorem s_urn (ns : List Int) (t : Int) (h0 : 0 ≤ t) : ∃ x y z, S__law_urn [.scr ns, .dat (.int t)] = (.ok (.l [.int x, .int y, .int z]), []) := by
  obtain ⟨ρ', q, m, c, rfl⟩ := for_inv (mi := i__law_urn_1) (g := gN 3) (body := b__law_urn_1) (ds := cutD (ns.map PyData.int) none (some 9)) (ρ := [.scr ns, .dat (.int t), .dat (.int (579017 + 8111 * t)), .emp, .emp]) (ρ1 := [.scr ns, .dat (.int t), .dat (.int (579017 + 8111 * t)), .emp, .emp])
    (fun done ρ => ∃ m c, ρ = [.scr ns, .dat (.int t), .dat (.int m), c, .emp]) (by simp only [i__law_urn_1, pItems, grd, one1_l, one1_t, Option.bind_some, putG, mAsg, mCallK, mUserK, permL, List.filterMap_cons, List.filterMap_nil, qTup, Nat.reduceLeDiff, Nat.reduceLT, Nat.zero_add, and_self, modR, fdR, mulMod, mulModL, Int.reduceLT, Int.reduceLE, Int.reduceNeg, at3_0, at3_1, at3_2, at2_0, at2_1, ix3_0, ix3_1, ix3_2, mulR, mulL, add_ii, sub_ii, gt_ii, lt_ii, ge_ii, le_ii, ix_l, ix_t, ofO_s, int_i, len_l, len_t, fnR, headB, rvOf, mSeq, mIf, mOrT, mAndT, mNotT, mTru, mBl, mVD, mVF, mUser, mUser1F, mAC, mAN, mRef, mVar, DL.M.bind, DL.M.ret, DL.M.lift, DL.M.fail, arSls, arSl, lendAt, updB, getL, ownSl, Rs.pure?, Rs.bind, pTru, pBl, mBin, mUn, mRet, mRetF, mSet, mSetF, put, mExpr, mCall, mCallF, mCallW, mPeek, mCons, mNil, mTup, mLst, mL, mAnd, mOr, mNot, mIfE, mStore, mStoreN, mSetAt, mGetL, mPutL, mIxW, mApp, mPar, putS, setSl, mXN, mXC, mXO, mPart, mPartN, mSl, mLam, mLam0, mCallV, mFnAt, callee, capV, mItems, mScr, mScrIx, mScrLen, mScrSl, gN, gT, gsC, gsN, List.getElem?_cons_zero, List.getElem?_cons_succ, List.map_cons, List.map_nil, List.cons_append, List.nil_append, List.length_cons, List.length_nil, List.replicate_zero, List.replicate_succ, List.set_cons_zero, List.set_cons_succ, ite_ap, if_true, if_false, Bool.false_eq_true, Bool.true_eq_false, reduceIte, Nat.reduceSub, Nat.reduceAdd, Bool.not_true, Bool.not_false, Bool.true_and, Bool.false_and, Bool.and_true, Bool.and_false]) ⟨_, _, rfl⟩ (fun done d rest hd ρ hI => by
      obtain ⟨m, c, rfl⟩ := hI
      have hm : d ∈ cutD (ns.map PyData.int) none (some 9) := by rw [hd]; simp
      obtain ⟨z, rfl⟩ : ∃ z, d = .int z := by
        have h := List.mem_of_mem_drop (List.mem_of_mem_take hm)
        obtain ⟨z, _, rfl⟩ := List.mem_map.mp h
        exact ⟨z, rfl⟩
      exact ⟨_, _, rfl, .inl (by simp only [b__law_urn_1, grd, one1_l, one1_t, Option.bind_some, putG, mAsg, mCallK, mUserK, permL, List.filterMap_cons, List.filterMap_nil, qTup, Nat.reduceLeDiff, Nat.reduceLT, Nat.zero_add, and_self, modR, fdR, mulMod, mulModL, Int.reduceLT, Int.reduceLE, Int.reduceNeg, at3_0, at3_1, at3_2, at2_0, at2_1, ix3_0, ix3_1, ix3_2, mulR, mulL, add_ii, sub_ii, gt_ii, lt_ii, ge_ii, le_ii, ix_l, ix_t, ofO_s, int_i, len_l, len_t, fnR, headB, rvOf, mSeq, mIf, mOrT, mAndT, mNotT, mTru, mBl, mVD, mVF, mUser, mUser1F, mAC, mAN, mRef, mVar, DL.M.bind, DL.M.ret, DL.M.lift, DL.M.fail, arSls, arSl, lendAt, updB, getL, ownSl, Rs.pure?, Rs.bind, pTru, pBl, mBin, mUn, mRet, mRetF, mSet, mSetF, put, mExpr, mCall, mCallF, mCallW, mPeek, mCons, mNil, mTup, mLst, mL, mAnd, mOr, mNot, mIfE, mStore, mStoreN, mSetAt, mGetL, mPutL, mIxW, mApp, mPar, putS, setSl, mXN, mXC, mXO, mPart, mPartN, mSl, mLam, mLam0, mCallV, mFnAt, callee, capV, mItems, mScr, mScrIx, mScrLen, mScrSl, gN, gT, gsC, gsN, List.getElem?_cons_zero, List.getElem?_cons_succ, List.map_cons, List.map_nil, List.cons_append, List.nil_append, List.length_cons, List.length_nil, List.replicate_zero, List.replicate_succ, List.set_cons_zero, List.set_cons_succ, ite_ap, if_true, if_false, Bool.false_eq_true, Bool.true_eq_false, reduceIte, Nat.reduceSub, Nat.reduceAdd, Bool.not_true, Bool.not_false, Bool.true_and, Bool.false_and, Bool.and_true, Bool.and_false]; rfl), _, _, rfl⟩)
  obtain ⟨o, eo⟩ : ∃ o : Int, (mSet 4 (mIfE (mBl (mBin pLt (mVar 1) (mScrLen 0))) (mCall pInt (mCons (mScrIx 0 (mVar 1)) mNil)) (.ret (.int 0)))) [.scr ns, .dat (.int t), .dat (.int m), c, .emp] = (.ok .nx, [.scr ns, .dat (.int t), .dat (.int m), c, .dat (.int o)]) := by
    by_cases h : t < (ns.length : Int)
    · have h' := decide_eq_true h
      have ha : atI ns t = some (ns[t.toNat]'(by omega)) := by
        unfold atI ixN
        rw [if_pos h0, if_pos h]
        exact List.getElem?_eq_getElem (by omega)
      exact ⟨ns[t.toNat]'(by omega), by simp only [h', ha, grd, one1_l, one1_t, Option.bind_some, putG, mAsg, mCallK, mUserK, permL, List.filterMap_cons, List.filterMap_nil, qTup, Nat.reduceLeDiff, Nat.reduceLT, Nat.zero_add, and_self, modR, fdR, mulMod, mulModL, Int.reduceLT, Int.reduceLE, Int.reduceNeg, at3_0, at3_1, at3_2, at2_0, at2_1, ix3_0, ix3_1, ix3_2, mulR, mulL, add_ii, sub_ii, gt_ii, lt_ii, ge_ii, le_ii, ix_l, ix_t, ofO_s, int_i, len_l, len_t, fnR, headB, rvOf, mSeq, mIf, mOrT, mAndT, mNotT, mTru, mBl, mVD, mVF, mUser, mUser1F, mAC, mAN, mRef, mVar, DL.M.bind, DL.M.ret, DL.M.lift, DL.M.fail, arSls, arSl, lendAt, updB, getL, ownSl, Rs.pure?, Rs.bind, pTru, pBl, mBin, mUn, mRet, mRetF, mSet, mSetF, put, mExpr, mCall, mCallF, mCallW, mPeek, mCons, mNil, mTup, mLst, mL, mAnd, mOr, mNot, mIfE, mStore, mStoreN, mSetAt, mGetL, mPutL, mIxW, mApp, mPar, putS, setSl, mXN, mXC, mXO, mPart, mPartN, mSl, mLam, mLam0, mCallV, mFnAt, callee, capV, mItems, mScr, mScrIx, mScrLen, mScrSl, gN, gT, gsC, gsN, List.getElem?_cons_zero, List.getElem?_cons_succ, List.map_cons, List.map_nil, List.cons_append, List.nil_append, List.length_cons, List.length_nil, List.replicate_zero, List.replicate_succ, List.set_cons_zero, List.set_cons_succ, ite_ap, if_true, if_false, Bool.false_eq_true, Bool.true_eq_false, reduceIte, Nat.reduceSub, Nat.reduceAdd, Bool.not_true, Bool.not_false, Bool.true_and, Bool.false_and, Bool.and_true, Bool.and_false]⟩
    · have h' := decide_eq_false h
      exact ⟨0, by simp only [h', grd, one1_l, one1_t, Option.bind_some, putG, mAsg, mCallK, mUserK, permL, List.filterMap_cons, List.filterMap_nil, qTup, Nat.reduceLeDiff, Nat.reduceLT, Nat.zero_add, and_self, modR, fdR, mulMod, mulModL, Int.reduceLT, Int.reduceLE, Int.reduceNeg, at3_0, at3_1, at3_2, at2_0, at2_1, ix3_0, ix3_1, ix3_2, mulR, mulL, add_ii, sub_ii, gt_ii, lt_ii, ge_ii, le_ii, ix_l, ix_t, ofO_s, int_i, len_l, len_t, fnR, headB, rvOf, mSeq, mIf, mOrT, mAndT, mNotT, mTru, mBl, mVD, mVF, mUser, mUser1F, mAC, mAN, mRef, mVar, DL.M.bind, DL.M.ret, DL.M.lift, DL.M.fail, arSls, arSl, lendAt, updB, getL, ownSl, Rs.pure?, Rs.bind, pTru, pBl, mBin, mUn, mRet, mRetF, mSet, mSetF, put, mExpr, mCall, mCallF, mCallW, mPeek, mCons, mNil, mTup, mLst, mL, mAnd, mOr, mNot, mIfE, mStore, mStoreN, mSetAt, mGetL, mPutL, mIxW, mApp, mPar, putS, setSl, mXN, mXC, mXO, mPart, mPartN, mSl, mLam, mLam0, mCallV, mFnAt, callee, capV, mItems, mScr, mScrIx, mScrLen, mScrSl, gN, gT, gsC, gsN, List.getElem?_cons_zero, List.getElem?_cons_succ, List.map_cons, List.map_nil, List.cons_append, List.nil_append, List.length_cons, List.length_nil, List.replicate_zero, List.replicate_succ, List.set_cons_zero, List.set_cons_succ, ite_ap, if_true, if_false, Bool.false_eq_true, Bool.true_eq_false, reduceIte, Nat.reduceSub, Nat.reduceAdd, Bool.not_true, Bool.not_false, Bool.true_and, Bool.false_and, Bool.and_true, Bool.and_false]⟩
  have fin : ∃ X Y ρ', m__law_urn [.scr ns, .dat (.int t), .emp, .emp, .emp] = (.ok (.rtF [.int X, .int Y, .int 0]), ρ') := by
    unfold m__law_urn
    rw [seqR (ρ1 := [.scr ns, .dat (.int t), .dat (.int (579017 + 8111 * t)), .emp, .emp]) (by simp only [grd, one1_l, one1_t, Option.bind_some, putG, mAsg, mCallK, mUserK, permL, List.filterMap_cons, List.filterMap_nil, qTup, Nat.reduceLeDiff, Nat.reduceLT, Nat.zero_add, and_self, modR, fdR, mulMod, mulModL, Int.reduceLT, Int.reduceLE, Int.reduceNeg, at3_0, at3_1, at3_2, at2_0, at2_1, ix3_0, ix3_1, ix3_2, mulR, mulL, add_ii, sub_ii, gt_ii, lt_ii, ge_ii, le_ii, ix_l, ix_t, ofO_s, int_i, len_l, len_t, fnR, headB, rvOf, mSeq, mIf, mOrT, mAndT, mNotT, mTru, mBl, mVD, mVF, mUser, mUser1F, mAC, mAN, mRef, mVar, DL.M.bind, DL.M.ret, DL.M.lift, DL.M.fail, arSls, arSl, lendAt, updB, getL, ownSl, Rs.pure?, Rs.bind, pTru, pBl, mBin, mUn, mRet, mRetF, mSet, mSetF, put, mExpr, mCall, mCallF, mCallW, mPeek, mCons, mNil, mTup, mLst, mL, mAnd, mOr, mNot, mIfE, mStore, mStoreN, mSetAt, mGetL, mPutL, mIxW, mApp, mPar, putS, setSl, mXN, mXC, mXO, mPart, mPartN, mSl, mLam, mLam0, mCallV, mFnAt, callee, capV, mItems, mScr, mScrIx, mScrLen, mScrSl, gN, gT, gsC, gsN, List.getElem?_cons_zero, List.getElem?_cons_succ, List.map_cons, List.map_nil, List.cons_append, List.nil_append, List.length_cons, List.length_nil, List.replicate_zero, List.replicate_succ, List.set_cons_zero, List.set_cons_succ, ite_ap, if_true, if_false, Bool.false_eq_true, Bool.true_eq_false, reduceIte, Nat.reduceSub, Nat.reduceAdd, Bool.not_true, Bool.not_false, Bool.true_and, Bool.false_and, Bool.and_true, Bool.and_false]), seqR q, seqR eo]
    by_cases g1 : o < 0
    · have g1' := decide_eq_true g1
      exact ⟨if o < 0 then -o else o, (m*59+o%2147483477*30029+5)%2147483629, _, by simp only [g1', pAbs, grd, one1_l, one1_t, Option.bind_some, putG, mAsg, mCallK, mUserK, permL, List.filterMap_cons, List.filterMap_nil, qTup, Nat.reduceLeDiff, Nat.reduceLT, Nat.zero_add, and_self, modR, fdR, mulMod, mulModL, Int.reduceLT, Int.reduceLE, Int.reduceNeg, at3_0, at3_1, at3_2, at2_0, at2_1, ix3_0, ix3_1, ix3_2, mulR, mulL, add_ii, sub_ii, gt_ii, lt_ii, ge_ii, le_ii, ix_l, ix_t, ofO_s, int_i, len_l, len_t, fnR, headB, rvOf, mSeq, mIf, mOrT, mAndT, mNotT, mTru, mBl, mVD, mVF, mUser, mUser1F, mAC, mAN, mRef, mVar, DL.M.bind, DL.M.ret, DL.M.lift, DL.M.fail, arSls, arSl, lendAt, updB, getL, ownSl, Rs.pure?, Rs.bind, pTru, pBl, mBin, mUn, mRet, mRetF, mSet, mSetF, put, mExpr, mCall, mCallF, mCallW, mPeek, mCons, mNil, mTup, mLst, mL, mAnd, mOr, mNot, mIfE, mStore, mStoreN, mSetAt, mGetL, mPutL, mIxW, mApp, mPar, putS, setSl, mXN, mXC, mXO, mPart, mPartN, mSl, mLam, mLam0, mCallV, mFnAt, callee, capV, mItems, mScr, mScrIx, mScrLen, mScrSl, gN, gT, gsC, gsN, List.getElem?_cons_zero, List.getElem?_cons_succ, List.map_cons, List.map_nil, List.cons_append, List.nil_append, List.length_cons, List.length_nil, List.replicate_zero, List.replicate_succ, List.set_cons_zero, List.set_cons_succ, ite_ap, if_true, if_false, Bool.false_eq_true, Bool.true_eq_false, reduceIte, Nat.reduceSub, Nat.reduceAdd, Bool.not_true, Bool.not_false, Bool.true_and, Bool.false_and, Bool.and_true, Bool.and_false]; rfl⟩
    · have g1' := decide_eq_false g1
      by_cases g2 : 1000000000000000 ≤ o
      · have g2' := decide_eq_true g2
        exact ⟨if o < 0 then -o else o, (m*59+o%2147483477*30029+5)%2147483629, _, by simp only [g1', g2', pow15, pAbs, grd, one1_l, one1_t, Option.bind_some, putG, mAsg, mCallK, mUserK, permL, List.filterMap_cons, List.filterMap_nil, qTup, Nat.reduceLeDiff, Nat.reduceLT, Nat.zero_add, and_self, modR, fdR, mulMod, mulModL, Int.reduceLT, Int.reduceLE, Int.reduceNeg, at3_0, at3_1, at3_2, at2_0, at2_1, ix3_0, ix3_1, ix3_2, mulR, mulL, add_ii, sub_ii, gt_ii, lt_ii, ge_ii, le_ii, ix_l, ix_t, ofO_s, int_i, len_l, len_t, fnR, headB, rvOf, mSeq, mIf, mOrT, mAndT, mNotT, mTru, mBl, mVD, mVF, mUser, mUser1F, mAC, mAN, mRef, mVar, DL.M.bind, DL.M.ret, DL.M.lift, DL.M.fail, arSls, arSl, lendAt, updB, getL, ownSl, Rs.pure?, Rs.bind, pTru, pBl, mBin, mUn, mRet, mRetF, mSet, mSetF, put, mExpr, mCall, mCallF, mCallW, mPeek, mCons, mNil, mTup, mLst, mL, mAnd, mOr, mNot, mIfE, mStore, mStoreN, mSetAt, mGetL, mPutL, mIxW, mApp, mPar, putS, setSl, mXN, mXC, mXO, mPart, mPartN, mSl, mLam, mLam0, mCallV, mFnAt, callee, capV, mItems, mScr, mScrIx, mScrLen, mScrSl, gN, gT, gsC, gsN, List.getElem?_cons_zero, List.getElem?_cons_succ, List.map_cons, List.map_nil, List.cons_append, List.nil_append, List.length_cons, List.length_nil, List.replicate_zero, List.replicate_succ, List.set_cons_zero, List.set_cons_succ, ite_ap, if_true, if_false, Bool.false_eq_true, Bool.true_eq_false, reduceIte, Nat.reduceSub, Nat.reduceAdd, Bool.not_true, Bool.not_false, Bool.true_and, Bool.false_and, Bool.and_true, Bool.and_false]; rfl⟩
      · have g2' := decide_eq_false g2
        exact ⟨0, (m*59+o%2147483477*30029+5)%2147483629, _, by simp only [g1', g2', pow15, pAbs, grd, one1_l, one1_t, Option.bind_some, putG, mAsg, mCallK, mUserK, permL, List.filterMap_cons, List.filterMap_nil, qTup, Nat.reduceLeDiff, Nat.reduceLT, Nat.zero_add, and_self, modR, fdR, mulMod, mulModL, Int.reduceLT, Int.reduceLE, Int.reduceNeg, at3_0, at3_1, at3_2, at2_0, at2_1, ix3_0, ix3_1, ix3_2, mulR, mulL, add_ii, sub_ii, gt_ii, lt_ii, ge_ii, le_ii, ix_l, ix_t, ofO_s, int_i, len_l, len_t, fnR, headB, rvOf, mSeq, mIf, mOrT, mAndT, mNotT, mTru, mBl, mVD, mVF, mUser, mUser1F, mAC, mAN, mRef, mVar, DL.M.bind, DL.M.ret, DL.M.lift, DL.M.fail, arSls, arSl, lendAt, updB, getL, ownSl, Rs.pure?, Rs.bind, pTru, pBl, mBin, mUn, mRet, mRetF, mSet, mSetF, put, mExpr, mCall, mCallF, mCallW, mPeek, mCons, mNil, mTup, mLst, mL, mAnd, mOr, mNot, mIfE, mStore, mStoreN, mSetAt, mGetL, mPutL, mIxW, mApp, mPar, putS, setSl, mXN, mXC, mXO, mPart, mPartN, mSl, mLam, mLam0, mCallV, mFnAt, callee, capV, mItems, mScr, mScrIx, mScrLen, mScrSl, gN, gT, gsC, gsN, List.getElem?_cons_zero, List.getElem?_cons_succ, List.map_cons, List.map_nil, List.cons_append, List.nil_append, List.length_cons, List.length_nil, List.replicate_zero, List.replicate_succ, List.set_cons_zero, List.set_cons_succ, ite_ap, if_true, if_false, Bool.false_eq_true, Bool.true_eq_false, reduceIte, Nat.reduceSub, Nat.reduceAdd, Bool.not_true, Bool.not_false, Bool.true_and, Bool.false_and, Bool.and_true, Bool.and_false]; rfl⟩
  obtain ⟨X, Y, ρ', e⟩ := fin
  refine ⟨X, Y, 0, ?_⟩
  unfold S__law_urn
  exact fnR_non (n := 5) (sls := [.scr ns, .dat (.int t)]) rfl e
theorem lc_law (ns : List Int) (k : Int) (h0 : 0 ≤ k) (hk : k ≤ 3) (e : (mCallF pRng1 (mCons (mCall pMax2 (mCons (.ret (.int 1)) (mCons (mCall pMin2 (mCons (mScrLen 0) (mCons (.ret (.int 2)) mNil))) mNil))) mNil)) [.scr ns, .emp] = (.ok (rngL 0 k.toNat), [.scr ns, .emp])) : c_law_1 [.scr ns, .emp] = (.ok ((rngL 0 k.toNat).map fun _ => .bool true), [.scr ns, .emp]) := by
  unfold c_law_1
  rw [lc_pure (fun _ => true) (fun _ => .bool true) e (by rw [rng_len]; omega) fun d hd => by
    obtain ⟨i, hi, rfl⟩ := mem_rng.mp hd
    refine ⟨[.scr ns, .dat (.int (0 + (i : Int)))], rfl, rfl, rfl, fun _ => ?_⟩
    generalize ht : (0 + (i : Int)) = t
    obtain ⟨x, y, z, e1⟩ := s_urn ns t (by omega)
    obtain ⟨ys, e2⟩ := s_right x y z
    simp only [e1, e2, grd, one1_l, one1_t, Option.bind_some, putG, mAsg, mCallK, mUserK, permL, List.filterMap_cons, List.filterMap_nil, qTup, Nat.reduceLeDiff, Nat.reduceLT, Nat.zero_add, and_self, modR, fdR, mulMod, mulModL, Int.reduceLT, Int.reduceLE, Int.reduceNeg, at3_0, at3_1, at3_2, at2_0, at2_1, ix3_0, ix3_1, ix3_2, mulR, mulL, add_ii, sub_ii, gt_ii, lt_ii, ge_ii, le_ii, ix_l, ix_t, ofO_s, int_i, len_l, len_t, fnR, headB, rvOf, mSeq, mIf, mOrT, mAndT, mNotT, mTru, mBl, mVD, mVF, mUser, mUser1F, mAC, mAN, mRef, mVar, DL.M.bind, DL.M.ret, DL.M.lift, DL.M.fail, arSls, arSl, lendAt, updB, getL, ownSl, Rs.pure?, Rs.bind, pTru, pBl, mBin, mUn, mRet, mRetF, mSet, mSetF, put, mExpr, mCall, mCallF, mCallW, mPeek, mCons, mNil, mTup, mLst, mL, mAnd, mOr, mNot, mIfE, mStore, mStoreN, mSetAt, mGetL, mPutL, mIxW, mApp, mPar, putS, setSl, mXN, mXC, mXO, mPart, mPartN, mSl, mLam, mLam0, mCallV, mFnAt, callee, capV, mItems, mScr, mScrIx, mScrLen, mScrSl, gN, gT, gsC, gsN, List.getElem?_cons_zero, List.getElem?_cons_succ, List.map_cons, List.map_nil, List.cons_append, List.nil_append, List.length_cons, List.length_nil, List.replicate_zero, List.replicate_succ, List.set_cons_zero, List.set_cons_succ, ite_ap, if_true, if_false, Bool.false_eq_true, Bool.true_eq_false, reduceIte, Nat.reduceSub, Nat.reduceAdd, Bool.not_true, Bool.not_false, Bool.true_and, Bool.false_and, Bool.and_true, Bool.and_false]]
  rw [List.filter_eq_self.mpr (fun _ _ => rfl)]
theorem law_ok (ns : List Int) (hl : ns.length ≤ 63) : (S_law [.scr ns]).1 = .ok (.d (.bool true)) := by
  have e : ∀ n : Int, n = ns.length → ∃ k : Int, 0 ≤ k ∧ k ≤ 3 ∧ (mCallF pRng1 (mCons (mCall pMax2 (mCons (.ret (.int 1)) (mCons (mCall pMin2 (mCons (mScrLen 0) (mCons (.ret (.int 2)) mNil))) mNil))) mNil)) [.scr ns, .emp] = (.ok (rngL 0 k.toNat), [.scr ns, .emp]) := fun n hn => by
    have es : mScrLen 0 [.scr ns, .emp] = (.ok (.int n), [.scr ns, .emp]) := by rw [hn]; rfl
    have b1 : mn n 2 ≤ 3 := by unfold mn; split <;> omega
    have hmin : pMin2 [.int n, .int 2] = .ok (.int (mn n 2)) := rfl
    have hmax : pMax2 [.int 1, .int (mn n 2)] = .ok (.int (if mn n 2 > 1 then mn n 2 else 1)) := rfl
    generalize mn n 2 = u at *
    have b2 : 0 ≤ (if u > 1 then u else 1) ∧ (if u > 1 then u else 1) ≤ 3 := by split <;> omega
    generalize (if u > 1 then u else 1) = v at *
    refine ⟨v, b2.1, b2.2, ?_⟩
    have em : mCons (mScrLen 0) (mCons (.ret (.int 2)) mNil) [.scr ns, .emp] = (.ok [.int n, .int 2], [.scr ns, .emp]) := by
      unfold mCons
      rw [bindR es]
      rfl
    have em2 : mCall pMin2 (mCons (mScrLen 0) (mCons (.ret (.int 2)) mNil)) [.scr ns, .emp] = (.ok (.int u), [.scr ns, .emp]) := by
      unfold mCall
      rw [bindR em, hmin]; rfl
    have em3 : mCons (.ret (.int 1)) (mCons (mCall pMin2 (mCons (mScrLen 0) (mCons (.ret (.int 2)) mNil))) mNil) [.scr ns, .emp] = (.ok [.int 1, .int u], [.scr ns, .emp]) := by
      rw [show mCons (.ret (.int 1)) (mCons (mCall pMin2 (mCons (mScrLen 0) (mCons (.ret (.int 2)) mNil))) mNil) = (DL.M.ret (.int 1)).bind fun x => (((mCall pMin2 (mCons (mScrLen 0) (mCons (.ret (.int 2)) mNil))).bind fun y => mNil.bind fun ys => .ret (y :: ys)).bind fun xs => .ret (x :: xs)) from rfl]
      rw [bindR (show (DL.M.ret (PyData.int 1)) [.scr ns, .emp] = (.ok (.int 1), [.scr ns, .emp]) from rfl)]
      rw [bindR (show ((mCall pMin2 (mCons (mScrLen 0) (mCons (.ret (.int 2)) mNil))).bind fun y => mNil.bind fun ys => .ret (y :: ys)) [.scr ns, .emp] = (.ok [.int u], [.scr ns, .emp]) by rw [bindR em2]; rfl)]
      rfl
    have em4 : mCall pMax2 (mCons (.ret (.int 1)) (mCons (mCall pMin2 (mCons (mScrLen 0) (mCons (.ret (.int 2)) mNil))) mNil)) [.scr ns, .emp] = (.ok (.int v), [.scr ns, .emp]) := by
      unfold mCall
      rw [show ((mCons (.ret (.int 1)) (mCons (DL.M.bind (mCons (mScrLen 0) (mCons (.ret (.int 2)) mNil)) fun ds => .lift (pMin2 ds).pure?) mNil)).bind fun ds => .lift (pMax2 ds).pure?) [.scr ns, .emp] = _ from bindR em3, hmax]; rfl
    unfold mCallF
    rw [show ((mCons (mCall pMax2 (mCons (.ret (.int 1)) (mCons (mCall pMin2 (mCons (mScrLen 0) (mCons (.ret (.int 2)) mNil))) mNil))) mNil).bind fun ds => .lift (pRng1 ds).pure?) [.scr ns, .emp] = (DL.M.lift (pRng1 [.int v]).pure?) [.scr ns, .emp] from bindR (by unfold mCons at em4 ⊢; rw [bindR em4]; rfl), rng1_ok (by omega) (by omega)]
    rfl
  obtain ⟨k, k0, k1, e⟩ := e _ rfl
  have e1 := lc_law ns k k0 k1 e
  have e2 : qAll ((rngL 0 k.toNat).map fun _ => PyData.bool true) = .ok (.bool ((rngL 0 k.toNat).all fun _ => true)) := qAll_map _ fun _ _ => rfl
  have e3 : ((rngL 0 k.toNat).all fun _ => true) = true := by simp
  rw [e3] at e2
  simp only [S_law, m_law, N_law, e1, e2, grd, one1_l, one1_t, Option.bind_some, putG, mAsg, mCallK, mUserK, permL, List.filterMap_cons, List.filterMap_nil, qTup, Nat.reduceLeDiff, Nat.reduceLT, Nat.zero_add, and_self, modR, fdR, mulMod, mulModL, Int.reduceLT, Int.reduceLE, Int.reduceNeg, at3_0, at3_1, at3_2, at2_0, at2_1, ix3_0, ix3_1, ix3_2, mulR, mulL, add_ii, sub_ii, gt_ii, lt_ii, ge_ii, le_ii, ix_l, ix_t, ofO_s, int_i, len_l, len_t, fnR, headB, rvOf, mSeq, mIf, mOrT, mAndT, mNotT, mTru, mBl, mVD, mVF, mUser, mUser1F, mAC, mAN, mRef, mVar, DL.M.bind, DL.M.ret, DL.M.lift, DL.M.fail, arSls, arSl, lendAt, updB, getL, ownSl, Rs.pure?, Rs.bind, pTru, pBl, mBin, mUn, mRet, mRetF, mSet, mSetF, put, mExpr, mCall, mCallF, mCallW, mPeek, mCons, mNil, mTup, mLst, mL, mAnd, mOr, mNot, mIfE, mStore, mStoreN, mSetAt, mGetL, mPutL, mIxW, mApp, mPar, putS, setSl, mXN, mXC, mXO, mPart, mPartN, mSl, mLam, mLam0, mCallV, mFnAt, callee, capV, mItems, mScr, mScrIx, mScrLen, mScrSl, gN, gT, gsC, gsN, List.getElem?_cons_zero, List.getElem?_cons_succ, List.map_cons, List.map_nil, List.cons_append, List.nil_append, List.length_cons, List.length_nil, List.replicate_zero, List.replicate_succ, List.set_cons_zero, List.set_cons_succ, ite_ap, if_true, if_false, Bool.false_eq_true, Bool.true_eq_false, reduceIte, Nat.reduceSub, Nat.reduceAdd, Bool.not_true, Bool.not_false, Bool.true_and, Bool.false_and, Bool.and_true, Bool.and_false]


end
end SL

end
section
set_option maxRecDepth 100000
set_option maxHeartbeats 0

namespace SL
open PySem PySem.Spec L2 LamX NdefX DL
open PyProof.Rows hiding St
abbrev R : PySem.W.OpenRow := PySem.W.OpenLaw.row PySem.Challenge.rw_sightrows_k57_whole_watchers
abbrev hk : PySem.W.Hook := He.hookX 4 fa fn [] tf ex
def ob (s : PySem.W.SharedT) : He.AlX := He.obsX 4 fa fn [] tf ex (HandSHeadRun.getT s)
theorem ob_eq (s : PySem.W.SharedT) : ob s = hk.obs s.abs := He.obsX_eq (HandSHeadRun.getT_eq s)
theorem run (w : World) : HandSHeadRun.RunEq R (PySem.W.view R.prog [42]) hk ob 4000 loose w := by
  intro os
  kernel_rfl
theorem tfn_tf : tfn.map (·.1) = tf := rfl
theorem facts {P : Program} {w : World} {K : PySem.W.Frag} {h : Heap} {mg : Str → Option Value} {f : Addr} (X : K.In h) (G : h.Ns mainGlobals mg) (hfa : mg ("law" : Str) = some (.ref f)) (c : He.SaysX fa fn [] tf ex w h K) :
    ∃ (K : PySem.W.Frag) (fd : FuncData) (cs : List (Addr × Addr)) (T : List NTab) (sem : DL.Sem'), K.In h ∧ (∀ p ∈ cs, h.get? p.2 = some { cls := .none, data := .fields #[] }) ∧ (∀ p ∈ cs, K.lookup p.2 = none) ∧ (∀ p ∈ cs, PySem.W.CodeHd h p.1 p.2) ∧ (∀ p ∈ T, p.1 ∈ cs.map (·.2)) ∧
      (∀ (s : Shared) (u : Value), BindsTo s fd ⟨[u], []⟩ [("script", u)]) ∧ (∀ ns : List Int, ns.length ≤ 63 → (∀ z ∈ ns, Builtin.Int.intBits z ≤ 1048576) → (sem [.scr ns]).1 = .ok (.d (.bool true))) ∧
      ∀ base : Heap, K.In base → base.Ns mainGlobals mg → (∀ p ∈ cs, TabB base mg p.1 p.2) → DL.FnP P w K mg base T 4 12 f fd ["script"] sem := by
  obtain ⟨fd, F⟩ := c.t.d.def_ 31 (d := d_law) rfl
  have b := FunD.bindsA (ps := ["script"]) F fun _ _ _ _ _ _ us hl => match us, hl with | [_], _ => rfl
  refine ⟨K, fd, tf.map (He.cT K), DL.tabsOf K tfn, S_law, X, fun p hp => ?_, fun p hp => ?_, fun p hp => ?_, fun p hp => ?_, fun s v => b s [v] rfl, fun ns hl _ => law_ok ns hl, fun base hb hn ht => ?_⟩
  · obtain ⟨q, hq, rfl⟩ := List.mem_map.mp hp
    exact c.empty q hq
  · obtain ⟨q, hq, rfl⟩ := List.mem_map.mp hp
    exact c.out q hq
  · obtain ⟨q, hq, rfl⟩ := List.mem_map.mp hp
    exact PySem.W.codeHd_of_K X (c.hd q hq)
  · obtain ⟨q, hq, rfl⟩ := List.mem_map.mp hp
    rw [← tfn_tf, List.map_map, List.map_map]
    exact List.mem_map.mpr ⟨q, hq, rfl⟩
  · have Fcc : Fc K mg base (DL.tabsOf K tfn) := ⟨hb, hn, c.t.d, fun p hp => ht _ (List.mem_map.mpr ⟨p, hp, rfl⟩), of_decide_eq_true c.more, rfl⟩
    obtain ⟨f', y, qual, bd, sc, kV, doc, pm, cdv, ct, an, hm, kp, ⟨oc, od, sl, lk⟩, Fp⟩ := (fn_law (P := P) (w := w) Fcc).ex
    have e := hfa.symm.trans hm
    cases e
    have e2 := hfa.symm.trans (q_law Fcc)
    cases e2
    obtain ⟨oc', od', dV, kV', doc', pm', an', cdv', ct', osl', rfl, lk', _⟩ := F.ex
    have e3 := lk.symm.trans lk'
    cases e3
    exact Fp
end SL
open PySem PySem.W PySem.Calls PyProof.Rows
theorem PySem.Challenge.cw_sightrows_k57_whole_watchers_holds : PySem.Challenge.rw_sightrows_k57_whole_watchers.Holds := by
  w_on; o_law
  refine HandSHeadRun.head_any (r := OpenLaw.row PySem.Challenge.rw_sightrows_k57_whole_watchers) (q := view (OpenLaw.row PySem.Challenge.rw_sightrows_k57_whole_watchers).prog [42]) (H := SL.hk) (ob := SL.ob) (M := 4000) (loose := SL.loose) (d := HandSHeadRun.topDef (OpenLaw.row PySem.Challenge.rw_sightrows_k57_whole_watchers).prog 42) (kwd := []) SL.ob_eq
    (by kernel_rfl) (fun s => by kernel_rfl) SL.run (by kernel_rfl) (by kernel_rfl) (by kernel_rfl) (by rfl) (by first | assumption | decide +kernel) (by decide +kernel) ⟨rfl, rfl, rfl, rfl, rfl, by decide +kernel⟩ ?hw ?hc
  case hw => w_witness2
  case hc =>
    refine DL.walk_D (l := PySem.Challenge.rw_sightrows_k57_whole_watchers) (n := 63) (k := 12) (kf := 4) (x := "script") rfl (by decide) (by kernel_rfl) ⟨rfl, by decide, by decide⟩ ?F
    intro w mg fa h Y G hmg0
    obtain ⟨K, KX, c⟩ := Y
    have hmg : mg ("law" : PySem.Str) = some (.ref fa) := by
      have e : (HandSHeadRun.topDef (OpenLaw.row PySem.Challenge.rw_sightrows_k57_whole_watchers).prog 42).name = ("law" : PySem.Str) := by kernel_rfl
      rw [← e]
      exact hmg0
    exact SL.facts (P := (PySem.Challenge.rw_sightrows_k57_whole_watchers).prog) (w := w) KX G hmg c

end
