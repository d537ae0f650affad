import PyProof.Rows.All
import Wide.All
import OpenK.AllK
import Wide.FinOn
import HandS.HeadHook4
import HandS.ForMost
import HandS.Exc
import HandS.ExcOwn
import HandS.WordsExc
import HandS.TryOnly
import HandS.Defaults
import HandS.ExcCtx
import HandS.HeadHook1
import HandS.HeadHook2
import HandS.Lambda
import KE.KAssignIn
import HandS.Flow
import HandS.IsInst
import HandS.Zip
import HandS.Deep
import HandS.FStr
import OpenK.KOps
import KE.SortKeyHeap
import PyProof.ReprReads
import PyProof.ReprRoads
import KE.KSortKey
import PyProof.Rows.CallKwBuiltin
import PyProof.Rows.FactsT3
import HandS.Head0
import HandS.Head1
import HandS.Head2
import HandS.EndBits
import HandS.EndTab
import HandS.Style
import HandS.ExcInit
import HandS.ExcField
import HandS.ExcIs
import HandS.Hot
import HandS.HotCalls
import PyProof.ExcBaseAll.ArithmeticError
import HandS.Finally
import KE.GoesEnum
import HandS.Nested
import HandS.Conv
import PySem.Challenge.RW_smallheld_k02_settings_and_lines_made
section
set_option Elab.async false
set_option linter.all false
/-! LLPar: what hangs on the law: the defs that make lambdas. -/
namespace LL
open PySem
/-- the defs that make lambdas: where they stand, the lambdas' name -/
def lamNames : List (He.Defn × Str) := []
end LL
end

section
set_option Elab.async false
set_option linter.all false
set_option maxRecDepth 100000
set_option maxHeartbeats 1000000
/-! LLCore: a logical layer over the hand layer: immutable data inline (D), a small logical heap (LH) of what is changed, and how they lie in the abstract heap. -/
namespace LL
open PySem PySem.Spec PyProof.Rows L2

theorem takesNo {X : Cx} : L2N.Takes X (fun _ _ _ _ => False) := fun _ _ x => by
  obtain ⟨_, _, _, _, _, _, _, _, _, _, _, _, _, _, _, _, z⟩ := x
  exact z.elim
/-- where the logical objects lie, and what is set aside (a list that is being built) -/
structure Ad where
  ix : List (Option Addr)
  res : List Addr
  /-- the tables of code objects (those of lambdas made here) -/
  tab : List (Addr × Str)
def Ad.no (ι : Ad) (a : Addr) : Prop := some a ∉ ι.ix ∧ a ∉ ι.res
abbrev Ad.push (ι : Ad) (p : Addr) : Ad := ⟨ι.ix ++ [some p], ι.res, ι.tab⟩
/-- logical values: what never changes stands inline, what is changed is an index into the logical heap; dfn: a def of the module; fn: a function that was made at (ι, H), and what is known of its objects; dct: a dict; exc: an exception that is handled -/
inductive D where
  | non | bl (b : Bool) | int (i : Int) | str (x : Str)
  | tup (ds : List D) | lst (ds : List D) | ob (C : Str) (ns : List Str) (ds : List D)
  | ref (n : Nat)
  | dfn (p : He.Defn) | fn (f : Addr) (xs : List (Addr × (Heap → Prop))) (ι : Ad) (H : Hp) | dct (ks : List Key) (ds : List D) | exc (a : Addr) (C : Str) (d : Option Addr) (ns : List Str) (ds : List D)
/-- logical objects -/
inductive O where
  | lst (ds : List D) | ins (C : Str) (fs : List (Str × D)) | gone
abbrev LH := List O
abbrev Frag := PySem.W.Frag

/-- a list that nobody changes any more -/
def KL (K : Frag) (a : Addr) (vs : List V) : Prop :=
  ∃ (its : List Value) (n : Nat), K.lookup a = some { cls := .type "list", dict := none, data := .seq its.toArray n, slots := #[] } ∧ vs.length ≤ sizeLine ∧ Vals vs its
def FzL (K : Frag) (ι : Ad) (H : Hp) (a : Addr) (vs : List V) : Prop :=
  (H a = some (.lst vs) ∧ ι.no a) ∨ (∃ o, H a = some (.frz o (.lst vs))) ∨ KL K a vs
theorem FzL.sq {K : Frag} {ι : Ad} {H : Hp} {a : Addr} {vs : List V} (h : FzL K ι H a vs) : SqL K H a vs := by
  rcases h with ⟨h, _⟩ | ⟨o, h⟩ | h
  · exact .inl (.inl h)
  · exact .inl (.inr ⟨o, h⟩)
  · obtain ⟨its, n, h1, h2, h3⟩ := h
    exact .inr ⟨_, its.toArray, n, h1, rfl, rfl, rfl, by rw [List.size_toArray, ← h3.length]; exact h2, by simpa using h3⟩

/-- what may be written: a list, an instance -/
def MutO (o : Option HO) : Prop := match o with
  | some (.lst _) => True
  | some (.ins _ _ _) => True
  | _ => False
theorem MutO.tup {o : Option HO} (m : MutO o) : ∀ xs, o ≠ some (.tup xs) := by rintro xs rfl; exact m
theorem MutO.frz {o : Option HO} (m : MutO o) : ∀ b u, o ≠ some (.frz b u) := by rintro b u rfl; exact m
theorem MutO.ext {o : Option HO} (m : MutO o) : ∀ f, o ≠ some (.ext f) := by rintro f rfl; exact m
theorem MutO.tbl {o : Option HO} (m : MutO o) : ∀ ps, o ≠ some (.tbl ps) := by rintro ps rfl; exact m
theorem MutO.code {o : Option HO} (m : MutO o) : ∀ c q, o ≠ some (LamX.CodeO c q) := by rintro c q rfl; exact m
/-- something stands there, no table -/
def Lv (H : Hp) (a : Addr) : Prop := ∃ o, H a = some o ∧ ∀ ps, o ≠ .tbl ps
theorem Lv.no {H : Hp} {a : Addr} (h : Lv H a) (n : H a = none) : False := by
  obtain ⟨o, e, _⟩ := h
  rw [n] at e; cases e
theorem Lv.ne {H : Hp} {a b : Addr} (h : Lv H a) (n : H b = none) : a ≠ b := by rintro rfl; exact h.no n
theorem Lv.upd {H : Hp} {a b : Addr} {u : HO} (h : Lv H a) (n : a ≠ b) : Lv (upd H b u) a := by
  obtain ⟨o, e, t⟩ := h
  exact ⟨o, by rw [upd_ne n]; exact e, t⟩
theorem Lv.mu {H : Hp} {a b : Addr} {u : HO} (h : Lv H a) (m : MutO (some u)) : Lv (L2.upd H b u) a := by
  by_cases z : a = b
  · subst z
    exact ⟨u, upd_same, fun ps e => by rw [e] at m; exact m⟩
  · exact h.upd z
/-- a later moment, as far as values ask -/
structure ExtW (ι : Ad) (H : Hp) (ι' : Ad) (H' : Hp) : Prop where
  pre : ∃ l, ι'.ix = ι.ix ++ l ∧ ∀ a, some a ∈ l → ¬ Lv H a ∨ a ∈ ι.res
  res2 : ∀ a, a ∈ ι'.res → a ∈ ι.res ∨ ¬ Lv H a
  keep : ∀ a o, H a = some o → ι.no a → (∀ ps, o ≠ .tbl ps) → H' a = some o
  tups : ∀ a xs, H a = some (.tup xs) → H' a = some (.tup xs)
  frzs : ∀ a o u, H a = some (.frz o u) → H' a = some (.frz o u)
  exts : ∀ a f, H a = some (.ext f) → H' a = some (.ext f)
  there : ∀ a, Lv H a → Lv H' a
theorem ExtW.no {ι ι' : Ad} {H H' : Hp} (e : ExtW ι H ι' H') {a : Addr} (h : Lv H a) (n : ι.no a) : ι'.no a := by
  obtain ⟨l, q, f⟩ := e.pre
  refine ⟨fun hm => ?_, fun hm => ?_⟩
  · rw [q] at hm
    rcases List.mem_append.mp hm with hm | hm
    · exact n.1 hm
    · rcases f a hm with z | z
      · exact z h
      · exact n.2 z
  · rcases e.res2 a hm with z | z
    · exact n.2 z
    · exact z h
mutual
def RelD (K : Frag) (ι : Ad) (H : Hp) : D → V → Prop
  | .non, v => v = .non
  | .bl b, v => v = .bl b
  | .int i, v => v = .int i
  | .str x, v => v = .str x
  | .tup ds, v => ∃ a vs, v = .ref a ∧ SqT K H a vs ∧ RelDs K ι H ds vs
  | .lst ds, v => ∃ a vs, v = .ref a ∧ FzL K ι H a vs ∧ RelDs K ι H ds vs
  | .ob C ns ds, v => ∃ a dx vs, v = .ref a ∧ ι.no a ∧ H a = some (.ins (He.ga K C) dx (ns.zip vs)) ∧ ns.length = ds.length ∧ RelDs K ι H ds vs
  | .ref n, v => ∃ a, ι.ix[n]? = some (some a) ∧ v = .ref a
  | .dfn p, v => v = .ref (He.fAd K p)
  | .fn f xs ι0 H0, v => v = .ref f ∧ (∀ p ∈ xs, H p.1 = some (.ext p.2)) ∧ ExtW ι0 H0 ι H
  | .dct ks ds, v => ∃ a vs, v = .ref a ∧ ι.no a ∧ H a = some (.dK (ks.zip vs)) ∧ ks.length = ds.length ∧ RelDs K ι H ds vs
  | .exc a _ d ns ds, v => v = .ref a ∧ match d with
    | none => ds = []
    | some x => ∃ vs, H x = some (.xd (ns.zip vs)) ∧ ι.no x ∧ ns.length = ds.length ∧ RelDs K ι H ds vs
def RelDs (K : Frag) (ι : Ad) (H : Hp) : List D → List V → Prop
  | [], vs => vs = []
  | d :: ds, vs => ∃ v r, vs = v :: r ∧ RelD K ι H d v ∧ RelDs K ι H ds r
end
def RelFs (K : Frag) (ι : Ad) (H : Hp) : List (Str × D) → List (Str × V) → Prop
  | [], vs => vs = []
  | d :: ds, vs => ∃ v r, vs = (d.1, v) :: r ∧ RelD K ι H d.2 v ∧ RelFs K ι H ds r
theorem tabs_upd {T : List (Addr × Str)} {H : Hp} {a : Addr} {u : HO} (t : LamX.Tabs T H) (h : H a = none ∨ MutO (H a)) : LamX.Tabs T (upd H a u) := by
  intro p hp
  obtain ⟨ps, h1, h2, h3⟩ := t p hp
  refine ⟨ps, ?_, h2, fun pos cv hc => ?_⟩
  · rw [upd_ne]
    · exact h1
    · rintro z
      rw [← z] at h
      rcases h with h | h
      · rw [h1] at h; cases h
      · exact h.tbl _ h1
  · obtain ⟨c, e1, e2⟩ := h3 pos cv hc
    refine ⟨c, e1, ?_⟩
    rw [upd_ne]
    · exact e2
    · rintro z
      rw [← z] at h
      rcases h with h | h
      · rw [e2] at h; cases h
      · exact h.code _ _ e2
/-- the tables of code objects that are known: those of the defs that make lambdas -/
def tabsK (K : Frag) : List (Addr × Str) := (lamNames.filter fun p => PySem.W.codeHdIn K (He.cT K p.1).1 (He.cT K p.1).2).map fun p => ((He.cT K p.1).2, p.2)
def RelO (K : Frag) (ι : Ad) (H : Hp) (a : Addr) : O → Prop
  | .lst ds => ∃ vs, H a = some (.lst vs) ∧ RelDs K ι H ds vs
  | .ins C fs => ∃ dx vs, H a = some (.ins (He.ga K C) dx vs) ∧ RelFs K ι H fs vs
  | .gone => True
structure RelH (K : Frag) (ι : Ad) (H : Hp) (h : LH) : Prop where
  len : ι.ix.length = h.length
  inj : ∀ (n m : Nat) (a : Addr), ι.ix[n]? = some (some a) → ι.ix[m]? = some (some a) → n = m
  live : ∀ a, some a ∈ ι.ix → Lv H a
  liveR : ∀ a, a ∈ ι.res → Lv H a
  disj : ∀ a, some a ∈ ι.ix → a ∉ ι.res
  tabs : LamX.Tabs (tabsK K) H
  obj : ∀ (n : Nat) (o : O), h[n]? = some o → o ≠ .gone → ∃ a, ι.ix[n]? = some (some a) ∧ RelO K ι H a o
def RelS (K : Frag) (ι : Ad) (H : Hp) (σ : List (Option D)) (σV : L2.St) : Prop :=
  σ.length = σV.length ∧ ∀ (i : Nat) (d : D), σ[i]? = some (some d) → ∃ v, σV[i]? = some (some v) ∧ RelD K ι H d v

/-- a later moment -/
structure Ext (ι : Ad) (H : Hp) (ι' : Ad) (H' : Hp) : Prop where
  pre : ∃ l, ι'.ix = ι.ix ++ l ∧ ∀ a, some a ∈ l → ¬ Lv H a
  res1 : ∀ a, a ∈ ι.res → a ∈ ι'.res
  res2 : ∀ a, a ∈ ι'.res → a ∈ ι.res ∨ ¬ Lv H a
  tab : ι'.tab = ι.tab
  keep : ∀ a o, H a = some o → some a ∉ ι.ix → (∀ ps, o ≠ .tbl ps) → H' a = some o
  tups : ∀ a xs, H a = some (.tup xs) → H' a = some (.tup xs)
  frzs : ∀ a o u, H a = some (.frz o u) → H' a = some (.frz o u)
  exts : ∀ a f, H a = some (.ext f) → H' a = some (.ext f)
  there : ∀ a, Lv H a → Lv H' a

theorem Ext.refl (ι : Ad) (H : Hp) : Ext ι H ι H := ⟨⟨[], by simp, fun _ h => by cases h⟩, fun _ h => h, fun _ h => .inl h, rfl, fun _ _ h _ _ => h, fun _ _ h => h, fun _ _ _ h => h, fun _ _ h => h, fun _ h => h⟩
theorem Ext.w {ι ι' : Ad} {H H' : Hp} (e : Ext ι H ι' H') : ExtW ι H ι' H' := ⟨let ⟨l, q, f⟩ := e.pre; ⟨l, q, fun a h => .inl (f a h)⟩, e.res2, fun a o h n t => e.keep a o h n.1 t, e.tups, e.frzs, e.exts, e.there⟩
theorem ExtW.then {ι ι1 ι2 : Ad} {H H1 H2 : Hp} (a : ExtW ι H ι1 H1) (b : ExtW ι1 H1 ι2 H2) : ExtW ι H ι2 H2 := by
  have back : ∀ c, ¬ Lv H1 c → ¬ Lv H c := fun c n h => n (a.there c h)
  refine ⟨?_, fun c h => ?_, fun c o h n t => b.keep c o (a.keep c o h n t) (a.no ⟨o, h, t⟩ n) t, fun c xs h => b.tups c xs (a.tups c xs h), fun c o u h => b.frzs c o u (a.frzs c o u h), fun c f h => b.exts c f (a.exts c f h), fun c h => b.there c (a.there c h)⟩
  · obtain ⟨l, ql, f⟩ := a.pre
    obtain ⟨m, qm, g⟩ := b.pre
    refine ⟨l ++ m, by rw [qm, ql, List.append_assoc], fun c hc => ?_⟩
    rcases List.mem_append.mp hc with hc | hc
    · exact f c hc
    · rcases g c hc with z | z
      · exact .inl (back c z)
      · exact (a.res2 c z).symm
  · rcases b.res2 c h with h | h
    · exact a.res2 c h
    · exact .inr (back c h)
theorem Ext.nx {ι ι' : Ad} {H H' : Hp} (e : Ext ι H ι' H') {a : Addr} (h : Lv H a) (n : some a ∉ ι.ix) : some a ∉ ι'.ix := by
  obtain ⟨l, q, f⟩ := e.pre
  intro hm
  rw [q] at hm
  rcases List.mem_append.mp hm with hm | hm
  · exact n hm
  · exact f a hm h
theorem Ext.ne {ι ι' : Ad} {H H' : Hp} (e : Ext ι H ι' H') {a : Addr} (h : Lv H a) (n : ι.no a) : ι'.no a := by
  refine ⟨e.nx h n.1, fun z => ?_⟩
  rcases e.res2 a z with z | z
  · exact n.2 z
  · exact z h
theorem Ext.trans {ι ι1 ι2 : Ad} {H H1 H2 : Hp} (a : Ext ι H ι1 H1) (b : Ext ι1 H1 ι2 H2) : Ext ι H ι2 H2 := by
  have back : ∀ c, ¬ Lv H1 c → ¬ Lv H c := fun c n h => n (a.there c h)
  refine ⟨?_, fun c h => b.res1 c (a.res1 c h), fun c h => ?_, b.tab.trans a.tab, fun c o h n t => b.keep c o (a.keep c o h n t) (a.nx ⟨o, h, t⟩ n) t, fun c xs h => b.tups c xs (a.tups c xs h), fun c o u h => b.frzs c o u (a.frzs c o u h), fun c f h => b.exts c f (a.exts c f h), fun c h => b.there c (a.there c h)⟩
  · obtain ⟨l, ql, f⟩ := a.pre
    obtain ⟨m, qm, g⟩ := b.pre
    refine ⟨l ++ m, by rw [qm, ql, List.append_assoc], fun c hc => ?_⟩
    rcases List.mem_append.mp hc with hc | hc
    · exact f c hc
    · exact back c (g c hc)
  · rcases b.res2 c h with h | h
    · exact a.res2 c h
    · exact .inr (back c h)
theorem Ext.at_ {ι ι' : Ad} {H H' : Hp} (e : Ext ι H ι' H') {n : Nat} {a : Addr} (h : ι.ix[n]? = some (some a)) : ι'.ix[n]? = some (some a) := by
  obtain ⟨l, q, _⟩ := e.pre
  rw [q, List.getElem?_append_left ((List.getElem?_eq_some_iff.mp h).1)]
  exact h
theorem Ext.sqT {K : Frag} {ι ι' : Ad} {H H' : Hp} (e : Ext ι H ι' H') {a : Addr} {vs : List V} (h : SqT K H a vs) : SqT K H' a vs := by
  rcases h with (h | ⟨o, h⟩) | h
  · exact .inl (.inl (e.tups a vs h))
  · exact .inl (.inr ⟨o, e.frzs a o _ h⟩)
  · exact .inr h
theorem Ext.fzL {K : Frag} {ι ι' : Ad} {H H' : Hp} (e : Ext ι H ι' H') {a : Addr} {vs : List V} (h : FzL K ι H a vs) : FzL K ι' H' a vs := by
  rcases h with ⟨h, n⟩ | ⟨o, h⟩ | h
  · exact .inl ⟨e.keep a _ h n.1 (fun _ z => by cases z), e.ne ⟨_, h, fun _ z => by cases z⟩ n⟩
  · exact .inr (.inl ⟨o, e.frzs a o _ h⟩)
  · exact .inr (.inr h)
mutual
theorem RelD.ext {K : Frag} {ι ι' : Ad} {H H' : Hp} (e : Ext ι H ι' H') : ∀ {d : D} {v : V}, RelD K ι H d v → RelD K ι' H' d v
  | .non, _, h => h
  | .bl _, _, h => h
  | .int _, _, h => h
  | .str _, _, h => h
  | .tup _, _, ⟨a, vs, h1, h2, h3⟩ => ⟨a, vs, h1, e.sqT h2, RelDs.ext e h3⟩
  | .lst _, _, ⟨a, vs, h1, h2, h3⟩ => ⟨a, vs, h1, e.fzL h2, RelDs.ext e h3⟩
  | .ob _ _ _, _, ⟨a, dx, vs, h1, h2, h3, h4, h5⟩ => ⟨a, dx, vs, h1, e.ne ⟨_, h3, fun _ z => by cases z⟩ h2, e.keep a _ h3 h2.1 (fun _ z => by cases z), h4, RelDs.ext e h5⟩
  | .ref _, _, ⟨a, h1, h2⟩ => ⟨a, e.at_ h1, h2⟩
  | .dfn _, _, h => h
  | .fn _ _ _ _, _, ⟨h1, h2, h3⟩ => ⟨h1, fun p hp => e.exts _ _ (h2 p hp), h3.then e.w⟩
  | .dct _ _, _, ⟨a, vs, h1, h2, h3, h4, h5⟩ => ⟨a, vs, h1, e.ne ⟨_, h3, fun _ z => by cases z⟩ h2, e.keep a _ h3 h2.1 (fun _ z => by cases z), h4, RelDs.ext e h5⟩
  | .exc _ _ none _ _, _, h => h
  | .exc _ _ (some _) _ _, _, ⟨h0, vs, h1, h2, h3, h4⟩ => ⟨h0, vs, e.keep _ _ h1 h2.1 (fun _ z => by cases z), e.ne ⟨_, h1, fun _ z => by cases z⟩ h2, h3, RelDs.ext e h4⟩
theorem RelDs.ext {K : Frag} {ι ι' : Ad} {H H' : Hp} (e : Ext ι H ι' H') : ∀ {ds : List D} {vs : List V}, RelDs K ι H ds vs → RelDs K ι' H' ds vs
  | [], _, h => h
  | _ :: _, _, ⟨v, r, h1, h2, h3⟩ => ⟨v, r, h1, RelD.ext e h2, RelDs.ext e h3⟩
end
theorem RelFs.ext {K : Frag} {ι ι' : Ad} {H H' : Hp} (e : Ext ι H ι' H') : ∀ {ds : List (Str × D)} {vs : List (Str × V)}, RelFs K ι H ds vs → RelFs K ι' H' ds vs
  | [], _, h => h
  | _ :: _, _, ⟨v, r, h1, h2, h3⟩ => ⟨v, r, h1, h2.ext e, RelFs.ext e h3⟩
theorem RelS.ext {K : Frag} {ι ι' : Ad} {H H' : Hp} (e : Ext ι H ι' H') {σ : List (Option D)} {σV : L2.St} (h : RelS K ι H σ σV) : RelS K ι' H' σ σV :=
  ⟨h.1, fun i d q => let ⟨v, h1, h2⟩ := h.2 i d q; ⟨v, h1, h2.ext e⟩⟩
theorem RelDs.length {K : Frag} {ι : Ad} {H : Hp} : ∀ {ds : List D} {vs : List V}, RelDs K ι H ds vs → ds.length = vs.length
  | [], _, h => by cases h; rfl
  | _ :: _, _, ⟨v, r, h1, _, h3⟩ => by subst h1; simp [RelDs.length h3]
theorem RelDs.get {K : Frag} {ι : Ad} {H : Hp} : ∀ {ds : List D} {vs : List V} {i : Nat} {d : D}, RelDs K ι H ds vs → ds[i]? = some d → ∃ v, vs[i]? = some v ∧ RelD K ι H d v
  | [], _, _, _, _, e => by simp at e
  | _ :: _, _, 0, _, ⟨v, r, h1, h2, _⟩, e => by
    subst h1; simp at e; subst e; exact ⟨v, rfl, h2⟩
  | _ :: _, _, i + 1, _, ⟨v, r, h1, _, h3⟩, e => by
    subst h1
    obtain ⟨u, q1, q2⟩ := RelDs.get (i := i) h3 (by simpa using e)
    exact ⟨u, by simpa using q1, q2⟩
theorem RelDs.append {K : Frag} {ι : Ad} {H : Hp} : ∀ {ds es : List D} {vs us : List V}, RelDs K ι H ds vs → RelDs K ι H es us → RelDs K ι H (ds ++ es) (vs ++ us)
  | [], _, _, _, h, q => by cases h; exact q
  | _ :: _, _, _, _, ⟨v, r, h1, h2, h3⟩, q => by subst h1; exact ⟨v, _, rfl, h2, RelDs.append h3 q⟩
theorem RelDs.set {K : Frag} {ι : Ad} {H : Hp} {d : D} {v : V} (hd : RelD K ι H d v) : ∀ {ds : List D} {vs : List V} (i : Nat), RelDs K ι H ds vs → RelDs K ι H (ds.set i d) (vs.set i v)
  | [], _, _, h => by cases h; exact rfl
  | _ :: _, _, 0, ⟨u, r, h1, h2, h3⟩ => by subst h1; exact ⟨v, r, rfl, hd, h3⟩
  | _ :: _, _, i + 1, ⟨u, r, h1, h2, h3⟩ => by subst h1; exact ⟨u, _, rfl, h2, RelDs.set hd i h3⟩
theorem RelDs.take {K : Frag} {ι : Ad} {H : Hp} : ∀ {ds : List D} {vs : List V} (n : Nat), RelDs K ι H ds vs → RelDs K ι H (ds.take n) (vs.take n)
  | _, _, 0, _ => by simp [RelDs]
  | [], _, _ + 1, h => by cases h; simp [RelDs]
  | _ :: _, _, n + 1, ⟨u, r, h1, h2, h3⟩ => by subst h1; exact ⟨u, _, rfl, h2, RelDs.take n h3⟩
theorem RelDs.drop {K : Frag} {ι : Ad} {H : Hp} : ∀ {ds : List D} {vs : List V} (n : Nat), RelDs K ι H ds vs → RelDs K ι H (ds.drop n) (vs.drop n)
  | _, _, 0, h => by simpa using h
  | [], _, _ + 1, h => by cases h; simp [RelDs]
  | _ :: _, _, n + 1, ⟨u, r, h1, h2, h3⟩ => by subst h1; simpa using RelDs.drop n h3
theorem RelDs.eraseIdx {K : Frag} {ι : Ad} {H : Hp} : ∀ {ds : List D} {vs : List V} (i : Nat), RelDs K ι H ds vs → RelDs K ι H (ds.eraseIdx i) (vs.eraseIdx i)
  | [], _, _, h => by cases h; simp [RelDs]
  | _ :: _, _, 0, ⟨u, r, h1, h2, h3⟩ => by subst h1; simpa using h3
  | _ :: _, _, n + 1, ⟨u, r, h1, h2, h3⟩ => by subst h1; exact ⟨u, _, rfl, h2, RelDs.eraseIdx n h3⟩

/-! ### logical programs -/
abbrev LV := List (Option D)
/-- an exception: its class, its fields -/
abbrev XL := Str → List (Str × D) → LH → Prop
/-- a computation: slots, heap, wanted end, wanted exception -/
abbrev LX (α : Type) := LV → LH → (α → LH → Prop) → XL → Prop
abbrev LE := LX D
def Mono {α : Type} (m : LX α) : Prop := ∀ (σ : LV) (h : LH) (Q Q' : α → LH → Prop) (E E' : XL), (∀ a h, Q a h → Q' a h) → (∀ c fs h, E c fs h → E' c fs h) → m σ h Q E → m σ h Q' E'
/-- an exception's own dict -/
def RelX (K : Frag) (ι : Ad) (H : Hp) (fs : List (Str × D)) : Option Addr → Prop
  | none => fs = []
  | some d => ∃ vs, H d = some (.xd vs) ∧ RelFs K ι H fs vs ∧ ι.no d
structure LK where
  nx : LV → LH → Prop
  rt : D → LH → Prop
  bk : LV → LH → Prop := fun _ _ => False
  ct : LV → LH → Prop := fun _ _ => False
  ex : Str → List (Str × D) → LV → LH → Prop := fun _ _ _ _ => False
abbrev LS := LV → LH → LK → Prop
structure LK.le (A B : LK) : Prop where
  nx : ∀ σ h, A.nx σ h → B.nx σ h
  rt : ∀ d h, A.rt d h → B.rt d h
  bk : ∀ σ h, A.bk σ h → B.bk σ h
  ct : ∀ σ h, A.ct σ h → B.ct σ h
  ex : ∀ c fs σ h, A.ex c fs σ h → B.ex c fs σ h
def MonoS (m : LS) : Prop := ∀ (σ : LV) (h : LH) (A B : LK), A.le B → m σ h A → m σ h B

section
variable (K : Frag) (W : WX)
/-- what a result relates to -/
abbrev RX (α β : Type) := Ad → Hp → α → β → Prop
def tX {α β : Type} (R : RX α β) (m : LX α) : L2.St → Hp → (β → Hp → Prop) → Prop := fun σV H Q => ∃ ι σ h, RelS K ι H σ σV ∧ RelH K ι H h ∧
  m σ h (fun d h' => ∀ ι' v H', Ext ι H ι' H' → RelH K ι' H' h' → R ι' H' d v → Q v H')
    (fun c fs h' => ∀ ι' dx H', Ext ι H ι' H' → RelH K ι' H' h' → RelX K ι' H' fs dx → W (.ref (He.ga K c)) dx σV H')
abbrev tE (m : LE) : TE := tX K W (RelD K) m
abbrev tA (m : LX (List D)) : TA := tX K W (RelDs K) m
abbrev tT (m : LX Bool) : TT := tX K W (fun _ _ a b => a = b) m
def tS (m : LS) : TS := fun Dn σV H => ∃ ι0 H0 ι σ h, Ext ι0 H0 ι H ∧ RelS K ι H σ σV ∧ RelH K ι H h ∧
  m σ h { nx := fun σ' h' => ∀ ι' σV' H', Ext ι0 H0 ι' H' → RelS K ι' H' σ' σV' → RelH K ι' H' h' → Dn.nx σV' H',
          rt := fun d h' => ∀ ι' v H', Ext ι0 H0 ι' H' → RelH K ι' H' h' → RelD K ι' H' d v → Dn.rt v H',
          bk := fun σ' h' => ∀ ι' σV' H', Ext ι0 H0 ι' H' → RelS K ι' H' σ' σV' → RelH K ι' H' h' → Dn.bk σV' H',
          ct := fun σ' h' => ∀ ι' σV' H', Ext ι0 H0 ι' H' → RelS K ι' H' σ' σV' → RelH K ι' H' h' → Dn.ct σV' H',
          ex := fun c fs σ' h' => ∀ ι' dx σV' H', Ext ι0 H0 ι' H' → RelS K ι' H' σ' σV' → RelH K ι' H' h' → RelX K ι' H' fs dx → W (.ref (He.ga K c)) dx σV' H' }
end
structure JE (X : Cx) (W : WX) (e : Expr) (m : LE) : Prop where
  mono : Mono m
  run : PE X e (tE X.K W m)
structure JT (X : Cx) (W : WX) (e : Expr) (m : LX Bool) : Prop where
  mono : Mono m
  run : PT X e (tT X.K W m)
structure JW (X : Cx) (W : WX) (e : Expr) (m : LX Bool) : Prop where
  mono : Mono m
  run : PW X e (tT X.K W m)
structure JA (X : Cx) (W : WX) (es : List Expr) (m : LX (List D)) : Prop where
  mono : Mono m
  run : PA X es (tA X.K W m)
structure JS (X : Cx) (W : WX) (st : Stmt) (m : LS) : Prop where
  mono : MonoS m
  run : PS X st (tS X.K W m)
structure JSs (X : Cx) (W : WX) (st : List Stmt) (m : LS) : Prop where
  mono : MonoS m
  run : PSs X st (tS X.K W m)

theorem PE.weak {X : Cx} {e : Expr} {t t' : TE} (h : PE X e t) (w : ∀ σ H Q, t' σ H Q → t σ H Q) : PE X e t' := ⟨fun pins s σ H Q I q => h.run pins s σ H Q I (w _ _ _ q)⟩
theorem PT.weak {X : Cx} {e : Expr} {t t' : TT} (h : PT X e t) (w : ∀ σ H Q, t' σ H Q → t σ H Q) : PT X e t' := ⟨fun pins s σ H Q I q => h.run pins s σ H Q I (w _ _ _ q)⟩
theorem PW.weak {X : Cx} {e : Expr} {t t' : TT} (h : PW X e t) (w : ∀ σ H Q, t' σ H Q → t σ H Q) : PW X e t' := ⟨fun wh pins s σ H Q I q => h.run wh pins s σ H Q I (w _ _ _ q)⟩
theorem PA.weak {X : Cx} {es : List Expr} {t t' : TA} (h : PA X es t) (w : ∀ σ H Q, t' σ H Q → t σ H Q) : PA X es t' := ⟨fun pos pins s σ H Q I q => h.run pos pins s σ H Q I (w _ _ _ q)⟩
theorem PS.weak {X : Cx} {e : Stmt} {t t' : TS} (h : PS X e t) (w : ∀ D σ H, t' D σ H → t D σ H) : PS X e t' := ⟨fun pins s σ H Dn I q => h.run pins s σ H Dn I (w _ _ _ q)⟩
theorem PSs.weak {X : Cx} {e : List Stmt} {t t' : TS} (h : PSs X e t) (w : ∀ D σ H, t' D σ H → t D σ H) : PSs X e t' := ⟨fun pins s σ H Dn I q => h.run pins s σ H Dn I (w _ _ _ q)⟩

/-- the way in: from a computation with its own ends -/
theorem tX.into {K : Frag} {W : WX} {α β : Type} {R : RX α β} {m : LX α} (hm : Mono m) {ι : Ad} {σ : LV} {h : LH} {σV : L2.St} {H : Hp} {Q : β → Hp → Prop} (hS : RelS K ι H σ σV) (hH : RelH K ι H h)
    {Q0 : α → LH → Prop} {E0 : XL} (q : m σ h Q0 E0)
    (hQ : ∀ d h1 ι1 v H1, Q0 d h1 → Ext ι H ι1 H1 → RelH K ι1 H1 h1 → R ι1 H1 d v → Q v H1)
    (hE : ∀ c fs h1 ι1 dx H1, E0 c fs h1 → Ext ι H ι1 H1 → RelH K ι1 H1 h1 → RelX K ι1 H1 fs dx → W (.ref (He.ga K c)) dx σV H1) : tX K W R m σV H Q :=
  ⟨ι, σ, h, hS, hH, hm σ h _ _ _ _ (fun d h1 q ι1 v H1 => hQ d h1 ι1 v H1 q) (fun c fs h1 q ι1 dx H1 => hE c fs h1 ι1 dx H1 q) q⟩
end LL
end

section
set_option Elab.async false
set_option linter.all false
set_option maxRecDepth 100000
set_option maxHeartbeats 1000000
/-! LLOps: logical programs and why they are sound: names, constants, operators, tests, displays, subscripts, fields, calls. -/
namespace LL
open PySem PySem.Spec PyProof.Rows L2
variable {X : Cx} {W : WX}

/-! ### heaps -/
section
variable {K : Frag} {ι : Ad} {H : Hp} {h : LH}
theorem RelH.ref {n : Nat} {a : Addr} (hH : RelH K ι H h) (e : ι.ix[n]? = some (some a)) : Lv H a := hH.live a (List.mem_of_getElem? e)
theorem RelH.lst {n : Nat} {a : Addr} {ds : List D} (hH : RelH K ι H h) (e : ι.ix[n]? = some (some a)) (q : h[n]? = some (.lst ds)) : ∃ vs, H a = some (.lst vs) ∧ RelDs K ι H ds vs := by
  obtain ⟨a', e', r⟩ := hH.obj n _ q (by intro z; cases z)
  rw [e] at e'; cases e'
  exact r
theorem RelH.ins {n : Nat} {a : Addr} {C : Str} {fs : List (Str × D)} (hH : RelH K ι H h) (e : ι.ix[n]? = some (some a)) (q : h[n]? = some (.ins C fs)) : ∃ dx vs, H a = some (.ins (He.ga K C) dx vs) ∧ RelFs K ι H fs vs := by
  obtain ⟨a', e', r⟩ := hH.obj n _ q (by intro z; cases z)
  rw [e] at e'; cases e'
  exact r
theorem RelO.ext {ι' : Ad} {H' : Hp} {a : Addr} {o : O} (e : Ext ι H ι' H') (ha : H' a = H a) (r : RelO K ι H a o) : RelO K ι' H' a o := by
  cases o with
  | lst ds => obtain ⟨vs, h1, h2⟩ := r; exact ⟨vs, by rw [ha]; exact h1, h2.ext e⟩
  | ins C fs => obtain ⟨dx, vs, h1, h2⟩ := r; exact ⟨dx, vs, by rw [ha]; exact h1, h2.ext e⟩
  | gone => trivial
/-- a new object that nobody changes any more -/
theorem Ext.new {p : Addr} {u : HO} (hp : H p = none) : Ext ι H ι (upd H p u) := by
  have ne : ∀ a o, H a = some o → a ≠ p := fun a o q => ne_of_none q hp
  refine ⟨⟨[], by simp, fun _ z => by cases z⟩, fun _ h => h, fun _ h => .inl h, rfl, fun a o q _ _ => ?_, fun a xs q => ?_, fun a o w q => ?_, fun a f q => ?_, fun a q => q.upd (q.ne hp)⟩ <;> (rw [upd_ne (ne _ _ q)]; exact q)
theorem RelH.new {p : Addr} {u : HO} (hH : RelH K ι H h) (hp : H p = none) : RelH K ι (upd H p u) h := by
  have ne : ∀ a, some a ∈ ι.ix → a ≠ p := fun a m => (hH.live a m).ne hp
  refine ⟨hH.len, hH.inj, fun a m => ?_, fun a m => ?_, hH.disj, tabs_upd hH.tabs (.inl hp), fun n o q g => ?_⟩
  · exact (hH.live a m).upd (ne a m)
  · exact (hH.liveR a m).upd ((hH.liveR a m).ne hp)
  · obtain ⟨a, e, r⟩ := hH.obj n o q g
    exact ⟨a, e, r.ext (Ext.new hp) (upd_ne (ne a (List.mem_of_getElem? e)))⟩
theorem RelH.notNew {p : Addr} (hH : RelH K ι H h) (hp : H p = none) : ι.no p := by
  refine ⟨fun m => ?_, fun m => ?_⟩
  · exact (hH.live p m).no hp
  · exact (hH.liveR p m).no hp
/-- a new object of the logical heap -/
theorem Ext.push {p : Addr} {u : HO} (hp : H p = none) : Ext ι H (ι.push p) (upd H p u) := by
  have ne : ∀ a o, H a = some o → a ≠ p := fun a o q => ne_of_none q hp
  refine ⟨⟨[some p], rfl, fun a z => ?_⟩, fun _ h => h, fun _ h => .inl h, rfl, fun a o q _ _ => ?_, fun a xs q => ?_, fun a o w q => ?_, fun a f q => ?_, fun a q => q.upd (q.ne hp)⟩
  · simp only [List.mem_singleton, Option.some.injEq] at z; subst z; exact fun l => l.no hp
  all_goals (rw [upd_ne (ne _ _ q)]; exact q)
theorem RelH.push {p : Addr} {u : HO} {o : O} (hH : RelH K ι H h) (hp : H p = none) (hu : ∀ ps, u ≠ .tbl ps) (r : RelO K (ι.push p) (upd H p u) p o) : RelH K (ι.push p) (upd H p u) (h ++ [o]) := by
  have np := hH.notNew hp
  have ne : ∀ a, some a ∈ ι.ix → a ≠ p := fun a m => (hH.live a m).ne hp
  refine ⟨by simp [hH.len], fun n m a e1 e2 => ?_, fun a m => ?_, fun a m => ?_, fun a m => ?_, tabs_upd hH.tabs (.inl hp), fun n o' q g => ?_⟩
  · simp only [] at e1 e2
    rcases List.getElem?_append (l₁ := ι.ix) (l₂ := [some p]) (i := n) ▸ e1 with e1'
    by_cases hn : n < ι.ix.length
    · rw [List.getElem?_append_left hn] at e1
      by_cases hm : m < ι.ix.length
      · rw [List.getElem?_append_left hm] at e2
        exact hH.inj n m a e1 e2
      · rw [List.getElem?_append_right (Nat.le_of_not_lt hm)] at e2
        have := List.mem_of_getElem? e2
        simp only [List.mem_singleton, Option.some.injEq] at this
        subst this
        exact absurd (List.mem_of_getElem? e1) np.1
    · rw [List.getElem?_append_right (Nat.le_of_not_lt hn)] at e1
      have h1 := List.mem_of_getElem? e1
      simp only [List.mem_singleton, Option.some.injEq] at h1
      subst h1
      by_cases hm : m < ι.ix.length
      · rw [List.getElem?_append_left hm] at e2
        exact absurd (List.mem_of_getElem? e2) np.1
      · have l1 := (List.getElem?_eq_some_iff.mp e1).1
        rw [List.getElem?_append_right (Nat.le_of_not_lt hm)] at e2
        have l2 := (List.getElem?_eq_some_iff.mp e2).1
        simp only [List.length_singleton] at l1 l2
        omega
  · rcases List.mem_append.mp m with m | m
    · exact (hH.live a m).upd (ne a m)
    · simp only [List.mem_singleton, Option.some.injEq] at m
      subst m
      exact ⟨u, upd_same, hu⟩
  · exact (hH.liveR a m).upd ((hH.liveR a m).ne hp)
  · rcases List.mem_append.mp m with m | m
    · exact hH.disj a m
    · simp only [List.mem_singleton, Option.some.injEq] at m
      subst m
      exact np.2
  · by_cases hn : n < h.length
    · rw [List.getElem?_append_left hn] at q
      obtain ⟨a, e, r'⟩ := hH.obj n o' q g
      exact ⟨a, by rw [List.getElem?_append_left (by rw [hH.len]; exact hn)]; exact e, r'.ext (Ext.push hp) (upd_ne (ne a (List.mem_of_getElem? e)))⟩
    · have l := (List.getElem?_eq_some_iff.mp q).1
      have en : n = h.length := by simp only [List.length_append, List.length_singleton] at l; omega
      subst en
      rw [List.getElem?_append_right (Nat.le_refl _), Nat.sub_self] at q
      cases q
      exact ⟨p, by rw [← hH.len, List.getElem?_append_right (Nat.le_refl _), Nat.sub_self]; rfl, r⟩
/-- an object of the logical heap is changed -/
theorem Ext.write {n : Nat} {a : Addr} {u : HO} (hH : RelH K ι H h) (e : ι.ix[n]? = some (some a)) (mu : MutO (H a)) (mv : MutO (some u)) : Ext ι H ι (upd H a u) := by
  have ht := mu.tup
  have hf := mu.frz
  refine ⟨⟨[], by simp, fun _ z => by cases z⟩, fun _ h => h, fun _ h => .inl h, rfl, fun b o q m _ => ?_, fun b xs q => ?_, fun b o w q => ?_, fun b f q => ?_, fun b q => q.mu mv⟩
  · rw [upd_ne (by rintro rfl; exact m (List.mem_of_getElem? e))]; exact q
  · rw [upd_ne (by rintro rfl; exact ht xs q)]; exact q
  · rw [upd_ne (by rintro rfl; exact hf o w q)]; exact q
  · rw [upd_ne (by rintro rfl; exact mu.ext f q)]; exact q
theorem RelH.write {n : Nat} {a : Addr} {u : HO} {o : O} (hH : RelH K ι H h) (e : ι.ix[n]? = some (some a)) (mu : MutO (H a)) (ex : Ext ι H ι (upd H a u)) (r : RelO K ι (upd H a u) a o) : RelH K ι (upd H a u) (h.set n o) := by
  refine ⟨by simpa using hH.len, hH.inj, fun b m => ?_, fun b m => ?_, hH.disj, tabs_upd hH.tabs (.inr mu), fun m o' q g => ?_⟩
  · exact ex.there b (hH.live b m)
  · exact ex.there b (hH.liveR b m)
  · by_cases z : n = m
    · subst z
      have l := (List.getElem?_eq_some_iff.mp q).1
      rw [List.length_set] at l
      rw [List.getElem?_set_self l] at q
      cases q
      exact ⟨a, e, r⟩
    · rw [List.getElem?_set_ne z] at q
      obtain ⟨b, e', r'⟩ := hH.obj m o' q g
      have nb : b ≠ a := fun q => z (hH.inj n m a e (q ▸ e'))
      exact ⟨b, e', r'.ext ex (upd_ne nb)⟩
end

/-! ### names and constants -/
def eVar (i : Nat) : LE := fun σ h Q _ => match σ[i]? with | some (some d) => Q d h | _ => False
def eC (d : D) : LE := fun _ h Q _ => Q d h
theorem je_var {i : Nat} {x : Str} {pos : Pos} (h : PE X (.Name x pos) (tVar i)) : JE X W (.Name x pos) (eVar i) := by
  refine ⟨fun σ h Q Q' E E' hQ _ q => ?_, PE.weak h fun σV H Q ⟨ι, σ, h, hS, hH, q⟩ => ?_⟩
  · unfold eVar at *; split at q <;> first | exact hQ _ _ q | exact q.elim
  · unfold eVar at q
    split at q
    · rename_i d e
      obtain ⟨v, e1, r⟩ := hS.2 i d e
      exact ⟨v, e1, q ι v H (.refl _ _) hH r⟩
    · exact q.elim
theorem mono_c {d : D} : Mono (eC d) := fun _ _ _ _ _ _ hQ _ q => hQ _ _ q
theorem je_c {e : Expr} {d : D} {v : V} (h : PE X e (tC v)) (r : ∀ ι H, RelD X.K ι H d v) : JE X W e (eC d) :=
  ⟨mono_c, PE.weak h fun σV H Q ⟨ι, σ, h, hS, hH, q⟩ => q ι v H (.refl _ _) hH (r ι H)⟩
theorem je_int {i : Int} {j pos} : JE X W (.Constant (.int i) j pos) (eC (.int i)) := je_c pe_int fun _ _ => rfl
theorem je_bl {b : Bool} {j pos} : JE X W (.Constant (.bool b) j pos) (eC (.bl b)) := je_c pe_bl fun _ _ => rfl
theorem je_non {j pos} : JE X W (.Constant .none j pos) (eC .non) := je_c pe_non fun _ _ => rfl
theorem je_str {x : Str} {j pos} : JE X W (.Constant (.str x) j pos) (eC (.str x)) := je_c pe_str fun _ _ => rfl
/-- a module's int -/
theorem je_gint {x : Str} {i : Int} {pos : Pos} (hm : ∃ t, X.mg x = some (.int i t)) (hg : Gl X x := by rfl) (hd : (x == ("__debug__" : Str)) = false := by decide) : JE X W (.Name x pos) (eC (.int i)) := by
  obtain ⟨t, hm⟩ := hm
  exact je_c (pe_glob hg hm (v := .int i) ⟨t, rfl⟩ hd) fun _ _ => rfl
/-- a module's tuple -/
theorem je_gtup {x : Str} {ds : List D} {a : Addr} {vs : List V} {pos : Pos} (hm : X.mg x = some (.ref a)) (ht : ∀ H, SqT X.K H a vs) (r : ∀ ι H, RelDs X.K ι H ds vs) (hg : Gl X x := by rfl) (hd : (x == ("__debug__" : Str)) = false := by decide) : JE X W (.Name x pos) (eC (.tup ds)) :=
  je_c (pe_glob hg hm (v := .ref a) rfl hd) fun ι H => ⟨a, vs, rfl, ht H, r ι H⟩

/-! ### operators -/
abbrev LOp := D → D → LH → (D → LH → Prop) → Prop
structure OpS (K : Frag) (r : R2) (op : LOp) : Prop where
  mono : ∀ x y h Q Q', (∀ d h, Q d h → Q' d h) → op x y h Q → op x y h Q'
  run : ∀ ι H h x y vx vy (Q : D → LH → Prop) (Qv : VK), RelH K ι H h → RelD K ι H x vx → RelD K ι H y vy → op x y h Q →
    (∀ d h' ι' v H', Q d h' → Ext ι H ι' H' → RelH K ι' H' h' → RelD K ι' H' d v → Qv v H') → r vx vy H Qv
def eOp (op : LOp) (a b : LE) : LE := fun σ h Q E => a σ h (fun x h1 => b σ h1 (fun y h2 => op x y h2 Q) E) E
theorem mono_op {op : LOp} {a b : LE} (ho : ∀ x y h Q Q', (∀ d h, Q d h → Q' d h) → op x y h Q → op x y h Q') (ha : Mono a) (hb : Mono b) : Mono (eOp op a b) := fun σ h Q Q' E E' hQ hE q =>
  ha σ h _ _ _ _ (fun x h1 q1 => hb σ h1 _ _ _ _ (fun y h2 q2 => ho _ _ _ _ _ hQ q2) hE q1) hE q
theorem op_run {K : Frag} {r : R2} {op : LOp} {a b : LE} (hs : OpS K r op) (ha : Mono a) (hb : Mono b) {σV : L2.St} {H : Hp} {Q : VK} (q : tE K W (eOp op a b) σV H Q) : tOp r (tE K W a) (tE K W b) σV H Q := by
  obtain ⟨ι, σ, h, hS, hH, q⟩ := q
  refine tX.into ha hS hH q (fun x h1 ι1 vx H1 q1 e1 hH1 rx => ?_) (fun c fs h1 ι1 dx H1 q1 e1 hH1 rx => q1 ι1 dx H1 e1 hH1 rx)
  refine tX.into hb (hS.ext e1) hH1 q1 (fun y h2 ι2 vy H2 q2 e2 hH2 ry => ?_) (fun c fs h2 ι2 dx H2 q2 e2 hH2 rx2 => q2 ι2 dx H2 (e1.trans e2) hH2 rx2)
  exact hs.run ι2 H2 h2 x y vx vy _ Q hH2 (rx.ext e2) ry q2 fun d h' ι' v H' q3 e3 hH3 r3 => q3 ι' v H' (e1.trans (e2.trans e3)) hH3 r3
theorem je_op {op : Operator} {r : R2} {lop : LOp} {a b : Expr} {ea eb : LE} {pos : Pos} (ho : OpR X (binaryOp op) r) (hs : OpS X.K r lop) (ha : JE X W a ea) (hb : JE X W b eb) : JE X W (.BinOp a op b pos) (eOp lop ea eb) :=
  ⟨mono_op hs.mono ha.mono hb.mono, PE.weak (pe_op ho ha.run hb.run) fun _ _ _ q => op_run hs ha.mono hb.mono q⟩
theorem je_cmp {op : CmpOp} {r : R2} {lop : LOp} {a b : Expr} {ea eb : LE} {pos : Pos} (ho : OpR X (compareOp op) r) (hs : OpS X.K r lop) (ha : JE X W a ea) (hb : JE X W b eb) (hm : behindInMarks op b = false) : JE X W (.Compare a [op] [b] pos) (eOp lop ea eb) :=
  ⟨mono_op hs.mono ha.mono hb.mono, PE.weak (pe_cmpR ho ha.run hb.run hm) fun _ _ _ q => op_run hs ha.mono hb.mono q⟩
/-- a value that is a bool, as a test -/
def eTest (m : LE) : LX Bool := fun σ h Q E => m σ h (fun d h1 => ∃ b, d = .bl b ∧ Q b h1) E
theorem mono_test {m : LE} (hm : Mono m) : Mono (eTest m) := fun σ h Q Q' E E' hQ hE q => hm σ h _ _ _ _ (fun d h1 ⟨b, e, q1⟩ => ⟨b, e, hQ _ _ q1⟩) hE q
theorem test_run {K : Frag} {m : LE} (hm : Mono m) {σV : L2.St} {H : Hp} {Q : Bool → Hp → Prop} (q : tT K W (eTest m) σV H Q) : tE K W m σV H fun x H' => ∃ k, x = .bl k ∧ Q k H' := by
  obtain ⟨ι, σ, h, hS, hH, q⟩ := q
  refine tX.into hm hS hH q (fun d h1 ι1 v H1 q1 e1 hH1 r => ?_) (fun c fs h1 ι1 dx H1 q1 => q1 ι1 dx H1)
  obtain ⟨b, rfl, q1⟩ := q1
  exact ⟨b, r, q1 ι1 b H1 e1 hH1 rfl⟩
theorem jt_cmp {op : CmpOp} {r : R2} {lop : LOp} {a b : Expr} {ea eb : LE} {pos : Pos} (ho : OpR X (compareOp op) r) (hs : OpS X.K r lop) (ha : JE X W a ea) (hb : JE X W b eb) (hm : behindInMarks op b = false) : JT X W (.Compare a [op] [b] pos) (eTest (eOp lop ea eb)) :=
  ⟨mono_test (mono_op hs.mono ha.mono hb.mono), PT.weak (pt_cmpR ho ha.run hb.run hm) fun σV H Q q => op_run (W := W) hs ha.mono hb.mono (test_run (mono_op hs.mono ha.mono hb.mono) q)⟩
/-- any expression whose value is a bool, as a test -/
theorem jt_val {e : Expr} {m : LE} (h : JE X W e m) (he : ∀ whole, isTrue e X.env whole = (do let v ← whole; standAt e.pos; holding [v] (truthy v)) := by intro _; rfl) : JT X W e (eTest m) :=
  ⟨mono_test h.mono, PT.weak (pt_val h.run he) fun σV H Q q => test_run h.mono q⟩
theorem PWPT {e : Expr} {m : LX Bool} (h : JW X W e m) : JT X W e m := ⟨h.mono, h.run.pt⟩
def eAnd (a b : LX Bool) : LX Bool := fun σ h Q E => a σ h (fun c h1 => if c = true then b σ h1 Q E else Q false h1) E
def eOr (a b : LX Bool) : LX Bool := fun σ h Q E => a σ h (fun c h1 => if c = true then Q true h1 else b σ h1 Q E) E
def eNot (a : LX Bool) : LX Bool := fun σ h Q E => a σ h (fun c h1 => Q (!c) h1) E
theorem mono_and {a b : LX Bool} (ha : Mono a) (hb : Mono b) : Mono (eAnd a b) := fun σ h Q Q' E E' hQ hE q => ha σ h _ _ _ _ (fun c h1 q1 => by
  cases c with
  | true => rw [if_pos rfl] at q1 ⊢; exact hb σ h1 _ _ _ _ hQ hE q1
  | false => rw [if_neg Bool.false_ne_true] at q1 ⊢; exact hQ _ _ q1) hE q
theorem mono_or {a b : LX Bool} (ha : Mono a) (hb : Mono b) : Mono (eOr a b) := fun σ h Q Q' E E' hQ hE q => ha σ h _ _ _ _ (fun c h1 q1 => by
  cases c with
  | true => rw [if_pos rfl] at q1 ⊢; exact hQ _ _ q1
  | false => rw [if_neg Bool.false_ne_true] at q1 ⊢; exact hb σ h1 _ _ _ _ hQ hE q1) hE q
theorem mono_not {a : LX Bool} (ha : Mono a) : Mono (eNot a) := fun σ h Q Q' E E' hQ hE q => ha σ h _ _ _ _ (fun c h1 q1 => hQ _ _ q1) hE q
/-- through a test into what follows -/
theorem tT.into {K : Frag} {m : LX Bool} (hm : Mono m) {ι : Ad} {σ : LV} {h : LH} {σV : L2.St} {H : Hp} {Q : Bool → Hp → Prop} (hS : RelS K ι H σ σV) (hH : RelH K ι H h)
    {Q0 : Bool → LH → Prop} {E0 : XL} (q : m σ h Q0 E0) (hQ : ∀ b h1 ι1 H1, Q0 b h1 → Ext ι H ι1 H1 → RelH K ι1 H1 h1 → Q b H1)
    (hE : ∀ c fs h1 ι1 dx H1, E0 c fs h1 → Ext ι H ι1 H1 → RelH K ι1 H1 h1 → RelX K ι1 H1 fs dx → W (.ref (He.ga K c)) dx σV H1) : tT K W m σV H Q :=
  tX.into hm hS hH q (fun d h1 ι1 v H1 q1 e1 hH1 r => by subst r; exact hQ d h1 ι1 H1 q1 e1 hH1) hE
theorem and_run {K : Frag} {a b : LX Bool} (ha : Mono a) (hb : Mono b) {σV : L2.St} {H : Hp} {Q : Bool → Hp → Prop} (q : tT K W (eAnd a b) σV H Q) : tAnd (tT K W a) (tT K W b) σV H Q := by
  obtain ⟨ι, σ, h, hS, hH, q⟩ := q
  refine tT.into ha hS hH q (fun c h1 ι1 H1 q1 e1 hH1 => ?_) (fun c fs h1 ι1 dx H1 q1 => q1 ι1 dx H1)
  cases c with
  | true =>
    rw [if_pos rfl] at q1 ⊢
    exact tT.into hb (hS.ext e1) hH1 q1 (fun c h2 ι2 H2 q2 e2 hH2 => q2 ι2 c H2 (e1.trans e2) hH2 rfl) fun c fs h2 ι2 dx H2 q2 e2 => q2 ι2 dx H2 (e1.trans e2)
  | false => rw [if_neg Bool.false_ne_true] at q1 ⊢; exact q1 ι1 false H1 e1 hH1 rfl
theorem or_run {K : Frag} {a b : LX Bool} (ha : Mono a) (hb : Mono b) {σV : L2.St} {H : Hp} {Q : Bool → Hp → Prop} (q : tT K W (eOr a b) σV H Q) : tOr (tT K W a) (tT K W b) σV H Q := by
  obtain ⟨ι, σ, h, hS, hH, q⟩ := q
  refine tT.into ha hS hH q (fun c h1 ι1 H1 q1 e1 hH1 => ?_) (fun c fs h1 ι1 dx H1 q1 => q1 ι1 dx H1)
  cases c with
  | true => rw [if_pos rfl] at q1 ⊢; exact q1 ι1 true H1 e1 hH1 rfl
  | false =>
    rw [if_neg Bool.false_ne_true] at q1 ⊢
    exact tT.into hb (hS.ext e1) hH1 q1 (fun c h2 ι2 H2 q2 e2 hH2 => q2 ι2 c H2 (e1.trans e2) hH2 rfl) fun c fs h2 ι2 dx H2 q2 e2 => q2 ι2 dx H2 (e1.trans e2)
section
variable {a b : Expr} {rest : List Expr} {pos : Pos} {A B : LX Bool}
theorem jw_and1 (ha : JT X W a A) : JW X W (.BoolOp .And [a] pos) A := ⟨ha.mono, pw_and1 ha.run⟩
theorem jw_or1 (ha : JT X W a A) : JW X W (.BoolOp .Or [a] pos) A := ⟨ha.mono, pw_or1 ha.run⟩
theorem jw_and (ha : JT X W a A) (hb : JW X W (.BoolOp .And (b :: rest) pos) B) : JW X W (.BoolOp .And (a :: b :: rest) pos) (eAnd A B) :=
  ⟨mono_and ha.mono hb.mono, PW.weak (pw_and ha.run hb.run) fun _ _ _ q => and_run ha.mono hb.mono q⟩
theorem jw_or (ha : JT X W a A) (hb : JW X W (.BoolOp .Or (b :: rest) pos) B) : JW X W (.BoolOp .Or (a :: b :: rest) pos) (eOr A B) :=
  ⟨mono_or ha.mono hb.mono, PW.weak (pw_or ha.run hb.run) fun _ _ _ q => or_run ha.mono hb.mono q⟩
theorem jt_not (ha : JT X W a A) : JT X W (.UnaryOp .Not a pos) (eNot A) :=
  ⟨mono_not ha.mono, PT.weak (pt_not ha.run) fun σV H Q ⟨ι, σ, h, hS, hH, q⟩ => tT.into ha.mono hS hH q (fun c h1 ι1 H1 q1 e1 hH1 => q1 ι1 _ H1 e1 hH1 rfl) fun c fs h1 ι1 dx H1 q1 => q1 ι1 dx H1⟩
end

/-! ### and, or, not, if as values -/
def eAndV (a b : LE) : LE := fun σ h Q E => a σ h (fun d h1 => ∃ c, d = .bl c ∧ if c = true then b σ h1 Q E else Q (.bl false) h1) E
def eOrV (a b : LE) : LE := fun σ h Q E => a σ h (fun d h1 => ∃ c, d = .bl c ∧ if c = true then Q (.bl true) h1 else b σ h1 Q E) E
def eNotV (a : LE) : LE := fun σ h Q E => a σ h (fun d h1 => ∃ c, d = .bl c ∧ Q (.bl (!c)) h1) E
def eIf (t : LX Bool) (a b : LE) : LE := fun σ h Q E => t σ h (fun c h1 => if c = true then a σ h1 Q E else b σ h1 Q E) E
section
variable {a b c : Expr} {rest : List Expr} {pos : Pos} {A B : LE} {T : LX Bool}
theorem je_one {op} (ha : JE X W a A) : JE X W (.BoolOp op [a] pos) A := ⟨ha.mono, pe_one ha.run⟩
theorem je_and (ha : JE X W a A) (hb : JE X W (.BoolOp .And (b :: rest) pos) B) : JE X W (.BoolOp .And (a :: b :: rest) pos) (eAndV A B) := by
  refine ⟨fun σ h Q Q' E E' hQ hE q => ha.mono σ h _ _ _ _ ?_ hE q, PE.weak (pe_and ha.run hb.run) fun σV H Q ⟨ι, σ, h, hS, hH, q⟩ => ?_⟩
  · rintro d h1 ⟨c, e, q1⟩
    refine ⟨c, e, ?_⟩
    cases c with
    | true => rw [if_pos rfl] at q1 ⊢; exact hb.mono σ h1 _ _ _ _ hQ hE q1
    | false => rw [if_neg Bool.false_ne_true] at q1 ⊢; exact hQ _ _ q1
  · refine tX.into ha.mono hS hH q (fun d h1 ι1 v H1 q1 e1 hH1 r => ?_) (fun c fs h1 ι1 dx H1 q1 => q1 ι1 dx H1)
    obtain ⟨c, rfl, q1⟩ := q1
    refine ⟨c, r, ?_⟩
    cases c with
    | true =>
      rw [if_pos rfl] at q1 ⊢
      exact tX.into hb.mono (hS.ext e1) hH1 q1 (fun c h2 ι2 v H2 q2 e2 hH2 => q2 ι2 v H2 (e1.trans e2) hH2) fun c fs h2 ι2 dx H2 q2 e2 => q2 ι2 dx H2 (e1.trans e2)
    | false => rw [if_neg Bool.false_ne_true] at q1 ⊢; exact q1 ι1 _ H1 e1 hH1 rfl
theorem je_or (ha : JE X W a A) (hb : JE X W (.BoolOp .Or (b :: rest) pos) B) : JE X W (.BoolOp .Or (a :: b :: rest) pos) (eOrV A B) := by
  refine ⟨fun σ h Q Q' E E' hQ hE q => ha.mono σ h _ _ _ _ ?_ hE q, PE.weak (pe_or ha.run hb.run) fun σV H Q ⟨ι, σ, h, hS, hH, q⟩ => ?_⟩
  · rintro d h1 ⟨c, e, q1⟩
    refine ⟨c, e, ?_⟩
    cases c with
    | true => rw [if_pos rfl] at q1 ⊢; exact hQ _ _ q1
    | false => rw [if_neg Bool.false_ne_true] at q1 ⊢; exact hb.mono σ h1 _ _ _ _ hQ hE q1
  · refine tX.into ha.mono hS hH q (fun d h1 ι1 v H1 q1 e1 hH1 r => ?_) (fun c fs h1 ι1 dx H1 q1 => q1 ι1 dx H1)
    obtain ⟨c, rfl, q1⟩ := q1
    refine ⟨c, r, ?_⟩
    cases c with
    | true => rw [if_pos rfl] at q1 ⊢; exact q1 ι1 _ H1 e1 hH1 rfl
    | false =>
      rw [if_neg Bool.false_ne_true] at q1 ⊢
      exact tX.into hb.mono (hS.ext e1) hH1 q1 (fun c h2 ι2 v H2 q2 e2 hH2 => q2 ι2 v H2 (e1.trans e2) hH2) fun c fs h2 ι2 dx H2 q2 e2 => q2 ι2 dx H2 (e1.trans e2)
theorem je_not (ha : JE X W a A) : JE X W (.UnaryOp .Not a pos) (eNotV A) := by
  refine ⟨fun σ h Q Q' E E' hQ hE q => ha.mono σ h _ _ _ _ (fun d h1 ⟨c, e, q1⟩ => ⟨c, e, hQ _ _ q1⟩) hE q, PE.weak (pe_not ha.run) fun σV H Q ⟨ι, σ, h, hS, hH, q⟩ => ?_⟩
  refine tX.into ha.mono hS hH q (fun d h1 ι1 v H1 q1 e1 hH1 r => ?_) (fun c fs h1 ι1 dx H1 q1 => q1 ι1 dx H1)
  obtain ⟨c, rfl, q1⟩ := q1
  exact ⟨c, r, q1 ι1 _ H1 e1 hH1 rfl⟩
theorem je_if (ht : JT X W c T) (ha : JE X W a A) (hb : JE X W b B) : JE X W (.IfExp c a b pos) (eIf T A B) := by
  refine ⟨fun σ h Q Q' E E' hQ hE q => ht.mono σ h _ _ _ _ (fun c h1 q1 => ?_) hE q, PE.weak (pe_ifExp ht.run ha.run hb.run) fun σV H Q ⟨ι, σ, h, hS, hH, q⟩ => ?_⟩
  · cases c with
    | true => rw [if_pos rfl] at q1 ⊢; exact ha.mono σ h1 _ _ _ _ hQ hE q1
    | false => rw [if_neg Bool.false_ne_true] at q1 ⊢; exact hb.mono σ h1 _ _ _ _ hQ hE q1
  · refine tT.into ht.mono hS hH q (fun c h1 ι1 H1 q1 e1 hH1 => ?_) (fun c fs h1 ι1 dx H1 q1 => q1 ι1 dx H1)
    cases c with
    | true =>
      rw [if_pos rfl] at q1 ⊢
      exact tX.into ha.mono (hS.ext e1) hH1 q1 (fun c h2 ι2 v H2 q2 e2 hH2 => q2 ι2 v H2 (e1.trans e2) hH2) fun c fs h2 ι2 dx H2 q2 e2 => q2 ι2 dx H2 (e1.trans e2)
    | false =>
      rw [if_neg Bool.false_ne_true] at q1 ⊢
      exact tX.into hb.mono (hS.ext e1) hH1 q1 (fun c h2 ι2 v H2 q2 e2 hH2 => q2 ι2 v H2 (e1.trans e2) hH2) fun c fs h2 ι2 dx H2 q2 e2 => q2 ι2 dx H2 (e1.trans e2)
end

/-! ### arguments and displays -/
def eNil : LX (List D) := fun _ h Q _ => Q [] h
def eCons (a : LE) (r : LX (List D)) : LX (List D) := fun σ h Q E => a σ h (fun x h1 => r σ h1 (fun xs h2 => Q (x :: xs) h2) E) E
def eTup (r : LX (List D)) : LE := fun σ h Q E => r σ h (fun xs h1 => xs.length ≤ sizeLine ∧ Q (.tup xs) h1) E
/-- a list that nobody changes -/
def eLst (r : LX (List D)) : LE := fun σ h Q E => r σ h (fun xs h1 => xs.length ≤ sizeLine ∧ Q (.lst xs) h1) E
/-- a list that will be changed -/
def eLstM (r : LX (List D)) : LE := fun σ h Q E => r σ h (fun xs h1 => xs.length ≤ sizeLine ∧ Q (.ref h1.length) (h1 ++ [.lst xs])) E
section
variable {e : Expr} {es : List Expr} {A : LE} {R : LX (List D)} {pos : Pos}
theorem ja_nil : JA X W [] eNil := ⟨fun _ _ _ _ _ _ hQ _ q => hQ _ _ q, PA.weak pa_nil fun σV H Q ⟨ι, σ, h, hS, hH, q⟩ => q ι [] H (.refl _ _) hH rfl⟩
theorem ja_cons (ha : JE X W e A) (hr : JA X W es R) (hs : starEach (e :: es) X.env = (false, eval e X.env) :: starEach es X.env := by rfl) : JA X W (e :: es) (eCons A R) := by
  refine ⟨fun σ h Q Q' E E' hQ hE q => ha.mono σ h _ _ _ _ (fun d h1 q1 => hr.mono σ h1 _ _ _ _ (fun _ _ q2 => hQ _ _ q2) hE q1) hE q, PA.weak (pa_cons ha.run hr.run hs) fun σV H Q ⟨ι, σ, h, hS, hH, q⟩ => ?_⟩
  refine tX.into ha.mono hS hH q (fun x h1 ι1 vx H1 q1 e1 hH1 rx => ?_) (fun c fs h1 ι1 dx H1 q1 => q1 ι1 dx H1)
  refine tX.into hr.mono (hS.ext e1) hH1 q1 (fun xs h2 ι2 vs H2 q2 e2 hH2 rs => ?_) fun c fs h2 ι2 dx H2 q2 e2 => q2 ι2 dx H2 (e1.trans e2)
  exact q2 ι2 (vx :: vs) H2 (e1.trans e2) hH2 ⟨vx, vs, rfl, rx.ext e2, rs⟩
theorem je_tup {x1} (hr : JA X W es R) : JE X W (.Tuple es x1 pos) (eTup R) := by
  refine ⟨fun σ h Q Q' E E' hQ hE q => hr.mono σ h _ _ _ _ (fun xs h1 ⟨l, q1⟩ => ⟨l, hQ _ _ q1⟩) hE q, PE.weak (pe_tup hr.run) fun σV H Q ⟨ι, σ, h, hS, hH, q⟩ => ?_⟩
  refine tX.into hr.mono hS hH q (fun xs h1 ι1 vs H1 q1 e1 hH1 rs => ?_) (fun c fs h1 ι1 dx H1 q1 => q1 ι1 dx H1)
  obtain ⟨l, q1⟩ := q1
  refine ⟨by rw [← rs.length]; exact l, fun p hp => ?_⟩
  have ex : Ext ι1 H1 ι1 (upd H1 p (.tup vs)) := Ext.new hp
  exact q1 ι1 _ _ (e1.trans ex) (hH1.new hp) ⟨p, vs, rfl, SqT.of upd_same, rs.ext ex⟩
theorem je_lst (hr : JA X W es R) : JE X W (.List es pos) (eLst R) := by
  refine ⟨fun σ h Q Q' E E' hQ hE q => hr.mono σ h _ _ _ _ (fun xs h1 ⟨l, q1⟩ => ⟨l, hQ _ _ q1⟩) hE q, PE.weak (pe_lst hr.run) fun σV H Q ⟨ι, σ, h, hS, hH, q⟩ => ?_⟩
  refine tX.into hr.mono hS hH q (fun xs h1 ι1 vs H1 q1 e1 hH1 rs => ?_) (fun c fs h1 ι1 dx H1 q1 => q1 ι1 dx H1)
  obtain ⟨l, q1⟩ := q1
  refine ⟨by rw [← rs.length]; exact l, fun p hp => ?_⟩
  have ex : Ext ι1 H1 ι1 (upd H1 p (.lst vs)) := Ext.new hp
  exact q1 ι1 _ _ (e1.trans ex) (hH1.new hp) ⟨p, vs, rfl, .inl ⟨upd_same, hH1.notNew hp⟩, rs.ext ex⟩
theorem je_lstM (hr : JA X W es R) : JE X W (.List es pos) (eLstM R) := by
  refine ⟨fun σ h Q Q' E E' hQ hE q => hr.mono σ h _ _ _ _ (fun xs h1 ⟨l, q1⟩ => ⟨l, hQ _ _ q1⟩) hE q, PE.weak (pe_lst hr.run) fun σV H Q ⟨ι, σ, h, hS, hH, q⟩ => ?_⟩
  refine tX.into hr.mono hS hH q (fun xs h1 ι1 vs H1 q1 e1 hH1 rs => ?_) (fun c fs h1 ι1 dx H1 q1 => q1 ι1 dx H1)
  obtain ⟨l, q1⟩ := q1
  refine ⟨by rw [← rs.length]; exact l, fun p hp => ?_⟩
  have ex : Ext ι1 H1 (ι1.push p) (upd H1 p (.lst vs)) := Ext.push hp
  refine q1 _ _ _ (e1.trans ex) (hH1.push hp (fun _ z => by cases z) ⟨vs, upd_same, rs.ext ex⟩) ⟨p, ?_, rfl⟩
  rw [← hH1.len, List.getElem?_append_right (Nat.le_refl _), Nat.sub_self]
  rfl
end

/-! ### integers -/
section
variable {K : Frag}
def opI (C : Int → Int → Prop) (g : Int → Int → D) : LOp := fun x y h Q => match x, y with | .int i, .int j => C i j ∧ Q (g i j) h | _, _ => False
def opI0 (g : Int → Int → D) : LOp := fun x y h Q => match x, y with | .int i, .int j => Q (g i j) h | _, _ => False
theorem opsI {C : Int → Int → Prop} {g : Int → Int → V} {g' : Int → Int → D} (hg : ∀ i j ι H, RelD K ι H (g' i j) (g i j)) : OpS K (rI C g) (opI C g') := by
  refine ⟨fun x y h Q Q' hQ q => ?_, fun ι H h x y vx vy Q Qv hH rx ry q k => ?_⟩
  · unfold opI at *
    split at q
    · exact ⟨q.1, hQ _ _ q.2⟩
    · exact q.elim
  · unfold opI at q
    split at q
    · rename_i i j
      exact ⟨i, j, rx, ry, q.1, k _ h ι _ H q.2 (.refl _ _) hH (hg i j ι H)⟩
    · exact q.elim
theorem opsI0 {g : Int → Int → V} {g' : Int → Int → D} (hg : ∀ i j ι H, RelD K ι H (g' i j) (g i j)) : OpS K (rI0 g) (opI0 g') := by
  refine ⟨fun x y h Q Q' hQ q => ?_, fun ι H h x y vx vy Q Qv hH rx ry q k => ?_⟩
  · unfold opI0 at *
    split at q
    · exact hQ _ _ q
    · exact q.elim
  · unfold opI0 at q
    split at q
    · rename_i i j
      exact ⟨i, j, rx, ry, k _ h ι _ H q (.refl _ _) hH (hg i j ι H)⟩
    · exact q.elim
/-- either of two -/
def opOr (a b : LOp) : LOp := fun x y h Q => a x y h Q ∨ b x y h Q
theorem opsOr {r r' : R2} {a b : LOp} (ha : OpS K r a) (hb : OpS K r' b) : OpS K (fun x y H Q => r x y H Q ∨ r' x y H Q) (opOr a b) :=
  ⟨fun x y h Q Q' hQ q => q.elim (fun q => .inl (ha.mono x y h Q Q' hQ q)) fun q => .inr (hb.mono x y h Q Q' hQ q),
   fun ι H h x y vx vy Q Qv hH rx ry q k => q.elim (fun q => .inl (ha.run ι H h x y vx vy Q Qv hH rx ry q k)) fun q => .inr (hb.run ι H h x y vx vy Q Qv hH rx ry q k)⟩
abbrev oAdd : LOp := opI0 fun i j => .int (i + j)
abbrev oSub : LOp := opI0 fun i j => .int (i - j)
abbrev oMul : LOp := opI CMul fun i j => .int (i * j)
abbrev oMod : LOp := opI (fun _ j => 0 < j) fun i j => .int (i % j)
abbrev oDiv : LOp := opI CDiv fun i j => .int (i / j)
abbrev oPow : LOp := opI CPow fun i j => .int (i ^ j.toNat)
abbrev oLt : LOp := opI0 fun i j => .bl (decide (i < j))
abbrev oLe : LOp := opI0 fun i j => .bl (decide (i ≤ j))
abbrev oGt : LOp := opI0 fun i j => .bl (decide (j < i))
abbrev oGe : LOp := opI0 fun i j => .bl (decide (j ≤ i))
/-- == and != of flat values -/
def flatD : D → D → Option Bool
  | .non, .non => some true
  | .bl a, .bl b => some (a == b)
  | .int a, .int b => some (a == b)
  | .str a, .str b => some (a == b)
  | _, _ => none
def oEq : LOp := fun x y h Q => match x, y with
  | .int i, .int j => Q (.bl (decide (i = j))) h
  | .str i, .str j => Q (.bl (decide (i = j))) h
  | .bl i, .bl j => Q (.bl (decide (i = j))) h
  | _, _ => False
def oNe : LOp := fun x y h Q => match x, y with
  | .int i, .int j => Q (.bl (!decide (i = j))) h
  | .str i, .str j => Q (.bl (!decide (i = j))) h
  | .bl i, .bl j => Q (.bl (!decide (i = j))) h
  | _, _ => False
theorem opsEq : OpS K rEq oEq := by
  refine ⟨fun x y h Q Q' hQ q => ?_, fun ι H h x y vx vy Q Qv hH rx ry q k => ?_⟩
  · unfold oEq at *
    split at q <;> first | exact hQ _ _ q | exact q.elim
  · unfold oEq at q
    split at q
    · rename_i i j
      obtain rfl : vx = .int i := rx
      obtain rfl : vy = .int j := ry
      refine ⟨rfl, k _ h ι _ H q (.refl _ _) hH ?_⟩
      show V.bl _ = V.bl _
      exact congrArg V.bl (decide_eq_decide.mpr ⟨fun e => by injection e, fun e => by rw [e]⟩)
    · rename_i i j
      obtain rfl : vx = .str i := rx
      obtain rfl : vy = .str j := ry
      refine ⟨rfl, k _ h ι _ H q (.refl _ _) hH ?_⟩
      show V.bl _ = V.bl _
      exact congrArg V.bl (decide_eq_decide.mpr ⟨fun e => by injection e, fun e => by rw [e]⟩)
    · rename_i i j
      obtain rfl : vx = .bl i := rx
      obtain rfl : vy = .bl j := ry
      refine ⟨rfl, k _ h ι _ H q (.refl _ _) hH ?_⟩
      show V.bl _ = V.bl _
      exact congrArg V.bl (decide_eq_decide.mpr ⟨fun e => by injection e, fun e => by rw [e]⟩)
    · exact q.elim
theorem opsNe : OpS K rNe oNe := by
  refine ⟨fun x y h Q Q' hQ q => ?_, fun ι H h x y vx vy Q Qv hH rx ry q k => ?_⟩
  · unfold oNe at *
    split at q <;> first | exact hQ _ _ q | exact q.elim
  · unfold oNe at q
    split at q
    · rename_i i j
      obtain rfl : vx = .int i := rx
      obtain rfl : vy = .int j := ry
      refine ⟨rfl, k _ h ι _ H q (.refl _ _) hH ?_⟩
      show V.bl _ = V.bl _
      exact congrArg (fun z => V.bl (!z)) (decide_eq_decide.mpr ⟨fun e => by injection e, fun e => by rw [e]⟩)
    · rename_i i j
      obtain rfl : vx = .str i := rx
      obtain rfl : vy = .str j := ry
      refine ⟨rfl, k _ h ι _ H q (.refl _ _) hH ?_⟩
      show V.bl _ = V.bl _
      exact congrArg (fun z => V.bl (!z)) (decide_eq_decide.mpr ⟨fun e => by injection e, fun e => by rw [e]⟩)
    · rename_i i j
      obtain rfl : vx = .bl i := rx
      obtain rfl : vy = .bl j := ry
      refine ⟨rfl, k _ h ι _ H q (.refl _ _) hH ?_⟩
      show V.bl _ = V.bl _
      exact congrArg (fun z => V.bl (!z)) (decide_eq_decide.mpr ⟨fun e => by injection e, fun e => by rw [e]⟩)
    · exact q.elim
end
section
variable {a b : Expr} {A B : LE} {pos : Pos}
theorem je_add (ha : JE X W a A) (hb : JE X W b B) : JE X W (.BinOp a .Add b pos) (eOp oAdd A B) := je_op op_add (opsI0 fun _ _ _ _ => rfl) ha hb
theorem je_sub (ha : JE X W a A) (hb : JE X W b B) : JE X W (.BinOp a .Sub b pos) (eOp oSub A B) := je_op op_sub (opsI0 fun _ _ _ _ => rfl) ha hb
theorem je_mul (ha : JE X W a A) (hb : JE X W b B) : JE X W (.BinOp a .Mult b pos) (eOp oMul A B) := je_op op_mul (opsI fun _ _ _ _ => rfl) ha hb
theorem je_mod (ha : JE X W a A) (hb : JE X W b B) : JE X W (.BinOp a .Mod b pos) (eOp oMod A B) := je_op op_mod (opsI fun _ _ _ _ => rfl) ha hb
theorem je_div (ha : JE X W a A) (hb : JE X W b B) : JE X W (.BinOp a .FloorDiv b pos) (eOp oDiv A B) := je_op op_fdiv (opsI fun _ _ _ _ => rfl) ha hb
theorem je_pow (ha : JE X W a A) (hb : JE X W b B) : JE X W (.BinOp a .Pow b pos) (eOp oPow A B) := je_op op_pow (opsI fun _ _ _ _ => rfl) ha hb
theorem jt_lt (ha : JE X W a A) (hb : JE X W b B) : JT X W (.Compare a [.Lt] [b] pos) (eTest (eOp oLt A B)) := jt_cmp op_lt (opsI0 fun _ _ _ _ => rfl) ha hb (nomark _)
theorem jt_le (ha : JE X W a A) (hb : JE X W b B) : JT X W (.Compare a [.LtE] [b] pos) (eTest (eOp oLe A B)) := jt_cmp op_le (opsI0 fun _ _ _ _ => rfl) ha hb (nomark _)
theorem jt_gt (ha : JE X W a A) (hb : JE X W b B) : JT X W (.Compare a [.Gt] [b] pos) (eTest (eOp oGt A B)) := jt_cmp op_gt (opsI0 fun _ _ _ _ => rfl) ha hb (nomark _)
theorem jt_ge (ha : JE X W a A) (hb : JE X W b B) : JT X W (.Compare a [.GtE] [b] pos) (eTest (eOp oGe A B)) := jt_cmp op_ge (opsI0 fun _ _ _ _ => rfl) ha hb (nomark _)
theorem jt_eq (ha : JE X W a A) (hb : JE X W b B) : JT X W (.Compare a [.Eq] [b] pos) (eTest (eOp oEq A B)) := jt_cmp op_eq opsEq ha hb (nomark _)
theorem jt_ne (ha : JE X W a A) (hb : JE X W b B) : JT X W (.Compare a [.NotEq] [b] pos) (eTest (eOp oNe A B)) := jt_cmp op_ne opsNe ha hb (nomark _)
theorem je_lt (ha : JE X W a A) (hb : JE X W b B) : JE X W (.Compare a [.Lt] [b] pos) (eOp oLt A B) := je_cmp op_lt (opsI0 fun _ _ _ _ => rfl) ha hb (nomark _)
theorem je_le (ha : JE X W a A) (hb : JE X W b B) : JE X W (.Compare a [.LtE] [b] pos) (eOp oLe A B) := je_cmp op_le (opsI0 fun _ _ _ _ => rfl) ha hb (nomark _)
theorem je_gt (ha : JE X W a A) (hb : JE X W b B) : JE X W (.Compare a [.Gt] [b] pos) (eOp oGt A B) := je_cmp op_gt (opsI0 fun _ _ _ _ => rfl) ha hb (nomark _)
theorem je_ge (ha : JE X W a A) (hb : JE X W b B) : JE X W (.Compare a [.GtE] [b] pos) (eOp oGe A B) := je_cmp op_ge (opsI0 fun _ _ _ _ => rfl) ha hb (nomark _)
theorem je_eq (ha : JE X W a A) (hb : JE X W b B) : JE X W (.Compare a [.Eq] [b] pos) (eOp oEq A B) := je_cmp op_eq opsEq ha hb (nomark _)
theorem je_ne (ha : JE X W a A) (hb : JE X W b B) : JE X W (.Compare a [.NotEq] [b] pos) (eOp oNe A B) := je_cmp op_ne opsNe ha hb (nomark _)
end
end LL
end

section
set_option Elab.async false
set_option linter.all false
set_option maxRecDepth 100000
set_option maxHeartbeats 1000000
/-! LLStm: statements: blocks, assignments, if, while, for, return; targets. -/
namespace LL
open PySem PySem.Spec PyProof.Rows L2
variable {X : Cx} {W : WX}

def exOf (K : LK) (σ : LV) : XL := fun c fs h => K.ex c fs σ h
/-- the ends of a statement, in the abstract heap's words -/
abbrev up (K : Frag) (W : WX) (ι0 : Ad) (H0 : Hp) (Dn : Ends) : LK :=
  { nx := fun σ' h' => ∀ ι' σV' H', Ext ι0 H0 ι' H' → RelS K ι' H' σ' σV' → RelH K ι' H' h' → Dn.nx σV' H',
    rt := fun d h' => ∀ ι' v H', Ext ι0 H0 ι' H' → RelH K ι' H' h' → RelD K ι' H' d v → Dn.rt v H',
    bk := fun σ' h' => ∀ ι' σV' H', Ext ι0 H0 ι' H' → RelS K ι' H' σ' σV' → RelH K ι' H' h' → Dn.bk σV' H',
    ct := fun σ' h' => ∀ ι' σV' H', Ext ι0 H0 ι' H' → RelS K ι' H' σ' σV' → RelH K ι' H' h' → Dn.ct σV' H',
    ex := fun c fs σ' h' => ∀ ι' dx σV' H', Ext ι0 H0 ι' H' → RelS K ι' H' σ' σV' → RelH K ι' H' h' → RelX K ι' H' fs dx → W (.ref (He.ga K c)) dx σV' H' }
theorem tS_eq {K : Frag} {m : LS} {Dn : Ends} {σV : L2.St} {H : Hp} : tS K W m Dn σV H = ∃ ι0 H0 ι σ h, Ext ι0 H0 ι H ∧ RelS K ι H σ σV ∧ RelH K ι H h ∧ m σ h (up K W ι0 H0 Dn) := rfl
theorem LK.le.rfl' (A : LK) : A.le A := ⟨fun _ _ h => h, fun _ _ h => h, fun _ _ h => h, fun _ _ h => h, fun _ _ _ _ h => h⟩

/-! ### blocks -/
def sNil : LS := fun σ h K => K.nx σ h
def sSeq (a b : LS) : LS := fun σ h K => a σ h { K with nx := fun σ' h' => b σ' h' K }
theorem jss_nil : JSs X W [] sNil := ⟨fun σ h A B l q => l.nx _ _ q, PSs.weak pss_nil fun Dn σV H ⟨ι0, H0, ι, σ, h, e, hS, hH, q⟩ => q ι σV H e hS hH⟩
theorem jss_cons {st : Stmt} {rest : List Stmt} {a b : LS} (ha : JS X W st a) (hb : JSs X W rest b) : JSs X W (st :: rest) (sSeq a b) := by
  refine ⟨fun σ h A B l q => ha.mono σ h { A with nx := fun σ' h' => _ } { B with nx := fun σ' h' => _ } ⟨fun σ' h' q' => hb.mono σ' h' A B l q', l.rt, l.bk, l.ct, l.ex⟩ q, PSs.weak (pss_cons ha.run hb.run) fun Dn σV H ⟨ι0, H0, ι, σ, h, e, hS, hH, q⟩ => ?_⟩
  refine ⟨ι0, H0, ι, σ, h, e, hS, hH, ha.mono σ h _ _ ?_ q⟩
  exact ⟨fun σ' h' q' ι' σV' H' e' hS' hH' => ⟨ι0, H0, ι', σ', h', e', hS', hH', q'⟩, fun _ _ q => q, fun _ _ q => q, fun _ _ q => q, fun _ _ _ _ q => q⟩
theorem jss_one {st : Stmt} {a : LS} (ha : JS X W st a) : JSs X W [st] a := ⟨ha.mono, pss_one ha.run⟩
theorem js_pass {pos} : JS X W (.Pass pos) sNil := ⟨fun σ h A B l q => l.nx _ _ q, PS.weak ps_pass fun Dn σV H ⟨ι0, H0, ι, σ, h, e, hS, hH, q⟩ => q ι σV H e hS hH⟩
def sBrk : LS := fun σ h K => K.bk σ h
def sCnt : LS := fun σ h K => K.ct σ h
theorem js_brk {pos} : JS X W (.Break pos) sBrk := ⟨fun σ h A B l q => l.bk _ _ q, PS.weak ps_break fun Dn σV H ⟨ι0, H0, ι, σ, h, e, hS, hH, q⟩ => q ι σV H e hS hH⟩
theorem js_cnt {pos} : JS X W (.Continue pos) sCnt := ⟨fun σ h A B l q => l.ct _ _ q, PS.weak ps_continue fun Dn σV H ⟨ι0, H0, ι, σ, h, e, hS, hH, q⟩ => q ι σV H e hS hH⟩
def sNever : LS := fun _ _ _ => False
theorem js_never {st : Stmt} : JS X W st sNever := ⟨fun σ h A B l q => q.elim, PS.weak ps_never fun Dn σV H ⟨ι0, H0, ι, σ, h, e, hS, hH, q⟩ => q.elim⟩

/-- into an expression within a statement -/
theorem tE.stm {K : Frag} {m : LE} (hm : Mono m) {ι0 ι : Ad} {H0 H : Hp} {σ : LV} {h : LH} {σV : L2.St} {Dn : Ends} {Q : VK} (e : Ext ι0 H0 ι H) (hS : RelS K ι H σ σV) (hH : RelH K ι H h) {Q0 : D → LH → Prop}
    (q : m σ h Q0 (exOf (up K W ι0 H0 Dn) σ)) (hQ : ∀ d h1 ι1 v H1, Q0 d h1 → Ext ι H ι1 H1 → Ext ι0 H0 ι1 H1 → RelS K ι1 H1 σ σV → RelH K ι1 H1 h1 → RelD K ι1 H1 d v → Q v H1) : tE K W m σV H Q :=
  tX.into hm hS hH q (fun d h1 ι1 v H1 q1 e1 hH1 r => hQ d h1 ι1 v H1 q1 e1 (e.trans e1) (hS.ext e1) hH1 r) fun c fs h1 ι1 dx H1 q1 e1 hH1 r => q1 ι1 dx σV H1 (e.trans e1) (hS.ext e1) hH1 r
theorem tT.stm {K : Frag} {m : LX Bool} (hm : Mono m) {ι0 ι : Ad} {H0 H : Hp} {σ : LV} {h : LH} {σV : L2.St} {Dn : Ends} {Q : Bool → Hp → Prop} (e : Ext ι0 H0 ι H) (hS : RelS K ι H σ σV) (hH : RelH K ι H h) {Q0 : Bool → LH → Prop}
    (q : m σ h Q0 (exOf (up K W ι0 H0 Dn) σ)) (hQ : ∀ b h1 ι1 H1, Q0 b h1 → Ext ι H ι1 H1 → Ext ι0 H0 ι1 H1 → RelS K ι1 H1 σ σV → RelH K ι1 H1 h1 → Q b H1) : tT K W m σV H Q :=
  tT.into hm hS hH q (fun b h1 ι1 H1 q1 e1 hH1 => hQ b h1 ι1 H1 q1 e1 (e.trans e1) (hS.ext e1) hH1) fun c fs h1 ι1 dx H1 q1 e1 hH1 r => q1 ι1 dx σV H1 (e.trans e1) (hS.ext e1) hH1 r
theorem exOf.le {A B : LK} (l : A.le B) (σ : LV) : ∀ c fs h, exOf A σ c fs h → exOf B σ c fs h := fun c fs h q => l.ex c fs σ h q

def sExpr (m : LE) : LS := fun σ h K => m σ h (fun _ h1 => K.nx σ h1) (exOf K σ)
theorem js_expr {e : Expr} {m : LE} {pos : Pos} (he : JE X W e m) (hs : swapsWith e none pos.line X.env = pure false := by rfl) : JS X W (.Expr e pos) (sExpr m) :=
  ⟨fun σ h A B l q => he.mono σ h _ _ _ _ (fun _ h1 q1 => l.nx _ _ q1) (exOf.le l σ) q, PS.weak (ps_expr he.run hs) fun Dn σV H ⟨ι0, H0, ι, σ, h, e, hS, hH, q⟩ =>
    tE.stm he.mono e hS hH q fun d h1 ι1 v H1 q1 _ e1 hS1 hH1 _ => q1 ι1 σV H1 e1 hS1 hH1⟩
theorem js_doc {x j pos pos'} : JS X W (.Expr (.Constant (.str x) j pos) pos') sNil := ⟨fun σ h A B l q => l.nx _ _ q, PS.weak ps_doc fun Dn σV H ⟨ι0, H0, ι, σ, h, e, hS, hH, q⟩ => q ι σV H e hS hH⟩
def sRet (m : LE) : LS := fun σ h K => m σ h K.rt (exOf K σ)
theorem js_ret {e : Expr} {m : LE} {pos : Pos} (he : JE X W e m) : JS X W (.Return (some e) pos) (sRet m) :=
  ⟨fun σ h A B l q => he.mono σ h _ _ _ _ l.rt (exOf.le l σ) q, PS.weak (ps_ret he.run) fun Dn σV H ⟨ι0, H0, ι, σ, h, e, hS, hH, q⟩ =>
    tE.stm he.mono e hS hH q fun d h1 ι1 v H1 q1 _ e1 hS1 hH1 r => q1 ι1 v H1 e1 hH1 r⟩
def sRetN : LS := fun _ h K => K.rt .non h
theorem js_retN {pos} : JS X W (.Return none pos) sRetN := ⟨fun σ h A B l q => l.rt _ _ q, PS.weak ps_retN fun Dn σV H ⟨ι0, H0, ι, σ, h, e, hS, hH, q⟩ => q ι .non H e hH rfl⟩
def sIf (t : LX Bool) (a b : LS) : LS := fun σ h K => t σ h (fun c h1 => if c = true then a σ h1 K else b σ h1 K) (exOf K σ)
theorem js_if {c : Expr} {a b : List Stmt} {T : LX Bool} {A B : LS} {pos : Pos} (ht : JT X W c T) (ha : JSs X W a A) (hb : JSs X W b B) : JS X W (.If c a b pos) (sIf T A B) := by
  refine ⟨fun σ h A' B' l q => ht.mono σ h _ _ _ _ ?_ (exOf.le l σ) q, PS.weak (ps_if ht.run ha.run hb.run) fun Dn σV H ⟨ι0, H0, ι, σ, h, e, hS, hH, q⟩ => ?_⟩
  · intro c h1 q1
    cases c with
    | true => rw [if_pos rfl] at q1 ⊢; exact ha.mono σ h1 _ _ l q1
    | false => rw [if_neg Bool.false_ne_true] at q1 ⊢; exact hb.mono σ h1 _ _ l q1
  · refine tT.stm ht.mono e hS hH q fun c h1 ι1 H1 q1 _ e1 hS1 hH1 => ?_
    cases c with
    | true => rw [if_pos rfl] at q1 ⊢; exact ⟨ι0, H0, ι1, σ, h1, e1, hS1, hH1, q1⟩
    | false => rw [if_neg Bool.false_ne_true] at q1 ⊢; exact ⟨ι0, H0, ι1, σ, h1, e1, hS1, hH1, q1⟩

/-! ### targets -/
abbrev LG := D → LV → LH → (LV → LH → Prop) → XL → Prop
def MonoG (g : LG) : Prop := ∀ d σ h (Q Q' : LV → LH → Prop) (E E' : XL), (∀ σ h, Q σ h → Q' σ h) → (∀ c fs h, E c fs h → E' c fs h) → g d σ h Q E → g d σ h Q' E'
/-- the exception's slots are those ahead of the store: a target that may raise stores nothing before -/
def tG (K : Frag) (W : WX) (g : LG) : TG := fun v σV H Qv => ∃ ι σ h d, RelS K ι H σ σV ∧ RelH K ι H h ∧ RelD K ι H d v ∧
  g d σ h (fun σ' h' => ∀ ι' σV' H', Ext ι H ι' H' → RelS K ι' H' σ' σV' → RelH K ι' H' h' → Qv σV' H') (fun c fs h' => ∀ ι' dx σV' H', Ext ι H ι' H' → RelS K ι' H' σ σV' → RelH K ι' H' h' → RelX K ι' H' fs dx → W (.ref (He.ga K c)) dx σV' H')
structure JG (X : Cx) (W : WX) (tg : Expr) (g : LG) : Prop where
  mono : MonoG g
  run : PG X tg (tG X.K W g)
theorem PG.weak {tg : Expr} {t t' : TG} (h : PG X tg t) (w : ∀ v σ H Q, t' v σ H Q → t v σ H Q) : PG X tg t' := ⟨fun pins s σ H v u Q I r q => h.run pins s σ H v u Q I r (w _ _ _ _ q)⟩
theorem RelS.set {K : Frag} {ι : Ad} {H : Hp} {σ : LV} {σV : L2.St} (hS : RelS K ι H σ σV) (i : Nat) {d : D} {v : V} (r : RelD K ι H d v) : RelS K ι H (σ.set i (some d)) (σV.set i (some v)) := by
  refine ⟨by simpa using hS.1, fun j d' q => ?_⟩
  by_cases z : i = j
  · subst z
    have l := (List.getElem?_eq_some_iff.mp q).1
    rw [List.length_set] at l
    rw [List.getElem?_set_self l] at q
    cases q
    exact ⟨v, by rw [List.getElem?_set_self (by rw [← hS.1]; exact l)], r⟩
  · rw [List.getElem?_set_ne z] at q
    obtain ⟨v', e, r'⟩ := hS.2 j d' q
    exact ⟨v', by rw [List.getElem?_set_ne z]; exact e, r'⟩
def gNm (i : Nat) : LG := fun d σ h Q _ => Q (σ.set i (some d)) h
theorem jg_name {i : Nat} {x : Str} {pos : Pos} (h : PG X (.Name x pos) (gName i)) : JG X W (.Name x pos) (gNm i) :=
  ⟨fun d σ h Q Q' E E' hQ _ q => hQ _ _ q, PG.weak h fun v σV H Q ⟨ι, σ, h, d, hS, hH, r, q⟩ => q ι _ H (.refl _ _) (hS.set i r) hH⟩
def sAsg (m : LE) (g : LG) : LS := fun σ h K => m σ h (fun d h1 => g d σ h1 K.nx (exOf K σ)) (exOf K σ)
theorem js_asg {tg e : Expr} {m : LE} {g : LG} {pos : Pos} (he : JE X W e m) (hg : JG X W tg g) (hs : swapsWithSole [tg] e pos.line X.env = pure false := by rfl) (hw : swappedStores [tg] e X.env = pure none := by rfl) (h1 : (assignEach [tg] X.env).map (·.2) = [assign tg X.env] := by rfl) : JS X W (.Assign [tg] e pos) (sAsg m g) := by
  refine ⟨fun σ h A B l q => he.mono σ h _ _ _ _ (fun d h1 q1 => hg.mono d σ h1 _ _ _ _ l.nx (exOf.le l σ) q1) (exOf.le l σ) q, PS.weak (ps_asg he.run hg.run hs hw h1) fun Dn σV H ⟨ι0, H0, ι, σ, h, e, hS, hH, q⟩ => ?_⟩
  refine tE.stm he.mono e hS hH q fun d h1 ι1 v H1 q1 _ e1 hS1 hH1 r => ⟨ι1, σ, h1, d, hS1, hH1, r, ?_⟩
  exact hg.mono d σ h1 _ _ _ _ (fun σ' h' q' ι' σV' H' e' hS' hH' => q' ι' σV' H' (e1.trans e') hS' hH') (fun c fs h' q' ι' dx σV' H' e' hS' hH' r' => q' ι' dx σV' H' (e1.trans e') hS' hH' r') q1
theorem js_set {i : Nat} {x : Str} {e : Expr} {m : LE} {pos pos' : Pos} (he : JE X W e m) (h : ∀ {te : TE}, PE X e te → PS X (.Assign [.Name x pos'] e pos) (tAsg te (gName i))) : JS X W (.Assign [.Name x pos'] e pos) (sAsg m (gNm i)) := by
  refine ⟨fun σ h A B l q => he.mono σ h _ _ _ _ (fun d h1 q1 => l.nx _ _ q1) (exOf.le l σ) q, PS.weak (h he.run) fun Dn σV H ⟨ι0, H0, ι, σ, h, e, hS, hH, q⟩ => ?_⟩
  exact tE.stm he.mono e hS hH q fun d h1 ι1 v H1 q1 _ e1 hS1 hH1 r => q1 ι1 _ H1 e1 (hS1.set i r) hH1

/-! ### while -/
def sWhile (t : LX Bool) (b : LS) : LS := fun σ h K => ∃ I : Nat → LV → LH → Prop, (∃ m, I m σ h) ∧ ∀ m σ h, I m σ h → t σ h (fun c h1 => if c = true then
    b σ h1 { nx := fun σ' h' => ∃ m', m' < m ∧ I m' σ' h', ct := fun σ' h' => ∃ m', m' < m ∧ I m' σ' h', bk := K.nx, rt := K.rt, ex := K.ex } else K.nx σ h1) (exOf K σ)
theorem js_while {c : Expr} {body : List Stmt} {T : LX Bool} {B : LS} {pos : Pos} (hp : PassesOwn (model X.prog X.w) X.A X.env X.xe) (ht : JT X W c T) (hb : JSs X W body B) : JS X W (.While c body [] pos) (sWhile T B) := by
  refine ⟨fun σ h A B' l ⟨I, h0, hI⟩ => ⟨I, h0, fun m σ h q => ht.mono σ h _ _ _ _ ?_ (exOf.le l σ) (hI m σ h q)⟩, PS.weak (ps_while hp ht.run hb.run) fun Dn σV H ⟨ι0, H0, ι, σ, h, e, hS, hH, q⟩ => ?_⟩
  · intro c h1 q1
    cases c with
    | true => rw [if_pos rfl] at q1 ⊢; exact hb.mono σ h1 { A with nx := _, ct := _, bk := A.nx } { B' with nx := _, ct := _, bk := B'.nx } ⟨fun _ _ q => q, l.rt, l.nx, fun _ _ q => q, l.ex⟩ q1
    | false => rw [if_neg Bool.false_ne_true] at q1 ⊢; exact l.nx _ _ q1
  · obtain ⟨I, ⟨m0, h0⟩, hI⟩ := q
    refine ⟨fun m σV H => ∃ ι σ h, Ext ι0 H0 ι H ∧ RelS X.K ι H σ σV ∧ RelH X.K ι H h ∧ I m σ h, ⟨m0, ι, σ, h, e, hS, hH, h0⟩, ?_⟩
    rintro m σV1 H1 ⟨ι1, σ1, h1, e1, hS1, hH1, q1⟩
    refine tT.stm ht.mono e1 hS1 hH1 (hI m σ1 h1 q1) fun c h2 ι2 H2 q2 _ e2 hS2 hH2 => ?_
    cases c with
    | true =>
      rw [if_pos rfl] at q2 ⊢
      refine ⟨fun σV' H' => ∃ ι' σ' h', Ext ι0 H0 ι' H' ∧ RelS X.K ι' H' σ' σV' ∧ RelH X.K ι' H' h' ∧ ∃ m', m' < m ∧ I m' σ' h', fun σV' H' ⟨ι', σ', h', e', hS', hH', m', hm, q'⟩ => ⟨m', hm, ι', σ', h', e', hS', hH', q'⟩, ?_⟩
      refine ⟨ι0, H0, ι2, σ1, h2, e2, hS2, hH2, hb.mono σ1 h2 _ _ ?_ q2⟩
      exact ⟨fun σ' h' q' ι' σV' H' e' hS' hH' => ⟨ι', σ', h', e', hS', hH', q'⟩, fun _ _ q => q, fun _ _ q => q, fun σ' h' q' ι' σV' H' e' hS' hH' => ⟨ι', σ', h', e', hS', hH', q'⟩, fun _ _ _ _ q => q⟩
    | false => rw [if_neg Bool.false_ne_true] at q2 ⊢; exact q2 ι2 σV1 H2 e2 hS2 hH2

/-! ### for -/
/-- what is walked: the items, and what must stay true of the heap meanwhile -/
structure LIt where
  items : List D
  ok : LH → Prop
structure ItRel (K : Frag) (ι1 : Ad) (H1 : Hp) (J : LIt) (Jv : It) : Prop where
  stop : ∀ ι H h, Ext ι1 H1 ι H → RelH K ι H h → J.ok h → Jv.stop J.items.length H
  go : ∀ i x ι H h, J.items[i]? = some x → Ext ι1 H1 ι H → RelH K ι H h → J.ok h → Jv.go i H ∧ ∀ v H', Jv.yld i H v H' → Ext ι H ι H' ∧ RelH K ι H' h ∧ RelD K ι H' x v
abbrev LI := LX LIt
def tI (K : Frag) (W : WX) (m : LI) : TI := tX K W (fun ι H J Jv => ItRel K ι H J Jv) m
structure JI (X : Cx) (W : WX) (tg iter : Expr) (m : LI) : Prop where
  mono : Mono m
  run : PI X tg iter (tI X.K W m)
/-- later moments of the iteration -/
def sFor (m : LI) (g : LG) (b : LS) : LS := fun σ h K => m σ h (fun J h1 => ∃ I : Nat → LV → LH → Prop, I 0 σ h1 ∧ (∀ i σ h, i ≤ J.items.length → I i σ h → J.ok h) ∧
    (∀ i x σ h, J.items[i]? = some x → I i σ h → g x σ h (fun σ2 h2 => b σ2 h2 { nx := I (i + 1), ct := I (i + 1), bk := K.nx, rt := K.rt, ex := K.ex }) (exOf K σ)) ∧
    ∀ σ h, I J.items.length σ h → K.nx σ h) (exOf K σ)
theorem PI.weak {tg iter : Expr} {t t' : TI} (h : PI X tg iter t) (w : ∀ σ H Q, t' σ H Q → t σ H Q) : PI X tg iter t' := ⟨fun pins s σ H R I q => h.run pins s σ H R I (w _ _ _ q)⟩
theorem js_for {tg iter : Expr} {body : List Stmt} {m : LI} {g : LG} {B : LS} {pos : Pos} (hp : PassesOwn (model X.prog X.w) X.A X.env X.xe) (hc : X.calm = true) (hi : JI X W tg iter m) (hg : JG X W tg g) (hb : JSs X W body B)
    (hs : ∀ x, foldedSetIterable iter X.env x = pure x := by intro _; rfl) : JS X W (.For tg iter body [] pos) (sFor m g B) := by
  refine ⟨fun σ h A B' l q => hi.mono σ h _ _ _ _ ?_ (exOf.le l σ) q, PS.weak (ps_for hp hc hi.run hg.run hb.run hs) fun Dn σV H ⟨ι0, H0, ι, σ, h, e, hS, hH, q⟩ => ?_⟩
  · rintro J h1 ⟨I, h0, hok, hstep, hend⟩
    refine ⟨I, h0, hok, fun i x σ h e q => hg.mono x σ h _ _ _ _ (fun σ2 h2 q2 => hb.mono σ2 h2 { A with nx := _, ct := _, bk := A.nx } { B' with nx := _, ct := _, bk := B'.nx } ⟨fun _ _ q => q, l.rt, l.nx, fun _ _ q => q, l.ex⟩ q2) (exOf.le l σ) (hstep i x σ h e q), fun σ h q => l.nx _ _ (hend σ h q)⟩
  · refine tX.into hi.mono hS hH q (fun J h1 ι1 Jv H1 q1 e1 hH1 r => ?_) (fun c fs h1 ι1 dx H1 q1 e1 hH1 r => q1 ι1 dx σV H1 (e.trans e1) (hS.ext e1) hH1 r)
    obtain ⟨I, h0, hok, hstep, hend⟩ := q1
    refine ⟨fun i k σV' H' => k = J.items.length - i ∧ i ≤ J.items.length ∧ ∃ ι' σ' h', Ext ι0 H0 ι' H' ∧ Ext ι1 H1 ι' H' ∧ RelS X.K ι' H' σ' σV' ∧ RelH X.K ι' H' h' ∧ I i σ' h', ⟨_, rfl, Nat.zero_le _, ι1, σ, h1, e.trans e1, .refl _ _, hS.ext e1, hH1, h0⟩, ?_⟩
    rintro i k σV2 H2 ⟨rfl, hi2, ι2, σ2, h2, e2, f2, hS2, hH2, q2⟩
    have ok2 := hok i σ2 h2 hi2 q2
    by_cases hlt : i < J.items.length
    · obtain ⟨x, hx⟩ : ∃ x, J.items[i]? = some x := ⟨_, List.getElem?_eq_getElem hlt⟩
      obtain ⟨go, yl⟩ := r.go i x ι2 H2 h2 hx f2 hH2 ok2
      refine .inr ⟨go, fun σV' H' => ∃ ι' σ' h', Ext ι0 H0 ι' H' ∧ Ext ι1 H1 ι' H' ∧ RelS X.K ι' H' σ' σV' ∧ RelH X.K ι' H' h' ∧ I (i + 1) σ' h', fun σV' H' q' => ⟨_, by omega, rfl, hlt, q'⟩, fun v H3 y => ?_⟩
      obtain ⟨e3, hH3, r3⟩ := yl v H3 y
      have e03 := e2.trans e3
      refine ⟨ι2, σ2, h2, x, hS2.ext e3, hH3, r3, ?_⟩
      refine hg.mono x σ2 h2 _ _ _ _ (fun σ3 h3 q3 ι3 σV3 H4 e4 hS4 hH4 => ?_) (fun c fs h3 q3 ι3 dx σV3 H4 e4 hS4 hH4 r4 => q3 ι3 dx σV3 H4 (e03.trans e4) hS4 hH4 r4) (hstep i x σ2 h2 hx q2)
      refine ⟨ι1, H1, ι3, σ3, h3, f2.trans (e3.trans e4), hS4, hH4, hb.mono σ3 h3 _ _ ?_ q3⟩
      have e01 := e.trans e1
      exact ⟨fun σ' h' q' ι' σV' H' e' hS' hH' => ⟨ι', σ', h', e01.trans e', e', hS', hH', q'⟩, fun d h' q' ι' v' H' e' hH' r' => q' ι' v' H' (e01.trans e') hH' r', fun σ' h' q' ι' σV' H' e' hS' hH' => q' ι' σV' H' (e01.trans e') hS' hH',
        fun σ' h' q' ι' σV' H' e' hS' hH' => ⟨ι', σ', h', e01.trans e', e', hS', hH', q'⟩, fun c fs σ' h' q' ι' dx σV' H' e' hS' hH' r' => q' ι' dx σV' H' (e01.trans e') hS' hH' r'⟩
    · have ei : i = J.items.length := by omega
      subst ei
      exact .inl ⟨r.stop ι2 H2 h2 f2 hH2 ok2, hend σ2 h2 q2 ι2 σV2 H2 e2 hS2 hH2⟩
end LL
end

section
set_option Elab.async false
set_option linter.all false
set_option maxRecDepth 100000
set_option maxHeartbeats 1000000
/-! LLMore: None, chains, fields, subscripts, slices, stores, augmented stores, list methods. -/
namespace LL
open PySem PySem.Spec PyProof.Rows L2
variable {X : Cx} {W : WX}

/-! ### is None -/
def D.isNon : D → Bool | .non => true | _ => false
theorem RelD.isNon {K : Frag} {ι : Ad} {H : Hp} {d : D} {v : V} (r : RelD K ι H d v) : decide (v = V.non) = d.isNon := by
  cases d with
  | non => cases r; rfl
  | bl _ => cases r; rfl
  | int _ => cases r; rfl
  | str _ => cases r; rfl
  | tup _ => obtain ⟨a, vs, rfl, _⟩ := r; rfl
  | lst _ => obtain ⟨a, vs, rfl, _⟩ := r; rfl
  | ob _ _ _ => obtain ⟨a, dx, vs, rfl, _⟩ := r; rfl
  | ref _ => obtain ⟨a, _, rfl⟩ := r; rfl
  | dfn _ => cases r; rfl
  | fn _ _ _ _ => obtain ⟨rfl, _⟩ := r; rfl
  | dct _ _ => obtain ⟨a, vs, rfl, _⟩ := r; rfl
  | exc _ _ d _ _ => obtain ⟨rfl, _⟩ := r; rfl
def oIsN : LOp := fun x y h Q => match y with | .non => Q (.bl x.isNon) h | _ => False
def oNotN : LOp := fun x y h Q => match y with | .non => Q (.bl (!x.isNon)) h | _ => False
theorem opsIsN {K : Frag} : OpS K (fun x y H Q => y = .non ∧ Q (.bl (decide (x = .non))) H) oIsN := by
  refine ⟨fun x y h Q Q' hQ q => ?_, fun ι H h x y vx vy Q Qv hH rx ry q k => ?_⟩
  · unfold oIsN at *; split at q <;> first | exact hQ _ _ q | exact q.elim
  · unfold oIsN at q
    split at q
    · exact ⟨ry, by rw [rx.isNon]; exact k _ h ι _ H q (.refl _ _) hH rfl⟩
    · exact q.elim
theorem opsNotN {K : Frag} : OpS K (fun x y H Q => y = .non ∧ Q (.bl (!decide (x = .non))) H) oNotN := by
  refine ⟨fun x y h Q Q' hQ q => ?_, fun ι H h x y vx vy Q Qv hH rx ry q k => ?_⟩
  · unfold oNotN at *; split at q <;> first | exact hQ _ _ q | exact q.elim
  · unfold oNotN at q
    split at q
    · exact ⟨ry, by rw [rx.isNon]; exact k _ h ι _ H q (.refl _ _) hH rfl⟩
    · exact q.elim
section
variable {a b : Expr} {A B : LE} {pos : Pos}
theorem je_isN (ha : JE X W a A) (hb : JE X W b B) : JE X W (.Compare a [.Is] [b] pos) (eOp oIsN A B) := je_cmp op_isN opsIsN ha hb (nomark _)
theorem je_notN (ha : JE X W a A) (hb : JE X W b B) : JE X W (.Compare a [.IsNot] [b] pos) (eOp oNotN A B) := je_cmp op_notN opsNotN ha hb (nomark _)
theorem jt_isN (ha : JE X W a A) (hb : JE X W b B) : JT X W (.Compare a [.Is] [b] pos) (eTest (eOp oIsN A B)) := jt_cmp op_isN opsIsN ha hb (nomark _)
theorem jt_notN (ha : JE X W a A) (hb : JE X W b B) : JT X W (.Compare a [.IsNot] [b] pos) (eTest (eOp oNotN A B)) := jt_cmp op_notN opsNotN ha hb (nomark _)
end

/-! ### chains a op b op c -/
def eChain (o o' : LOp) (a b c : LE) : LE := fun σ h Q E => a σ h (fun x h1 => b σ h1 (fun y h2 => o x y h2 (fun z h3 => ∃ k, z = .bl k ∧
  if k = true then c σ h3 (fun w h4 => o' y w h4 Q) E else Q (.bl false) h3)) E) E
section
variable {op op' : CmpOp} {r r' : R2} {o o' : LOp} {a b c : Expr} {A B C : LE} {pos : Pos}
theorem mono_chain (hs : OpS X.K r o) (hs' : OpS X.K r' o') (ha : Mono A) (hb : Mono B) (hc : Mono C) : Mono (eChain o o' A B C) := fun σ h Q Q' E E' hQ hE q =>
  ha σ h _ _ _ _ (fun x h1 q1 => hb σ h1 _ _ _ _ (fun y h2 q2 => hs.mono _ _ _ _ _ (fun z h3 ⟨k, e, q3⟩ => ⟨k, e, by
    cases k with
    | true => rw [if_pos rfl] at q3 ⊢; exact hc σ h3 _ _ _ _ (fun w h4 q4 => hs'.mono _ _ _ _ _ hQ q4) hE q3
    | false => rw [if_neg Bool.false_ne_true] at q3 ⊢; exact hQ _ _ q3⟩) q2) hE q1) hE q
theorem chain_run (hs : OpS X.K r o) (hs' : OpS X.K r' o') (ha : Mono A) (hb : Mono B) (hc : Mono C) {σV : L2.St} {H : Hp} {Q : VK} (q : tE X.K W (eChain o o' A B C) σV H Q) : tChain r r' (tE X.K W A) (tE X.K W B) (tE X.K W C) σV H Q := by
  obtain ⟨ι, σ, h, hS, hH, q⟩ := q
  refine tX.into ha hS hH q (fun x h1 ι1 vx H1 q1 e1 hH1 rx => ?_) (fun c fs h1 ι1 dx H1 q1 => q1 ι1 dx H1)
  refine tX.into hb (hS.ext e1) hH1 q1 (fun y h2 ι2 vy H2 q2 e2 hH2 ry => ?_) (fun c fs h2 ι2 dx H2 q2 e2 => q2 ι2 dx H2 (e1.trans e2))
  refine hs.run ι2 H2 h2 x y vx vy _ _ hH2 (rx.ext e2) ry q2 fun z h3 ι3 v3 H3 ⟨k, e, q3⟩ e3 hH3 r3 => ?_
  subst e
  have e03 := e1.trans (e2.trans e3)
  refine ⟨k, r3, ?_⟩
  cases k with
  | true =>
    rw [if_pos rfl] at q3 ⊢
    refine tX.into hc (hS.ext e03) hH3 q3 (fun w h4 ι4 vw H4 q4 e4 hH4 rw' => ?_) (fun c fs h4 ι4 dx H4 q4 e4 => q4 ι4 dx H4 (e03.trans e4))
    exact hs'.run ι4 H4 h4 y w vy vw _ _ hH4 (ry.ext (e3.trans e4)) rw' q4 fun d h' ι' v H' q5 e5 => q5 ι' v H' (e03.trans (e4.trans e5))
  | false => rw [if_neg Bool.false_ne_true] at q3 ⊢; exact q3 ι3 _ H3 e03 hH3 rfl
theorem je_chain (ho : OpR X (compareOp op) r) (ho' : OpR X (compareOp op') r') (hs : OpS X.K r o) (hs' : OpS X.K r' o') (ha : JE X W a A) (hb : JE X W b B) (hc : JE X W c C) (hm : lastMarks [op, op'] [b, c] = false := by with_unfolding_all rfl) :
    JE X W (.Compare a [op, op'] [b, c] pos) (eChain o o' A B C) :=
  ⟨mono_chain hs hs' ha.mono hb.mono hc.mono, PE.weak (pe_chain ho ho' ha.run hb.run hc.run hm) fun _ _ _ q => chain_run hs hs' ha.mono hb.mono hc.mono q⟩
theorem jt_chain (ho : OpR X (compareOp op) r) (ho' : OpR X (compareOp op') r') (hs : OpS X.K r o) (hs' : OpS X.K r' o') (ha : JE X W a A) (hb : JE X W b B) (hc : JE X W c C) (hm : lastMarks [op, op'] [b, c] = false := by with_unfolding_all rfl) :
    JT X W (.Compare a [op, op'] [b, c] pos) (eTest (eChain o o' A B C)) :=
  ⟨mono_test (mono_chain hs hs' ha.mono hb.mono hc.mono), PT.weak (pt_chain ho ho' ha.run hb.run hc.run hm) fun _ _ _ q => chain_run (W := W) hs hs' ha.mono hb.mono hc.mono (test_run (mono_chain hs hs' ha.mono hb.mono hc.mono) q)⟩
abbrev oiLt : ∀ {K : Frag}, OpS K (rI0 fun i j => .bl (decide (i < j))) oLt := opsI0 fun _ _ _ _ => rfl
abbrev oiLe : ∀ {K : Frag}, OpS K (rI0 fun i j => .bl (decide (i ≤ j))) oLe := opsI0 fun _ _ _ _ => rfl
end

/-! ### fields -/
theorem RelFs.look {K : Frag} {ι : Ad} {H : Hp} {f : Str} {d : D} : ∀ {fs : List (Str × D)} {vs : List (Str × V)}, RelFs K ι H fs vs → fs.lookup f = some d → ∃ v, vs.lookup f = some v ∧ RelD K ι H d v
  | [], _, _, e => by cases e
  | (g, d') :: fs, _, ⟨v, r, h1, h2, h3⟩, e => by
    subst h1
    rw [List.lookup_cons] at e ⊢
    cases q : (f == g) with
    | true => rw [q] at e; cases e; exact ⟨v, rfl, h2⟩
    | false => rw [q] at e; exact RelFs.look h3 e
theorem RelFs.zip {K : Frag} {ι : Ad} {H : Hp} : ∀ {ns : List Str} {ds : List D} {vs : List V}, ns.length = ds.length → RelDs K ι H ds vs → RelFs K ι H (ns.zip ds) (ns.zip vs)
  | [], [], _, _, h => by cases h; exact rfl
  | n :: ns, d :: ds, _, l, ⟨v, r, h1, h2, h3⟩ => by subst h1; exact ⟨v, _, rfl, h2, RelFs.zip (by simpa using l) h3⟩
def putD (f : Str) (d : D) : List (Str × D) → List (Str × D)
  | [] => [(f, d)]
  | (g, e) :: r => if g = f then (g, d) :: r else (g, e) :: putD f d r
theorem RelFs.put {K : Frag} {ι : Ad} {H : Hp} {f : Str} {d : D} {v : V} (r : RelD K ι H d v) : ∀ {fs : List (Str × D)} {vs : List (Str × V)}, RelFs K ι H fs vs → RelFs K ι H (putD f d fs) (putF f v vs)
  | [], _, h => by cases h; exact ⟨v, [], rfl, r, rfl⟩
  | (g, d') :: fs, _, ⟨u, us, h1, h2, h3⟩ => by
    subst h1
    unfold putD putF
    split
    · exact ⟨v, us, rfl, r, h3⟩
    · exact ⟨u, _, rfl, h2, RelFs.put r h3⟩
theorem RelFs.length {K : Frag} {ι : Ad} {H : Hp} : ∀ {fs : List (Str × D)} {vs : List (Str × V)}, RelFs K ι H fs vs → fs.length = vs.length
  | [], _, h => by cases h; rfl
  | _ :: _, _, ⟨v, r, h1, _, h3⟩ => by subst h1; simp [RelFs.length h3]
/-- what a class is known to have -/
structure CF (K : Frag) (C f : Str) : Prop where
  c : Cls K (He.ga K C)
  n : NoAttr K (He.ga K C) f
/-- the field f of an instance of one of the classes Cs -/
def getF (Cs : List Str) (f : Str) (d : D) (h : LH) (Q : D → LH → Prop) : Prop := match d with
  | .ob C ns ds => C ∈ Cs ∧ ∃ v, (ns.zip ds).lookup f = some v ∧ Q v h
  | .ref n => match h[n]? with
    | some (.ins C fs) => C ∈ Cs ∧ ∃ v, fs.lookup f = some v ∧ Q v h
    | _ => False
  | _ => False
theorem getF_mono {Cs : List Str} {f : Str} {d : D} {h : LH} {Q Q' : D → LH → Prop} (hQ : ∀ d h, Q d h → Q' d h) (q : getF Cs f d h Q) : getF Cs f d h Q' := by
  unfold getF at *
  split at q
  · obtain ⟨c, v, e, q⟩ := q; exact ⟨c, v, e, hQ _ _ q⟩
  · split at q
    · obtain ⟨c, v, e, q⟩ := q; exact ⟨c, v, e, hQ _ _ q⟩
    · exact q.elim
  · exact q.elim
theorem getF_run {K : Frag} {Cs : List Str} {f : Str} (hc : ∀ C ∈ Cs, CF K C f) {ι : Ad} {H : Hp} {h : LH} {d : D} {v : V} {Q : D → LH → Prop} (hH : RelH K ι H h) (r : RelD K ι H d v) (q : getF Cs f d h Q) :
    ∃ a C dx fs d' v', v = .ref a ∧ H a = some (.ins C dx fs) ∧ Cls K C ∧ NoAttr K C f ∧ fs.lookup f = some v' ∧ RelD K ι H d' v' ∧ Q d' h := by
  unfold getF at q
  split at q
  · rename_i C ns ds
    obtain ⟨c, d', e, q⟩ := q
    obtain ⟨a, dx, vs, rfl, _, h2, h3, h4⟩ := r
    obtain ⟨v', e', r'⟩ := (RelFs.zip h3 h4).look e
    exact ⟨a, _, dx, _, d', v', rfl, h2, (hc C c).c, (hc C c).n, e', r', q⟩
  · rename_i n
    split at q
    · rename_i C fs ho
      obtain ⟨c, d', e, q⟩ := q
      obtain ⟨a, ha, rfl⟩ := r
      obtain ⟨dx, vs, h1, h2⟩ := hH.ins ha ho
      obtain ⟨v', e', r'⟩ := h2.look e
      exact ⟨a, _, dx, _, d', v', rfl, h1, (hc C c).c, (hc C c).n, e', r', q⟩
    · exact q.elim
  · exact q.elim
def eFld (Cs : List Str) (f : Str) (m : LE) : LE := fun σ h Q E => m σ h (fun d h1 => getF Cs f d h1 Q) E
theorem je_fld {Cs : List Str} {f : Str} {e : Expr} {m : LE} {pos : Pos} (hc : ∀ C ∈ Cs, CF X.K C f) (he : JE X W e m) (hb : attributeBase e f X.env (eval e X.env) = eval e X.env := by rfl) : JE X W (.Attribute e f pos) (eFld Cs f m) := by
  refine ⟨fun σ h Q Q' E E' hQ hE q => he.mono σ h _ _ _ _ (fun d h1 q1 => getF_mono hQ q1) hE q, PE.weak (pe_fld he.run hb) fun σV H Q ⟨ι, σ, h, hS, hH, q⟩ => ?_⟩
  refine tX.into he.mono hS hH q (fun d h1 ι1 v H1 q1 e1 hH1 r => ?_) (fun c fs h1 ι1 dx H1 q1 => q1 ι1 dx H1)
  obtain ⟨a, C, dx, fs, d', v', h1, h2, h3, h4, h5, h6, h7⟩ := getF_run hc hH1 r q1
  exact ⟨a, C, dx, fs, v', h1, h2, h3, h4, h5, h7 ι1 v' H1 e1 hH1 h6⟩
/-- the field f of the instance d is stored -/
def setF (Cs : List Str) (f : Str) (d v : D) (h : LH) (Q : LH → Prop) : Prop := match d with
  | .ref n => match h[n]? with
    | some (.ins C fs) => C ∈ Cs ∧ fs.length < 1000 ∧ Q (h.set n (.ins C (putD f v fs)))
    | _ => False
  | _ => False
theorem setF_mono {Cs : List Str} {f : Str} {d v : D} {h : LH} {Q Q' : LH → Prop} (hQ : ∀ h, Q h → Q' h) (q : setF Cs f d v h Q) : setF Cs f d v h Q' := by
  unfold setF at *
  split at q
  · split at q
    · exact ⟨q.1, q.2.1, hQ _ q.2.2⟩
    · exact q.elim
  · exact q.elim
theorem setF_run {K : Frag} {Cs : List Str} {f : Str} (hc : ∀ C ∈ Cs, CF K C f) {ι : Ad} {H : Hp} {h : LH} {d y : D} {v vy : V} {Q : LH → Prop} (hH : RelH K ι H h) (r : RelD K ι H d v) (ry : RelD K ι H y vy) (q : setF Cs f d y h Q) :
    ∃ a C dx fs h', v = .ref a ∧ H a = some (.ins C dx fs) ∧ Cls K C ∧ NoAttr K C f ∧ fs.length < 1000 ∧ Ext ι H ι (upd H a (.ins C dx (putF f vy fs))) ∧ RelH K ι (upd H a (.ins C dx (putF f vy fs))) h' ∧ Q h' := by
  unfold setF at q
  split at q
  · rename_i n
    split at q
    · rename_i C fs ho
      obtain ⟨c, l, q⟩ := q
      obtain ⟨a, ha, rfl⟩ := r
      obtain ⟨dx, vs, h1, h2⟩ := hH.ins ha ho
      have ex : Ext ι H ι (upd H a (.ins (He.ga K C) dx (putF f vy vs))) := Ext.write hH ha (by rw [h1]; trivial) trivial
      exact ⟨a, _, dx, _, _, rfl, h1, (hc C c).c, (hc C c).n, by rw [← h2.length]; exact l, ex, hH.write (o := .ins C (putD f y fs)) ha (by rw [h1]; trivial) ex ⟨dx, _, upd_same, (h2.ext ex).put (ry.ext ex)⟩, q⟩
    · exact q.elim
  · exact q.elim
def sFldA (Cs : List Str) (f : Str) (m o : LE) : LS := fun σ h K => m σ h (fun y h1 => o σ h1 (fun d h2 => setF Cs f d y h2 (K.nx σ)) (exOf K σ)) (exOf K σ)
theorem js_fld {Cs : List Str} {f : Str} {o value : Expr} {A V' : LE} {pos pos' : Pos} (hc : ∀ C ∈ Cs, CF X.K C f) (hv : JE X W value V') (ho : JE X W o A) (hs : swapsWith value (some (.Attribute o f pos')) pos.line X.env = pure false := by rfl) :
    JS X W (.Assign [.Attribute o f pos'] value pos) (sFldA Cs f V' A) := by
  refine ⟨fun σ h A' B l q => hv.mono σ h _ _ _ _ (fun y h1 q1 => ho.mono σ h1 _ _ _ _ (fun d h2 q2 => setF_mono (fun _ q3 => l.nx _ _ q3) q2) (exOf.le l σ) q1) (exOf.le l σ) q, PS.weak (ps_fld ho.run hv.run hs) fun Dn σV H ⟨ι0, H0, ι, σ, h, e, hS, hH, q⟩ => ?_⟩
  refine tE.stm hv.mono e hS hH q fun y h1 ι1 vy H1 q1 _ e1 hS1 hH1 ry => tE.stm ho.mono e1 hS1 hH1 q1 fun d h2 ι2 v H2 q2 f2 e2 hS2 hH2 r => ?_
  obtain ⟨a, C, dx, fs, h', z1, z2, z3, z4, z5, ex, hH3, q3⟩ := setF_run hc hH2 r (ry.ext f2) q2
  exact ⟨a, C, dx, fs, z1, z2, z3, z4, z5, q3 ι2 σV _ (e2.trans ex) (hS2.ext ex) hH3⟩
/-- e.f as a target -/
def gFld (K : Frag) (to : TE) (f : Str) : TG := fun v σ H Q => to σ H fun o H1 => ∃ a C dx fs, o = .ref a ∧ H1 a = some (.ins C dx fs) ∧ Cls K C ∧ NoAttr K C f ∧ fs.length < 1000 ∧ Q σ (upd H1 a (.ins C dx (putF f v fs)))
theorem pg_fld {o : Expr} {f : Str} {pos : Pos} {to : TE} (ho : PE X o to) : PG X (.Attribute o f pos) (gFld X.K to f) := by
  refine ⟨fun pins s σ H v u Q I r h => ?_⟩
  refine PySem.W.kas_attr (thn (ho.run pins s σ H _ I h) fun ov s1 ⟨x, H1, I1, r1, a, C, dx, fs, ex, ea, c, n, l, q⟩ => ?_)
  subst ex
  obtain rfl : ov = Value.ref a := r1
  exact setattr_ok I1 ea c n l r fun s2 I2 => ⟨σ, _, I2, q⟩
def gFd (Cs : List Str) (f : Str) (o : LE) : LG := fun d σ h Q E => o σ h (fun x h1 => setF Cs f x d h1 (Q σ)) E
theorem jg_fld {Cs : List Str} {f : Str} {o : Expr} {A : LE} {pos : Pos} (hc : ∀ C ∈ Cs, CF X.K C f) (ho : JE X W o A) : JG X W (.Attribute o f pos) (gFd Cs f A) := by
  refine ⟨fun d σ h Q Q' E E' hQ hE q => ho.mono σ h _ _ _ _ (fun x h1 q1 => setF_mono (fun _ q2 => hQ _ _ q2) q1) hE q, PG.weak (pg_fld ho.run) fun v σV H Q ⟨ι, σ, h, d, hS, hH, r, q⟩ => ?_⟩
  refine tX.into ho.mono hS hH q (fun x h1 ι1 vx H1 q1 e1 hH1 rx => ?_) (fun c fs h1 ι1 dx H1 q1 e1 => q1 ι1 dx σV H1 e1 (hS.ext e1))
  obtain ⟨a, C, dx, fs, h', z1, z2, z3, z4, z5, ex, hH3, q3⟩ := setF_run hc hH1 rx (r.ext e1) q1
  exact ⟨a, C, dx, fs, z1, z2, z3, z4, z5, q3 ι1 σV _ (e1.trans ex) (hS.ext (e1.trans ex)) hH3⟩
/-- (a, b, ..) as a target -/
def gNl : List D → LV → LH → (LV → LH → Prop) → XL → Prop := fun ds σ h Q _ => ds = [] ∧ Q σ h
def gCs (g : LG) (r : List D → LV → LH → (LV → LH → Prop) → XL → Prop) : List D → LV → LH → (LV → LH → Prop) → XL → Prop := fun ds σ h Q E => match ds with
  | d :: ds' => g d σ h (fun σ' h' => r ds' σ' h' Q E) E
  | [] => False
abbrev LGs := List D → LV → LH → (LV → LH → Prop) → XL → Prop
def MonoGs (g : LGs) : Prop := ∀ d σ h (Q Q' : LV → LH → Prop) (E E' : XL), (∀ σ h, Q σ h → Q' σ h) → (∀ c fs h, E c fs h → E' c fs h) → g d σ h Q E → g d σ h Q' E'
def NoW : WX := fun _ _ _ _ => False
/-- several targets: none of them may raise -/
def tGs (K : Frag) (g : LGs) : TGs := fun vs σV H Qv => ∃ ι σ h ds, RelS K ι H σ σV ∧ RelH K ι H h ∧ RelDs K ι H ds vs ∧
  g ds σ h (fun σ' h' => ∀ ι' σV' H', Ext ι H ι' H' → RelS K ι' H' σ' σV' → RelH K ι' H' h' → Qv σV' H') (fun _ _ _ => False)
structure JGs (X : Cx) (es : List Expr) (g : LGs) : Prop where
  mono : MonoGs g
  run : PGs X es (tGs X.K g)
theorem PGs.weak {es : List Expr} {t t' : TGs} (h : PGs X es t) (w : ∀ v σ H Q, t' v σ H Q → t v σ H Q) : PGs X es t' := ⟨fun pins s σ H v u Q I r q => h.run pins s σ H v u Q I r (w _ _ _ _ q)⟩
theorem jgs_nil : JGs X [] gNl := ⟨fun d σ h Q Q' E E' hQ hE q => ⟨q.1, hQ _ _ q.2⟩, PGs.weak pgs_nil fun vs σV H Q ⟨ι, σ, h, ds, hS, hH, r, e, q⟩ => by subst e; exact ⟨r, q ι σV H (.refl _ _) hS hH⟩⟩
theorem jgs_cons {e : Expr} {es : List Expr} {g : LG} {r : LGs} (hg : JG X W e g) (hr : JGs X es r) (hs : (assignEach (e :: es) X.env).map (·.2) = assign e X.env :: (assignEach es X.env).map (·.2) := by rfl) : JGs X (e :: es) (gCs g r) := by
  refine ⟨fun d σ h Q Q' E E' hQ hE q => ?_, PGs.weak (pgs_cons hg.run hr.run hs) fun vs σV H Q ⟨ι, σ, h, ds, hS, hH, rs, q⟩ => ?_⟩
  · unfold gCs at *
    split at q
    · exact hg.mono _ _ _ _ _ _ _ (fun σ' h' q' => hr.mono _ _ _ _ _ _ _ hQ hE q') hE q
    · exact q.elim
  · unfold gCs at q
    split at q
    · rename_i d ds'
      obtain ⟨v, vr, rfl, r1, r2⟩ := rs
      refine ⟨v, vr, rfl, ι, σ, h, d, hS, hH, r1, hg.mono _ _ _ _ _ _ _ (fun σ' h' q' ι' σV' H' e' hS' hH' => ?_) (fun c fs h q => q.elim) q⟩
      exact ⟨ι', σ', h', ds', hS', hH', r2.ext e', hr.mono _ _ _ _ _ _ _ (fun σ2 h2 q2 ι2 σV2 H2 e2 => q2 ι2 σV2 H2 (e'.trans e2)) (fun _ _ _ q => q) q'⟩
    · exact q.elim
def gTp (n : Nat) (r : LGs) : LG := fun d σ h Q _ => match d with
  | .tup ds => ds.length = n ∧ r ds σ h Q (fun _ _ _ => False)
  | _ => False
theorem jg_tup {es : List Expr} {k n : Nat} {r : LGs} {pos : Pos} (hc : X.calm = true) (h : JGs X es r) (hn : (assignEach es X.env).length = n := by rfl) (hst : (assignEach es X.env).findIdx? (·.1) = none := by rfl) :
    JG X W (.Tuple es k pos) (gTp n r) := by
  refine ⟨fun d σ h' Q Q' E E' hQ hE q => ?_, PG.weak (pg_tup hc h.run hn hst) fun v σV H Q ⟨ι, σ, h', d, hS, hH, rd, q⟩ => ?_⟩
  · unfold gTp at *
    split at q
    · exact ⟨q.1, h.mono _ _ _ _ _ _ _ hQ (fun _ _ _ q => q) q.2⟩
    · exact q.elim
  · unfold gTp at q
    split at q
    · rename_i ds
      obtain ⟨a, vs, rfl, ht, rs⟩ := rd
      exact ⟨a, vs, rfl, ht, by rw [← rs.length]; exact q.1, ι, σ, h', ds, hS, hH, rs, q.2⟩
    · exact q.elim

/-! ### subscripts -/
def atD (ds : List D) (i : Int) : Option D := atI ds i
theorem RelDs.atI {K : Frag} {ι : Ad} {H : Hp} {ds : List D} {vs : List V} {i : Int} {d : D} (r : RelDs K ι H ds vs) (e : atI ds i = some d) : ∃ v, L2.atI vs i = some v ∧ RelD K ι H d v := by
  unfold L2.atI at *
  rw [← r.length]
  cases q : ixN ds.length i with
  | none => rw [q] at e; cases e
  | some j => rw [q] at e; exact r.get e
/-- a list that is read: a frozen one, or an object -/
def seqL (d : D) (h : LH) (Q : List D → Prop) : Prop := match d with
  | .lst ds => Q ds
  | .ref n => match h[n]? with
    | some (.lst ds) => Q ds
    | _ => False
  | _ => False
theorem seqL_mono {d : D} {h : LH} {Q Q' : List D → Prop} (hQ : ∀ ds, Q ds → Q' ds) (q : seqL d h Q) : seqL d h Q' := by
  unfold seqL at *
  split at q
  · exact hQ _ q
  · split at q
    · exact hQ _ q
    · exact q.elim
  · exact q.elim
theorem seqL_run {K : Frag} {ι : Ad} {H : Hp} {h : LH} {d : D} {v : V} {Q : List D → Prop} (hH : RelH K ι H h) (r : RelD K ι H d v) (q : seqL d h Q) :
    ∃ a ds vs, v = .ref a ∧ SqL K H a vs ∧ RelDs K ι H ds vs ∧ Q ds := by
  unfold seqL at q
  split at q
  · obtain ⟨a, vs, rfl, h1, h2⟩ := r
    exact ⟨a, _, vs, rfl, h1.sq, h2, q⟩
  · split at q
    · rename_i ho
      obtain ⟨a, ha, rfl⟩ := r
      obtain ⟨vs, h1, h2⟩ := hH.lst ha ho
      exact ⟨a, _, vs, rfl, SqL.of h1, h2, q⟩
    · exact q.elim
  · exact q.elim
def seqA (d : D) (h : LH) (Q : List D → Prop) : Prop := match d with
  | .tup ds => Q ds
  | d => seqL d h Q
theorem seqA_mono {d : D} {h : LH} {Q Q' : List D → Prop} (hQ : ∀ ds, Q ds → Q' ds) (q : seqA d h Q) : seqA d h Q' := by
  unfold seqA at *
  split at q
  · exact hQ _ q
  · exact seqL_mono hQ q
theorem seqA_run {K : Frag} {ι : Ad} {H : Hp} {h : LH} {d : D} {v : V} {Q : List D → Prop} (hH : RelH K ι H h) (r : RelD K ι H d v) (q : seqA d h Q) :
    ∃ a ds vs, v = .ref a ∧ (SqL K H a vs ∨ SqT K H a vs) ∧ RelDs K ι H ds vs ∧ Q ds := by
  unfold seqA at q
  split at q
  · obtain ⟨a, vs, rfl, h1, h2⟩ := r
    exact ⟨a, _, vs, rfl, .inr h1, h2, q⟩
  · obtain ⟨a, ds, vs, h1, h2, h3, h4⟩ := seqL_run hH r q
    exact ⟨a, ds, vs, h1, .inl h2, h3, h4⟩
def oIx : LOp := fun x y h Q => match y with
  | .int i => seqA x h fun ds => ∃ d, atI ds i = some d ∧ Q d h
  | _ => False
theorem opsIx {K : Frag} : OpS K (rIx K) oIx := by
  refine ⟨fun x y h Q Q' hQ q => ?_, fun ι H h x y vx vy Q Qv hH rx ry q k => ?_⟩
  · unfold oIx at *
    split at q
    · exact seqA_mono (fun ds ⟨d, e, q⟩ => ⟨d, e, hQ _ _ q⟩) q
    · exact q.elim
  · unfold oIx at q
    split at q
    · rename_i i
      obtain rfl : vy = .int i := ry
      obtain ⟨a, ds, vs, rfl, h1, h2, d, e, q⟩ := seqA_run hH rx q
      obtain ⟨v, e', r'⟩ := h2.atI e
      have fin := k d h ι v H q (.refl _ _) hH r'
      rcases h1 with h1 | h1
      · exact .inl ⟨a, vs, i, v, rfl, rfl, h1, e', fin⟩
      · exact .inr (.inl ⟨a, vs, i, v, rfl, rfl, h1, e', fin⟩)
    · exact q.elim
theorem je_ix {a b : Expr} {A B : LE} {pos : Pos} (ha : JE X W a A) (hb : JE X W b B) (hs : PlainIx b := by intro _ _; rfl) : JE X W (.Subscript a b pos) (eOp oIx A B) :=
  ⟨mono_op (opsIx (K := X.K)).mono ha.mono hb.mono, PE.weak (pe_ix ix_seq ha.run hb.run hs) fun _ _ _ q => op_run opsIx ha.mono hb.mono q⟩

/-! ### slices -/
abbrev LO := LX (Option Int)
structure JO (X : Cx) (W : WX) (e : Option Expr) (m : LO) : Prop where
  mono : Mono m
  run : PO X e (tX X.K W (fun _ _ a b => a = b) m)
def eNoPart : LO := fun _ h Q _ => Q none h
def eSomePart (m : LE) : LO := fun σ h Q E => m σ h (fun d h1 => match d with | .int i => Q (some i) h1 | _ => False) E
theorem PO.weak {e : Option Expr} {t t' : TO} (h : PO X e t) (w : ∀ σ H Q, t' σ H Q → t σ H Q) : PO X e t' := ⟨fun pins s σ H Q I q => h.run pins s σ H Q I (w _ _ _ q)⟩
theorem jo_none : JO X W none eNoPart := ⟨fun _ _ _ _ _ _ hQ _ q => hQ _ _ q, PO.weak po_none fun σV H Q ⟨ι, σ, h, hS, hH, q⟩ => q ι none H (.refl _ _) hH rfl⟩
theorem jo_some {e : Expr} {m : LE} (he : JE X W e m) : JO X W (some e) (eSomePart m) := by
  refine ⟨fun σ h Q Q' E E' hQ hE q => he.mono σ h _ _ _ _ (fun d h1 q1 => ?_) hE q, PO.weak (po_some he.run) fun σV H Q ⟨ι, σ, h, hS, hH, q⟩ => ?_⟩
  · split at q1
    · exact hQ _ _ q1
    · exact q1.elim
  · refine tX.into he.mono hS hH q (fun d h1 ι1 v H1 q1 e1 hH1 r => ?_) (fun c fs h1 ι1 dx H1 q1 => q1 ι1 dx H1)
    split at q1
    · rename_i i
      exact ⟨i, r, q1 ι1 _ H1 e1 hH1 rfl⟩
    · exact q1.elim
def cutD (ds : List D) (lo hi : Option Int) : List D := (ds.drop (HT.sIx ds.length 0 lo)).take (HT.sIx ds.length ds.length hi - HT.sIx ds.length 0 lo)
theorem RelDs.cut {K : Frag} {ι : Ad} {H : Hp} {ds : List D} {vs : List V} (r : RelDs K ι H ds vs) (lo hi : Option Int) : RelDs K ι H (cutD ds lo hi) (cutV vs lo hi) := by
  unfold cutD cutV
  rw [r.length]
  exact (r.drop _).take _
/-- a slice of a list (a new one that nobody changes) or of a tuple -/
def eSl (m : LE) (lo hi : LO) : LE := fun σ h Q E => m σ h (fun x h1 => lo σ h1 (fun l h2 => hi σ h2 (fun u h3 => match x with
  | .tup ds => ¬ (HT.sIx ds.length 0 l = 0 ∧ HT.sIx ds.length ds.length u = ds.length) ∧ Q (.tup (cutD ds l u)) h3
  | d => seqL d h3 fun ds => Q (.lst (cutD ds l u)) h3) E) E) E
theorem je_sl {e : Expr} {lo hi : Option Expr} {m : LE} {l u : LO} {p2 pos : Pos} (he : JE X W e m) (hl : JO X W lo l) (hu : JO X W hi u) (h : ∀ {r : V → Option Int → Option Int → Hp → VK → Prop} {te : TE} {tl th : TO}, SlR X r → PE X e te → PO X lo tl → PO X hi th → PE X (.Subscript e (.Slice lo hi none p2) pos) (tSl r te tl th) := by exact fun a b c d => pe_slice a b c d) :
    JE X W (.Subscript e (.Slice lo hi none p2) pos) (eSl m l u) := by
  refine ⟨fun σ h Q Q' E E' hQ hE q => he.mono σ h _ _ _ _ (fun x h1 q1 => hl.mono σ h1 _ _ _ _ (fun l h2 q2 => hu.mono σ h2 _ _ _ _ (fun u h3 q3 => ?_) hE q2) hE q1) hE q, PE.weak (h (SlR.or sl_tup sl_list) he.run hl.run hu.run) fun σV H Q ⟨ι, σ, h, hS, hH, q⟩ => ?_⟩
  · split at q3
    · exact ⟨q3.1, hQ _ _ q3.2⟩
    · exact seqL_mono (fun ds q => hQ _ _ q) q3
  · refine tX.into he.mono hS hH q (fun x h1 ι1 vx H1 q1 e1 hH1 rx => ?_) (fun c fs h1 ι1 dx H1 q1 => q1 ι1 dx H1)
    refine tX.into hl.mono (hS.ext e1) hH1 q1 (fun l h2 ι2 lv H2 q2 e2 hH2 rl => ?_) (fun c fs h2 ι2 dx H2 q2 e2 => q2 ι2 dx H2 (e1.trans e2))
    refine tX.into hu.mono (hS.ext (e1.trans e2)) hH2 q2 (fun u h3 ι3 uv H3 q3 e3 hH3 ru => ?_) (fun c fs h3 ι3 dx H3 q3 e3 => q3 ι3 dx H3 (e1.trans (e2.trans e3)))
    subst rl ru
    have e03 := e1.trans (e2.trans e3)
    have rx3 := rx.ext (e2.trans e3)
    split at q3
    · rename_i ds
      obtain ⟨a, vs, rfl, ht, rs⟩ := rx3
      refine .inl ⟨a, vs, rfl, ht, by rw [← rs.length]; exact q3.1, fun p hp => ?_⟩
      have ex : Ext ι3 H3 ι3 (upd H3 p (.tup (cutV vs l u))) := Ext.new hp
      exact q3.2 ι3 _ _ (e03.trans ex) (hH3.new hp) ⟨p, _, rfl, SqT.of upd_same, (rs.cut l u).ext ex⟩
    · obtain ⟨a, ds, vs, rfl, hs, rs, q4⟩ := seqL_run hH3 rx3 q3
      refine .inr ⟨a, vs, rfl, hs, fun p hp => ?_⟩
      have ex : Ext ι3 H3 ι3 (upd H3 p (.lst (cutV vs l u))) := Ext.new hp
      exact q4 ι3 _ _ (e03.trans ex) (hH3.new hp) ⟨p, _, rfl, .inl ⟨upd_same, hH3.notNew hp⟩, (rs.cut l u).ext ex⟩

/-! ### stores into lists -/
def setL (o i v : D) (h : LH) (Q : LH → Prop) : Prop := match o, i with
  | .ref n, .int k => match h[n]? with
    | some (.lst ds) => ∃ j, ixN ds.length k = some j ∧ Q (h.set n (.lst (ds.set j v)))
    | _ => False
  | _, _ => False
theorem setL_mono {o i v : D} {h : LH} {Q Q' : LH → Prop} (hQ : ∀ h, Q h → Q' h) (q : setL o i v h Q) : setL o i v h Q' := by
  unfold setL at *
  split at q
  · split at q
    · obtain ⟨j, e, q⟩ := q; exact ⟨j, e, hQ _ q⟩
    · exact q.elim
  · exact q.elim
theorem setL_run {K : Frag} {ι : Ad} {H : Hp} {h : LH} {o i v : D} {vo vi vv : V} {Q : LH → Prop} {Qv : Hp → Prop} (hH : RelH K ι H h) (ro : RelD K ι H o vo) (ri : RelD K ι H i vi) (rv : RelD K ι H v vv) (q : setL o i v h Q)
    (k : ∀ h' H', Q h' → Ext ι H ι H' → RelH K ι H' h' → Qv H') : rSetL vo vi vv H Qv := by
  unfold setL at q
  split at q
  · rename_i n k'
    split at q
    · rename_i ds ho
      obtain ⟨j, e, q⟩ := q
      obtain ⟨a, ha, rfl⟩ := ro
      obtain rfl : vi = .int k' := ri
      obtain ⟨vs, h1, h2⟩ := hH.lst ha ho
      have ex : Ext ι H ι (upd H a (.lst (vs.set j vv))) := Ext.write hH ha (by rw [h1]; trivial) trivial
      exact ⟨a, vs, k', j, rfl, rfl, h1, by rw [← h2.length]; exact e, k _ _ q ex (hH.write (o := .lst (ds.set j v)) ha (by rw [h1]; trivial) ex ⟨_, upd_same, (h2.ext ex).set (rv.ext ex) j⟩)⟩
    · exact q.elim
  · exact q.elim
def gSb (o i : LE) : LG := fun d σ h Q E => o σ h (fun x h1 => i σ h1 (fun y h2 => setL x y d h2 (Q σ)) E) E
theorem jg_sub {o i : Expr} {A B : LE} {pos : Pos} (ho : JE X W o A) (hi : JE X W i B) (h : ∀ {to ti : TE}, PE X o to → PE X i ti → PG X (.Subscript o i pos) (gSub to ti rSetL) := by exact fun a b => pg_sub a b set_list) : JG X W (.Subscript o i pos) (gSb A B) := by
  refine ⟨fun d σ h Q Q' E E' hQ hE q => ho.mono σ h _ _ _ _ (fun x h1 q1 => hi.mono σ h1 _ _ _ _ (fun y h2 q2 => setL_mono (fun _ q3 => hQ _ _ q3) q2) hE q1) hE q, PG.weak (h ho.run hi.run) fun v σV H Q ⟨ι, σ, h, d, hS, hH, r, q⟩ => ?_⟩
  refine tX.into ho.mono hS hH q (fun x h1 ι1 vx H1 q1 e1 hH1 rx => ?_) (fun c fs h1 ι1 dx H1 q1 e1 => q1 ι1 dx σV H1 e1 (hS.ext e1))
  refine tX.into hi.mono (hS.ext e1) hH1 q1 (fun y h2 ι2 vy H2 q2 e2 hH2 ry => ?_) (fun c fs h2 ι2 dx H2 q2 e2 => q2 ι2 dx σV H2 (e1.trans e2) (hS.ext (e1.trans e2)))
  have e02 := e1.trans e2
  exact setL_run hH2 (rx.ext e2) ry (r.ext e02) q2 fun h' H' q3 e3 hH3 => q3 ι2 σV H' (e02.trans e3) (hS.ext (e02.trans e3)) hH3

/-! ### augmented stores -/
def rGetL (K : Frag) : V → V → Hp → VK → Prop := rIxL K
theorem get_list : PGet X (rGetL X.K) := by
  intro pins s σ H o i ov iv Q I ro ri h
  obtain ⟨p, xs, k, z, rfl, rfl, hq, he, q⟩ := h
  cases ro
  obtain ⟨t, rfl⟩ := ri
  obtain ⟨its, r, pl, hz⟩ := I.list hq
  obtain ⟨j, h1, h2, h3, h4, h5⟩ := atI_get he
  obtain ⟨w, ew, rw'⟩ := r.get h2
  have hl := r.length
  have hn := line63
  have fin : EP X pins σ Q w s := ⟨z, H, I, rw', q⟩
  by_cases h0 : 0 ≤ k
  · have hj : k.toNat = j := by
      rw [seqIndex_of h0 h5] at h1
      exact Option.some.inj h1
    exact PySem.wpAny_getItem_list pl.isList h0 (by omega) (by rw [hj]; simpa using ew) fin
  · have hj : (k + (its.toArray.size : Int)).toNat = j := by
      rw [seqIndex_neg (by omega) h4] at h1
      rw [List.size_toArray, ← hl]
      exact Option.some.inj h1
    exact PySem.wpAny_getItem_list_neg pl.isList (by omega) (by rw [List.size_toArray] <;> omega) (by omega) (by rw [hj]; simpa using ew) fin
def getI (x y : D) (h : LH) (p : Int) : Prop := match y with | .int k => seqL x h fun ds => atI ds k = some (.int p) | _ => False
/-- o[i] op= e for lists of ints -/
def sAugS (o i e : LE) (f : Int → Int → Int) : LS := fun σ h K => o σ h (fun x h1 => i σ h1 (fun y h2 => ∃ p, getI x y h2 p ∧
  e σ h2 (fun z h3 => match z with | .int q => setL x y (.int (f p q)) h3 (K.nx σ) | _ => False) (exOf K σ)) (exOf K σ)) (exOf K σ)
theorem js_augS {o i e : Expr} {A B C : LE} {op : Operator} {f : Int → Int → Int} {tpos pos : Pos} (ho : JE X W o A) (hi : JE X W i B) (he : JE X W e C) (hp : PIp X op (ipI f))
    (h : ∀ {to ti te : TE} {tget : V → V → Hp → VK → Prop} {tip : TIp} {tset : TSet}, PE X o to → PE X i ti → PGet X tget → PE X e te → PIp X op tip → PSet X tset → PS X (.AugAssign (.Subscript o i tpos) op e pos) (tAugS to ti te tget tip tset) := by exact fun a b c d e f => ps_augS a b c d e f) :
    JS X W (.AugAssign (.Subscript o i tpos) op e pos) (sAugS A B C f) := by
  refine ⟨?_, PS.weak (h ho.run hi.run get_list he.run hp set_list) fun Dn σV H ⟨ι0, H0, ι, σ, h, e, hS, hH, q⟩ => ?_⟩
  · intro σ h A' B' l q
    refine ho.mono σ h _ _ _ _ (fun x h1 q1 => ?_) (exOf.le l σ) q
    refine hi.mono σ h1 _ _ _ _ (fun y h2 q2 => ?_) (exOf.le l σ) q1
    obtain ⟨p, e, q2⟩ := q2
    refine ⟨p, e, he.mono σ h2 _ _ _ _ (fun z h3 q3 => ?_) (exOf.le l σ) q2⟩
    split at q3
    · exact setL_mono (fun _ q => l.nx _ _ q) q3
    · exact q3.elim
  · refine tE.stm ho.mono e hS hH q fun x h1 ι1 vx H1 q1 f1 e1 hS1 hH1 rx => tE.stm hi.mono e1 hS1 hH1 q1 fun y h2 ι2 vy H2 qq f2 e2 hS2 hH2 ry => ?_
    obtain ⟨p, g, q2⟩ := qq
    unfold getI at g
    split at g
    · rename_i k
      obtain rfl : vy = .int k := ry
      obtain ⟨a, ds, vs, rfl, h3, h4, h5⟩ := seqL_run hH2 (rx.ext f2) g
      obtain ⟨v', h6, h7⟩ := h4.atI h5
      obtain rfl : v' = .int p := h7
      refine ⟨a, vs, k, .int p, rfl, rfl, h3, h6, ?_⟩
      refine tE.stm he.mono e2 hS2 hH2 q2 fun z h3 ι3 vz H3 q3 f3 e3 hS3 hH3 rz => ?_
      split at q3
      · rename_i q0
        obtain rfl : vz = .int q0 := rz
        refine ⟨p, q0, rfl, rfl, ?_⟩
        exact setL_run (v := .int (f p q0)) (vv := .int (f p q0)) (i := .int k) (vi := .int k) hH3 ((rx.ext f2).ext f3) rfl rfl q3 fun h' H' q4 e4 hH4 => q4 ι3 σV H' (e3.trans e4) (hS3.ext e4) hH4
      · exact q3.elim
    · exact g.elim
/-- a local name op= e -/
def sAug (i : Nat) (e : LE) (f : Int → Int → Int) : LS := fun σ h K => ∃ p, σ[i]? = some (some (.int p)) ∧ e σ h (fun z h1 => match z with | .int q => K.nx (σ.set i (some (.int (f p q)))) h1 | _ => False) (exOf K σ)
theorem js_aug {i : Nat} {x : Str} {e : Expr} {C : LE} {op : Operator} {f : Int → Int → Int} {pos pos' : Pos} (he : JE X W e C) (h : ∀ {te : TE}, PE X e te → PS X (.AugAssign (.Name x pos') op e pos) (tAug i te (ipI f))) : JS X W (.AugAssign (.Name x pos') op e pos) (sAug i C f) := by
  refine ⟨fun σ h A' B' l ⟨p, e, q⟩ => ⟨p, e, he.mono σ h _ _ _ _ (fun z h1 q1 => ?_) (exOf.le l σ) q⟩, PS.weak (h he.run) fun Dn σV H ⟨ι0, H0, ι, σ, h, e, hS, hH, p, g, q⟩ => ?_⟩
  · split at q1
    · exact l.nx _ _ q1
    · exact q1.elim
  · obtain ⟨v, h1, h2⟩ := hS.2 i _ g
    obtain rfl : v = .int p := h2
    refine ⟨.int p, h1, tE.stm he.mono e hS hH q fun z h1 ι1 vz H1 q1 f1 e1 hS1 hH1 rz => ?_⟩
    split at q1
    · rename_i q0
      obtain rfl : vz = .int q0 := rz
      exact ⟨p, q0, rfl, rfl, q1 ι1 _ H1 e1 (hS1.set i rfl) hH1⟩
    · exact q1.elim
/-- o.f op= e, an int field -/
def sAugF (Cs : List Str) (f : Str) (o e : LE) (g : Int → Int → Int) : LS := fun σ h K => o σ h (fun x h1 => ∃ n C fs p, x = .ref n ∧ h1[n]? = some (.ins C fs) ∧ C ∈ Cs ∧ fs.lookup f = some (.int p) ∧
  e σ h1 (fun z h2 => match z with | .int q => ∃ fs', h2[n]? = some (.ins C fs') ∧ fs'.length < 1000 ∧ K.nx σ (h2.set n (.ins C (putD f (.int (g p q)) fs'))) | _ => False) (exOf K σ)) (exOf K σ)
theorem js_augF {Cs : List Str} {fl : Str} {o e : Expr} {A C : LE} {op : Operator} {rd : V → V → Hp → VK → Prop} {f : Int → Int → Int} {tpos pos : Pos} (hc : ∀ C ∈ Cs, CF X.K C fl) (ho : JE X W o A) (he : JE X W e C) (hop : InOp X op rd) (hrd : ∀ p q H (Q : VK), Q (.int (f p q)) H → rd (.int p) (.int q) H Q) :
    JS X W (.AugAssign (.Attribute o fl tpos) op e pos) (sAugF Cs fl A C f) := by
  refine ⟨?_, PS.weak (ps_fldaug ho.run he.run hop) fun Dn σV H ⟨ι0, H0, ι, σ, h, e, hS, hH, q⟩ => ?_⟩
  · intro σ h A' B' l q
    refine ho.mono σ h _ _ _ _ (fun x h1 q1 => ?_) (exOf.le l σ) q
    obtain ⟨n, C', fs, p, z1, z2, z3, z4, q1⟩ := q1
    refine ⟨n, C', fs, p, z1, z2, z3, z4, he.mono σ h1 _ _ _ _ (fun z h2 q2 => ?_) (exOf.le l σ) q1⟩
    split at q2
    · obtain ⟨fs', y1, y2, q⟩ := q2; exact ⟨fs', y1, y2, l.nx _ _ q⟩
    · exact q2.elim
  · refine tE.stm ho.mono e hS hH q fun x h1 ι1 vx H1 ⟨n, C', fs, p, z1, z2, z3, z4, q1⟩ f1 e1 hS1 hH1 rx => ?_
    subst z1
    obtain ⟨a, ha, rfl⟩ := rx
    obtain ⟨dx, vs, y1, y2⟩ := hH1.ins ha z2
    obtain ⟨v', y3, y4⟩ := y2.look z4
    obtain rfl : v' = .int p := y4
    refine ⟨a, _, dx, vs, .int p, rfl, y1, (hc C' z3).c, (hc C' z3).n, y3, tE.stm he.mono e1 hS1 hH1 q1 fun z h2 ι2 vz H2 q2 f2 e2 hS2 hH2 rz => ?_⟩
    split at q2
    · rename_i q0
      obtain rfl : vz = .int q0 := rz
      refine hrd p q0 H2 _ ?_
      obtain ⟨fs', x1, x2, q3⟩ := q2
      have ha2 := f2.at_ ha
      obtain ⟨dx', vs', w1, w2⟩ := hH2.ins ha2 x1
      have ex : Ext ι2 H2 ι2 (upd H2 a (.ins (He.ga X.K C') dx' (putF fl (.int (f p q0)) vs'))) := Ext.write hH2 ha2 (by rw [w1]; trivial) trivial
      exact ⟨dx', vs', w1, by rw [← w2.length]; exact x2, q3 ι2 σV _ (e2.trans ex) (hS2.ext ex) (hH2.write (o := .ins C' (putD fl (.int (f p q0)) fs')) ha2 (by rw [w1]; trivial) ex ⟨dx', _, upd_same, (w2.ext ex).put (d := .int (f p q0)) (v := .int (f p q0)) rfl⟩)⟩
    · exact q2.elim
theorem in_add' {p q : Int} {H : Hp} {Q : VK} (h : Q (.int (p + q)) H) : L2.rAdd (.int p) (.int q) H Q := ⟨p, q, rfl, rfl, h⟩
theorem in_sub' {p q : Int} {H : Hp} {Q : VK} (h : Q (.int (p - q)) H) : L2.rSub (.int p) (.int q) H Q := ⟨p, q, rfl, rfl, h⟩
/-- del o[i] -/
def sDel (o i : LE) : LS := fun σ h K => o σ h (fun x h1 => i σ h1 (fun y h2 => match x, y with
  | .ref n, .int k => match h2[n]? with
    | some (.lst ds) => -(2 ^ 63) ≤ k ∧ k < 2 ^ 63 ∧ ∃ j, seqIndex? k ds.length = some j ∧ K.nx σ (h2.set n (.lst (ds.eraseIdx j)))
    | _ => False
  | _, _ => False) (exOf K σ)) (exOf K σ)
theorem js_del {o i : Expr} {A B : LE} {tpos pos : Pos} (ho : JE X W o A) (hi : JE X W i B) : JS X W (.Delete [.Subscript o i tpos] pos) (sDel A B) := by
  refine ⟨fun σ h A' B' l q => ho.mono σ h _ _ _ _ (fun x h1 q1 => hi.mono σ h1 _ _ _ _ (fun y h2 q2 => ?_) (exOf.le l σ) q1) (exOf.le l σ) q, PS.weak (ps_delL ho.run hi.run) fun Dn σV H ⟨ι0, H0, ι, σ, h, e, hS, hH, q⟩ => ?_⟩
  · split at q2
    · split at q2
      · obtain ⟨a, b, j, e, q⟩ := q2; exact ⟨a, b, j, e, l.nx _ _ q⟩
      · exact q2.elim
    · exact q2.elim
  · refine tE.stm ho.mono e hS hH q fun x h1 ι1 vx H1 q1 f1 e1 hS1 hH1 rx => tE.stm hi.mono e1 hS1 hH1 q1 fun y h2 ι2 vy H2 q2 f2 e2 hS2 hH2 ry => ?_
    have rx2 := rx.ext f2
    split at q2
    · rename_i n k
      split at q2
      · rename_i ds hd
        obtain ⟨z1, z2, j, z3, q3⟩ := q2
        obtain ⟨a, ha, rfl⟩ := rx2
        obtain rfl : vy = .int k := ry
        obtain ⟨vs, h3, h4⟩ := hH2.lst ha hd
        have ex : Ext ι2 H2 ι2 (upd H2 a (.lst (vs.eraseIdx j))) := Ext.write hH2 ha (by rw [h3]; trivial) trivial
        exact ⟨a, vs, k, j, rfl, rfl, h3, z1, z2, by rw [← h4.length]; exact z3, q3 ι2 σV _ (e2.trans ex) (hS2.ext ex) (hH2.write (o := .lst (ds.eraseIdx j)) ha (by rw [h3]; trivial) ex ⟨_, upd_same, (h4.ext ex).eraseIdx j⟩)⟩
      · exact q2.elim
    · exact q2.elim
end LL
end

section
set_option Elab.async false
set_option linter.all false
set_option maxRecDepth 100000
set_option maxHeartbeats 1000000
/-! LLCall: calls of defs, methods, classes; of built-ins; methods of lists; isinstance. -/
namespace LL
open PySem PySem.Spec PyProof.Rows L2
variable {X : Cx} {W : WX}

/-! ### what a def promises, in logical words -/
abbrev LSp := List D → LH → (D → LH → Prop) → XL → Prop
def MonoP (G : LSp) : Prop := ∀ ds h (Q Q' : D → LH → Prop) (E E' : XL), (∀ d h, Q d h → Q' d h) → (∀ c fs h, E c fs h → E' c fs h) → G ds h Q E → G ds h Q' E'
def spV (K : Frag) (n : Nat) (G : LSp) : Sp := fun vs H Q E => ∃ ι ds h, RelH K ι H h ∧ RelDs K ι H ds vs ∧ ds.length = n ∧
  G ds h (fun d h' => ∀ ι' v H', Ext ι H ι' H' → RelH K ι' H' h' → RelD K ι' H' d v → Q v H')
    (fun c fs h' => ∀ ι' dx H', Ext ι H ι' H' → RelH K ι' H' h' → RelX K ι' H' fs dx → E (.ref (He.ga K c)) dx H')
/-- room, and no repr of a list under way -/
structure RoomG (k : Nat) (A : Around) : Prop where
  r : Room k A
  g : A.guards = some []
theorem RoomG.mono {j k : Nat} {A : Around} (r : RoomG k A) (h : j ≤ k) : RoomG j A := ⟨r.r.mono h, r.g⟩
theorem RoomG.deeper {k : Nat} {A : Around} (r : RoomG (k + 1) A) (env : Env) : RoomG k (A.deeper env) := ⟨r.r.deeper env, r.g⟩
theorem RoomG.in1 {k : Nat} {A : Around} (r : RoomG (k + 1) A) : RoomG k A.in1 := ⟨r.r.in1, r.g⟩
theorem make_guards {A : Around} {C : Addr} {us : List Value} {kw : List (Str × Value)} : (A.under (.builtin "type.__call__" ⟨.ref C :: us, kw⟩)).guards = A.guards := by
  cases h : A.guards <;> simp [Around.under, Code.guards, Code.isGuard, guardIds, pushGuards, h]
theorem RoomG.make {k : Nat} {A : Around} (r : RoomG (k + 1) A) (C : Addr) (us : List Value) (kw : List (Str × Value)) : RoomG k (A.under (.builtin "type.__call__" ⟨.ref C :: us, kw⟩)) := ⟨r.r.make C us kw, by rw [make_guards]; exact r.g⟩
/-- what a def does when it is called where no repr of a list is under way -/
structure FnG (P : Program) (w : World) (K : Frag) (mg : Str → Option Value) (base : Heap) (k : Nat) (f : Addr) (fd : FuncData) (ps : List Str) (sp : Sp) : Prop where
  len : ∀ vs H Q E, sp vs H Q E → vs.length = ps.length
  run : ∀ (A : Around) (outer : List Env) (s : Shared) (H : Hp) (args : Args) (us : List Value) (vs : List V) (Q : VK) (E : XK), RoomG k A → Env0 P w K mg base A outer s H → BindsTo s fd args (ps.zip us) → Vals vs us → sp vs H Q E →
    codeAny (model P w) A (.call (.ref f) args) (CR (L2N.CX P w) outer P w H s Q E) s
theorem FnG.mono {P : Program} {w : World} {K : Frag} {mg : Str → Option Value} {base : Heap} {j k : Nat} {f : Addr} {fd : FuncData} {ps : List Str} {sp : Sp} (F : FnG P w K mg base j f fd ps sp) (h : j ≤ k) : FnG P w K mg base k f fd ps sp :=
  ⟨F.len, fun A outer s H args us vs Q E hr => F.run A outer s H args us vs Q E (hr.mono h)⟩
/-- a def that stands at f keeps the promise G (by at most level k) -/
structure Keeps (P : Program) (w : World) (K : Frag) (mg : Str → Option Value) (base : Heap) (k : Nat) (f : Addr) (n : Nat) (G : LSp) : Prop where
  mono : MonoP G
  ok : ∃ (fd : FuncData) (ps : List Str), ps.length = n ∧ FnG P w K mg base k f fd ps (spV K n G) ∧ Binds K fd ps []
theorem Keeps.up {P : Program} {w : World} {K : Frag} {mg : Str → Option Value} {base : Heap} {j k : Nat} {f : Addr} {n : Nat} {G : LSp} (h : Keeps P w K mg base j f n G) (l : j ≤ k) : Keeps P w K mg base k f n G :=
  ⟨h.mono, let ⟨fd, ps, e, F, b⟩ := h.ok; ⟨fd, ps, e, F.mono l, b⟩⟩
def startD (N : List Str) (ds : List D) : LV := ds.map some ++ List.replicate (N.length - ds.length) none
theorem rel_start {K : Frag} {ι : Ad} {H : Hp} {N : List Str} {ds : List D} {vs : List V} (r : RelDs K ι H ds vs) : RelS K ι H (startD N ds) (L2.start N vs) := by
  have l := r.length
  refine ⟨by simp [startD, L2.start, l], fun i d e => ?_⟩
  unfold startD at e
  by_cases hi : i < ds.length
  · rw [List.getElem?_append_left (by simpa using hi), List.getElem?_map] at e
    cases q : ds[i]? with
    | none => rw [q] at e; cases e
    | some d' =>
      rw [q] at e
      have e2 : d' = d := by simpa using e
      subst e2
      obtain ⟨v, h1, h2⟩ := r.get q
      refine ⟨v, ?_, h2⟩
      unfold L2.start
      rw [List.getElem?_append_left (by simpa using (l ▸ hi)), List.getElem?_map, h1]
      rfl
  · rw [List.getElem?_append_right (by simpa using hi)] at e
    have m := List.mem_of_getElem? e
    have := List.eq_of_mem_replicate m
    cases this
/-- the ends of a def's body -/
abbrev bodyK (Q : D → LH → Prop) (E : XL) : LK := { nx := fun _ h => Q .non h, rt := Q, ex := fun c fs _ h => E c fs h }
/-- the code object of the function at f -/
def CodeAt (K : Frag) (f : Addr) (cdv : Value) : Prop := ∃ (oc : Value) (od : Option Addr) (fd : FuncData) (osl : Array (Option Value)), K.lookup f = some ⟨oc, od, .func fd, osl⟩ ∧ fd.code = cdv ∧ ∃ q, PySem.W.codeIn K cdv q = true
theorem CodeAt.eq {K : Frag} {p : He.Defn} {cdv : Value} (h : CodeAt K (He.fAd K p) cdv) : cdv = .ref (He.cT K p).1 := by
  obtain ⟨oc, od, fd, osl, lk, e, q, hq⟩ := h
  obtain ⟨c, rfl⟩ := He.codeIn_ref hq
  exact congrArg Value.ref (He.codeOf_eq lk e).symm
/-- a def keeps its promise: its body, derived; the promise, shown of the body -/
theorem keeps_of {P : Program} {w : World} {K : Frag} {mg : Str → Option Value} {base : Heap} {x qual : Str} {params : Arguments} {body : List Stmt} {scope : Scope} {dvs : List V} {kws : List (Str × V)} {f : Addr} {fd : FuncData} {N ps : List Str} {k n : Nat} {G : LSp} {b : LS}
    (F : FunD K x qual params body scope dvs kws f fd) (S : FnScope N ps scope) (hn : ps.length = n) (hb : Binds K fd ps []) (hG : MonoP G)
    (hbody : ∀ (cdv : Value) (A : Around) (outer : List Env) (s : Shared) (H : Hp) (E : XK), CodeAt K f cdv → RoomG k (A.deeper (envOfC qual scope s.heap.objs.size f cdv)) →
      JSs (cxOf (L2N.CX P w) P w K mg base N qual scope f cdv A outer s H E) (fun cls d _ H => E cls d H) body b)
    (hv : ∀ ds h Q E, ds.length = n → G ds h Q E → b (startD N ds) h (bodyK Q E)) : Keeps P w K mg base (k + 1) f n G := by
  obtain ⟨oc, od, dV, kV, doc, pm, an, cdv, ct, osl, rfl, lk, hcd, _, _⟩ := F.ex
  have len : ∀ vs H Q E, spV K n G vs H Q E → vs.length = ps.length := fun vs H Q E ⟨ι, ds, h, _, r, l, _⟩ => by rw [← r.length, l, hn]
  refine ⟨hG, _, ps, hn, ⟨len, fun A outer s H args us vs Q E hr e0 hbt hv' hsp => ?_⟩, hb⟩
  refine LamX.run_ofS (k := k) lk hcd S hr.r e0 hbt hv' (len vs H Q E hsp) fun hr' => ?_
  obtain ⟨ι, ds, h, hH, r, l, q⟩ := hsp
  have j := hbody cdv A outer s H E ⟨_, _, _, _, lk, rfl, _, hcd⟩ ⟨hr', hr.g⟩
  refine ⟨_, j.run, ι, H, ι, startD N ds, h, .refl _ _, rel_start r, hH, ?_⟩
  refine j.mono _ _ _ _ ?_ (hv ds h _ _ l q)
  exact ⟨fun σ' h' q' ι' σV' H' e' _ hH' => q' ι' .non H' e' hH' rfl, fun d h' q' ι' v H' e' hH' r' => q' ι' v H' e' hH' r', fun _ _ z => z.elim, fun _ _ z => z.elim, fun c fs σ' h' q' ι' dx σV' H' e' _ hH' r' => q' ι' dx H' e' hH' r'⟩

/-! ### a call is made -/
section
variable {k : Nat} {f : Addr} {fd : FuncData} {ps : List Str} {sp : Sp} {E : L2.St → XK} {x : Str} {p pos : Pos} {e : Expr} {es : List Expr} {t : TA}
theorem ret_of {pins : List (Addr × Obj)} {σ : L2.St} {H : Hp} {s s' : Shared} {Q : VK} {E' : XK} {r : Result} (hx : PassesAt (L2N.CX X.prog X.w) X σ E') (I : Inv X pins σ H s) (hq : CR (L2N.CX X.prog X.w) X.stack X.prog X.w H s Q E' r s') :
    wants (EP X pins σ Q) X.xe r s' := by
  cases r with
  | error e => exact hx pins H s e s' I hq
  | ok fl => cases fl with
    | ret u => exact I.after hq
    | next => exact hq.elim
    | brk => exact hq.elim
    | cont => exact hq.elim
theorem run_fnG {pins : List (Addr × Obj)} {σ : L2.St} {H : Hp} {s : Shared} {Q : VK} {us : List Value} {vs : List V} {A : Around} (F : FnG X.prog X.w X.K X.mg X.base k f fd ps sp) (hr : RoomG k A) (hA : A.frames = some X.stack) (hb : Binds X.K fd ps []) (hx : PassesAt (L2N.CX X.prog X.w) X σ (E σ))
    (I : Inv X pins σ H s) (r : Vals vs us) (h : sp vs H Q (E σ)) : wpAny (model X.prog X.w) A (call (.ref f) us) (EP X pins σ Q) X.xe s := by
  have hl : us.length = ps.length := by rw [← r.length]; exact F.len _ _ _ _ h
  have b := hb s us I.kIn (by rw [List.append_nil]; exact hl)
  rw [List.append_nil] at b
  have e0 := I.env0
  exact wpAny_call (codeAny_mono (F.run A X.stack s H ⟨us, []⟩ us vs Q (E σ) hr ⟨hA, e0.mod, e0.bs, e0.bsz, e0.funs, e0.frf, e0.hok, e0.bare⟩ b r h) fun r s' hq => ret_of hx I hq)
theorem pe_callG (F : FnG X.prog X.w X.K X.mg X.base k f fd ps sp) (hr : RoomG k X.A) (hg : Gl X x) (hm : X.mg x = some (.ref f)) (hk : PySem.W.keepIn X.K (.ref f) = true) (hb : Binds X.K fd ps []) (hx : ∀ σ, PassesAt (L2N.CX X.prog X.w) X σ (E σ))
    (ha : PA X (e :: es) t) (hdb : (x == ("__debug__" : Str)) = false) (he : starEach (e :: es) X.env = (false, eval e X.env) :: starEach es X.env) (hpl : (backTo pos (starEach es X.env)).any (·.1) = false) :
    PE X (.Call (.Name x p) (e :: es) [] pos) (tCallS sp E t) := ⟨fun pins s σ H Q I h =>
  wpAny_Call_Name_kw (ld_glob I hg hm (PySem.W.callWith_K (h₀ := X.base) I.ok.mod.kin hk (thn (ha.run pos pins s σ H _ I h) fun us s1 ⟨vs, H1, I1, r, q⟩ => ⟨I1.kIn, run_fnG F hr I1.env0.frames hb (hx σ) I1 r q⟩) he hpl) hdb)⟩
end

/-! ### calls -/
def eCall (G : LSp) (n : Nat) (A : LX (List D)) : LE := fun σ h Q E => A σ h (fun ds h1 => ds.length = n ∧ G ds h1 Q E) E
theorem mono_call {G : LSp} {n : Nat} {A : LX (List D)} (hG : MonoP G) (hA : Mono A) : Mono (eCall G n A) := fun σ h Q Q' E E' hQ hE q => hA σ h _ _ _ _ (fun ds h1 ⟨l, q1⟩ => ⟨l, hG _ _ _ _ _ _ hQ hE q1⟩) hE q
theorem call_run {K : Frag} {G : LSp} {n : Nat} {A : LX (List D)} (hG : MonoP G) (hA : Mono A) {σV : L2.St} {H : Hp} {Q : VK} (q : tE K W (eCall G n A) σV H Q) : tCallS (spV K n G) (WE W) (tA K W A) σV H Q := by
  obtain ⟨ι, σ, h, hS, hH, q⟩ := q
  refine tX.into hA hS hH q (fun ds h1 ι1 vs H1 q1 e1 hH1 r => ?_) (fun c fs h1 ι1 dx H1 q1 => q1 ι1 dx H1)
  exact ⟨ι1, ds, h1, hH1, r, q1.1, hG _ _ _ _ _ _ (fun d h' q' ι' v H' e' => q' ι' v H' (e1.trans e')) (fun c fs h' q' ι' dx H' e' => q' ι' dx H' (e1.trans e')) q1.2⟩
section
variable {k n : Nat} {f : Addr} {G : LSp} {x : Str} {e : Expr} {es : List Expr} {A : LX (List D)} {p pos : Pos}
theorem je_call (F : Keeps X.prog X.w X.K X.mg X.base k f n G) (hr : RoomG k X.A) (hm : X.mg x = some (.ref f)) (hk : PySem.W.keepIn X.K (.ref f) = true) (tk : L2N.Takes X W) (ha : JA X W (e :: es) A) (hg : Gl X x := by rfl)
    (hdb : (x == ("__debug__" : Str)) = false := by decide) (he : starEach (e :: es) X.env = (false, eval e X.env) :: starEach es X.env := by rfl) (hpl : (backTo pos (starEach es X.env)).any (·.1) = false := by rfl) : JE X W (.Call (.Name x p) (e :: es) [] pos) (eCall G n A) := by
  obtain ⟨hG, fd, ps, hn, F, b⟩ := F
  exact ⟨mono_call hG ha.mono, PE.weak (pe_callG F hr hg hm hk b (fun σ => L2N.passAt tk σ) ha.run hdb he hpl) fun _ _ _ q => call_run hG ha.mono q⟩
theorem je_call0 (F : Keeps X.prog X.w X.K X.mg X.base k f 0 G) (hr : RoomG k X.A) (hm : X.mg x = some (.ref f)) (hk : PySem.W.keepIn X.K (.ref f) = true) (tk : L2N.Takes X W) (hg : Gl X x := by rfl)
    (hdb : (x == ("__debug__" : Str)) = false := by decide) : JE X W (.Call (.Name x p) [] [] pos) (eCall G 0 eNil) := by
  obtain ⟨hG, fd, ps, hn, F, b⟩ := F
  refine ⟨mono_call hG (ja_nil (X := X) (W := W)).mono, ⟨fun pins s σ H Q I h => ?_⟩⟩
  have h := call_run hG (ja_nil (X := X) (W := W)).mono h
  have h0 : tCallS (spV X.K 0 G) (WE W) tNil σ H Q := by
    obtain ⟨ι, σ', h', hS, hH, q⟩ := h
    exact q ι [] H (.refl _ _) hH rfl
  refine wpAny_Call_Name_kw (ld_glob I hg hm ?_ hdb)
  exact PySem.W.callWith_K0 I.kIn hk (run_fnG (E := fun σ => WE W σ) (us := []) F hr I.env0.frames b (L2N.passAt tk σ) I .nil h0)
end
/-- o.m(..): the receiver is an instance of one of C's -/
def isIns (C m : Str) (d : D) (h : LH) : Prop := match d with
  | .ob C' ns ds => C' = C ∧ (ns.zip ds).lookup m = none
  | .ref n => match h[n]? with
    | some (.ins C' fs) => C' = C ∧ fs.lookup m = none
    | _ => False
  | _ => False
theorem RelFs.none {K : Frag} {ι : Ad} {H : Hp} {f : Str} : ∀ {fs : List (Str × D)} {vs : List (Str × V)}, RelFs K ι H fs vs → fs.lookup f = none → vs.lookup f = none
  | [], _, h, _ => by cases h; rfl
  | (g, d') :: fs, _, ⟨v, r, h1, h2, h3⟩, e => by
    subst h1
    rw [List.lookup_cons] at e ⊢
    cases q : (f == g) with
    | true => rw [q] at e; cases e
    | false => rw [q] at e; exact RelFs.none h3 e
theorem isIns_run {K : Frag} {C m : Str} {ι : Ad} {H : Hp} {h : LH} {d : D} {v : V} (hH : RelH K ι H h) (r : RelD K ι H d v) (q : isIns C m d h) : ∃ a dx fs, v = .ref a ∧ H a = some (.ins (He.ga K C) dx fs) ∧ fs.lookup m = none := by
  unfold isIns at q
  split at q
  · obtain ⟨a, dx, vs, rfl, _, h2, h3, h4⟩ := r
    obtain ⟨rfl, q⟩ := q
    exact ⟨a, dx, _, rfl, h2, (RelFs.zip h3 h4).none q⟩
  · split at q
    · rename_i ho
      obtain ⟨a, ha, rfl⟩ := r
      obtain ⟨dx, vs, h1, h2⟩ := hH.ins ha ho
      obtain ⟨rfl, q⟩ := q
      exact ⟨a, dx, vs, rfl, h1, h2.none q⟩
    · exact q.elim
  · exact q.elim
def eMeth (C m : Str) (G : LSp) (n : Nat) (o : LE) (A : LX (List D)) : LE := fun σ h Q E => o σ h (fun x h1 => isIns C m x h1 ∧ A σ h1 (fun ds h2 => ds.length + 1 = n ∧ G (x :: ds) h2 Q E) E) E
/-- o.m(e, ..), what is raised passed on at the slots -/
def tMethS (C : Addr) (m : Str) (sp : Sp) (E : L2.St → XK) (ta : TE) (t : TA) : TE := fun σ H Q => ta σ H fun x H1 => ∃ a dx fs, x = .ref a ∧ H1 a = some (.ins C dx fs) ∧ fs.lookup m = none ∧
  t σ H1 fun vs H2 => sp (x :: vs) H2 Q (E σ)
section
variable {k : Nat} {f C : Addr} {fd : FuncData} {ps : List Str} {sp : Sp} {E : L2.St → XK} {x m : Str} {p pos apos : Pos} {e o : Expr} {es : List Expr} {ta : TE} {t : TA}
theorem pe_methS {pl : Sem Bool} (he : PE X o ta) (c : Cls X.K C) (hm : Meth X.K C m f) (F : FnG X.prog X.w X.K X.mg X.base k f fd ps sp) (hr : RoomG k X.A) (hb : Binds X.K fd ps []) (hx : ∀ σ, PassesAt (L2N.CX X.prog X.w) X σ (E σ)) (ha : PA X (e :: es) t)
    (hst : starEach (e :: es) X.env = (false, eval e X.env) :: starEach es X.env := by rfl) (hpl : (backTo pos (starEach es X.env)).any (·.1) = false := by rfl)
    (ht : eval (.Call (.Attribute o m apos) (e :: es) [] pos) X.env = (do
      let ov ← eval o X.env
      standAt apos.atName
      let (f, first) ← holding [ov] (getMethod ov m pl)
      callWith pos f first (backTo pos (starEach (e :: es) X.env)) (backToKw pos (keywordEach [] X.env))) := by rfl) :
    PE X (.Call (.Attribute o m apos) (e :: es) [] pos) (tMethS C m sp E ta t) := by
  refine ⟨fun pins s σ H Q I h => ?_⟩
  refine PySem.W.methodCall_KW (pl := pl) (thn (he.run pins s σ H _ I h) fun u s1 ⟨x, H1, I1, rx, a, dx, fs, ex, ea, l, q⟩ => ?_) ht
  subst ex
  obtain rfl : u = Value.ref a := rx
  refine getmeth_ok I1 ea c hm l ?_
  refine PySem.W.callWith_K (first := [.ref a]) (h₀ := X.base) I.ok.mod.kin hm.kp (thn (ha.run pos pins s1 σ H1 _ I1 q) fun us s2 ⟨vs, H2, I2, r, q2⟩ => ⟨I2.kIn, ?_⟩) hst hpl
  exact run_fnG (us := .ref a :: us) (vs := .ref a :: vs) F hr I2.env0.frames hb (hx σ) I2 (.cons rfl r) q2
theorem pe_methS0 {pl : Sem Bool} (he : PE X o ta) (c : Cls X.K C) (hm : Meth X.K C m f) (F : FnG X.prog X.w X.K X.mg X.base k f fd ps sp) (hr : RoomG k X.A) (hb : Binds X.K fd ps []) (hx : ∀ σ, PassesAt (L2N.CX X.prog X.w) X σ (E σ))
    (ht : eval (.Call (.Attribute o m apos) [] [] pos) X.env = (do
      let ov ← eval o X.env
      standAt apos.atName
      let (f, first) ← holding [ov] (getMethod ov m pl)
      callWith pos f first (backTo pos (starEach [] X.env)) (backToKw pos (keywordEach [] X.env))) := by rfl) :
    PE X (.Call (.Attribute o m apos) [] [] pos) (tMethS C m sp E ta tNil) := by
  refine ⟨fun pins s σ H Q I h => ?_⟩
  refine PySem.W.methodCall_KW (pl := pl) (thn (he.run pins s σ H _ I h) fun u s1 ⟨x, H1, I1, rx, a, dx, fs, ex, ea, l, q⟩ => ?_) ht
  subst ex
  obtain rfl : u = Value.ref a := rx
  refine getmeth_ok I1 ea c hm l ?_
  exact PySem.W.callWith_K0 (first := [.ref a]) I1.kIn hm.kp (run_fnG (us := [.ref a]) (vs := [.ref a]) F hr I1.env0.frames hb (hx σ) I1 (.cons rfl .nil) q)
end
theorem mono_meth {C m : Str} {G : LSp} {n : Nat} {o : LE} {A : LX (List D)} (hG : MonoP G) (ho : Mono o) (hA : Mono A) : Mono (eMeth C m G n o A) := fun σ h Q Q' E E' hQ hE q =>
  ho σ h _ _ _ _ (fun x h1 ⟨i, q1⟩ => ⟨i, hA σ h1 _ _ _ _ (fun ds h2 ⟨l, q2⟩ => ⟨l, hG _ _ _ _ _ _ hQ hE q2⟩) hE q1⟩) hE q
theorem meth_run {K : Frag} {C m : Str} {G : LSp} {n : Nat} {o : LE} {A : LX (List D)} (hG : MonoP G) (ho : Mono o) (hA : Mono A) {σV : L2.St} {H : Hp} {Q : VK} (q : tE K W (eMeth C m G n o A) σV H Q) : tMethS (He.ga K C) m (spV K n G) (WE W) (tE K W o) (tA K W A) σV H Q := by
  obtain ⟨ι, σ, h, hS, hH, q⟩ := q
  refine tX.into ho hS hH q (fun x h1 ι1 vx H1 q1 e1 hH1 rx => ?_) (fun c fs h1 ι1 dx H1 q1 => q1 ι1 dx H1)
  obtain ⟨a, dx, fs, z1, z2, z3⟩ := isIns_run hH1 rx q1.1
  refine ⟨a, dx, fs, z1, z2, z3, ?_⟩
  refine tX.into hA (hS.ext e1) hH1 q1.2 (fun ds h2 ι2 vs H2 q2 e2 hH2 r => ?_) (fun c fs h2 ι2 dx H2 q2 e2 => q2 ι2 dx H2 (e1.trans e2))
  exact ⟨ι2, x :: ds, h2, hH2, ⟨vx, vs, rfl, rx.ext e2, r⟩, q2.1, hG _ _ _ _ _ _ (fun d h' q' ι' v H' e' => q' ι' v H' (e1.trans (e2.trans e'))) (fun c fs h' q' ι' dx H' e' => q' ι' dx H' (e1.trans (e2.trans e'))) q2.2⟩
section
variable {k n : Nat} {f : Addr} {G : LSp} {C m : Str} {o e : Expr} {es : List Expr} {O : LE} {A : LX (List D)} {apos pos : Pos}
theorem je_meth {pl : Sem Bool} (ho : JE X W o O) (c : Cls X.K (He.ga X.K C)) (hm : Meth X.K (He.ga X.K C) m f) (F : Keeps X.prog X.w X.K X.mg X.base k f n G) (hr : RoomG k X.A) (tk : L2N.Takes X W) (ha : JA X W (e :: es) A)
    (hst : starEach (e :: es) X.env = (false, eval e X.env) :: starEach es X.env := by rfl) (hpl : (backTo pos (starEach es X.env)).any (·.1) = false := by rfl)
    (ht : eval (.Call (.Attribute o m apos) (e :: es) [] pos) X.env = (do
      let ov ← eval o X.env
      standAt apos.atName
      let (f, first) ← holding [ov] (getMethod ov m pl)
      callWith pos f first (backTo pos (starEach (e :: es) X.env)) (backToKw pos (keywordEach [] X.env))) := by rfl) : JE X W (.Call (.Attribute o m apos) (e :: es) [] pos) (eMeth C m G n O A) := by
  obtain ⟨hG, fd, ps, hn, F, b⟩ := F
  exact ⟨mono_meth hG ho.mono ha.mono, PE.weak (pe_methS (pl := pl) ho.run c hm F hr b (fun σ => L2N.passAt tk σ) ha.run hst hpl ht) fun _ _ _ q => meth_run hG ho.mono ha.mono q⟩
theorem je_meth0 {pl : Sem Bool} (ho : JE X W o O) (c : Cls X.K (He.ga X.K C)) (hm : Meth X.K (He.ga X.K C) m f) (F : Keeps X.prog X.w X.K X.mg X.base k f n G) (hr : RoomG k X.A) (tk : L2N.Takes X W)
    (ht : eval (.Call (.Attribute o m apos) [] [] pos) X.env = (do
      let ov ← eval o X.env
      standAt apos.atName
      let (f, first) ← holding [ov] (getMethod ov m pl)
      callWith pos f first (backTo pos (starEach [] X.env)) (backToKw pos (keywordEach [] X.env))) := by rfl) : JE X W (.Call (.Attribute o m apos) [] [] pos) (eMeth C m G n O eNil) := by
  obtain ⟨hG, fd, ps, hn, F, b⟩ := F
  refine ⟨mono_meth hG ho.mono (ja_nil (X := X) (W := W)).mono, PE.weak (pe_methS0 (pl := pl) ho.run c hm F hr b (fun σ => L2N.passAt tk σ) ht) fun σ H Q q => ?_⟩
  obtain ⟨ι, σ', h, hS, hH, q⟩ := q
  refine tX.into ho.mono hS hH q (fun x h1 ι1 vx H1 q1 e1 hH1 rx => ?_) (fun c fs h1 ι1 dx H1 q1 => q1 ι1 dx H1)
  obtain ⟨a, dx, fs, z1, z2, z3⟩ := isIns_run hH1 rx q1.1
  exact ⟨a, dx, fs, z1, z2, z3, ι1, [x], h1, hH1, ⟨vx, [], rfl, rx, rfl⟩, q1.2.1, hG _ _ _ _ _ _ (fun d h' q' ι' v H' e' => q' ι' v H' (e1.trans e')) (fun c fs h' q' ι' dx H' e' => q' ι' dx H' (e1.trans e')) q1.2.2⟩
end

/-! ### C(..) -/
/-- a new instance that will be changed -/
def eMake (C : Str) (G : LSp) (n : Nat) (A : LX (List D)) : LE := fun σ h Q E => A σ h (fun ds h1 => ds.length + 1 = n ∧ G (.ref h1.length :: ds) (h1 ++ [.ins C []]) (fun d h2 => d = .non ∧ Q (.ref h1.length) h2) E) E
def tMakeS (C : Addr) (sp : Sp) (E : L2.St → XK) (t : TA) : TE := fun σ H Q => t σ H fun vs H1 => ∀ x dx, H1 x = none → H1 dx = none → dx ≠ x →
  sp (.ref x :: vs) (upd (upd H1 dx (.own x)) x (.ins C dx [])) (fun v H2 => v = .non ∧ Q (.ref x) H2) (E σ)
section
variable {k : Nat} {f C : Addr} {fd : FuncData} {ps : List Str} {sp : Sp} {E : L2.St → XK} {x m : Str} {p pos apos : Pos} {e o : Expr} {es : List Expr} {ta : TE} {t : TA}
theorem run_makeS {pins : List (Addr × Obj)} {σ : L2.St} {H : Hp} {s : Shared} {Q : VK} {us : List Value} {vs : List V} (M : Mk X.K C f) (F : FnG X.prog X.w X.K X.mg X.base k f fd ps sp) (hr : RoomG (k + 1) X.A) (hb : Binds X.K fd ps [])
    (hx : PassesAt (L2N.CX X.prog X.w) X σ (E σ)) (I : Inv X pins σ H s) (r : Vals vs us)
    (h : ∀ x dx, H x = none → H dx = none → dx ≠ x → sp (.ref x :: vs) (upd (upd H dx (.own x)) x (.ins C dx [])) (fun v H2 => v = .non ∧ Q (.ref x) H2) (E σ)) :
    wpAny (model X.prog X.w) X.A (call (.ref C) us) (EP X pins σ Q) X.xe s := by
  have hq := h (s.heap.objs.size + 1) s.heap.objs.size (I.hok.fresh (Nat.le_succ _)) (I.hok.fresh (Nat.le_refl _)) (Nat.ne_of_lt (Nat.lt_succ_self _))
  have I2 := Inv.made (C := C) I
  have r2 : Vals (V.ref (s.heap.objs.size + 1) :: vs) (Value.ref (s.heap.objs.size + 1) :: us) := .cons rfl r
  have hl : (Value.ref (s.heap.objs.size + 1) :: us).length = ps.length := by
    have e := r2.length
    rw [F.len _ _ _ _ hq] at e
    exact e.symm
  have b := hb _ (Value.ref (s.heap.objs.size + 1) :: us) I2.kIn (by rw [List.append_nil]; exact hl)
  rw [List.append_nil] at b
  refine wpAny_call (make_map (f := f) I.kIn M.makes M.init (beq_iff_eq.mp M.fn) (codeAny_mono (F.run _ X.stack _ _ ⟨Value.ref (s.heap.objs.size + 1) :: us, []⟩ (Value.ref (s.heap.objs.size + 1) :: us) _ _ (E σ) (hr.make C us [])
    (I2.env0.make C us []) b r2 hq) fun r s' hq' => ?_))
  cases r with
  | error e => exact hx pins _ _ e s' I2 hq'
  | ok fl =>
    cases fl with
    | ret u =>
      obtain ⟨v, H', I3, rv, ev, q3⟩ := I2.after hq'
      subst ev
      exact ⟨rv, ⟨V.ref (s.heap.objs.size + 1), H', I3, rfl, q3⟩⟩
    | next => exact False.elim hq'
    | brk => exact False.elim hq'
    | cont => exact False.elim hq'
theorem pe_makeS (M : Mk X.K C f) (F : FnG X.prog X.w X.K X.mg X.base k f fd ps sp) (hr : RoomG (k + 1) X.A) (hg : Gl X x) (hm : X.mg x = some (.ref C)) (hb : Binds X.K fd ps []) (hx : ∀ σ, PassesAt (L2N.CX X.prog X.w) X σ (E σ))
    (ha : PA X (e :: es) t) (hdb : (x == ("__debug__" : Str)) = false := by decide) (he : starEach (e :: es) X.env = (false, eval e X.env) :: starEach es X.env := by rfl) (hpl : (backTo pos (starEach es X.env)).any (·.1) = false := by rfl) :
    PE X (.Call (.Name x p) (e :: es) [] pos) (tMakeS C sp E t) := by
  refine ⟨fun pins s σ H Q I h => ?_⟩
  refine wpAny_Call_Name_kw (ld_glob I hg hm ?_ hdb)
  refine PySem.W.callWith_K (h₀ := X.base) I.ok.mod.kin M.kp (thn (ha.run pos pins s σ H _ I h) fun us s1 ⟨vs, H1, I1, r, q⟩ => ⟨I1.kIn, ?_⟩) he hpl
  exact run_makeS M F hr hb (hx σ) I1 r q
end
/-- the new instance in the heap -/
theorem made_ext {ι : Ad} {H : Hp} {x dx C : Addr} (nx : H x = none) (nd : H dx = none) (ne : dx ≠ x) : Ext ι H (ι.push x) (upd (upd H dx (.own x)) x (.ins C dx [])) := by
  have e1 : Ext ι H ι (upd H dx (.own x)) := Ext.new nd
  have n2 : upd H dx (.own x) x = none := by rw [upd_ne (Ne.symm ne)]; exact nx
  exact e1.trans (Ext.push n2)
theorem made_rel {K : Frag} {ι : Ad} {H : Hp} {h : LH} {x dx : Addr} {C : Str} (hH : RelH K ι H h) (nx : H x = none) (nd : H dx = none) (ne : dx ≠ x) : RelH K (ι.push x) (upd (upd H dx (.own x)) x (.ins (He.ga K C) dx [])) (h ++ [.ins C []]) := by
  have n2 : upd H dx (.own x) x = none := by rw [upd_ne (Ne.symm ne)]; exact nx
  exact (hH.new nd).push n2 (fun _ z => by cases z) ⟨dx, [], upd_same, rfl⟩
section
variable {k n : Nat} {f : Addr} {G : LSp} {C : Str} {e : Expr} {es : List Expr} {A : LX (List D)} {p pos : Pos}
theorem mono_make {C : Str} {G : LSp} {n : Nat} {A : LX (List D)} (hG : MonoP G) (hA : Mono A) : Mono (eMake C G n A) := fun σ h Q Q' E E' hQ hE q =>
  hA σ h _ _ _ _ (fun ds h1 ⟨l, q1⟩ => ⟨l, hG _ _ _ _ _ _ (fun d h2 ⟨z, q2⟩ => ⟨z, hQ _ _ q2⟩) hE q1⟩) hE q
theorem je_make (M : Mk X.K (He.ga X.K C) f) (F : Keeps X.prog X.w X.K X.mg X.base k f n G) (hr : RoomG (k + 1) X.A) (hm : X.mg C = some (.ref (He.ga X.K C))) (tk : L2N.Takes X W) (ha : JA X W (e :: es) A) (hg : Gl X C := by rfl)
    (hdb : (C == ("__debug__" : Str)) = false := by decide) (he : starEach (e :: es) X.env = (false, eval e X.env) :: starEach es X.env := by rfl) (hpl : (backTo pos (starEach es X.env)).any (·.1) = false := by rfl) :
    JE X W (.Call (.Name C p) (e :: es) [] pos) (eMake C G n A) := by
  obtain ⟨hG, fd, ps, hn, F, b⟩ := F
  refine ⟨mono_make hG ha.mono, PE.weak (pe_makeS M F hr hg hm b (fun σ => L2N.passAt tk σ) ha.run hdb he hpl) fun σV H Q ⟨ι, σ, h, hS, hH, q⟩ => ?_⟩
  refine tX.into ha.mono hS hH q (fun ds h1 ι1 vs H1 q1 e1 hH1 r x dx nx nd ne => ?_) (fun c fs h1 ι1 dx H1 q1 => q1 ι1 dx H1)
  have ex : Ext ι1 H1 (ι1.push x) (upd (upd H1 dx (.own x)) x (.ins (He.ga X.K C) dx [])) := made_ext nx nd ne
  have hx : (ι1.push x).ix[h1.length]? = some (some x) := by rw [← hH1.len, List.getElem?_append_right (Nat.le_refl _), Nat.sub_self]; rfl
  refine ⟨_, .ref h1.length :: ds, _, made_rel hH1 nx nd ne, ⟨.ref x, vs, rfl, ⟨x, hx, rfl⟩, r.ext ex⟩, q1.1, hG _ _ _ _ _ _ ?_ ?_ q1.2⟩
  · intro d h' ⟨z, q'⟩ ι' v H' e' hH' rd
    subst z
    exact ⟨rd, q' ι' (.ref x) H' (e1.trans (ex.trans e')) hH' ⟨x, e'.at_ hx, rfl⟩⟩
  · intro c fs h' q' ι' dx' H' e'
    exact q' ι' dx' H' (e1.trans (ex.trans e'))
end

/-! ### built-ins, by values -/
abbrev LB := List D → LH → (D → LH → Prop) → Prop
structure CallS (K : Frag) (r : List V → Hp → VK → Prop) (op : LB) : Prop where
  mono : ∀ ds h (Q Q' : D → LH → Prop), (∀ d h, Q d h → Q' d h) → op ds h Q → op ds h Q'
  run : ∀ ι H h ds vs (Q : D → LH → Prop) (Qv : VK), RelH K ι H h → RelDs K ι H ds vs → op ds h Q →
    (∀ d h' ι' v H', Q d h' → Ext ι H ι' H' → RelH K ι' H' h' → RelD K ι' H' d v → Qv v H') → r vs H Qv
def eB (op : LB) (A : LX (List D)) : LE := fun σ h Q E => A σ h (fun ds h1 => op ds h1 Q) E
section
variable {r : List V → Hp → VK → Prop} {op : LB} {A : LX (List D)} {x : Str} {id T : String} {e : Expr} {es : List Expr} {p pos : Pos}
theorem mono_B (hs : ∀ ds h (Q Q' : D → LH → Prop), (∀ d h, Q d h → Q' d h) → op ds h Q → op ds h Q') (hA : Mono A) : Mono (eB op A) := fun σ h Q Q' E E' hQ hE q => hA σ h _ _ _ _ (fun ds h1 q1 => hs _ _ _ _ hQ q1) hE q
theorem B_run {K : Frag} (hs : CallS K r op) (hA : Mono A) {σV : L2.St} {H : Hp} {Q : VK} (q : tE K W (eB op A) σV H Q) : tCB r (tA K W A) σV H Q := by
  obtain ⟨ι, σ, h, hS, hH, q⟩ := q
  refine tX.into hA hS hH q (fun ds h1 ι1 vs H1 q1 e1 hH1 rs => ?_) (fun c fs h1 ι1 dx H1 q1 => q1 ι1 dx H1)
  exact hs.run ι1 H1 h1 ds vs _ _ hH1 rs q1 fun d h' ι' v H' q' e' => q' ι' v H' (e1.trans e')
theorem je_B (hc : CallR X (.builtin id) r) (hs : CallS X.K r op) (hm : X.mg x = none) (hv : bootBuiltins x = some (.builtin id)) (ha : JA X W (e :: es) A) (hg : Gl X x := by rfl) (hn : x ≠ "__name__" := by decide) (hdb : (x == ("__debug__" : Str)) = false := by decide)
    (h : ∀ {t : TA}, CallR X (.builtin id) r → Gl X x → X.mg x = none → bootBuiltins x = some (.builtin id) → PA X (e :: es) t → PE X (.Call (.Name x p) (e :: es) [] pos) (tCB r t) := by exact fun a b c d e => pe_callB a b c d e) : JE X W (.Call (.Name x p) (e :: es) [] pos) (eB op A) :=
  ⟨mono_B hs.mono ha.mono, PE.weak (h hc hg hm hv ha.run) fun _ _ _ q => B_run hs ha.mono q⟩
theorem je_BT (hc : CallR X (.type T) r) (hs : CallS X.K r op) (hm : X.mg x = none) (hv : bootBuiltins x = some (.type T)) (ha : JA X W (e :: es) A) (hg : Gl X x := by rfl)
    (h : ∀ {t : TA}, CallR X (.type T) r → Gl X x → X.mg x = none → bootBuiltins x = some (.type T) → PA X (e :: es) t → PE X (.Call (.Name x p) (e :: es) [] pos) (tCB r t) := by exact fun a b c d e => pe_callTy a b c d e) : JE X W (.Call (.Name x p) (e :: es) [] pos) (eB op A) :=
  ⟨mono_B hs.mono ha.mono, PE.weak (h hc hg hm hv ha.run) fun _ _ _ q => B_run hs ha.mono q⟩
end
theorem RelDs.one {K : Frag} {ι : Ad} {H : Hp} {d : D} {vs : List V} (r : RelDs K ι H [d] vs) : ∃ v, vs = [v] ∧ RelD K ι H d v := by
  obtain ⟨v, r', e, h1, h2⟩ := r
  cases h2
  exact ⟨v, e, h1⟩
theorem RelDs.two {K : Frag} {ι : Ad} {H : Hp} {d d2 : D} {vs : List V} (r : RelDs K ι H [d, d2] vs) : ∃ v v2, vs = [v, v2] ∧ RelD K ι H d v ∧ RelD K ι H d2 v2 := by
  obtain ⟨v, r', e, h1, v2, r2, e2, h2, h3⟩ := r
  cases h3
  subst e2
  exact ⟨v, v2, e, h1, h2⟩
/-- lists of ints -/
def intsD : List D → Option (List Int)
  | [] => some []
  | .int i :: r => (intsD r).map (i :: ·)
  | _ :: _ => none
theorem intsD_map (ns : List Int) : intsD (ns.map D.int) = some ns := by
  induction ns with
  | nil => rfl
  | cons n ns ih => simp [intsD, ih]
theorem rel_ints {K : Frag} {ι : Ad} {H : Hp} : ∀ {ns : List Int} {vs : List V}, RelDs K ι H (ns.map D.int) vs → vs = ns.map V.int
  | [], _, h => h
  | n :: ns, _, ⟨v, r, e, h1, h2⟩ => by subst e; cases h1; rw [rel_ints h2]; rfl
section
variable {K : Frag}
def bLen : LB := fun ds h Q => match ds with
  | [.str s] => s.length ≤ sizeLine ∧ Q (.int s.length) h
  | [d] => seqA d h fun xs => Q (.int xs.length) h
  | _ => False
theorem bsLen : CallS K (fun xs H Q => (∃ p ys, xs = [.ref p] ∧ (SqL K H p ys ∨ SqT K H p ys) ∧ Q (.int ys.length) H) ∨ (∃ z, xs = [.str z] ∧ z.length ≤ sizeLine ∧ Q (.int z.length) H)) bLen := by
  refine ⟨fun ds h Q Q' hQ q => ?_, fun ι H h ds vs Q Qv hH r q k => ?_⟩
  · unfold bLen at *
    split at q
    · exact ⟨q.1, hQ _ _ q.2⟩
    · exact seqA_mono (fun xs q => hQ _ _ q) q
    · exact q.elim
  · unfold bLen at q
    split at q
    · obtain ⟨v, rfl, rv⟩ := r.one
      exact .inr ⟨_, congrArg (fun z => [z]) rv, q.1, k _ h ι _ H q.2 (.refl _ _) hH rfl⟩
    · obtain ⟨v, rfl, rv⟩ := r.one
      obtain ⟨a, xs, ys, rfl, h1, h2, q⟩ := seqA_run hH rv q
      exact .inl ⟨a, ys, rfl, h1, by rw [← h2.length]; exact k _ h ι _ H q (.refl _ _) hH rfl⟩
    · exact q.elim
def bAbs : LB := fun ds h Q => match ds with | [.int i] => Q (.int (if i < 0 then -i else i)) h | _ => False
theorem bsAbs : CallS K (fun xs H Q => ∃ i, xs = [.int i] ∧ Q (.int (if i < 0 then -i else i)) H) bAbs := by
  refine ⟨fun ds h Q Q' hQ q => ?_, fun ι H h ds vs Q Qv hH r q k => ?_⟩
  · unfold bAbs at *; split at q <;> first | exact hQ _ _ q | exact q.elim
  · unfold bAbs at q
    split at q
    · obtain ⟨v, rfl, rv⟩ := r.one
      exact ⟨_, congrArg (fun z => [z]) rv, k _ h ι _ H q (.refl _ _) hH rfl⟩
    · exact q.elim
def bInt : LB := fun ds h Q => match ds with | [.int i] => Q (.int i) h | [.bl b] => Q (.int (if b then 1 else 0)) h | _ => False
theorem bsInt : CallS K (fun xs H Q => (∃ i, xs = [.int i] ∧ Q (.int i) H) ∨ ∃ k, xs = [.bl k] ∧ Q (.int (if k then 1 else 0)) H) bInt := by
  refine ⟨fun ds h Q Q' hQ q => ?_, fun ι H h ds vs Q Qv hH r q k => ?_⟩
  · unfold bInt at *; split at q <;> first | exact hQ _ _ q | exact q.elim
  · unfold bInt at q
    split at q
    · obtain ⟨v, rfl, rv⟩ := r.one
      exact .inl ⟨_, congrArg (fun z => [z]) rv, k _ h ι _ H q (.refl _ _) hH rfl⟩
    · obtain ⟨v, rfl, rv⟩ := r.one
      exact .inr ⟨_, congrArg (fun z => [z]) rv, k _ h ι _ H q (.refl _ _) hH rfl⟩
    · exact q.elim
def bMax2 : LB := fun ds h Q => match ds with | [.int i, .int j] => Q (.int (if j > i then j else i)) h | _ => False
def bMin2 : LB := fun ds h Q => match ds with | [.int i, .int j] => Q (.int (if j < i then j else i)) h | _ => False
theorem bsMax2 : CallS K (fun xs H Q => ∃ i j, xs = [.int i, .int j] ∧ Q (.int (if j > i then j else i)) H) bMax2 := by
  refine ⟨fun ds h Q Q' hQ q => ?_, fun ι H h ds vs Q Qv hH r q k => ?_⟩
  · unfold bMax2 at *; split at q <;> first | exact hQ _ _ q | exact q.elim
  · unfold bMax2 at q
    split at q
    · obtain ⟨v, v2, rfl, rv, rv2⟩ := r.two
      cases rv; cases rv2
      exact ⟨_, _, rfl, k _ h ι _ H q (.refl _ _) hH rfl⟩
    · exact q.elim
theorem bsMin2 : CallS K (fun xs H Q => ∃ i j, xs = [.int i, .int j] ∧ Q (.int (if j < i then j else i)) H) bMin2 := by
  refine ⟨fun ds h Q Q' hQ q => ?_, fun ι H h ds vs Q Qv hH r q k => ?_⟩
  · unfold bMin2 at *; split at q <;> first | exact hQ _ _ q | exact q.elim
  · unfold bMin2 at q
    split at q
    · obtain ⟨v, v2, rfl, rv, rv2⟩ := r.two
      cases rv; cases rv2
      exact ⟨_, _, rfl, k _ h ι _ H q (.refl _ _) hH rfl⟩
    · exact q.elim
def bDivmod : LB := fun ds h Q => match ds with | [.int i, .int j] => CDiv i j ∧ Q (.tup [.int (i / j), .int (i % j)]) h | _ => False
theorem bsDivmod : CallS K (fun xs H Q => ∃ i j, xs = [.int i, .int j] ∧ CDiv i j ∧ ∀ p, H p = none → Q (.ref p) (upd H p (.tup [.int (i / j), .int (i % j)]))) bDivmod := by
  refine ⟨fun ds h Q Q' hQ q => ?_, fun ι H h ds vs Q Qv hH r q k => ?_⟩
  · unfold bDivmod at *; split at q <;> first | exact ⟨q.1, hQ _ _ q.2⟩ | exact q.elim
  · unfold bDivmod at q
    split at q
    · obtain ⟨v, v2, rfl, rv, rv2⟩ := r.two
      cases rv; cases rv2
      refine ⟨_, _, rfl, q.1, fun p hp => k _ h ι _ _ q.2 (Ext.new hp) (hH.new hp) ⟨p, _, rfl, SqT.of upd_same, _, _, rfl, rfl, _, _, rfl, rfl, rfl⟩⟩
    · exact q.elim
/-- tuple(list), list(list or tuple): new, and nobody changes it -/
def bTuple : LB := fun ds h Q => match ds with | [.tup xs] => Q (.tup xs) h | [d] => seqL d h fun xs => Q (.tup xs) h | _ => False
theorem bsTuple : CallS K (fun xs H Q => ∃ p ys, xs = [.ref p] ∧ ((SqL K H p ys ∧ ∀ l, H l = none → Q (.ref l) (upd H l (.tup ys))) ∨ (SqT K H p ys ∧ Q (.ref p) H))) bTuple := by
  refine ⟨fun ds h Q Q' hQ q => ?_, fun ι H h ds vs Q Qv hH r q k => ?_⟩
  · unfold bTuple at *
    split at q
    · exact hQ _ _ q
    · exact seqL_mono (fun xs q => hQ _ _ q) q
    · exact q.elim
  · unfold bTuple at q
    split at q
    · obtain ⟨v, rfl, rv⟩ := r.one
      obtain ⟨a, ys, rfl, h1, h2⟩ := rv
      exact ⟨a, ys, rfl, .inr ⟨h1, k _ h ι _ H q (.refl _ _) hH ⟨a, ys, rfl, h1, h2⟩⟩⟩
    · obtain ⟨v, rfl, rv⟩ := r.one
      obtain ⟨a, xs, ys, rfl, h1, h2, q⟩ := seqL_run hH rv q
      refine ⟨a, ys, rfl, .inl ⟨h1, fun l hl => k _ h ι _ _ q (Ext.new hl) (hH.new hl) ⟨l, ys, rfl, SqT.of upd_same, h2.ext (Ext.new hl)⟩⟩⟩
    · exact q.elim
def bListF : LB := fun ds h Q => match ds with | [d] => seqA d h fun xs => Q (.lst xs) h | _ => False
/-- list(..) that will be changed -/
def bListM : LB := fun ds h Q => match ds with | [d] => seqA d h fun xs => Q (.ref h.length) (h ++ [.lst xs]) | _ => False
theorem bsListF : CallS K (fun xs H Q => ∃ p ys, xs = [.ref p] ∧ (SqL K H p ys ∨ SqT K H p ys) ∧ ∀ l, H l = none → Q (.ref l) (upd H l (.lst ys))) bListF := by
  refine ⟨fun ds h Q Q' hQ q => ?_, fun ι H h ds vs Q Qv hH r q k => ?_⟩
  · unfold bListF at *
    split at q
    · exact seqA_mono (fun xs q => hQ _ _ q) q
    · exact q.elim
  · unfold bListF at q
    split at q
    · obtain ⟨v, rfl, rv⟩ := r.one
      obtain ⟨a, xs, ys, rfl, h1, h2, q⟩ := seqA_run hH rv q
      exact ⟨a, ys, rfl, h1, fun l hl => k _ h ι _ _ q (Ext.new hl) (hH.new hl) ⟨l, ys, rfl, .inl ⟨upd_same, hH.notNew hl⟩, h2.ext (Ext.new hl)⟩⟩
    · exact q.elim
theorem bsListM : CallS K (fun xs H Q => ∃ p ys, xs = [.ref p] ∧ (SqL K H p ys ∨ SqT K H p ys) ∧ ∀ l, H l = none → Q (.ref l) (upd H l (.lst ys))) bListM := by
  refine ⟨fun ds h Q Q' hQ q => ?_, fun ι H h ds vs Q Qv hH r q k => ?_⟩
  · unfold bListM at *
    split at q
    · exact seqA_mono (fun xs q => hQ _ _ q) q
    · exact q.elim
  · unfold bListM at q
    split at q
    · obtain ⟨v, rfl, rv⟩ := r.one
      obtain ⟨a, xs, ys, rfl, h1, h2, q⟩ := seqA_run hH rv q
      refine ⟨a, ys, rfl, h1, fun l hl => k _ _ _ _ _ q (Ext.push hl) (hH.push hl (fun _ z => by cases z) ⟨ys, upd_same, h2.ext (Ext.push hl)⟩) ⟨l, ?_, rfl⟩⟩
      rw [← hH.len, List.getElem?_append_right (Nat.le_refl _), Nat.sub_self]
      rfl
    · exact q.elim
/-- sum, max, min of a list of ints -/
def bSum : LB := fun ds h Q => match ds with | [d] => seqL d h fun xs => ∃ ns : List Int, xs = ns.map D.int ∧ Q (.int ns.sum) h | _ => False
theorem bsSum : CallS K (rSum K) bSum := by
  refine ⟨fun ds h Q Q' hQ q => ?_, fun ι H h ds vs Q Qv hH r q k => ?_⟩
  · unfold bSum at *
    split at q
    · exact seqL_mono (fun xs ⟨ns, e, q⟩ => ⟨ns, e, hQ _ _ q⟩) q
    · exact q.elim
  · unfold bSum at q
    split at q
    · obtain ⟨v, rfl, rv⟩ := r.one
      obtain ⟨a, xs, ys, rfl, h1, h2, ns, rfl, q⟩ := seqL_run hH rv q
      cases rel_ints h2
      exact ⟨a, ns, rfl, h1, k _ h ι _ H q (.refl _ _) hH rfl⟩
    · exact q.elim
def bMin : LB := fun ds h Q => match ds with | [d] => seqL d h fun xs => ∃ ns : List Int, xs = ns.map D.int ∧ 0 < ns.length ∧ ∀ m, m ∈ ns → (∀ y, y ∈ ns → m ≤ y) → Q (.int m) h | _ => False
def bMax : LB := fun ds h Q => match ds with | [d] => seqL d h fun xs => ∃ ns : List Int, xs = ns.map D.int ∧ 0 < ns.length ∧ ∀ m, m ∈ ns → (∀ y, y ∈ ns → y ≤ m) → Q (.int m) h | _ => False
theorem bsMin : CallS K (rMin K) bMin := by
  refine ⟨fun ds h Q Q' hQ q => ?_, fun ι H h ds vs Q Qv hH r q k => ?_⟩
  · unfold bMin at *
    split at q
    · exact seqL_mono (fun xs ⟨ns, e, l, q⟩ => ⟨ns, e, l, fun m a b => hQ _ _ (q m a b)⟩) q
    · exact q.elim
  · unfold bMin at q
    split at q
    · obtain ⟨v, rfl, rv⟩ := r.one
      obtain ⟨a, xs, ys, rfl, h1, h2, ns, rfl, l, q⟩ := seqL_run hH rv q
      cases rel_ints h2
      exact ⟨a, ns, rfl, h1, l, fun m y z => k _ h ι _ H (q m y z) (.refl _ _) hH rfl⟩
    · exact q.elim
theorem bsMax : CallS K (rMax K) bMax := by
  refine ⟨fun ds h Q Q' hQ q => ?_, fun ι H h ds vs Q Qv hH r q k => ?_⟩
  · unfold bMax at *
    split at q
    · exact seqL_mono (fun xs ⟨ns, e, l, q⟩ => ⟨ns, e, l, fun m a b => hQ _ _ (q m a b)⟩) q
    · exact q.elim
  · unfold bMax at q
    split at q
    · obtain ⟨v, rfl, rv⟩ := r.one
      obtain ⟨a, xs, ys, rfl, h1, h2, ns, rfl, l, q⟩ := seqL_run hH rv q
      cases rel_ints h2
      exact ⟨a, ns, rfl, h1, l, fun m y z => k _ h ι _ H (q m y z) (.refl _ _) hH rfl⟩
    · exact q.elim
theorem rel_bls {ι : Ad} {H : Hp} : ∀ {bs : List Bool} {vs : List V}, RelDs K ι H (bs.map D.bl) vs → vs = bs.map V.bl
  | [], _, h => h
  | n :: ns, _, ⟨v, r, e, h1, h2⟩ => by subst e; cases h1; rw [rel_bls h2]; rfl
def bAll : LB := fun ds h Q => match ds with | [d] => seqL d h fun xs => ∃ bs : List Bool, xs = bs.map D.bl ∧ Q (.bl (bs.all id)) h | _ => False
def bAny : LB := fun ds h Q => match ds with | [d] => seqL d h fun xs => ∃ bs : List Bool, xs = bs.map D.bl ∧ Q (.bl (bs.any id)) h | _ => False
theorem bsAll : CallS K (rAll K) bAll := by
  refine ⟨fun ds h Q Q' hQ q => ?_, fun ι H h ds vs Q Qv hH r q k => ?_⟩
  · unfold bAll at *
    split at q
    · exact seqL_mono (fun xs ⟨ns, e, q⟩ => ⟨ns, e, hQ _ _ q⟩) q
    · exact q.elim
  · unfold bAll at q
    split at q
    · obtain ⟨v, rfl, rv⟩ := r.one
      obtain ⟨a, xs, ys, rfl, h1, h2, bs, rfl, q⟩ := seqL_run hH rv q
      cases rel_bls h2
      exact ⟨a, bs, rfl, h1, k _ h ι _ H q (.refl _ _) hH rfl⟩
    · exact q.elim
theorem bsAny : CallS K (rAny K) bAny := by
  refine ⟨fun ds h Q Q' hQ q => ?_, fun ι H h ds vs Q Qv hH r q k => ?_⟩
  · unfold bAny at *
    split at q
    · exact seqL_mono (fun xs ⟨ns, e, q⟩ => ⟨ns, e, hQ _ _ q⟩) q
    · exact q.elim
  · unfold bAny at q
    split at q
    · obtain ⟨v, rfl, rv⟩ := r.one
      obtain ⟨a, xs, ys, rfl, h1, h2, bs, rfl, q⟩ := seqL_run hH rv q
      cases rel_bls h2
      exact ⟨a, bs, rfl, h1, k _ h ι _ H q (.refl _ _) hH rfl⟩
    · exact q.elim
def bStr : LB := fun ds h Q => match ds with | [.int i] => i.natAbs.log2 < 1920 ∧ Q (.str (toString i)) h | _ => False
theorem bsStr : CallS K (fun xs H Q => ∃ i, xs = [.int i] ∧ i.natAbs.log2 < 1920 ∧ Q (.str (toString i)) H) bStr := by
  refine ⟨fun ds h Q Q' hQ q => ?_, fun ι H h ds vs Q Qv hH r q k => ?_⟩
  · unfold bStr at *; split at q <;> first | exact ⟨q.1, hQ _ _ q.2⟩ | exact q.elim
  · unfold bStr at q
    split at q
    · obtain ⟨v, rfl, rv⟩ := r.one
      exact ⟨_, congrArg (fun z => [z]) rv, q.1, k _ h ι _ H q.2 (.refl _ _) hH rfl⟩
    · exact q.elim
end
end LL
end

section
set_option Elab.async false
set_option linter.all false
set_option maxRecDepth 100000
set_option maxHeartbeats 1000000
/-! LLIter: what is walked, and list comprehensions. -/
namespace LL
open PySem PySem.Spec PyProof.Rows L2
variable {X : Cx} {W : WX}

/-! ### walking a list, a tuple -/
/-- a list or a tuple, by what stands there when the walk begins -/
def iSq (K : Frag) (tl : TE) : TI := fun σ H R => tl σ H fun x H1 => ∃ a, x = .ref a ∧ (((∃ xs, SqL K H1 a xs) ∧ R (Itl K a) H1) ∨ ((∃ xs, SqT K H1 a xs) ∧ R (Itt K a) H1))
theorem pi_sq {tg l : Expr} {tl : TE} (hl : PE X l tl) : PI X tg l (iSq X.K tl) := by
  refine ⟨fun pins s σ H R I h => ?_⟩
  refine thn (hl.run pins s σ H _ I h) fun v s1 ⟨x, H1, I1, r1, q1⟩ => ?_
  obtain ⟨a, e, q⟩ := q1
  subst e
  cases r1
  rcases q with ⟨⟨xs, hq⟩, q⟩ | ⟨⟨xs, hq⟩, q⟩
  · obtain ⟨its, rv, p, hz⟩ := I1.list hq
    refine wpAny_pyIter_list p.isList ?_
    exact pi_one (tk := s1.toks) I1 _ (turn_list a _) ⟨_, Heap.get?_push_size _ rfl, rfl, rfl⟩ q
  · obtain ⟨its, rv, p, hz⟩ := I1.tuple hq
    refine wpAny_pyIter_tuple (show s1.heap.IsTuple a its.toArray from p) ?_
    exact pi_one (tk := s1.toks) I1 _ (turn_tuple a _) ⟨_, Heap.get?_push_size _ rfl, rfl, rfl⟩ q
/-- the items, and that a list which may change stays as it is -/
def walkD (d : D) (h : LH) (Q : LIt → Prop) : Prop := match d with
  | .lst ds => Q ⟨ds, fun _ => True⟩
  | .tup ds => Q ⟨ds, fun _ => True⟩
  | .ref n => match h[n]? with
    | some (.lst ds) => Q ⟨ds, fun h' => h'[n]? = some (.lst ds)⟩
    | _ => False
  | _ => False
def iSeq (m : LE) : LI := fun σ h Q E => m σ h (fun d h1 => walkD d h1 fun J => Q J h1) E
theorem walkD_mono {d : D} {h : LH} {Q Q' : LIt → Prop} (hQ : ∀ J, Q J → Q' J) (q : walkD d h Q) : walkD d h Q' := by
  unfold walkD at *
  split at q
  · exact hQ _ q
  · exact hQ _ q
  · split at q
    · exact hQ _ q
    · exact q.elim
  · exact q.elim
theorem itl_frz {K : Frag} {ι1 : Ad} {H1 : Hp} {a : Addr} {ds : List D} {vs : List V} (hf : FzL K ι1 H1 a vs) (rs : RelDs K ι1 H1 ds vs) : ItRel K ι1 H1 ⟨ds, fun _ => True⟩ (Itl K a) := by
  refine ⟨fun ι H h e hH _ => ⟨vs, (e.fzL hf).sq, by rw [← rs.length]; exact Nat.le_refl _⟩, fun i x ι H h hx e hH _ => ?_⟩
  obtain ⟨v, hv, r⟩ := rs.get hx
  refine ⟨⟨vs, v, (e.fzL hf).sq, hv⟩, fun u H' y => ?_⟩
  obtain ⟨rfl, y⟩ := y
  have := y vs (e.fzL hf).sq
  rw [hv] at this
  cases this
  exact ⟨.refl _ _, hH, r.ext e⟩
theorem itt_rel {K : Frag} {ι1 : Ad} {H1 : Hp} {a : Addr} {ds : List D} {vs : List V} (hf : SqT K H1 a vs) (rs : RelDs K ι1 H1 ds vs) : ItRel K ι1 H1 ⟨ds, fun _ => True⟩ (Itt K a) := by
  refine ⟨fun ι H h e hH _ => ⟨vs, e.sqT hf, by rw [← rs.length]; exact Nat.le_refl _⟩, fun i x ι H h hx e hH _ => ?_⟩
  obtain ⟨v, hv, r⟩ := rs.get hx
  refine ⟨⟨vs, v, e.sqT hf, hv⟩, fun u H' y => ?_⟩
  obtain ⟨rfl, y⟩ := y
  have := y vs (e.sqT hf)
  rw [hv] at this
  cases this
  exact ⟨.refl _ _, hH, r.ext e⟩
theorem itl_mut {K : Frag} {ι1 : Ad} {H1 : Hp} {a : Addr} {n : Nat} {ds : List D} (ha : ι1.ix[n]? = some (some a)) : ItRel K ι1 H1 ⟨ds, fun h' => h'[n]? = some (.lst ds)⟩ (Itl K a) := by
  refine ⟨fun ι H h e hH ok => ?_, fun i x ι H h hx e hH ok => ?_⟩
  · obtain ⟨vs, h1, rs⟩ := hH.lst (e.at_ ha) ok
    exact ⟨vs, .inl (.inl h1), by rw [← rs.length]; exact Nat.le_refl _⟩
  · obtain ⟨vs, h1, rs⟩ := hH.lst (e.at_ ha) ok
    obtain ⟨v, hv, r⟩ := rs.get hx
    refine ⟨⟨vs, v, .inl (.inl h1), hv⟩, fun u H' y => ?_⟩
    obtain ⟨rfl, y⟩ := y
    have := y vs (.inl (.inl h1))
    rw [hv] at this
    cases this
    exact ⟨.refl _ _, hH, r⟩
/-- through a computation into an iteration -/
theorem ji_seq {tg l : Expr} {m : LE} (hl : JE X W l m) : JI X W tg l (iSeq m) := by
  refine ⟨fun σ h Q Q' E E' hQ hE q => hl.mono σ h _ _ _ _ (fun d h1 q1 => walkD_mono (fun J => hQ J h1) q1) hE q, PI.weak (pi_sq hl.run) fun σV H Q ⟨ι, σ, h, hS, hH, q⟩ => ?_⟩
  refine tX.into hl.mono hS hH q (fun d h1 ι1 v H1 q1 e1 hH1 r => ?_) (fun c fs h1 ι1 dx H1 q1 => q1 ι1 dx H1)
  unfold walkD at q1
  split at q1
  · obtain ⟨a, vs, rfl, hf, rs⟩ := r
    exact ⟨a, rfl, .inl ⟨⟨vs, hf.sq⟩, q1 ι1 _ H1 e1 hH1 (itl_frz hf rs)⟩⟩
  · obtain ⟨a, vs, rfl, hf, rs⟩ := r
    exact ⟨a, rfl, .inr ⟨⟨vs, hf⟩, q1 ι1 _ H1 e1 hH1 (itt_rel hf rs)⟩⟩
  · obtain ⟨a, ha, rfl⟩ := r
    split at q1
    · rename_i ho
      obtain ⟨vs, h2, rs⟩ := hH1.lst ha ho
      exact ⟨a, rfl, .inl ⟨⟨vs, .inl (.inl h2)⟩, q1 ι1 _ H1 e1 hH1 (itl_mut ha)⟩⟩
    · exact q1.elim
  · exact q1.elim

/-! ### range -/
def rngD (lo : Int) (n : Nat) : List D := (List.range n).map fun (i : Nat) => D.int (lo + i)
theorem rngD_len (lo : Int) (n : Nat) : (rngD lo n).length = n := by simp [rngD]
theorem rngD_get {lo : Int} {n i : Nat} {x : D} (h : (rngD lo n)[i]? = some x) : i < n ∧ x = .int (lo + i) := by
  have l := (List.getElem?_eq_some_iff.mp h).1
  rw [rngD_len] at l
  refine ⟨l, ?_⟩
  simp [rngD, l] at h
  exact h.symm
theorem it_rng {K : Frag} {ι1 : Ad} {H1 : Hp} {lo : Int} {n : Nat} : ItRel K ι1 H1 ⟨rngD lo n, fun _ => True⟩ (Itr lo n) := by
  refine ⟨fun ι H h e hH _ => Nat.le_of_eq (rngD_len lo n).symm, fun i x ι H h hx e hH _ => ?_⟩
  obtain ⟨l, rfl⟩ := rngD_get hx
  exact ⟨l, fun v H' y => by obtain ⟨rfl, rfl⟩ := y; exact ⟨.refl _ _, hH, rfl⟩⟩
def iRange (A : LX (List D)) : LI := fun σ h Q E => A σ h (fun ds h1 => match ds with
  | [.int j] => -(2 ^ 62) ≤ j ∧ j < 2 ^ 62 ∧ Q ⟨rngD 0 j.toNat, fun _ => True⟩ h1
  | [.int i, .int j] => -(2 ^ 62) ≤ i ∧ i < 2 ^ 62 ∧ -(2 ^ 62) ≤ j ∧ j < 2 ^ 62 ∧ Q ⟨rngD i (j - i).toNat, fun _ => True⟩ h1
  | _ => False) E
theorem mono_range {A : LX (List D)} (hA : Mono A) : Mono (iRange A) := fun σ h Q Q' E E' hQ hE q => hA σ h _ _ _ _ (fun ds h1 q1 => by
  split at q1
  · exact ⟨q1.1, q1.2.1, hQ _ _ q1.2.2⟩
  · exact ⟨q1.1, q1.2.1, q1.2.2.1, q1.2.2.2.1, hQ _ _ q1.2.2.2.2⟩
  · exact q1.elim) hE q
/-- the answer at one argument, at two -/
def iRangeN (k : Nat) (A : LX (List D)) : LI := fun σ h Q E => iRange (fun σ h Q E => A σ h (fun ds h1 => ds.length = k ∧ Q ds h1) E) σ h Q E
theorem ji_range1 {tg a : Expr} {A : LX (List D)} {p pos : Pos} (hm : X.mg "range" = none) (ha : JA X W [a] A) (hg : Gl X "range" := by rfl) (hs : starEach [a] X.env = [(false, eval a X.env)] := by rfl) : JI X W tg (.Call (.Name "range" p) [a] [] pos) (iRangeN 1 A) := by
  have mA : Mono (fun σ h Q E => A σ h (fun ds h1 => ds.length = 1 ∧ Q ds h1) E) := fun σ h Q Q' E E' hQ hE q => ha.mono σ h _ _ _ _ (fun d h1 q => ⟨q.1, hQ _ _ q.2⟩) hE q
  refine ⟨mono_range mA, PI.weak (pi_range1 hg hm ha.run hs) fun σV H Q ⟨ι, σ, h, hS, hH, q⟩ => ?_⟩
  refine tX.into ha.mono hS hH q (fun d h1 ι1 v H1 q1 e1 hH1 r => ?_) (fun c fs h1 ι1 dx H1 q1 => q1 ι1 dx H1)
  obtain ⟨l, q1⟩ := q1
  split at q1
  · obtain ⟨v, rfl, r'⟩ := r.one
    exact ⟨_, by rw [r'], q1.1, q1.2.1, q1.2.2 ι1 _ H1 e1 hH1 it_rng⟩
  · cases l
  · exact q1.elim
theorem ji_range2 {tg a b : Expr} {A : LX (List D)} {p pos : Pos} (hm : X.mg "range" = none) (ha : JA X W [a, b] A) (hg : Gl X "range" := by rfl) (hs : starEach [a, b] X.env = [(false, eval a X.env), (false, eval b X.env)] := by rfl) (hs2 : starEach [b] X.env = [(false, eval b X.env)] := by rfl) :
    JI X W tg (.Call (.Name "range" p) [a, b] [] pos) (iRangeN 2 A) := by
  have mA : Mono (fun σ h Q E => A σ h (fun ds h1 => ds.length = 2 ∧ Q ds h1) E) := fun σ h Q Q' E E' hQ hE q => ha.mono σ h _ _ _ _ (fun d h1 q => ⟨q.1, hQ _ _ q.2⟩) hE q
  refine ⟨mono_range mA, PI.weak (pi_range2 hg hm ha.run hs hs2) fun σV H Q ⟨ι, σ, h, hS, hH, q⟩ => ?_⟩
  refine tX.into ha.mono hS hH q (fun d h1 ι1 v H1 q1 e1 hH1 r => ?_) (fun c fs h1 ι1 dx H1 q1 => q1 ι1 dx H1)
  obtain ⟨l, q1⟩ := q1
  split at q1
  · cases l
  · obtain ⟨v, v2, rfl, r', r2⟩ := r.two
    exact ⟨_, _, by rw [r', r2], ⟨q1.1, q1.2.1, q1.2.2.1, q1.2.2.2.1⟩, q1.2.2.2.2 ι1 _ H1 e1 hH1 it_rng⟩
  · exact q1.elim

/-! ### enumerate -/
def enumD (ds : List D) : List D := ds.zipIdx.map fun p => D.tup [.int (p.2 : Nat), p.1]
theorem enumD_len (ds : List D) : (enumD ds).length = ds.length := by simp [enumD]
theorem enumD_get {ds : List D} {i : Nat} {x : D} (h : (enumD ds)[i]? = some x) : ∃ d, ds[i]? = some d ∧ x = .tup [.int (i : Nat), d] := by
  simp only [enumD, List.getElem?_map, List.getElem?_zipIdx, Nat.zero_add, Option.map_map, Option.map_eq_some_iff] at h
  obtain ⟨d, e, h⟩ := h
  exact ⟨d, e, h.symm⟩
def enumOf (J : LIt) : LIt := ⟨enumD J.items, J.ok⟩
/-- the list that is walked, at any later moment -/
def LstAt (K : Frag) (ι1 : Ad) (H1 : Hp) (J : LIt) (a : Addr) : Prop := ∀ ι H h, Ext ι1 H1 ι H → RelH K ι H h → J.ok h → ∃ vs, SqL K H a vs ∧ RelDs K ι H J.items vs
theorem it_enum {K : Frag} {ι1 : Ad} {H1 : Hp} {J : LIt} {a : Addr} (hl : LstAt K ι1 H1 J a) : ItRel K ι1 H1 (enumOf J) (Ite K a) := by
  refine ⟨fun ι H h e hH ok => ?_, fun i x ι H h hx e hH ok => ?_⟩
  · obtain ⟨vs, h1, rs⟩ := hl ι H h e hH ok
    exact ⟨vs, h1, by rw [← rs.length]; exact Nat.le_of_eq (enumD_len J.items).symm⟩
  · obtain ⟨vs, h1, rs⟩ := hl ι H h e hH ok
    obtain ⟨d, hd, rfl⟩ := enumD_get hx
    obtain ⟨v, hv, r⟩ := rs.get hd
    refine ⟨⟨vs, v, h1, hv⟩, fun u H' y => ?_⟩
    obtain ⟨T, z, rfl, hT, rfl, y⟩ := y
    have := y vs h1
    rw [hv] at this
    cases this
    have ex : Ext ι H ι (upd H T (.tup [.int (i : Nat), v])) := Ext.new hT
    exact ⟨ex, hH.new hT, T, _, rfl, SqT.of upd_same, ⟨_, _, rfl, rfl, _, _, rfl, r.ext ex, rfl⟩⟩
def walkL (d : D) (h : LH) (Q : LIt → Prop) : Prop := match d with
  | .lst ds => Q ⟨ds, fun _ => True⟩
  | .ref n => match h[n]? with
    | some (.lst ds) => Q ⟨ds, fun h' => h'[n]? = some (.lst ds)⟩
    | _ => False
  | _ => False
theorem walkL_mono {d : D} {h : LH} {Q Q' : LIt → Prop} (hQ : ∀ J, Q J → Q' J) (q : walkL d h Q) : walkL d h Q' := by
  unfold walkL at *
  split at q
  · exact hQ _ q
  · split at q
    · exact hQ _ q
    · exact q.elim
  · exact q.elim
theorem walkL_run {K : Frag} {ι : Ad} {H : Hp} {h : LH} {d : D} {v : V} {Q : LIt → Prop} (hH : RelH K ι H h) (r : RelD K ι H d v) (q : walkL d h Q) : ∃ a xs J, v = .ref a ∧ SqL K H a xs ∧ Q J ∧ LstAt K ι H J a := by
  unfold walkL at q
  split at q
  · obtain ⟨a, vs, rfl, hf, rs⟩ := r
    exact ⟨a, vs, _, rfl, hf.sq, q, fun ι' H' h' e _ _ => ⟨vs, (e.fzL hf).sq, rs.ext e⟩⟩
  · obtain ⟨a, ha, rfl⟩ := r
    split at q
    · rename_i ho
      obtain ⟨vs, h2, rs⟩ := hH.lst ha ho
      refine ⟨a, vs, _, rfl, .inl (.inl h2), q, fun ι' H' h' e hH' ok => ?_⟩
      obtain ⟨vs', h3, rs'⟩ := hH'.lst (e.at_ ha) ok
      exact ⟨vs', .inl (.inl h3), rs'⟩
    · exact q.elim
  · exact q.elim
def iEnumL (A : LX (List D)) : LI := fun σ h Q E => A σ h (fun ds h1 => match ds with | [d] => walkL d h1 fun J => Q (enumOf J) h1 | _ => False) E
theorem ji_enum {a : Expr} {A : LX (List D)} {p pos tpos : Pos} {elts : List Expr} {kk : Nat} (hm : X.mg "enumerate" = none) (ha : JA X W [a] A) (hg : Gl X "enumerate" := by rfl) (hs : starEach [a] X.env = [(false, eval a X.env)] := by rfl) :
    JI X W (.Tuple elts kk tpos) (.Call (.Name "enumerate" p) [a] [] pos) (iEnumL A) := by
  refine ⟨fun σ h Q Q' E E' hQ hE q => ha.mono σ h _ _ _ _ (fun ds h1 q1 => ?_) hE q, PI.weak (pi_enum hg hm ha.run hs) fun σV H Q ⟨ι, σ, h, hS, hH, q⟩ => ?_⟩
  · split at q1
    · exact walkL_mono (fun J => hQ _ h1) q1
    · exact q1.elim
  · refine tX.into ha.mono hS hH q (fun d h1 ι1 v H1 q1 e1 hH1 r => ?_) (fun c fs h1 ι1 dx H1 q1 => q1 ι1 dx H1)
    split at q1
    · obtain ⟨v, rfl, r'⟩ := r.one
      obtain ⟨a, xs, J, rfl, h2, q2, hl⟩ := walkL_run hH1 r' q1
      exact ⟨a, xs, rfl, h2, q2 ι1 _ H1 e1 hH1 (it_enum hl)⟩
    · exact q1.elim

/-! ### zip of two lists -/
def zipD (xs ys : List D) : List D := (xs.zip ys).map fun p => D.tup [p.1, p.2]
def zipOf (J J' : LIt) : LIt := ⟨zipD J.items J'.items, fun h => J.ok h ∧ J'.ok h⟩
theorem zipD_get {xs ys : List D} {i : Nat} {x : D} (h : (zipD xs ys)[i]? = some x) : ∃ d e, xs[i]? = some d ∧ ys[i]? = some e ∧ x = .tup [d, e] := by
  simp only [zipD, List.getElem?_map, Option.map_eq_some_iff] at h
  obtain ⟨⟨d, e⟩, q, h⟩ := h
  rw [List.getElem?_zip_eq_some] at q
  exact ⟨d, e, q.1, q.2, h.symm⟩
theorem it_zip {K : Frag} {ι1 : Ad} {H1 : Hp} {J J' : LIt} {a b : Addr} (hl : LstAt K ι1 H1 J a) (hl' : LstAt K ι1 H1 J' b) : ItRel K ι1 H1 (zipOf J J') (Itz K a b) := by
  refine ⟨fun ι H h e hH ok => ?_, fun i x ι H h hx e hH ok => ?_⟩
  · obtain ⟨vs, h1, rs⟩ := hl ι H h e hH ok.1
    obtain ⟨us, h2, ru⟩ := hl' ι H h e hH ok.2
    refine ⟨vs, us, h1, h2, ?_⟩
    rw [← rs.length, ← ru.length]
    show J.items.length ≤ (zipD J.items J'.items).length ∨ J'.items.length ≤ (zipD J.items J'.items).length
    simp only [zipD, List.length_map, List.length_zip]
    omega
  · obtain ⟨vs, h1, rs⟩ := hl ι H h e hH ok.1
    obtain ⟨us, h2, ru⟩ := hl' ι H h e hH ok.2
    obtain ⟨d, d2, hd, hd2, rfl⟩ := zipD_get hx
    obtain ⟨v, hv, r⟩ := rs.get hd
    obtain ⟨v2, hv2, r2⟩ := ru.get hd2
    refine ⟨⟨vs, us, v, v2, h1, h2, hv, hv2⟩, fun u H' y => ?_⟩
    obtain ⟨T, z, z2, rfl, hT, rfl, y, y2⟩ := y
    have := y vs h1
    rw [hv] at this
    cases this
    have := y2 us h2
    rw [hv2] at this
    cases this
    have ex : Ext ι H ι (upd H T (.tup [v, v2])) := Ext.new hT
    exact ⟨ex, hH.new hT, T, _, rfl, SqT.of upd_same, ⟨_, _, rfl, r.ext ex, _, _, rfl, r2.ext ex, rfl⟩⟩
def iZipL (A : LX (List D)) : LI := fun σ h Q E => A σ h (fun ds h1 => match ds with | [d, e] => walkL d h1 fun J => walkL e h1 fun J' => Q (zipOf J J') h1 | _ => False) E
theorem ji_zip {a b : Expr} {A : LX (List D)} {p pos tpos : Pos} {elts : List Expr} {kk : Nat} (hm : X.mg "zip" = none) (ha : JA X W [a, b] A) (hg : Gl X "zip" := by rfl)
    (hs : starEach [a, b] X.env = (false, eval a X.env) :: starEach [b] X.env := by rfl) (hpl : (backTo pos (starEach [b] X.env)).any (·.1) = false := by rfl) :
    JI X W (.Tuple elts kk tpos) (.Call (.Name "zip" p) [a, b] [] pos) (iZipL A) := by
  refine ⟨fun σ h Q Q' E E' hQ hE q => ha.mono σ h _ _ _ _ (fun ds h1 q1 => ?_) hE q, PI.weak (pi_zip hg hm ha.run hs hpl) fun σV H Q ⟨ι, σ, h, hS, hH, q⟩ => ?_⟩
  · split at q1
    · exact walkL_mono (fun J q2 => walkL_mono (fun J' => hQ _ h1) q2) q1
    · exact q1.elim
  · refine tX.into ha.mono hS hH q (fun d h1 ι1 v H1 q1 e1 hH1 r => ?_) (fun c fs h1 ι1 dx H1 q1 => q1 ι1 dx H1)
    split at q1
    · obtain ⟨v, v2, rfl, r', r2⟩ := r.two
      obtain ⟨a, xs, J, rfl, h2, q2, hl⟩ := walkL_run hH1 r' q1
      obtain ⟨b, ys, J', rfl, h3, q3, hl'⟩ := walkL_run hH1 r2 q2
      exact ⟨a, b, xs, ys, rfl, h2, h3, q3 ι1 _ H1 e1 hH1 (it_zip hl hl')⟩
    · exact q1.elim

/-! ### list comprehensions -/
/-- the targets of a comprehension: a name, a tuple of names -/
inductive Pt where
  | nm (i : Nat)
  | tp (is : List Nat)
def setDs : List Nat → List D → LV → LV
  | i :: is, d :: ds, σ => setDs is ds (σ.set i (some d))
  | _, _, σ => σ
def Pt.st (p : Pt) (d : D) (σ : LV) (Q : LV → Prop) : Prop := match p with
  | .nm i => Q (σ.set i (some d))
  | .tp is => match d with
    | .tup ds => ds.length = is.length ∧ Q (setDs is ds σ)
    | _ => False
def gNs : List Nat → TGs
  | [] => gNil
  | i :: is => gCons (gName i) (gNs is)
def Pt.g (K : Frag) : Pt → TG
  | .nm i => gName i
  | .tp is => gTup K is.length (gNs is)
def Pt.own : Pt → List Nat
  | .nm i => [i]
  | .tp is => is
theorem wipe_in {σ : L2.St} {i : Nat} {v : Option V} : ∀ {vs : List Nat}, i ∈ vs → wipe (σ.set i v) vs = wipe σ vs
  | u :: vs, h => by
    unfold wipe
    rcases List.mem_cons.mp h with rfl | h
    · by_cases hi : i ∈ vs
      · rw [wipe_in hi]
      · clear h
        have : ∀ vs : List Nat, wipe (σ.set i v) vs = if i ∈ vs then wipe σ vs else (wipe σ vs).set i v := by
          intro vs
          induction vs with
          | nil => simp [wipe]
          | cons u vs ih =>
            unfold wipe
            rw [ih]
            by_cases h1 : i = u
            · subst h1
              by_cases h2 : i ∈ vs
              · simp [h2]
              · simp [h2, List.set_set]
            · by_cases h2 : i ∈ vs
              · simp [h2]
              · simp only [h2, if_false, List.mem_cons, h1, or_self]
                rw [List.set_comm _ _ h1]
        rw [this, if_neg hi, List.set_set]
    · rw [wipe_in h]
theorem gNs_run {K : Frag} {ι : Ad} {H : Hp} {vs : List Nat} {Q : L2.St → Hp → Prop} : ∀ {is : List Nat} {ds : List D} {us : List V} {σ : LV} {σV : L2.St}, ds.length = is.length → (∀ i ∈ is, i ∈ vs) → RelS K ι H σ σV → RelDs K ι H ds us →
    (∀ σV', RelS K ι H (setDs is ds σ) σV' → wipe σV' vs = wipe σV vs → Q σV' H) → gNs is us σV H Q
  | [], [], us, σ, σV, _, _, hS, rs, k => by cases rs; exact ⟨rfl, k σV hS rfl⟩
  | i :: is, d :: ds, us, σ, σV, l, m, hS, rs, k => by
    obtain ⟨v, r, rfl, r1, r2⟩ := rs
    refine ⟨v, r, rfl, ?_⟩
    refine gNs_run (is := is) (ds := ds) (σ := σ.set i (some d)) (by simpa using l) (fun j hj => m j (by simp [hj])) (hS.set i r1) r2 fun σV' h' w => ?_
    refine k σV' h' ?_
    rw [w]
    exact wipe_in (m i (by simp))
theorem Pt.run {K : Frag} {ι : Ad} {H : Hp} {vs : List Nat} {p : Pt} {d : D} {v : V} {σ : LV} {σV : L2.St} {Q0 : LV → Prop} {Q : L2.St → Hp → Prop} (ho : ∀ i ∈ p.own, i ∈ vs) (hS : RelS K ι H σ σV) (r : RelD K ι H d v) (q : p.st d σ Q0)
    (k : ∀ σ' σV', Q0 σ' → RelS K ι H σ' σV' → wipe σV' vs = wipe σV vs → Q σV' H) : p.g K v σV H Q := by
  cases p with
  | nm i => exact k _ _ q (hS.set i r) (wipe_in (ho i (by simp [Pt.own])))
  | tp is =>
    unfold Pt.st at q
    split at q
    · cases ‹_ = _›
    · rename_i is' e
      cases e
      split at q
      · rename_i ds
        obtain ⟨a, us, rfl, ht, rs⟩ := r
        refine ⟨a, us, rfl, ht, by rw [← rs.length]; exact q.1, ?_⟩
        exact gNs_run q.1 ho hS rs fun σV' h' w => k _ σV' q.2 h' w
      · exact q.elim
def lwipe (σ : LV) : List Nat → LV
  | [] => σ
  | v :: vs => (lwipe σ vs).set v none
theorem RelS.wipe {K : Frag} {ι : Ad} {H : Hp} {σ : LV} {σV : L2.St} (hS : RelS K ι H σ σV) : ∀ vs, RelS K ι H (lwipe σ vs) (L2.wipe σV vs)
  | [] => hS
  | v :: vs => by
    have ih := RelS.wipe hS vs
    refine ⟨by simp [lwipe, L2.wipe, ih.1], fun j d q => ?_⟩
    unfold lwipe at q
    unfold L2.wipe
    by_cases z : v = j
    · subst z
      have l := (List.getElem?_eq_some_iff.mp q).1
      rw [List.length_set] at l
      rw [List.getElem?_set_self l] at q
      cases q
    · rw [List.getElem?_set_ne z] at q ⊢
      exact ih.2 j d q
structure JTs (X : Cx) (W : WX) (es : List Expr) (m : LX Bool) : Prop where
  mono : Mono m
  run : PTs X es (tT X.K W m)
theorem PTs.weak {es : List Expr} {t t' : TT} (h : PTs X es t) (w : ∀ σ H Q, t' σ H Q → t σ H Q) : PTs X es t' := ⟨fun pins s σ H Q I q => h.run pins s σ H Q I (w _ _ _ q)⟩
def eYes : LX Bool := fun _ h Q _ => Q true h
theorem jts_nil : JTs X W [] eYes := ⟨fun _ _ _ _ _ _ hQ _ q => hQ _ _ q, PTs.weak pts_nil fun σV H Q ⟨ι, σ, h, hS, hH, q⟩ => q ι true H (.refl _ _) hH rfl⟩
theorem jts_one {c : Expr} {m : LX Bool} (h : JT X W c m) : JTs X W [c] m := ⟨h.mono, pts_one h.run⟩
abbrev eFor (mi : LI) (p : Pt) (t : LX Bool) (e : LE) (vs : List Nat) (σ : LV) (h : LH) (Q : List D → LH → Prop) (E : XL) : Prop := mi σ h (fun J h1 => ∃ I : Nat → List D → LH → Prop, I 0 [] h1 ∧ (∀ i acc h, i ≤ J.items.length → I i acc h → J.ok h) ∧
  (∀ i x acc h, J.items[i]? = some x → I i acc h → p.st x (lwipe σ vs) fun σ2 => t σ2 h (fun b h2 => if b = true then e σ2 h2 (fun y h3 => acc.length < sizeLine ∧ I (i + 1) (acc ++ [y]) h3) (fun _ _ _ => False) else I (i + 1) acc h2) (fun _ _ _ => False)) ∧
  ∀ acc h, I J.items.length acc h → Q acc h) E
/-- a list that nobody changes -/
def eLC (mi : LI) (p : Pt) (t : LX Bool) (e : LE) (vs : List Nat) : LE := fun σ h Q E => eFor mi p t e vs σ h (fun acc h1 => Q (.lst acc) h1) E
/-- a list that will be changed -/
def eLCM (mi : LI) (p : Pt) (t : LX Bool) (e : LE) (vs : List Nat) : LE := fun σ h Q E => eFor mi p t e vs σ h (fun acc h1 => Q (.ref h1.length) (h1 ++ [.lst acc])) E

/-! setting an address aside -/
def Ad.aside (ι : Ad) (a : Addr) : Ad := ⟨ι.ix, a :: ι.res, ι.tab⟩
/-- with less set aside -/
def Ad.cut (ι : Ad) (r : List Addr) : Ad := ⟨ι.ix, r, ι.tab⟩
section
variable {K : Frag} {ι ι' : Ad} {H H' : Hp} {h : LH} {a : Addr} {r : List Addr}
theorem FzL.back (hr : ∀ b, b ∈ r → b ∈ ι.res) {vs : List V} {b : Addr} (q : FzL K ι H b vs) : FzL K (ι.cut r) H b vs := by
  rcases q with ⟨q, n⟩ | q
  · exact .inl ⟨q, n.1, fun z => n.2 (hr b z)⟩
  · exact .inr q
mutual
theorem RelD.back (hr : ∀ b, b ∈ r → b ∈ ι.res) : ∀ {d : D} {v : V}, RelD K ι H d v → RelD K (ι.cut r) H d v
  | .non, _, h => h
  | .bl _, _, h => h
  | .int _, _, h => h
  | .str _, _, h => h
  | .tup _, _, ⟨a, vs, h1, h2, h3⟩ => ⟨a, vs, h1, h2, RelDs.back hr h3⟩
  | .lst _, _, ⟨a, vs, h1, h2, h3⟩ => ⟨a, vs, h1, h2.back hr, RelDs.back hr h3⟩
  | .ob _ _ _, _, ⟨b, dx, vs, h1, h2, h3, h4, h5⟩ => ⟨b, dx, vs, h1, ⟨h2.1, fun z => h2.2 (hr b z)⟩, h3, h4, RelDs.back hr h5⟩
  | .ref _, _, ⟨a, h1, h2⟩ => ⟨a, h1, h2⟩
  | .dfn _, _, h => h
  | .dct _ _, _, ⟨b, vs, h1, h2, h3, h4, h5⟩ => ⟨b, vs, h1, ⟨h2.1, fun z => h2.2 (hr b z)⟩, h3, h4, RelDs.back hr h5⟩
  | .fn _ _ _ _, _, ⟨h1, h2, h3⟩ => ⟨h1, h2, h3.pre, fun b m => h3.res2 b (hr b m), h3.keep, h3.tups, h3.frzs, h3.exts, h3.there⟩
  | .exc _ _ none _ _, _, h => h
  | .exc _ _ (some _) _ _, _, ⟨h0, vs, h1, h2, h3, h4⟩ => ⟨h0, vs, h1, ⟨h2.1, fun z => h2.2 (hr _ z)⟩, h3, RelDs.back hr h4⟩
theorem RelDs.back (hr : ∀ b, b ∈ r → b ∈ ι.res) : ∀ {ds : List D} {vs : List V}, RelDs K ι H ds vs → RelDs K (ι.cut r) H ds vs
  | [], _, h => h
  | _ :: _, _, ⟨v, r, h1, h2, h3⟩ => ⟨v, r, h1, RelD.back hr h2, RelDs.back hr h3⟩
end
theorem RelFs.back (hr : ∀ b, b ∈ r → b ∈ ι.res) : ∀ {ds : List (Str × D)} {vs : List (Str × V)}, RelFs K ι H ds vs → RelFs K (ι.cut r) H ds vs
  | [], _, h => h
  | _ :: _, _, ⟨v, r, h1, h2, h3⟩ => ⟨v, r, h1, h2.back hr, RelFs.back hr h3⟩
theorem RelO.back (hr : ∀ b, b ∈ r → b ∈ ι.res) {b : Addr} {o : O} (q : RelO K ι H b o) : RelO K (ι.cut r) H b o := by
  cases o with
  | lst ds => obtain ⟨vs, h1, h2⟩ := q; exact ⟨vs, h1, h2.back hr⟩
  | ins C fs => obtain ⟨dx, vs, h1, h2⟩ := q; exact ⟨dx, vs, h1, h2.back hr⟩
  | gone => trivial
theorem RelH.back (hr : ∀ b, b ∈ r → b ∈ ι.res) (q : RelH K ι H h) : RelH K (ι.cut r) H h :=
  ⟨q.len, q.inj, q.live, fun b m => q.liveR b (hr b m), fun b m z => q.disj b m (hr b z), q.tabs, fun n o e g => let ⟨b, e, x⟩ := q.obj n o e g; ⟨b, e, x.back hr⟩⟩
/-- what came since goes again -/
theorem Ext.back (hr : ∀ b, b ∈ ι.res → b ∈ r) (hr' : ∀ b, b ∈ r → b ∈ ι'.res) (e : Ext ι H ι' H') : Ext ι H (ι'.cut r) H' :=
  ⟨e.pre, hr, fun b m => e.res2 b (hr' b m), e.tab, e.keep, e.tups, e.frzs, e.exts, e.there⟩
/-- a new object is laid and set aside -/
theorem Ext.lay {u : HO} (hn : H a = Option.none) : Ext ι H (ι.aside a) (upd H a u) := by
  have ne : ∀ b o, H b = some o → b ≠ a := fun b o q => ne_of_none q hn
  refine ⟨⟨[], by simp [Ad.aside], fun _ z => by cases z⟩, fun b m => List.mem_cons_of_mem _ m, fun b m => ?_, rfl, fun b o q _ _ => ?_, fun b xs q => ?_, fun b o w q => ?_, fun b f q => ?_, fun b q => q.upd (q.ne hn)⟩
  · rcases List.mem_cons.mp m with rfl | m
    · exact .inr fun l => l.no hn
    · exact .inl m
  all_goals (rw [upd_ne (ne _ _ q)]; exact q)
theorem RelH.lay {u : HO} (hH : RelH K ι H h) (hn : H a = Option.none) (hu : ∀ ps, u ≠ .tbl ps) : RelH K (ι.aside a) (upd H a u) h := by
  have ex : Ext ι H (ι.aside a) (upd H a u) := Ext.lay hn
  have ne : ∀ b, some b ∈ ι.ix → b ≠ a := fun b m => (hH.live b m).ne hn
  refine ⟨hH.len, hH.inj, fun b m => ?_, fun b m => ?_, fun b m z => ?_, tabs_upd hH.tabs (.inl hn), fun n o q g => ?_⟩
  · exact (hH.live b m).upd (ne b m)
  · rcases List.mem_cons.mp m with rfl | m
    · exact ⟨u, upd_same, hu⟩
    · exact (hH.liveR b m).upd ((hH.liveR b m).ne hn)
  · rcases List.mem_cons.mp z with z | z
    · exact ne b m z
    · exact hH.disj b m z
  · obtain ⟨b, e, r⟩ := hH.obj n o q g
    exact ⟨b, e, r.ext ex (upd_ne (ne b (List.mem_of_getElem? e)))⟩
/-! what is set aside is written -/
theorem ExtW.put {ι0 : Ad} {H0 : Hp} {u : HO} (e : ExtW ι0 H0 ι H) (m : a ∈ ι.res) (mu : MutO (H a)) (mv : MutO (some u)) : ExtW ι0 H0 ι (upd H a u) := by
  refine ⟨e.pre, e.res2, fun b o q n t => ?_, fun b xs q => ?_, fun b o w q => ?_, fun b f q => ?_, fun b q => (e.there b q).mu mv⟩
  · rw [upd_ne ?_]
    · exact e.keep b o q n t
    · rintro rfl
      rcases e.res2 b m with z | z
      · exact n.2 z
      · exact z ⟨o, q, t⟩
  · rw [upd_ne (by rintro rfl; exact mu.tup xs (e.tups b xs q))]; exact e.tups b xs q
  · rw [upd_ne (by rintro rfl; exact mu.frz o w (e.frzs b o w q))]; exact e.frzs b o w q
  · rw [upd_ne (by rintro rfl; exact mu.ext f (e.exts b f q))]; exact e.exts b f q
mutual
theorem RelD.put {u : HO} (m : a ∈ ι.res) (mu : MutO (H a)) (mv : MutO (some u)) : ∀ {d : D} {v : V}, RelD K ι H d v → RelD K ι (upd H a u) d v
  | .non, _, h => h
  | .bl _, _, h => h
  | .int _, _, h => h
  | .str _, _, h => h
  | .tup _, _, ⟨b, vs, h1, h2, h3⟩ => ⟨b, vs, h1, by
      rcases h2 with (h2 | ⟨o, h2⟩) | h2
      · exact .inl (.inl (by rw [upd_ne (by rintro rfl; exact mu.tup _ h2)]; exact h2))
      · exact .inl (.inr ⟨o, by rw [upd_ne (by rintro rfl; exact mu.frz _ _ h2)]; exact h2⟩)
      · exact .inr h2, RelDs.put m mu mv h3⟩
  | .lst _, _, ⟨b, vs, h1, h2, h3⟩ => ⟨b, vs, h1, by
      rcases h2 with ⟨h2, n⟩ | ⟨o, h2⟩ | h2
      · exact .inl ⟨by rw [upd_ne (by rintro rfl; exact n.2 m)]; exact h2, n⟩
      · exact .inr (.inl ⟨o, by rw [upd_ne (by rintro rfl; exact mu.frz _ _ h2)]; exact h2⟩)
      · exact .inr (.inr h2), RelDs.put m mu mv h3⟩
  | .ob _ _ _, _, ⟨b, dx, vs, h1, h2, h3, h4, h5⟩ => ⟨b, dx, vs, h1, h2, by rw [upd_ne (by rintro rfl; exact h2.2 m)]; exact h3, h4, RelDs.put m mu mv h5⟩
  | .ref _, _, h => h
  | .dfn _, _, h => h
  | .dct _ _, _, ⟨b, vs, h1, h2, h3, h4, h5⟩ => ⟨b, vs, h1, h2, by rw [upd_ne (by rintro rfl; exact h2.2 m)]; exact h3, h4, RelDs.put m mu mv h5⟩
  | .fn _ _ _ _, _, ⟨h1, h2, h3⟩ => ⟨h1, fun p hp => by rw [upd_ne (fun z => mu.ext _ (z ▸ h2 p hp))]; exact h2 p hp, h3.put m mu mv⟩
  | .exc _ _ none _ _, _, h => h
  | .exc _ _ (some _) _ _, _, ⟨h0, vs, h1, h2, h3, h4⟩ => ⟨h0, vs, by rw [upd_ne (by rintro rfl; exact h2.2 m)]; exact h1, h2, h3, RelDs.put m mu mv h4⟩
theorem RelDs.put {u : HO} (m : a ∈ ι.res) (mu : MutO (H a)) (mv : MutO (some u)) : ∀ {ds : List D} {vs : List V}, RelDs K ι H ds vs → RelDs K ι (upd H a u) ds vs
  | [], _, h => h
  | _ :: _, _, ⟨v, r, h1, h2, h3⟩ => ⟨v, r, h1, RelD.put m mu mv h2, RelDs.put m mu mv h3⟩
end
theorem RelFs.put' {u : HO} (m : a ∈ ι.res) (mu : MutO (H a)) (mv : MutO (some u)) : ∀ {ds : List (Str × D)} {vs : List (Str × V)}, RelFs K ι H ds vs → RelFs K ι (upd H a u) ds vs
  | [], _, h => h
  | _ :: _, _, ⟨v, r, h1, h2, h3⟩ => ⟨v, r, h1, h2.put m mu mv, RelFs.put' m mu mv h3⟩
theorem RelH.put {u : HO} (hH : RelH K ι H h) (m : a ∈ ι.res) (nx : some a ∉ ι.ix) (mu : MutO (H a)) (mv : MutO (some u)) : RelH K ι (upd H a u) h := by
  have ht := mu.tup
  have hf := mu.frz
  refine ⟨hH.len, hH.inj, fun b q => ?_, fun b q => ?_, hH.disj, tabs_upd hH.tabs (.inr mu), fun n o q g => ?_⟩
  · exact (hH.live b q).mu mv
  · exact (hH.liveR b q).mu mv
  · obtain ⟨b, e, r⟩ := hH.obj n o q g
    have nb : b ≠ a := by rintro rfl; exact nx (List.mem_of_getElem? e)
    refine ⟨b, e, ?_⟩
    cases o with
    | lst ds => obtain ⟨vs, h1, h2⟩ := r; exact ⟨vs, by rw [upd_ne nb]; exact h1, h2.put m mu mv⟩
    | ins C fs => obtain ⟨dx, vs, h1, h2⟩ := r; exact ⟨dx, vs, by rw [upd_ne nb]; exact h1, h2.put' m mu mv⟩
    | gone => trivial
/-- a later moment, what was not there at the start is written -/
theorem Ext.put {u : HO} (e : Ext ι H ι' H') (hn : H a = Option.none) : Ext ι H ι' (upd H' a u) := by
  have ne : ∀ b o, H b = some o → b ≠ a := fun b o q => ne_of_none q hn
  refine ⟨e.pre, e.res1, e.res2, e.tab, fun b o q n t => ?_, fun b xs q => ?_, fun b o w q => ?_, fun b f q => ?_, fun b q => (e.there b q).upd (q.ne hn)⟩
  · rw [upd_ne (ne _ _ q)]; exact e.keep b o q n t
  · rw [upd_ne (ne _ _ q)]; exact e.tups b xs q
  · rw [upd_ne (ne _ _ q)]; exact e.frzs b o w q
  · rw [upd_ne (ne _ _ q)]; exact e.exts b f q
theorem RelDs.snoc {ι : Ad} {H : Hp} {d : D} {v : V} {ds : List D} {vs : List V} (rs : RelDs K ι H ds vs) (r : RelD K ι H d v) : RelDs K ι H (ds ++ [d]) (vs ++ [v]) := rs.append ⟨v, [], rfl, r, rfl⟩
end
theorem lc_run {K : Frag} {W' : WX} {mi : LI} {p : Pt} {t : LX Bool} {e : LE} {vs : List Nat} {Q : List D → LH → Prop} {E : XL} {σ : LV} {h : LH} {ι : Ad} {H : Hp} {σV : L2.St} {Qv : VK} (hi : Mono mi) (ht : Mono t) (he : Mono e) (ho : ∀ i ∈ p.own, i ∈ vs)
    (hS : RelS K ι H σ σV) (hH : RelH K ι H h) (q : eFor mi p t e vs σ h Q E)
    (hE : ∀ c fs h1 ι1 dx H1, E c fs h1 → Ext ι H ι1 H1 → RelH K ι1 H1 h1 → RelX K ι1 H1 fs dx → W' (.ref (He.ga K c)) dx σV H1)
    (k : ∀ acc h1 D vsV ι1 H1, Q acc h1 → Ext ι H ι1 H1 → RelH K ι1 H1 h1 → ¬ Lv H D → H1 D = some (.lst vsV) → D ∈ ι1.res → some D ∉ ι1.ix → RelDs K ι1 H1 acc vsV → Qv (.ref D) H1) :
    tLc (tI K W' mi) (p.g K) (tT K NoW t) (tE K NoW e) vs σV H Qv := by
  refine tX.into hi hS hH q (fun J h1 ι1 Jv H1 q1 e1 hH1 r D hD => ?_) hE
  obtain ⟨I, i0, hok, step, done⟩ := q1
  have hS1 := hS.ext e1
  have hD0 : ¬ Lv H D := fun l => (e1.there D l).no hD
  let St : Nat → Hp → Prop := fun i H' => ∃ ι' acc vsV h', Ext ι1 H1 ι' H' ∧ RelH K ι' H' h' ∧ D ∈ ι'.res ∧ some D ∉ ι'.ix ∧ H' D = some (.lst vsV) ∧ RelDs K ι' H' acc vsV ∧ I i acc h'
  refine ⟨fun i m H' => i ≤ J.items.length ∧ m = J.items.length - i ∧ St i H', ⟨_, Nat.zero_le _, rfl, ι1.aside D, [], [], h1, Ext.lay hD, hH1.lay hD (fun _ z => by cases z), List.mem_cons_self, fun z => ?_, upd_same, rfl, i0⟩, ?_⟩
  · exact (hH1.live D z).no hD
  rintro i m H' ⟨hi', rfl, ι', acc, vsV, h', e', hH', hm, nD, hDv, rs, hI⟩
  have ok := hok i acc h' hi' hI
  by_cases hlt : i < J.items.length
  · obtain ⟨x, hx⟩ : ∃ x, J.items[i]? = some x := ⟨_, List.getElem?_eq_getElem hlt⟩
    obtain ⟨go, yl⟩ := r.go i x ι' H' h' hx e' hH' ok
    refine .inr ⟨go, fun H'' => St (i + 1) H'', fun H'' q' => ⟨_, by omega, hlt, rfl, q'⟩, fun v H2 y => ?_⟩
    obtain ⟨e2, hH2, rx⟩ := yl v H2 y
    have e12 := e'.trans e2
    have m2 := e2.res1 D hm
    have n2 := e2.nx ⟨_, hDv, fun _ z => by cases z⟩ nD
    have D2 := e2.keep D _ hDv nD (fun _ z => by cases z)
    refine Pt.run (vs := vs) ho ((hS1.ext e12).wipe vs) rx (step i x acc h' hx hI) fun σ3 σV3 q3 hS3 hw => ⟨?_, ?_⟩
    · rw [hw]
      have : ∀ (σ : L2.St) (l l' : List Nat), wipe (wipe σ l) (l' ++ l) = wipe σ (l' ++ l) := by
        intro σ l l'
        induction l' with
        | nil =>
          simp only [List.nil_append]
          have h0 : ∀ (l : List Nat) (i : Nat), (wipe σ l)[i]? = if i ∈ l then (if i < σ.length then some none else none) else σ[i]? := by
            intro l
            induction l with
            | nil => intro i; simp [wipe]
            | cons u l ih =>
              intro i
              unfold wipe
              by_cases hu : u = i
              · subst hu
                rw [List.getElem?_set_self']
                rw [ih u]
                by_cases h1 : u ∈ l <;> by_cases h2 : u < σ.length <;> simp [h1, h2, List.getElem?_eq_none, Nat.le_of_not_lt]
              · rw [List.getElem?_set_ne hu, ih i]
                have : i ≠ u := fun z => hu z.symm
                simp [this]
          have h1 : ∀ (τ : L2.St) (l : List Nat) (i : Nat), (wipe τ l)[i]? = if i ∈ l then (if i < τ.length then some none else none) else τ[i]? := by
            intro τ l
            induction l with
            | nil => intro i; simp [wipe]
            | cons u l ih =>
              intro i
              unfold wipe
              by_cases hu : u = i
              · subst hu
                rw [List.getElem?_set_self']
                rw [ih u]
                by_cases h1 : u ∈ l <;> by_cases h2 : u < τ.length <;> simp [h1, h2, List.getElem?_eq_none, Nat.le_of_not_lt]
              · rw [List.getElem?_set_ne hu, ih i]
                have : i ≠ u := fun z => hu z.symm
                simp [this]
          apply List.ext_getElem?
          intro i
          rw [h1, h0, wipe_length]
          by_cases hi : i ∈ l <;> simp [hi]
        | cons u l' ih => simp only [List.cons_append]; unfold wipe; rw [ih]
      have w := this σV vs []
      simpa using w
    refine tT.into ht hS3 hH2 q3 (fun b h3 ι3 H3 q4 e3 hH3 => ?_) (fun _ _ _ _ _ _ z => z.elim)
    have e13 := e12.trans e3
    have m3 := e3.res1 D m2
    have n3 := e3.nx ⟨_, D2, fun _ z => by cases z⟩ n2
    have D3 := e3.keep D _ D2 n2 (fun _ z => by cases z)
    cases b with
    | false =>
      rw [if_neg Bool.false_ne_true] at q4 ⊢
      exact ⟨ι3, acc, vsV, h3, e13, hH3, m3, n3, D3, rs.ext (e2.trans e3), q4⟩
    | true =>
      rw [if_pos rfl] at q4 ⊢
      refine tX.into he (hS3.ext e3) hH3 q4 (fun y h4 ι4 vy H4 q5 e4 hH4 ry => ?_) (fun _ _ _ _ _ _ z => z.elim)
      have D4 := e4.keep D _ D3 n3 (fun _ z => by cases z)
      have n4 := e4.nx ⟨_, D3, fun _ z => by cases z⟩ n3
      have m4 := e4.res1 D m3
      have rs4 := rs.ext ((e2.trans e3).trans e4)
      have tt : ∀ xs, H4 D ≠ some (.tup xs) := fun xs z => by rw [D4] at z; cases z
      have ff : ∀ o w, H4 D ≠ some (.frz o w) := fun o w z => by rw [D4] at z; cases z
      refine ⟨vsV, D4, by rw [← rs.length]; exact q5.1, ι4, acc ++ [y], vsV ++ [vy], h4, (e13.trans e4).put hD, hH4.put m4 n4 (by rw [D4]; trivial) trivial, m4, n4, upd_same, (rs4.snoc ry).put (u := .lst (vsV ++ [vy])) m4 (by rw [D4]; trivial) trivial, q5.2⟩
  · have ei : i = J.items.length := by omega
    subst ei
    exact .inl ⟨r.stop ι' H' h' e' hH' ok, k acc h' D vsV ι' H' (done acc h' hI) (e1.trans e') hH' hD0 hDv hm nD rs⟩
theorem mono_eFor {mi : LI} {p : Pt} {t : LX Bool} {e : LE} {vs : List Nat} {σ : LV} {h : LH} {Q Q' : List D → LH → Prop} {E E' : XL} (hi : Mono mi) (hQ : ∀ d h, Q d h → Q' d h) (hE : ∀ c fs h, E c fs h → E' c fs h) (q : eFor mi p t e vs σ h Q E) : eFor mi p t e vs σ h Q' E' :=
  hi σ h _ _ _ _ (fun J h1 ⟨I, h0, hok, hs, hd⟩ => ⟨I, h0, hok, hs, fun acc h q => hQ _ _ (hd acc h q)⟩) hE q
section
variable {K : Frag} {ι ι' : Ad} {H H' : Hp} {h : LH} {a : Addr} {r : List Addr}
mutual
theorem RelD.pro (hr : ∀ b, b ∈ r → b ∈ ι.res) (m : a ∈ ι.res) : ∀ {d : D} {v : V}, RelD K ι H d v → RelD K ((ι.cut r).push a) H d v
  | .non, _, h => h
  | .bl _, _, h => h
  | .int _, _, h => h
  | .str _, _, h => h
  | .tup _, _, ⟨a, vs, h1, h2, h3⟩ => ⟨a, vs, h1, h2, RelDs.pro hr m h3⟩
  | .lst _, _, ⟨b, vs, h1, h2, h3⟩ => ⟨b, vs, h1, by
      rcases h2 with ⟨h2, n⟩ | h2
      · refine .inl ⟨h2, fun z => ?_, fun z => n.2 (hr b z)⟩
        rcases List.mem_append.mp z with z | z
        · exact n.1 z
        · simp only [List.mem_singleton, Option.some.injEq] at z
          subst z; exact n.2 m
      · exact .inr h2, RelDs.pro hr m h3⟩
  | .ob _ _ _, _, ⟨b, dx, vs, h1, n, h3, h4, h5⟩ => ⟨b, dx, vs, h1, ⟨fun z => by
      rcases List.mem_append.mp z with z | z
      · exact n.1 z
      · simp only [List.mem_singleton, Option.some.injEq] at z
        subst z; exact n.2 m, fun z => n.2 (hr b z)⟩, h3, h4, RelDs.pro hr m h5⟩
  | .ref n, _, ⟨b, h1, h2⟩ => ⟨b, by
      show (ι.ix ++ [some a])[n]? = _
      rw [List.getElem?_append_left (List.getElem?_eq_some_iff.mp h1).1]; exact h1, h2⟩
  | .dfn _, _, h => h
  | .dct _ _, _, ⟨b, vs, h1, n, h3, h4, h5⟩ => ⟨b, vs, h1, ⟨fun z => by
      rcases List.mem_append.mp z with z | z
      · exact n.1 z
      · simp only [List.mem_singleton, Option.some.injEq] at z
        subst z; exact n.2 m, fun z => n.2 (hr b z)⟩, h3, h4, RelDs.pro hr m h5⟩
  | .fn _ _ _ _, _, ⟨h1, h2, h3⟩ => ⟨h1, h2, by
      obtain ⟨l, q, f⟩ := h3.pre
      refine ⟨l ++ [some a], by simp [Ad.cut, q], fun b z => ?_⟩
      rcases List.mem_append.mp z with z | z
      · exact f b z
      · simp only [List.mem_singleton, Option.some.injEq] at z
        subst z
        exact (h3.res2 b m).symm, fun b z => h3.res2 b (hr b z), h3.keep, h3.tups, h3.frzs, h3.exts, h3.there⟩
  | .exc _ _ none _ _, _, h => h
  | .exc _ _ (some _) _ _, _, ⟨h0, vs, h1, n, h3, h4⟩ => ⟨h0, vs, h1, ⟨fun z => by
      rcases List.mem_append.mp z with z | z
      · exact n.1 z
      · simp only [List.mem_singleton, Option.some.injEq] at z
        subst z; exact n.2 m, fun z => n.2 (hr _ z)⟩, h3, RelDs.pro hr m h4⟩
theorem RelDs.pro (hr : ∀ b, b ∈ r → b ∈ ι.res) (m : a ∈ ι.res) : ∀ {ds : List D} {vs : List V}, RelDs K ι H ds vs → RelDs K ((ι.cut r).push a) H ds vs
  | [], _, h => h
  | _ :: _, _, ⟨v, r, h1, h2, h3⟩ => ⟨v, r, h1, RelD.pro hr m h2, RelDs.pro hr m h3⟩
end
theorem RelFs.pro (hr : ∀ b, b ∈ r → b ∈ ι.res) (m : a ∈ ι.res) : ∀ {ds : List (Str × D)} {vs : List (Str × V)}, RelFs K ι H ds vs → RelFs K ((ι.cut r).push a) H ds vs
  | [], _, h => h
  | _ :: _, _, ⟨v, r, h1, h2, h3⟩ => ⟨v, r, h1, h2.pro hr m, RelFs.pro hr m h3⟩
/-- what was set aside becomes an object of the logical heap -/
theorem RelH.pro (hr : ∀ b, b ∈ r → b ∈ ι.res) (nr : a ∉ r) (m : a ∈ ι.res) (nx : some a ∉ ι.ix) {ds : List D} {vs : List V} (ha : H a = some (.lst vs)) (rs : RelDs K ι H ds vs) (hH : RelH K ι H h) : RelH K ((ι.cut r).push a) H (h ++ [.lst ds]) := by
  refine ⟨by simp [Ad.cut, hH.len], fun i j b e1 e2 => ?_, fun b q => ?_, fun b q => hH.liveR b (hr b q), fun b q z => ?_, hH.tabs, fun i o' q g => ?_⟩
  · simp only [Ad.cut] at e1 e2
    rcases Nat.lt_or_ge i ι.ix.length with hi | hi
    · rw [List.getElem?_append_left hi] at e1
      rcases Nat.lt_or_ge j ι.ix.length with hj | hj
      · rw [List.getElem?_append_left hj] at e2
        exact hH.inj i j b e1 e2
      · rw [List.getElem?_append_right hj] at e2
        have := List.mem_of_getElem? e2
        simp only [List.mem_singleton, Option.some.injEq] at this
        subst this
        exact absurd (List.mem_of_getElem? e1) nx
    · rw [List.getElem?_append_right hi] at e1
      have z1 := List.mem_of_getElem? e1
      simp only [List.mem_singleton, Option.some.injEq] at z1
      subst z1
      rcases Nat.lt_or_ge j ι.ix.length with hj | hj
      · rw [List.getElem?_append_left hj] at e2
        exact absurd (List.mem_of_getElem? e2) nx
      · have l1 := (List.getElem?_eq_some_iff.mp e1).1
        rw [List.getElem?_append_right hj] at e2
        have l2 := (List.getElem?_eq_some_iff.mp e2).1
        simp only [List.length_singleton] at l1 l2
        omega
  · rcases List.mem_append.mp q with q | q
    · exact hH.live b q
    · simp only [List.mem_singleton, Option.some.injEq] at q
      subst q
      exact ⟨_, ha, fun _ z => by cases z⟩
  · rcases List.mem_append.mp q with q | q
    · exact hH.disj b q (hr b z)
    · simp only [List.mem_singleton, Option.some.injEq] at q
      subst q
      exact nr z
  · rcases Nat.lt_or_ge i h.length with hi | hi
    · rw [List.getElem?_append_left hi] at q
      obtain ⟨b, e, r'⟩ := hH.obj i o' q g
      refine ⟨b, by simp only [Ad.cut]; rw [List.getElem?_append_left (by rw [hH.len]; exact hi)]; exact e, ?_⟩
      cases o' with
      | lst ds => obtain ⟨vs, h1, h2⟩ := r'; exact ⟨vs, h1, h2.pro hr m⟩
      | ins C fs => obtain ⟨dx, vs, h1, h2⟩ := r'; exact ⟨dx, vs, h1, h2.pro hr m⟩
      | gone => trivial
    · have l := (List.getElem?_eq_some_iff.mp q).1
      have en : i = h.length := by simp only [List.length_append, List.length_singleton] at l; omega
      subst en
      rw [List.getElem?_append_right (Nat.le_refl _), Nat.sub_self] at q
      cases q
      refine ⟨a, by simp only [Ad.cut]; rw [← hH.len, List.getElem?_append_right (Nat.le_refl _), Nat.sub_self]; rfl, vs, ha, rs.pro hr m⟩
theorem Ext.pro (e : Ext ι H ι' H') (hn : ¬ Lv H a) : Ext ι H ((ι'.cut ι.res).push a) H' := by
  obtain ⟨l, ql, f⟩ := e.pre
  refine ⟨⟨l ++ [some a], by simp [Ad.cut, ql], fun b z => ?_⟩, fun _ z => z, fun _ z => .inl z, e.tab, e.keep, e.tups, e.frzs, e.exts, e.there⟩
  rcases List.mem_append.mp z with z | z
  · exact f b z
  · simp only [List.mem_singleton, Option.some.injEq] at z
    subst z; exact hn
end
section
variable {elt tg iter : Expr} {ifs : List Expr} {scope : Scope} {own : List (Str × Nat)} {pos : Pos} {mi : LI} {p : Pt} {t : LX Bool} {m : LE}
theorem je_lc (hc : X.calm = true) (hN : X.N.Nodup) (hi : JI X W tg iter mi) (ok : BlkOk X.N X.env.scope scope own) (ho : ∀ i ∈ p.own, i ∈ own.map (·.2))
    (hg : ∀ (s : Shared) (H : Hp) (C : Addr) (cl : List (Str × Addr)) (fp : List Addr), PG (X.blk s H scope (compEnvC scope cl C X.env) fp) tg (p.g X.K))
    (ht : ∀ (s : Shared) (H : Hp) (C : Addr) (cl : List (Str × Addr)) (fp : List Addr), JTs (X.blk s H scope (compEnvC scope cl C X.env) fp) NoW ifs t)
    (he : ∀ (s : Shared) (H : Hp) (C : Addr) (cl : List (Str × Addr)) (fp : List Addr), JE (X.blk s H scope (compEnvC scope cl C X.env) fp) NoW elt m)
    (hs : ∀ x, foldedSetIterable iter X.env x = pure x := by intro _; rfl) : JE X W (.ListComp elt [⟨tg, iter, ifs, 0⟩] scope pos) (eLC mi p t m (own.map (·.2))) := by
  have dummy : Shared := X.s_0
  refine ⟨fun σ h Q Q' E E' hQ hE q => mono_eFor hi.mono (fun acc h q => hQ _ _ q) hE q, PE.weak (pe_lc (tt := tT X.K NoW t) (te := tE X.K NoW m) hc hN hi.run ok hg (fun s H C cl fp => (ht s H C cl fp).run) (fun s H C cl fp => (he s H C cl fp).run) hs) fun σV H Q ⟨ι, σ, h, hS, hH, q⟩ => ?_⟩
  refine lc_run hi.mono (ht dummy H 0 [] []).mono (he dummy H 0 [] []).mono ho hS hH q (fun c fs h1 ι1 dx H1 q1 => q1 ι1 dx H1) fun acc h1 D vsV ι1 H1 q1 e1 hH1 hD hD1 hm nD rs => ?_
  have hr : ∀ b, b ∈ ι.res → b ∈ ι1.res := e1.res1
  refine q1 (ι1.cut ι.res) _ H1 (e1.back (fun _ h => h) hr) (hH1.back hr) ⟨D, vsV, rfl, .inl ⟨hD1, nD, fun z => ?_⟩, rs.back hr⟩
  exact hD (hH.liveR D z)
theorem je_lcM (hc : X.calm = true) (hN : X.N.Nodup) (hi : JI X W tg iter mi) (ok : BlkOk X.N X.env.scope scope own) (ho : ∀ i ∈ p.own, i ∈ own.map (·.2))
    (hg : ∀ (s : Shared) (H : Hp) (C : Addr) (cl : List (Str × Addr)) (fp : List Addr), PG (X.blk s H scope (compEnvC scope cl C X.env) fp) tg (p.g X.K))
    (ht : ∀ (s : Shared) (H : Hp) (C : Addr) (cl : List (Str × Addr)) (fp : List Addr), JTs (X.blk s H scope (compEnvC scope cl C X.env) fp) NoW ifs t)
    (he : ∀ (s : Shared) (H : Hp) (C : Addr) (cl : List (Str × Addr)) (fp : List Addr), JE (X.blk s H scope (compEnvC scope cl C X.env) fp) NoW elt m)
    (hs : ∀ x, foldedSetIterable iter X.env x = pure x := by intro _; rfl) : JE X W (.ListComp elt [⟨tg, iter, ifs, 0⟩] scope pos) (eLCM mi p t m (own.map (·.2))) := by
  have dummy : Shared := X.s_0
  refine ⟨fun σ h Q Q' E E' hQ hE q => mono_eFor hi.mono (fun acc h q => hQ _ _ q) hE q, PE.weak (pe_lc (tt := tT X.K NoW t) (te := tE X.K NoW m) hc hN hi.run ok hg (fun s H C cl fp => (ht s H C cl fp).run) (fun s H C cl fp => (he s H C cl fp).run) hs) fun σV H Q ⟨ι, σ, h, hS, hH, q⟩ => ?_⟩
  refine lc_run hi.mono (ht dummy H 0 [] []).mono (he dummy H 0 [] []).mono ho hS hH q (fun c fs h1 ι1 dx H1 q1 => q1 ι1 dx H1) fun acc h1 D vsV ι1 H1 q1 e1 hH1 hD hD1 hm nD rs => ?_
  have hr : ∀ b, b ∈ ι.res → b ∈ ι1.res := e1.res1
  have nr : D ∉ ι.res := fun z => by
    exact hD (hH.liveR D z)
  refine q1 ((ι1.cut ι.res).push D) _ H1 (e1.pro hD) (hH1.pro hr nr hm nD hD1 rs) ⟨D, ?_, rfl⟩
  simp only [Ad.cut]
  rw [← hH1.len, List.getElem?_append_right (Nat.le_refl _), Nat.sub_self]
  rfl
end
section
variable {elt tg iter : Expr} {ifs : List Expr} {scope : Scope} {own : List (Str × Nat)} {pos spos py : Pos} {mi : LI} {p : Pt} {t : LX Bool} {m : LE} {i : Nat} {y : Str}
/-- the form name = [..] on one line -/
theorem js_setLc (hc : X.calm = true) (hN : X.N.Nodup) (hy : X.N[i]? = some y) (hyl : X.env.scope.names.lookup y = some .local) (hsw : swapsWith (.ListComp elt [⟨tg, iter, ifs, 0⟩] scope pos) (some (.Name y py)) spos.line X.env = pure true)
    (hi : JI X W tg iter mi) (ok : BlkOk X.N X.env.scope scope own) (ho : ∀ i ∈ p.own, i ∈ own.map (·.2))
    (hg : ∀ (s : Shared) (H : Hp) (C : Addr) (cl : List (Str × Addr)) (fp : List Addr), PG (X.blk s H scope (compEnvC scope cl C X.env) fp) tg (p.g X.K))
    (ht : ∀ (s : Shared) (H : Hp) (C : Addr) (cl : List (Str × Addr)) (fp : List Addr), JTs (X.blk s H scope (compEnvC scope cl C X.env) fp) NoW ifs t)
    (he : ∀ (s : Shared) (H : Hp) (C : Addr) (cl : List (Str × Addr)) (fp : List Addr), JE (X.blk s H scope (compEnvC scope cl C X.env) fp) NoW elt m)
    (hs : ∀ x, foldedSetIterable iter X.env x = pure x := by intro _; rfl) : JS X W (.Assign [.Name y py] (.ListComp elt [⟨tg, iter, ifs, 0⟩] scope pos) spos) (sAsg (eLC mi p t m (own.map (·.2))) (gNm i)) := by
  have je := je_lc (W := W) (pos := pos) hc hN hi ok ho hg ht he hs
  have dummy : Shared := X.s_0
  refine ⟨fun σ h A B l q => je.mono σ h _ _ _ _ (fun d h1 q1 => l.nx _ _ q1) (exOf.le l σ) q, PS.weak (ps_setLc (tt := tT X.K NoW t) (te := tE X.K NoW m) hc hN hy hyl hsw hi.run ok hg (fun s H C cl fp => (ht s H C cl fp).run) (fun s H C cl fp => (he s H C cl fp).run) hs) fun Dn σV H ⟨ι0, H0, ι, σ, h, e, hS, hH, q⟩ => ?_⟩
  refine lc_run (Qv := fun v H1 => gName i v σV H1 Dn.nx) hi.mono (ht dummy H 0 [] []).mono (he dummy H 0 [] []).mono ho hS hH q (fun c fs h1 ι1 dx H1 q1 e1 hH1 r => q1 ι1 dx σV H1 (e.trans e1) (hS.ext e1) hH1 r) fun acc h1 D vsV ι1 H1 q1 e1 hH1 hD hD1 hm nD rs => ?_
  have hr : ∀ b, b ∈ ι.res → b ∈ ι1.res := e1.res1
  have e2 := e1.back (fun _ h => h) hr
  refine q1 (ι1.cut ι.res) _ H1 (e.trans e2) ((hS.ext e2).set i ⟨D, vsV, rfl, .inl ⟨hD1, nD, fun z => ?_⟩, rs.back hr⟩) (hH1.back hr)
  exact hD (hH.liveR D z)
theorem js_setLcM (hc : X.calm = true) (hN : X.N.Nodup) (hy : X.N[i]? = some y) (hyl : X.env.scope.names.lookup y = some .local) (hsw : swapsWith (.ListComp elt [⟨tg, iter, ifs, 0⟩] scope pos) (some (.Name y py)) spos.line X.env = pure true)
    (hi : JI X W tg iter mi) (ok : BlkOk X.N X.env.scope scope own) (ho : ∀ i ∈ p.own, i ∈ own.map (·.2))
    (hg : ∀ (s : Shared) (H : Hp) (C : Addr) (cl : List (Str × Addr)) (fp : List Addr), PG (X.blk s H scope (compEnvC scope cl C X.env) fp) tg (p.g X.K))
    (ht : ∀ (s : Shared) (H : Hp) (C : Addr) (cl : List (Str × Addr)) (fp : List Addr), JTs (X.blk s H scope (compEnvC scope cl C X.env) fp) NoW ifs t)
    (he : ∀ (s : Shared) (H : Hp) (C : Addr) (cl : List (Str × Addr)) (fp : List Addr), JE (X.blk s H scope (compEnvC scope cl C X.env) fp) NoW elt m)
    (hs : ∀ x, foldedSetIterable iter X.env x = pure x := by intro _; rfl) : JS X W (.Assign [.Name y py] (.ListComp elt [⟨tg, iter, ifs, 0⟩] scope pos) spos) (sAsg (eLCM mi p t m (own.map (·.2))) (gNm i)) := by
  have je := je_lcM (W := W) (pos := pos) hc hN hi ok ho hg ht he hs
  have dummy : Shared := X.s_0
  refine ⟨fun σ h A B l q => je.mono σ h _ _ _ _ (fun d h1 q1 => l.nx _ _ q1) (exOf.le l σ) q, PS.weak (ps_setLc (tt := tT X.K NoW t) (te := tE X.K NoW m) hc hN hy hyl hsw hi.run ok hg (fun s H C cl fp => (ht s H C cl fp).run) (fun s H C cl fp => (he s H C cl fp).run) hs) fun Dn σV H ⟨ι0, H0, ι, σ, h, e, hS, hH, q⟩ => ?_⟩
  refine lc_run (Qv := fun v H1 => gName i v σV H1 Dn.nx) hi.mono (ht dummy H 0 [] []).mono (he dummy H 0 [] []).mono ho hS hH q (fun c fs h1 ι1 dx H1 q1 e1 hH1 r => q1 ι1 dx σV H1 (e.trans e1) (hS.ext e1) hH1 r) fun acc h1 D vsV ι1 H1 q1 e1 hH1 hD hD1 hm nD rs => ?_
  have hr : ∀ b, b ∈ ι.res → b ∈ ι1.res := e1.res1
  have e2 := e1.pro hD
  have nr : D ∉ ι.res := fun z => by
    exact hD (hH.liveR D z)
  refine q1 ((ι1.cut ι.res).push D) _ H1 (e.trans e2) ((hS.ext e2).set i ⟨D, ?_, rfl⟩) (hH1.pro hr nr hm nD hD1 rs)
  simp only [Ad.cut]
  rw [← hH1.len, List.getElem?_append_right (Nat.le_refl _), Nat.sub_self]
  rfl
end
end LL
end

section
set_option Elab.async false
set_option linter.all false
set_option maxRecDepth 100000
set_option maxHeartbeats 1000000
/-! LLData: operators on data of any kind; truth; texts; repr; methods of lists. -/
namespace LL
open PySem PySem.Spec PyProof.Rows L2
variable {X : Cx} {W : WX}

/-! ### a list in its exact form -/
def LstX (K : Frag) (H : Hp) (a : Addr) (xs : List V) : Prop := H a = some (.lst xs) ∨ (∃ o, H a = some (.frz o (.lst xs))) ∨ KL K a xs
theorem FzL.x {K : Frag} {ι : Ad} {H : Hp} {a : Addr} {vs : List V} (h : FzL K ι H a vs) : LstX K H a vs := by
  rcases h with ⟨h, _⟩ | h | h
  · exact .inl h
  · exact .inr (.inl h)
  · exact .inr (.inr h)
theorem LstX.get {pins : List (Addr × Obj)} {σ : L2.St} {H : Hp} {s : Shared} {a : Addr} {xs : List V} (I : Inv X pins σ H s) (h : LstX X.K H a xs) : xs.length ≤ sizeLine ∧ ∃ (its : List Value) (n : Nat), Vals xs its ∧ xs.length = its.length ∧ IsL s.heap a its.toArray n := by
  rcases h with h | ⟨o, h⟩ | ⟨its, n, h1, h2, h3⟩
  · exact I.lstM h
  · obtain ⟨_, z, its, n, r, e⟩ := I.hok a _ h
    exact ⟨z, its, n, r, r.length, e⟩
  · exact ⟨h2, its, n, h3, h3.length, I.kIn a _ h1⟩
theorem seqX_run {K : Frag} {ι : Ad} {H : Hp} {h : LH} {d : D} {v : V} {Q : List D → Prop} (hH : RelH K ι H h) (r : RelD K ι H d v) (q : seqL d h Q) : ∃ a xs ds, v = .ref a ∧ LstX K H a xs ∧ RelDs K ι H ds xs ∧ Q ds := by
  unfold seqL at q
  split at q
  · obtain ⟨a, vs, rfl, hf, rs⟩ := r
    exact ⟨a, vs, _, rfl, hf.x, rs, q⟩
  · obtain ⟨a, ha, rfl⟩ := r
    split at q
    · rename_i ho
      obtain ⟨vs, h1, rs⟩ := hH.lst ha ho
      exact ⟨a, vs, _, rfl, .inl h1, rs, q⟩
    · exact q.elim
  · exact q.elim

/-! ### + -/
def rCatL (K : Frag) : R2 := fun x y H Q => ∃ l b xs zs, x = .ref l ∧ y = .ref b ∧ LstX K H l xs ∧ LstX K H b zs ∧ xs.length + zs.length ≤ sizeLine ∧ ∀ p, H p = none → Q (.ref p) (upd H p (.lst (xs ++ zs)))
theorem op_catL : OpR X (binaryOp .Add) (rCatL X.K) := by
  rintro pins s σ H x y v u Q I rx ry ⟨l, b, xs, zs, rfl, rfl, hx, hz, hl, q⟩
  cases rx
  cases ry
  obtain ⟨_, its, n, r, e1, h1⟩ := hx.get I
  obtain ⟨_, its2, n2, r2, e2, h2⟩ := hz.get I
  refine PySem.P.add_list h1 h2 ?_ (by simp only [List.size_toArray]; omega)
  rw [List.append_toArray]
  exact ⟨.ref _, _, I.lnew (t' := s.toks) (r.append r2) (by rw [List.length_append]; exact hl), rfl, q _ I.fresh⟩
theorem OpR.or {op : Value → Value → Sem Value} {r r' : R2} (h : OpR X op r) (h' : OpR X op r') : OpR X op (fun x y H Q => r x y H Q ∨ r' x y H Q) := fun pins s σ H x y v u Q I rx ry q =>
  q.elim (fun q => h pins s σ H x y v u Q I rx ry q) fun q => h' pins s σ H x y v u Q I rx ry q
/-- +: ints, texts, tuples, lists (a new list that nobody changes) -/
def oPlus : LOp := fun x y h Q => match x, y with
  | .int i, .int j => Q (.int (i + j)) h
  | .str i, .str j => i.length + j.length ≤ sizeLine ∧ Q (.str (i ++ j)) h
  | .tup xs, .tup ys => xs ≠ [] ∧ xs.length + ys.length ≤ sizeLine ∧ Q (.tup (xs ++ ys)) h
  | x, y => seqL x h fun xs => seqL y h fun ys => xs.length + ys.length ≤ sizeLine ∧ Q (.lst (xs ++ ys)) h
abbrev rPlus (K : Frag) : R2 := fun x y H Q => (∃ i j : Int, x = .int i ∧ y = .int j ∧ Q (.int (i + j)) H) ∨ ((∃ i j, x = .str i ∧ y = .str j ∧ i.length + j.length ≤ sizeLine ∧ Q (.str (i ++ j)) H) ∨ (rCatT K x y H Q ∨ rCatL K x y H Q))
theorem opsPlus {K : Frag} : OpS K (rPlus K) oPlus := by
  refine ⟨fun x y h Q Q' hQ q => ?_, fun ι H h x y vx vy Q Qv hH rx ry q k => ?_⟩
  · unfold oPlus at *
    split at q
    · exact hQ _ _ q
    · exact ⟨q.1, hQ _ _ q.2⟩
    · exact ⟨q.1, q.2.1, hQ _ _ q.2.2⟩
    · exact seqL_mono (fun xs q => seqL_mono (fun ys q => ⟨q.1, hQ _ _ q.2⟩) q) q
  · unfold oPlus at q
    split at q
    · exact .inl ⟨_, _, rx, ry, k _ h ι _ H q (.refl _ _) hH rfl⟩
    · exact .inr (.inl ⟨_, _, rx, ry, q.1, k _ h ι _ H q.2 (.refl _ _) hH rfl⟩)
    · rename_i xs ys
      obtain ⟨a, us, rfl, ht, rs⟩ := rx
      obtain ⟨b, ws, rfl, ht2, rs2⟩ := ry
      have l1 := rs.length
      have l2 := rs2.length
      refine .inr (.inr (.inl ⟨a, b, us, ws, rfl, rfl, ht, ht2, ?_, by omega, fun e => ?_, fun _ p hp => ?_⟩))
      · rintro rfl
        exact q.1 (List.length_eq_zero_iff.mp (by simpa using l1))
      · subst e
        have : ys = [] := List.length_eq_zero_iff.mp (by simpa using l2)
        subst this
        rw [List.append_nil] at q
        exact k _ h ι _ H q.2.2 (.refl _ _) hH ⟨a, us, rfl, ht, rs⟩
      · have ex : Ext ι H ι (upd H p (.tup (us ++ ws))) := Ext.new hp
        exact k _ h ι _ _ q.2.2 ex (hH.new hp) ⟨p, _, rfl, SqT.of upd_same, (rs.ext ex).append (rs2.ext ex)⟩
    · obtain ⟨a, us, xs, rfl, h1, rs, q⟩ := seqX_run hH rx q
      obtain ⟨b, ws, ys, rfl, h2, rs2, q⟩ := seqX_run hH ry q
      have l1 := rs.length
      have l2 := rs2.length
      refine .inr (.inr (.inr ⟨a, b, us, ws, rfl, rfl, h1, h2, by omega, fun p hp => ?_⟩))
      have ex : Ext ι H ι (upd H p (.lst (us ++ ws))) := Ext.new hp
      exact k _ h ι _ _ q.2 ex (hH.new hp) ⟨p, _, rfl, .inl ⟨upd_same, hH.notNew hp⟩, (rs.ext ex).append (rs2.ext ex)⟩
theorem op_plus : OpR X (binaryOp .Add) (rPlus X.K) := OpR.or op_add (OpR.or op_add_str (OpR.or op_catT op_catL))
theorem je_plus {a b : Expr} {A B : LE} {pos : Pos} (ha : JE X W a A) (hb : JE X W b B) : JE X W (.BinOp a .Add b pos) (eOp oPlus A B) := je_op op_plus opsPlus ha hb

/-! ### data -/
mutual
def dPy : D → Option PyData
  | .non => some .none
  | .bl b => some (.bool b)
  | .int i => some (.int i)
  | .str x => some (.str x)
  | .tup ds => (dPys ds).map .tuple
  | .lst ds => (dPys ds).map .list
  | .ob _ _ _ => none
  | .ref _ => none
  | .dfn _ => none
  | .fn _ _ _ _ => none
  | .dct [] [] => some (.dict [])
  | .dct _ _ => none
  | .exc _ _ _ _ _ => none
def dPys : List D → Option (List PyData)
  | [] => some []
  | d :: ds => match dPy d, dPys ds with
    | some p, some ps => some (p :: ps)
    | _, _ => none
end
mutual
theorem noDict_lay : ∀ {p : PyData}, p.canLay0 = true → p.hasDict = false
  | .none, _ => by simp [PyData.hasDict]
  | .bool _, _ => by simp [PyData.hasDict]
  | .int _, _ => by simp [PyData.hasDict]
  | .str _, _ => by simp [PyData.hasDict]
  | .list xs, h => by
    simp only [PyData.hasDict]
    exact noDict_layAll (by simpa only [PyData.canLay0] using h)
  | .tuple xs, h => by
    simp only [PyData.hasDict]
    exact noDict_layAll (by simpa only [PyData.canLay0] using h)
  | .dict _, h => by simp [PyData.canLay0] at h
theorem noDict_layAll : ∀ {ps : List PyData}, PyData.canLayAll0 ps = true → PyData.hasDictAll ps = false
  | [], _ => by simp [PyData.hasDictAll]
  | p :: ps, h => by
    simp only [PyData.canLayAll0, Bool.and_eq_true] at h
    simp only [PyData.hasDictAll, noDict_lay h.1, noDict_layAll h.2, Bool.or_self]
end
theorem noDict_shaped {p : PyData} (h : SeqAt.shaped p = true) : p.hasDict = false := noDict_lay (SeqAt.canLay_of_shaped h)
mutual
theorem dp_of {K : Frag} {ι : Ad} {H : Hp} : ∀ {d : D} {v : V} {p : PyData}, RelD K ι H d v → dPy d = some p → p.hasDict = false → Dp K H v p
  | .non, v, _, r, e, _ => by obtain rfl : v = .non := r; simp only [dPy, Option.some.injEq] at e; subst e; exact .non
  | .bl b, v, _, r, e, _ => by obtain rfl : v = .bl b := r; simp only [dPy, Option.some.injEq] at e; subst e; exact .bl b
  | .int i, v, _, r, e, _ => by obtain rfl : v = .int i := r; simp only [dPy, Option.some.injEq] at e; subst e; exact .int i
  | .str x, v, _, r, e, _ => by obtain rfl : v = .str x := r; simp only [dPy, Option.some.injEq] at e; subst e; exact .str x
  | .tup ds, _, _, ⟨a, vs, h1, h2, h3⟩, e, n => by
    simp only [dPy, Option.map_eq_some_iff] at e
    obtain ⟨ps, e1, e2⟩ := e
    subst h1 e2
    simp only [PyData.hasDict] at n
    exact .tup h2 (dps_of h3 e1 n)
  | .lst ds, _, _, ⟨a, vs, h1, h2, h3⟩, e, n => by
    simp only [dPy, Option.map_eq_some_iff] at e
    obtain ⟨ps, e1, e2⟩ := e
    subst h1 e2
    simp only [PyData.hasDict] at n
    exact .lst h2.sq (dps_of h3 e1 n)
  | .ob _ _ _, _, _, _, e, _ => by simp [dPy] at e
  | .ref _, _, _, _, e, _ => by simp [dPy] at e
  | .dfn _, _, _, _, e, _ => by simp [dPy] at e
  | .fn _ _ _ _, _, _, _, e, _ => by simp [dPy] at e
  | .dct [] [], _, _, _, e, n => by simp only [dPy, Option.some.injEq] at e; subst e; simp [PyData.hasDict] at n
  | .dct [] (_ :: _), _, _, _, e, _ => by simp [dPy] at e
  | .dct (_ :: _) _, _, _, _, e, _ => by simp [dPy] at e
  | .exc _ _ _ _ _, _, _, _, e, _ => by simp [dPy] at e
theorem dps_of {K : Frag} {ι : Ad} {H : Hp} : ∀ {ds : List D} {vs : List V} {ps : List PyData}, RelDs K ι H ds vs → dPys ds = some ps → PyData.hasDictAll ps = false → DpAll K H vs ps
  | [], vs, _, r, e, _ => by obtain rfl : vs = [] := r; simp only [dPys, Option.some.injEq] at e; subst e; exact .nil
  | d :: ds, _, _, ⟨v, r, h1, h2, h3⟩, e, n => by
    simp only [dPys] at e
    split at e
    · rename_i p ps e1 e2
      cases e
      subst h1
      simp only [PyData.hasDictAll, Bool.or_eq_false_iff] at n
      exact .cons (dp_of h2 e1 n.1) (dps_of h3 e2 n.2)
    · cases e
end
/-- data that repr reads: the empty dict too -/
def Rp (K : Frag) (H : Hp) : PyData → V → Prop
  | .none, v => v = .non
  | .bool b, v => v = .bl b
  | .int i, v => v = .int i
  | .str x, v => v = .str x
  | .list ps, v => ∃ a vs, v = .ref a ∧ SqL K H a vs ∧ RpAll K H ps vs
  | .tuple ps, v => ∃ a vs, v = .ref a ∧ SqT K H a vs ∧ RpAll K H ps vs
  | .dict kvs, v => kvs = [] ∧ ∃ a, v = .ref a ∧ H a = some (.dK [])
where RpAll (K : Frag) (H : Hp) : List PyData → List V → Prop
  | [], vs => vs = []
  | p :: ps, vs => ∃ v r, vs = v :: r ∧ Rp K H p v ∧ RpAll K H ps r
mutual
theorem rp_of {K : Frag} {ι : Ad} {H : Hp} : ∀ {d : D} {v : V} {p : PyData}, RelD K ι H d v → dPy d = some p → Rp K H p v
  | .non, v, _, r, e => by simp only [dPy, Option.some.injEq] at e; subst e; exact r
  | .bl b, v, _, r, e => by simp only [dPy, Option.some.injEq] at e; subst e; exact r
  | .int i, v, _, r, e => by simp only [dPy, Option.some.injEq] at e; subst e; exact r
  | .str x, v, _, r, e => by simp only [dPy, Option.some.injEq] at e; subst e; exact r
  | .tup ds, _, _, ⟨a, vs, h1, h2, h3⟩, e => by
    simp only [dPy, Option.map_eq_some_iff] at e
    obtain ⟨ps, e1, e2⟩ := e
    subst e2
    exact ⟨a, vs, h1, h2, rps_of h3 e1⟩
  | .lst ds, _, _, ⟨a, vs, h1, h2, h3⟩, e => by
    simp only [dPy, Option.map_eq_some_iff] at e
    obtain ⟨ps, e1, e2⟩ := e
    subst e2
    exact ⟨a, vs, h1, h2.sq, rps_of h3 e1⟩
  | .ob _ _ _, _, _, _, e => by simp [dPy] at e
  | .ref _, _, _, _, e => by simp [dPy] at e
  | .dfn _, _, _, _, e => by simp [dPy] at e
  | .fn _ _ _ _, _, _, _, e => by simp [dPy] at e
  | .dct [] [], _, _, ⟨a, vs, h1, h2, h3, h4, h5⟩, e => by
    simp only [dPy, Option.some.injEq] at e
    subst e
    exact ⟨rfl, a, h1, h3⟩
  | .dct [] (_ :: _), _, _, _, e => by simp [dPy] at e
  | .dct (_ :: _) _, _, _, _, e => by simp [dPy] at e
  | .exc _ _ _ _ _, _, _, _, e => by simp [dPy] at e
theorem rps_of {K : Frag} {ι : Ad} {H : Hp} : ∀ {ds : List D} {vs : List V} {ps : List PyData}, RelDs K ι H ds vs → dPys ds = some ps → Rp.RpAll K H ps vs
  | [], vs, _, r, e => by simp only [dPys, Option.some.injEq] at e; subst e; exact r
  | d :: ds, _, _, ⟨v, r, h1, h2, h3⟩, e => by
    simp only [dPys] at e
    split at e
    · rename_i p ps e1 e2
      cases e
      exact ⟨v, r, h1, rp_of h2 e1, rps_of h3 e2⟩
    · cases e
end
/-- .. a list of the logical heap on top -/
def dPyH (h : LH) (d : D) : Option PyData := match d with
  | .ref n => match h[n]? with
    | some (.lst ds) => (dPys ds).map .list
    | _ => none
  | d => dPy d
theorem dpH_of {K : Frag} {ι : Ad} {H : Hp} {h : LH} {d : D} {v : V} {p : PyData} (hH : RelH K ι H h) (r : RelD K ι H d v) (e : dPyH h d = some p) (n : p.hasDict = false) : Dp K H v p := by
  unfold dPyH at e
  split at e
  · obtain ⟨a, ha, rfl⟩ := r
    split at e
    · rename_i ho
      obtain ⟨vs, h1, rs⟩ := hH.lst ha ho
      simp only [Option.map_eq_some_iff] at e
      obtain ⟨ps, e1, rfl⟩ := e
      simp only [PyData.hasDict] at n
      exact .lst (.inl (.inl h1)) (dps_of rs e1 n)
    · cases e
  · exact dp_of r e n
theorem rpH_of {K : Frag} {ι : Ad} {H : Hp} {h : LH} {d : D} {v : V} {p : PyData} (hH : RelH K ι H h) (r : RelD K ι H d v) (e : dPyH h d = some p) : Rp K H p v := by
  unfold dPyH at e
  split at e
  · obtain ⟨a, ha, rfl⟩ := r
    split at e
    · rename_i ho
      obtain ⟨vs, h1, rs⟩ := hH.lst ha ho
      simp only [Option.map_eq_some_iff] at e
      obtain ⟨ps, e1, rfl⟩ := e
      exact ⟨a, vs, rfl, .inl (.inl h1), rps_of rs e1⟩
    · cases e
  · exact rp_of r e

/-! ### == and != of data -/
def oEqD : LOp := fun x y h Q => match x, y with
  | .int i, .int j => Q (.bl (decide (i = j))) h
  | .str i, .str j => Q (.bl (decide (i = j))) h
  | .bl i, .bl j => Q (.bl (decide (i = j))) h
  | x, y => ∃ p q, dPyH h x = some p ∧ dPyH h y = some q ∧ SeqAt.shaped p = true ∧ SeqAt.shaped q = true ∧ Q (.bl (PyData.eqv p q)) h
def oNeD : LOp := fun x y h Q => match x, y with
  | .int i, .int j => Q (.bl (!decide (i = j))) h
  | .str i, .str j => Q (.bl (!decide (i = j))) h
  | .bl i, .bl j => Q (.bl (!decide (i = j))) h
  | x, y => ∃ p q, dPyH h x = some p ∧ dPyH h y = some q ∧ SeqAt.shaped p = true ∧ SeqAt.shaped q = true ∧ Q (.bl (!PyData.eqv p q)) h
theorem opsEqD {K : Frag} : OpS K (fun x y H Q => rEq x y H Q ∨ rEqD K x y H Q) oEqD := by
  refine ⟨fun x y h Q Q' hQ q => ?_, fun ι H h x y vx vy Q Qv hH rx ry q k => ?_⟩
  · unfold oEqD at *
    split at q <;> first | exact hQ _ _ q | (obtain ⟨p, p', e1, e2, e3, e4, q⟩ := q; exact ⟨p, p', e1, e2, e3, e4, hQ _ _ q⟩)
  · unfold oEqD at q
    split at q
    · exact .inl (opsEq.run ι H h (.int _) (.int _) vx vy Q Qv hH rx ry q k)
    · exact .inl (opsEq.run ι H h (.str _) (.str _) vx vy Q Qv hH rx ry q k)
    · exact .inl (opsEq.run ι H h (.bl _) (.bl _) vx vy Q Qv hH rx ry q k)
    · obtain ⟨p, p', e1, e2, e3, e4, q⟩ := q
      exact .inr ⟨p, p', dpH_of hH rx e1 (noDict_shaped e3), dpH_of hH ry e2 (noDict_shaped e4), e3, e4, k _ h ι _ H q (.refl _ _) hH rfl⟩
theorem opsNeD {K : Frag} : OpS K (fun x y H Q => rNe x y H Q ∨ rNeD K x y H Q) oNeD := by
  refine ⟨fun x y h Q Q' hQ q => ?_, fun ι H h x y vx vy Q Qv hH rx ry q k => ?_⟩
  · unfold oNeD at *
    split at q <;> first | exact hQ _ _ q | (obtain ⟨p, p', e1, e2, e3, e4, q⟩ := q; exact ⟨p, p', e1, e2, e3, e4, hQ _ _ q⟩)
  · unfold oNeD at q
    split at q
    · exact .inl (opsNe.run ι H h (.int _) (.int _) vx vy Q Qv hH rx ry q k)
    · exact .inl (opsNe.run ι H h (.str _) (.str _) vx vy Q Qv hH rx ry q k)
    · exact .inl (opsNe.run ι H h (.bl _) (.bl _) vx vy Q Qv hH rx ry q k)
    · obtain ⟨p, p', e1, e2, e3, e4, q⟩ := q
      exact .inr ⟨p, p', dpH_of hH rx e1 (noDict_shaped e3), dpH_of hH ry e2 (noDict_shaped e4), e3, e4, k _ h ι _ H q (.refl _ _) hH rfl⟩
section
variable {a b : Expr} {A B : LE} {pos : Pos} {k : Nat}
theorem je_eqD (hr : RoomG k X.A) (ha : JE X W a A) (hb : JE X W b B) : JE X W (.Compare a [.Eq] [b] pos) (eOp oEqD A B) := je_cmp (OpR.or op_eq (op_eqD hr.r.units)) opsEqD ha hb (nomark _)
theorem jt_eqD (hr : RoomG k X.A) (ha : JE X W a A) (hb : JE X W b B) : JT X W (.Compare a [.Eq] [b] pos) (eTest (eOp oEqD A B)) := jt_cmp (OpR.or op_eq (op_eqD hr.r.units)) opsEqD ha hb (nomark _)
theorem je_neD (hr : RoomG k X.A) (ha : JE X W a A) (hb : JE X W b B) : JE X W (.Compare a [.NotEq] [b] pos) (eOp oNeD A B) := je_cmp (OpR.or op_ne (op_neD hr.r.units)) opsNeD ha hb (nomark _)
theorem jt_neD (hr : RoomG k X.A) (ha : JE X W a A) (hb : JE X W b B) : JT X W (.Compare a [.NotEq] [b] pos) (eTest (eOp oNeD A B)) := jt_cmp (OpR.or op_ne (op_neD hr.r.units)) opsNeD ha hb (nomark _)
end

/-! ### in, not in -/
def flD : D → Bool
  | .non => true
  | .bl _ => true
  | .int _ => true
  | .str _ => true
  | _ => false
/-- the flat value -/
def flV : D → V
  | .non => .non
  | .bl b => .bl b
  | .int i => .int i
  | .str x => .str x
  | _ => .non
theorem flD_rel {K : Frag} {ι : Ad} {H : Hp} {d : D} {v : V} (r : RelD K ι H d v) (f : flD d = true) : v = flV d ∧ flatV v = true := by
  cases d with
  | non => obtain rfl : v = .non := r; exact ⟨rfl, rfl⟩
  | bl b => obtain rfl : v = .bl b := r; exact ⟨rfl, rfl⟩
  | int i => obtain rfl : v = .int i := r; exact ⟨rfl, rfl⟩
  | str x => obtain rfl : v = .str x := r; exact ⟨rfl, rfl⟩
  | tup _ => exact absurd f Bool.false_ne_true
  | lst _ => exact absurd f Bool.false_ne_true
  | ob _ _ _ => exact absurd f Bool.false_ne_true
  | ref _ => exact absurd f Bool.false_ne_true
  | dfn _ => exact absurd f Bool.false_ne_true
  | fn _ _ _ _ => exact absurd f Bool.false_ne_true
  | dct _ _ => exact absurd f Bool.false_ne_true
  | exc _ _ _ _ _ => exact absurd f Bool.false_ne_true
theorem flDs_rel {K : Frag} {ι : Ad} {H : Hp} : ∀ {ds : List D} {vs : List V}, RelDs K ι H ds vs → ds.all flD = true → vs = ds.map flV ∧ vs.all flatV = true
  | [], vs, h, _ => by obtain rfl : vs = [] := h; exact ⟨rfl, rfl⟩
  | d :: ds, _, ⟨v, r, h1, h2, h3⟩, f => by
    rw [List.all_cons, Bool.and_eq_true] at f
    obtain ⟨e1, e2⟩ := flD_rel h2 f.1
    obtain ⟨e3, e4⟩ := flDs_rel h3 f.2
    subst h1
    exact ⟨by rw [e1, e3]; rfl, by rw [List.all_cons, e2, e4]; rfl⟩
def inD (x : D) (ds : List D) : Bool := inV (flV x) (ds.map flV)
def oIn (neg : Bool) : LOp := fun x y h Q => flD x = true ∧ seqA y h fun ds => ds.all flD = true ∧ Q (.bl (if neg then !inD x ds else inD x ds)) h
theorem opsIn {K : Frag} {neg : Bool} : OpS K (rIn K neg) (oIn neg) := by
  refine ⟨fun x y h Q Q' hQ q => ⟨q.1, seqA_mono (fun ds q => ⟨q.1, hQ _ _ q.2⟩) q.2⟩, fun ι H h x y vx vy Q Qv hH rx ry q k => ?_⟩
  obtain ⟨a, ds, xs, rfl, h1, rs, q2⟩ := seqA_run hH ry q.2
  obtain ⟨e1, e2⟩ := flD_rel rx q.1
  obtain ⟨e3, e4⟩ := flDs_rel rs q2.1
  refine ⟨a, xs, rfl, h1, e2, e4, ?_⟩
  have := k _ h ι (.bl (if neg then !inD x ds else inD x ds)) H q2.2 (.refl _ _) hH rfl
  unfold inD at this
  rw [e1, e3]
  exact this
section
variable {a b : Expr} {A B : LE} {pos : Pos}
theorem je_in (ha : JE X W a A) (hb : JE X W b B) (hm : behindInMarks .In b = false := by rfl) : JE X W (.Compare a [.In] [b] pos) (eOp (oIn false) A B) := je_cmp op_in_seq opsIn ha hb hm
theorem jt_in (ha : JE X W a A) (hb : JE X W b B) (hm : behindInMarks .In b = false := by rfl) : JT X W (.Compare a [.In] [b] pos) (eTest (eOp (oIn false) A B)) := jt_cmp op_in_seq opsIn ha hb hm
theorem je_notIn (ha : JE X W a A) (hb : JE X W b B) (hm : behindInMarks .NotIn b = false := by rfl) : JE X W (.Compare a [.NotIn] [b] pos) (eOp (oIn true) A B) := je_cmp op_notIn_seq opsIn ha hb hm
theorem jt_notIn (ha : JE X W a A) (hb : JE X W b B) (hm : behindInMarks .NotIn b = false := by rfl) : JT X W (.Compare a [.NotIn] [b] pos) (eTest (eOp (oIn true) A B)) := jt_cmp op_notIn_seq opsIn ha hb hm
end
end LL
end

section
set_option Elab.async false
set_option linter.all false
set_option maxRecDepth 100000
set_option maxHeartbeats 1000000
/-! LLMeth: own special methods, truth, repr, texts, methods of lists. -/
namespace LL
open PySem PySem.Spec PyProof.Rows L2
variable {X : Cx} {W : WX}

/-! ### own special methods: len(o), repr(o), bool(o) -/
section
variable {k : Nat} {f C : Addr} {fd : FuncData} {ps : List Str} {sp : Sp}
theorem own_inst {pins : List (Addr × Obj)} {σ : L2.St} {H : Hp} {s : Shared} {a dx : Addr} {fs : List (Str × V)} (I : Inv X pins σ H s) (h : H a = some (.ins C dx fs)) : ∃ od, PySem.W.InstAt s.heap a (PySem.W.instObj C dx) C od := by
  obtain ⟨m, J, _⟩ := ins_get I.hok h
  obtain ⟨od, J, _⟩ := J.look
  exact ⟨_, J⟩
theorem own_call {pins : List (Addr × Obj)} {σ : L2.St} {H : Hp} {s : Shared} {a : Addr} {A : Around} {Q : VK} (F : FnG X.prog X.w X.K X.mg X.base k f fd ps sp) (hr : RoomG k A) (hA : A.frames = some X.stack) (hb : Binds X.K fd ps []) (I : Inv X pins σ H s)
    (h : sp [.ref a] H Q (fun _ _ _ => False)) : wpAny (model X.prog X.w) A (call (.ref f) [.ref a]) (EP X pins σ Q) X.xe s :=
  run_fnG (E := fun σ => WE NoW σ) (us := [.ref a]) (vs := [.ref a]) F hr hA hb (L2N.passAt takesNo σ) I (.cons rfl .nil) h
def rLenO (sp : Sp) (C : Addr) : List V → Hp → VK → Prop := fun xs H Q => ∃ a dx fs, xs = [.ref a] ∧ H a = some (.ins C dx fs) ∧ sp [.ref a] H (fun v H' => ∃ n : Int, v = .int n ∧ (0 ≤ n ∧ n < 2 ^ 63) ∧ Q (.int n) H') (fun _ _ _ => False)
theorem cr_lenO (F : FnG X.prog X.w X.K X.mg X.base k f fd ps sp) (hr : RoomG (k + 1) X.A) (hb : Binds X.K fd ps []) (hs : PySem.W.findIn X.K (.ref C) "__len__" = some (some (.ref f))) (hf : PySem.W.isFn X.K (.ref f) = true) : CallR X (.builtin "len") (rLenO sp C) := by
  rintro pins s σ H xs us Q I r ⟨a, dx, fs, rfl, h, q⟩
  obtain rfl := Vals.ref1 r
  obtain ⟨od, J⟩ := own_inst I h
  obtain ⟨m, hF⟩ := I.fr
  refine PySem.W.len_K hF I.ok.mod.kin J hs hf (thn (own_call (A := X.A.in1) F hr.in1 I.env0.frames hb I q) fun u s1 ⟨v, H1, I1, rv, n, e, hn, q1⟩ => ?_)
  subst e
  obtain ⟨t, rfl⟩ := rv
  exact ⟨hn, .int n, H1, I1.tok _, ⟨_, rfl⟩, q1⟩
def rReprO (sp : Sp) (C : Addr) : List V → Hp → VK → Prop := fun xs H Q => ∃ a dx fs, xs = [.ref a] ∧ H a = some (.ins C dx fs) ∧ sp [.ref a] H (fun v H' => ∃ x, v = .str x ∧ Q (.str x) H') (fun _ _ _ => False)
theorem cr_reprO (F : FnG X.prog X.w X.K X.mg X.base k f fd ps sp) (hr : RoomG (k + 1) X.A) (hb : Binds X.K fd ps []) (hs : PySem.W.findIn X.K (.ref C) "__repr__" = some (some (.ref f))) (hf : PySem.W.isFn X.K (.ref f) = true) : CallR X (.builtin "repr") (rReprO sp C) := by
  rintro pins s σ H xs us Q I r ⟨a, dx, fs, rfl, h, q⟩
  obtain rfl := Vals.ref1 r
  obtain ⟨od, J⟩ := own_inst I h
  obtain ⟨m, hF⟩ := I.fr
  refine PySem.W.repr_K hr.in1.r.units0 hF I.ok.mod.kin J hs hf (thn (own_call (A := X.A.in1) F hr.in1 I.env0.frames hb I q) fun u s1 ⟨v, H1, I1, rv, x, e, q1⟩ => ?_)
  subst e
  obtain ⟨t, rfl⟩ := rv
  exact ⟨.str x, H1, I1, ⟨t, rfl⟩, q1⟩
/-- the body of len, at an own __len__ -/
theorem len_body {prog : Program} {w : World} {A : Around} {E : Value → Shared → Prop} {s : Shared} {K : Frag} {x : Addr} {ox : Obj} {od : Option Obj} {Q : Value → Shared → Prop} (KX : K.In s.heap) (J : PySem.W.InstAt s.heap x ox C od)
    (hs : PySem.W.findIn K (.ref C) "__len__" = some (some (.ref f))) (hf : PySem.W.isFn K (.ref f) = true) (h : wpAny (model prog w) A (call (.ref f) [.ref x]) (PySem.W.LenBack Q) E s) :
    wpAny (model prog w) A (Builtin.«len» ⟨[.ref x], []⟩) (fun fin s' => ∃ r, fin = .done (.ret r) ∧ Q r s') E s := by
  unfold Builtin.«len»
  refine wpAny_bind (m := oneArg "len" _) (wpAny_pure (wpAny_bind (m := callSpecial? (.ref x) (Str.ofString "__len__")) (PySem.W.special_fn KX J hs (beq_iff_eq.mp hf) (wpAny_mono h (fun r s' hr => ?_) fun _ _ y => y))))
  cases r with
  | int n u =>
    obtain ⟨⟨h0, h1⟩, hq⟩ := hr
    refine wpAny_bind (wpAny_holding (wpAny_pure (wpAny_bind (wpAny_letGo ?_))))
    show wpAny _ _ (if n < 0 then _ else _) _ _ _
    rw [if_neg (Int.not_lt.mpr h0)]
    show wpAny _ _ (if n ≥ 2 ^ 63 then _ else _) _ _ _
    rw [if_neg (Int.not_le.mpr h1)]
    exact wpAny_bind (wpAny_mkInt (wpAny_pure ⟨_, rfl, hq⟩))
  | _ => exact hr.elim
theorem spV_mono {K : Frag} {n : Nat} {G : LSp} (hG : MonoP G) {vs : List V} {H : Hp} {Q Q' : VK} {E : XK} (hQ : ∀ v H, Q v H → Q' v H) (h : spV K n G vs H Q E) : spV K n G vs H Q' E := by
  obtain ⟨ι, ds, h', a, b, c, q⟩ := h
  exact ⟨ι, ds, h', a, b, c, hG _ _ _ _ _ _ (fun d h2 q2 ι' v H' e hH r => hQ _ _ (q2 ι' v H' e hH r)) (fun _ _ _ q2 => q2) q⟩
/-- truth by an own __len__, no __bool__ -/
theorem truthy_lenO {pins : List (Addr × Obj)} {σ : L2.St} {H : Hp} {s : Shared} {a dx : Addr} {fs : List (Str × V)} {A : Around} {Q : Bool → Shared → Prop} (F : FnG X.prog X.w X.K X.mg X.base k f fd ps sp) (hr : RoomG (k + 1) A) (hA : A.frames = some X.stack) (hb : Binds X.K fd ps [])
    (hn : PySem.W.findIn X.K (.ref C) "__bool__" = some none) (hs : PySem.W.findIn X.K (.ref C) "__len__" = some (some (.ref f))) (hf : PySem.W.isFn X.K (.ref f) = true) (I : Inv X pins σ H s) (h : H a = some (.ins C dx fs))
    (q : sp [.ref a] H (fun v H' => ∃ n : Int, v = .int n ∧ (0 ≤ n ∧ n < 2 ^ 63) ∧ ∀ s', Inv X pins σ H' s' → Q (n != 0) s') (fun _ _ _ => False)) : wpAny (model X.prog X.w) A (truthy (.ref a)) Q X.xe s := by
  obtain ⟨od, J⟩ := own_inst I h
  obtain ⟨m, hF⟩ := I.fr
  have KX := I.ok.mod.kin.keeps hF.keep
  have key : wpAny (model X.prog X.w) A (runValue (.builtin "len" ⟨[.ref a], []⟩)) (fun r s' => ∃ n t, r = .int n t ∧ Q (n != 0) s') X.xe s := by
    refine wpAny_runValue (codeAny_builtin entry_len ?_)
    rw [Around.under_plainId plain_len _]
    refine wpAny_mono (len_body (Q := fun r s' => ∃ n t, r = .int n t ∧ Q (n != 0) s') KX J hs hf (thn (own_call (A := A.in1) F hr.in1 hA hb I q) fun u s1 ⟨v, H1, I1, rv, n, e, hn, q1⟩ => by
      subst e
      obtain ⟨t, rfl⟩ := rv
      exact ⟨hn, n, _, rfl, q1 _ (I1.tok _)⟩)) (fun fin s' h' => ?_) fun _ _ e => e
    obtain ⟨r, rfl, hq⟩ := h'
    exact hq
  unfold truthy
  refine wpAny_bind (m := callSpecial? (.ref a) (Str.ofString "__bool__")) (wpAny_bind (wpAny_bind (J.type.here ((PySem.W.looks_findIn KX hn).here (wpAny_pure ?_)))))
  refine wpAny_bind (wpAny_bind (J.type.here ((PySem.W.looks_findIn KX hs).here ?_)))
  exact wpAny_bind (thn key fun r s' ⟨n, t, e, z⟩ => by subst e; exact wpAny_pure z)
def rBoolO (sp : Sp) (C : Addr) : List V → Hp → VK → Prop := fun xs H Q => ∃ a dx fs, xs = [.ref a] ∧ H a = some (.ins C dx fs) ∧ sp [.ref a] H (fun v H' => ∃ n : Int, v = .int n ∧ (0 ≤ n ∧ n < 2 ^ 63) ∧ Q (.bl (n != 0)) H') (fun _ _ _ => False)
/-- bool's body, whatever the truth of x does -/
theorem bool_body {prog : Program} {w : World} {A : Around} {E : Value → Shared → Prop} {s : Shared} {x : Addr} {Q : Value → Shared → Prop} (h : wpAny (model prog w) A (truthy (.ref x)) (fun b s' => Q (.bool b) s') E s) :
    wpAny (model prog w) A (Builtin.«bool.__new__» ⟨[.type "bool", .ref x], []⟩) (fun fin s' => ∃ r, fin = .done (.ret r) ∧ Q r s') E s := by
  have f1 := PySem.F.conv_sub_bool
  unfold Builtin.«bool.__new__»
  repeat (any_goals (first | assumption | (with_reducible refine wpAny_bind (wpAny_mono h (fun b s' z => ?_) fun _ _ e => e)) | wp_step))
  exact ⟨_, rfl, z⟩
theorem cr_boolO {G : LSp} (hG : MonoP G) (Fg : FnG X.prog X.w X.K X.mg X.base k f fd ps (spV X.K 1 G)) (hr : RoomG (k + 3) X.A) (hb : Binds X.K fd ps []) (hn : PySem.W.findIn X.K (.ref C) "__bool__" = some none) (hs : PySem.W.findIn X.K (.ref C) "__len__" = some (some (.ref f)))
    (hf : PySem.W.isFn X.K (.ref f) = true) : CallR X (.type "bool") (rBoolO (spV X.K 1 G) C) := by
  rintro pins s σ H xs us Q I r ⟨a, dx, fs, rfl, h, q⟩
  obtain rfl := Vals.ref1 r
  let S : PySem.Spec := fun A R s => wpAny (model X.prog X.w) A.in1 (truthy (.ref a)) (fun b s' => R (.ok (.ret (.bool b))) s') (fun e s' => R (.error e) s') s
  have hS : MeetsIn X.prog X.w (Builtin.«bool.__new__» ⟨[.type "bool", .ref a], []⟩) S := fun A R s h =>
    wpAny_mono (bool_body (Q := fun r s' => R (.ok (.ret r)) s') h) (fun fin s' ⟨r, e, z⟩ => by subst e; exact z) fun _ _ e => e
  refine callType_newIn PySem.F.called_bool PySem.F.newNe_bool (PySem.F.typeCall_bool_1 _) (PySem.F.newCall_bool_1 _) (fun obj => PySem.F.args_object_init_2 obj _) PySem.F.entry_bool_new hS ?_
  exact truthy_lenO (k := k) (A := X.A.in1.in1) Fg (hr.in1.in1) I.env0.frames hb hn hs hf I h (spV_mono hG (fun v H' ⟨n, e, hn, z⟩ => ⟨n, e, hn, fun s' I' => ⟨rfl, .bl (n != 0), H', I', rfl, z⟩⟩) q)
end
/-- an instance of the class C -/
def isObj (C : Str) (d : D) (h : LH) : Prop := match d with
  | .ob C' _ _ => C' = C
  | .ref n => match h[n]? with
    | some (.ins C' _) => C' = C
    | _ => False
  | _ => False
theorem isObj_run {K : Frag} {C : Str} {ι : Ad} {H : Hp} {h : LH} {d : D} {v : V} (hH : RelH K ι H h) (r : RelD K ι H d v) (q : isObj C d h) : ∃ a dx fs, v = .ref a ∧ H a = some (.ins (He.ga K C) dx fs) := by
  unfold isObj at q
  split at q
  · obtain ⟨a, dx, vs, rfl, _, h2, _, _⟩ := r
    exact ⟨a, dx, _, rfl, by rw [← q]; exact h2⟩
  · split at q
    · rename_i ho
      obtain ⟨a, ha, rfl⟩ := r
      obtain ⟨dx, vs, h1, h2⟩ := hH.ins ha ho
      exact ⟨a, dx, vs, rfl, by rw [← q]; exact h1⟩
    · exact q.elim
  · exact q.elim
def bOwn (C : Str) (G : LSp) (P : D → (D → Prop) → Prop) : LB := fun ds h Q => match ds with
  | [x] => isObj C x h ∧ G [x] h (fun d h2 => P d fun d' => Q d' h2) (fun _ _ _ => False)
  | _ => False
def pLen (d : D) (Q : D → Prop) : Prop := match d with | .int n => (0 ≤ n ∧ n < 2 ^ 63) ∧ Q (.int n) | _ => False
def pRepr (d : D) (Q : D → Prop) : Prop := match d with | .str x => Q (.str x) | _ => False
def pBool (d : D) (Q : D → Prop) : Prop := match d with | .int n => (0 ≤ n ∧ n < 2 ^ 63) ∧ Q (.bl (n != 0)) | _ => False
section
variable {K : Frag} {C : Str} {G : LSp}
theorem spV_of {ι : Ad} {H : Hp} {h : LH} {x : D} {v : V} {Q0 : D → LH → Prop} {Qv : VK} (hG : MonoP G) (hH : RelH K ι H h) (r : RelD K ι H x v) (q : G [x] h Q0 fun _ _ _ => False)
    (k : ∀ d h' ι' u H', Q0 d h' → Ext ι H ι' H' → RelH K ι' H' h' → RelD K ι' H' d u → Qv u H') : spV K 1 G [v] H Qv fun _ _ _ => False :=
  ⟨ι, [x], h, hH, ⟨v, [], rfl, r, rfl⟩, rfl, hG _ _ _ _ _ _ (fun d h' q' ι' u H' e hH' r' => k d h' ι' u H' q' e hH' r') (fun _ _ _ z => z.elim) q⟩
theorem bsLenO (hG : MonoP G) : CallS K (rLenO (spV K 1 G) (He.ga K C)) (bOwn C G pLen) := by
  refine ⟨fun ds h Q Q' hQ q => ?_, fun ι H h ds vs Q Qv hH rs q k => ?_⟩
  · unfold bOwn at *
    split at q
    · refine ⟨q.1, hG _ _ _ _ _ _ (fun d h2 q2 => ?_) (fun _ _ _ z => z) q.2⟩
      unfold pLen at *
      split at q2
      · exact ⟨q2.1, hQ _ _ q2.2⟩
      · exact q2.elim
    · exact q.elim
  · unfold bOwn at q
    split at q
    · obtain ⟨v, rfl, r⟩ := rs.one
      obtain ⟨a, dx, fs, rfl, h1⟩ := isObj_run hH r q.1
      refine ⟨a, dx, fs, rfl, h1, spV_of hG hH r q.2 fun d h' ι' u H' q' e hH' r' => ?_⟩
      unfold pLen at q'
      split at q'
      · exact ⟨_, r', q'.1, k _ h' ι' _ H' q'.2 e hH' rfl⟩
      · exact q'.elim
    · exact q.elim
theorem bsReprO (hG : MonoP G) : CallS K (rReprO (spV K 1 G) (He.ga K C)) (bOwn C G pRepr) := by
  refine ⟨fun ds h Q Q' hQ q => ?_, fun ι H h ds vs Q Qv hH rs q k => ?_⟩
  · unfold bOwn at *
    split at q
    · refine ⟨q.1, hG _ _ _ _ _ _ (fun d h2 q2 => ?_) (fun _ _ _ z => z) q.2⟩
      unfold pRepr at *
      split at q2
      · exact hQ _ _ q2
      · exact q2.elim
    · exact q.elim
  · unfold bOwn at q
    split at q
    · obtain ⟨v, rfl, r⟩ := rs.one
      obtain ⟨a, dx, fs, rfl, h1⟩ := isObj_run hH r q.1
      refine ⟨a, dx, fs, rfl, h1, spV_of hG hH r q.2 fun d h' ι' u H' q' e hH' r' => ?_⟩
      unfold pRepr at q'
      split at q'
      · exact ⟨_, r', k _ h' ι' _ H' q' e hH' rfl⟩
      · exact q'.elim
    · exact q.elim
theorem bsBoolO (hG : MonoP G) : CallS K (rBoolO (spV K 1 G) (He.ga K C)) (bOwn C G pBool) := by
  refine ⟨fun ds h Q Q' hQ q => ?_, fun ι H h ds vs Q Qv hH rs q k => ?_⟩
  · unfold bOwn at *
    split at q
    · refine ⟨q.1, hG _ _ _ _ _ _ (fun d h2 q2 => ?_) (fun _ _ _ z => z) q.2⟩
      unfold pBool at *
      split at q2
      · exact ⟨q2.1, hQ _ _ q2.2⟩
      · exact q2.elim
    · exact q.elim
  · unfold bOwn at q
    split at q
    · obtain ⟨v, rfl, r⟩ := rs.one
      obtain ⟨a, dx, fs, rfl, h1⟩ := isObj_run hH r q.1
      refine ⟨a, dx, fs, rfl, h1, spV_of hG hH r q.2 fun d h' ι' u H' q' e hH' r' => ?_⟩
      unfold pBool at q'
      split at q'
      · exact ⟨_, r', q'.1, k _ h' ι' _ H' q'.2 e hH' rfl⟩
      · exact q'.elim
    · exact q.elim
end
section
variable {k : Nat} {f : Addr} {C : Str} {G : LSp}
theorem cro_len (F : Keeps X.prog X.w X.K X.mg X.base k f 1 G) (hr : RoomG (k + 1) X.A) (hs : PySem.W.findIn X.K (.ref (He.ga X.K C)) "__len__" = some (some (.ref f))) (hf : PySem.W.isFn X.K (.ref f) = true) : CallR X (.builtin "len") (rLenO (spV X.K 1 G) (He.ga X.K C)) := by
  obtain ⟨hG, fd, ps, hn, F, b⟩ := F
  exact cr_lenO F hr b hs hf
theorem cro_repr (F : Keeps X.prog X.w X.K X.mg X.base k f 1 G) (hr : RoomG (k + 1) X.A) (hs : PySem.W.findIn X.K (.ref (He.ga X.K C)) "__repr__" = some (some (.ref f))) (hf : PySem.W.isFn X.K (.ref f) = true) : CallR X (.builtin "repr") (rReprO (spV X.K 1 G) (He.ga X.K C)) := by
  obtain ⟨hG, fd, ps, hn, F, b⟩ := F
  exact cr_reprO F hr b hs hf
theorem cro_bool (F : Keeps X.prog X.w X.K X.mg X.base k f 1 G) (hr : RoomG (k + 3) X.A) (hn : PySem.W.findIn X.K (.ref (He.ga X.K C)) "__bool__" = some none) (hs : PySem.W.findIn X.K (.ref (He.ga X.K C)) "__len__" = some (some (.ref f))) (hf : PySem.W.isFn X.K (.ref f) = true) :
    CallR X (.type "bool") (rBoolO (spV X.K 1 G) (He.ga X.K C)) := by
  obtain ⟨hG, fd, ps, hn', F, b⟩ := F
  exact cr_boolO hG F hr b hn hs hf
end

/-! ### truth -/
def truD (d : D) (h : LH) (Q : Bool → Prop) : Prop := match d with
  | .non => Q false
  | .bl b => Q b
  | .int i => Q (i != 0)
  | .str x => x.length ≤ sizeLine ∧ Q ((x.length : Int) != 0)
  | .tup ds => Q (!ds.isEmpty)
  | d => seqL d h fun ds => Q (!ds.isEmpty)
theorem truD_mono {d : D} {h : LH} {Q Q' : Bool → Prop} (hQ : ∀ b, Q b → Q' b) (q : truD d h Q) : truD d h Q' := by
  unfold truD at *
  split at q <;> first | exact hQ _ q | exact ⟨q.1, hQ _ q.2⟩ | exact seqL_mono (fun _ => hQ _) q
theorem isEmpty_rel {K : Frag} {ι : Ad} {H : Hp} {ds : List D} {vs : List V} (r : RelDs K ι H ds vs) : (!vs.isEmpty) = !ds.isEmpty := by
  cases ds with
  | nil => obtain rfl : vs = [] := r; rfl
  | cons d ds => obtain ⟨v, r', rfl, _⟩ := r; rfl
theorem truD_run {K : Frag} {ι : Ad} {H : Hp} {h : LH} {d : D} {v : V} {Q : Bool → Prop} (hH : RelH K ι H h) (r : RelD K ι H d v) (q : truD d h Q) : ∃ k, TruV K v H k ∧ Q k := by
  unfold truD at q
  split at q
  · obtain rfl : v = .non := r; exact ⟨false, rfl, q⟩
  · rename_i b; obtain rfl : v = .bl b := r; exact ⟨_, rfl, q⟩
  · rename_i i; obtain rfl : v = .int i := r; exact ⟨_, rfl, q⟩
  · rename_i x; obtain rfl : v = .str x := r; exact ⟨_, ⟨q.1, rfl⟩, q.2⟩
  · obtain ⟨a, vs, rfl, h2, rs⟩ := r
    exact ⟨_, .inr (.inl ⟨vs, h2, (isEmpty_rel rs).symm⟩), q⟩
  · obtain ⟨a, ds, vs, rfl, h2, rs, q⟩ := seqL_run hH r q
    exact ⟨_, .inl ⟨vs, h2, (isEmpty_rel rs).symm⟩, q⟩
def eTru (m : LE) : LX Bool := fun σ h Q E => m σ h (fun d h1 => truD d h1 fun b => Q b h1) E
theorem jt_tru {e : Expr} {m : LE} (h : JE X W e m) (he : ∀ whole, isTrue e X.env whole = (do let v ← whole; standAt e.pos; holding [v] (truthy v)) := by intro _; rfl) : JT X W e (eTru m) := by
  refine ⟨fun σ h' Q Q' E E' hQ hE q => h.mono σ h' _ _ _ _ (fun d h1 q1 => truD_mono (fun b => hQ b h1) q1) hE q, PT.weak (pt_truth h.run he) fun σV H Q ⟨ι, σ, h', hS, hH, q⟩ => ?_⟩
  refine tX.into h.mono hS hH q (fun d h1 ι1 v H1 q1 e1 hH1 r => ?_) (fun c fs h1 ι1 dx H1 q1 => q1 ι1 dx H1)
  obtain ⟨k, t, q2⟩ := truD_run hH1 r q1
  exact ⟨k, t, q2 ι1 k H1 e1 hH1 rfl⟩

/-! ### repr of data -/
/-- the dict of all modules stands in the written part (so nothing of ours does) -/
def smB (K : Frag) : Bool := match K.lookup sysModules with
  | some ⟨.type c, _, .dict _ _, _⟩ => c == "dict"
  | _ => false
theorem smB_ok {K : Frag} (h : smB K = true) : ∃ o, K.lookup sysModules = some o ∧ o.cls = .type "dict" := by
  unfold smB at h
  split at h
  · rename_i c d es n sl ho
    exact ⟨_, ho, by rw [beq_iff_eq.mp h]⟩
  · cases h
section
variable {pins : List (Addr × Obj)} {σ : L2.St} {H : Hp} {s : Shared}
theorem not_sm (I : Inv X pins σ H s) (sm : smB X.K = true) {a : Addr} {o : Obj} {c : String} (ho : s.heap.get? a = some o) (hc : o.cls = .type c) (n : c ≠ "dict") : a ≠ sysModules := by
  obtain ⟨u, h1, h2⟩ := smB_ok sm
  rintro rfl
  rw [I.kIn _ _ h1] at ho
  cases ho
  rw [hc] at h2
  cases h2
  exact n rfl
mutual
theorem Rp.reads (I : Inv X pins σ H s) (sm : smB X.K = true) : ∀ (d : PyData) (v : V) (u : Value), Rp X.K H d v → L2.RelV v u → ∃ as, Reads s.heap u d as ∧ sysModules ∉ as
  | .none, _, _, h, r => by
    obtain rfl := h
    cases r
    exact ⟨_, Reads.none, by simp⟩
  | .bool b, _, _, h, r => by
    obtain rfl := h
    cases r
    exact ⟨_, Reads.bool b, by simp⟩
  | .int i, _, _, h, r => by
    obtain rfl := h
    obtain ⟨t, rfl⟩ := r
    exact ⟨_, Reads.int i t, by simp⟩
  | .str x, _, _, h, r => by
    obtain rfl := h
    obtain ⟨t, rfl⟩ := r
    exact ⟨_, Reads.str x t, by simp⟩
  | .list ds, _, _, ⟨a, vs, e, hs, ha⟩, r => by
    subst e
    cases r
    obtain ⟨its, rv, ⟨o, n, ho, hc, _, hd⟩, _⟩ := I.list hs
    obtain ⟨as, hr, hn⟩ := Rp.readsAll I sm ds _ its ha rv
    exact ⟨_, Reads.list ho hc hd hr, by
      intro z
      rcases List.mem_cons.mp z with z | z
      · exact not_sm I sm ho hc (by decide) z.symm
      · exact hn z⟩
  | .tuple ds, _, _, ⟨a, vs, e, hs, ha⟩, r => by
    subst e
    cases r
    obtain ⟨its, rv, ⟨o, ho, hc, n, hd⟩, _⟩ := I.tuple hs
    obtain ⟨as, hr, hn⟩ := Rp.readsAll I sm ds _ its ha rv
    exact ⟨_, Reads.tuple ho hc hd hr, hn⟩
  | .dict kvs, _, _, ⟨e0, a, e, hs⟩, r => by
    subst e0 e
    cases r
    obtain ⟨_, hne, vs, kv, o, es, ep, ho, hx, hd, hk, hp, _⟩ := dk_of I.hok hs
    cases kv
    have e0 : es.toList = [] := by
      cases q : es.toList with
      | nil => rfl
      | cons e r => rw [q] at hp; cases hp
    have hr : Reads s.heap (.ref a) (.dict []) (a :: [] ++ []) := Reads.dict ho hx.1 hd (by rw [e0]; exact ReadsAll.nil) (by rw [e0]; exact ReadsAll.nil)
    exact ⟨_, hr, by simp; intro z; subst z; simp at hne⟩
theorem Rp.readsAll (I : Inv X pins σ H s) (sm : smB X.K = true) : ∀ (ds : List PyData) (vs : List V) (us : List Value), Rp.RpAll X.K H ds vs → Vals vs us → ∃ as, ReadsAll s.heap us ds as ∧ sysModules ∉ as
  | [], _, _, h, r => by
    obtain rfl := h
    cases r
    exact ⟨_, ReadsAll.nil, by simp⟩
  | d :: ds, _, _, ⟨v, r, e, h1, h2⟩, rv => by
    subst e
    cases rv with
    | cons r1 r2 =>
      obtain ⟨as, q1, n1⟩ := Rp.reads I sm d _ _ h1 r1
      obtain ⟨bs, q2, n2⟩ := Rp.readsAll I sm ds _ _ h2 r2
      exact ⟨_, ReadsAll.cons q1 q2, by
        intro z
        rcases List.mem_append.mp z with z | z
        · exact n1 z
        · exact n2 z⟩
end
end
def rReprD (K : Frag) : List V → Hp → VK → Prop := fun xs H Q => ∃ v p, xs = [v] ∧ Rp K H p v ∧ smB K = true ∧ p.showable = true ∧ p.shown.length ≤ sizeLine ∧ p.depth ≤ 60 ∧ Q (.str p.shown) H
theorem cr_reprD {k : Nat} (hr : RoomG k X.A) : CallR X (.builtin "repr") (rReprD X.K) := by
  rintro pins s σ H xs us Q I r ⟨v, p, rfl, hd, sm, hs, hz, hp, q⟩
  obtain ⟨u, rfl, ru⟩ := vals1 r
  have hu := hr.r.units
  obtain ⟨as, rd, hn⟩ := Rp.reads I sm p v u hd ru
  cases p with
  | none => obtain rfl := hd; cases ru; exact PySem.P.repr_of_none ⟨.str _, H, I.tok _, ⟨_, rfl⟩, by simpa [PyData.shown] using q⟩
  | bool b => obtain rfl := hd; cases ru; exact PySem.P.repr_of_bool ⟨.str _, H, I.tok _, ⟨_, rfl⟩, by simpa [PyData.shown] using q⟩
  | int i => obtain rfl := hd; obtain ⟨t, rfl⟩ := ru; exact PySem.P.repr_of_int (by simpa [PyData.showable] using hs) ⟨.str _, H, I.tok _, ⟨_, rfl⟩, by simpa [PyData.shown] using q⟩
  | str x => obtain rfl := hd; obtain ⟨t, rfl⟩ := ru; exact PySem.P.repr_of_str ⟨.str _, H, I.tok _, ⟨_, rfl⟩, by simpa [PyData.shown] using q⟩ (by simpa [PyData.shown] using hz)
  | list ds =>
    obtain ⟨a, vs, rfl, _, _⟩ := hd
    cases ru
    exact repr_of_reads' rd hs (fun _ => hn) hr.g (by omega) (fun _ _ e => e) (fun h' u tk hk => ⟨.str _, H, I.kept hk, ⟨u, rfl⟩, q⟩) hz
  | tuple ds =>
    obtain ⟨a, vs, rfl, _, _⟩ := hd
    cases ru
    exact repr_of_reads' rd hs (fun _ => hn) hr.g (by omega) (fun _ _ e => e) (fun h' u tk hk => ⟨.str _, H, I.kept hk, ⟨u, rfl⟩, q⟩) hz
  | dict kvs =>
    obtain ⟨_, a, rfl, _⟩ := hd
    cases ru
    exact repr_of_reads' rd hs (fun _ => hn) hr.g (by omega) (fun _ _ e => e) (fun h' u tk hk => ⟨.str _, H, I.kept hk, ⟨u, rfl⟩, q⟩) hz
def bReprD : LB := fun ds h Q => match ds with
  | [d] => ∃ p, dPyH h d = some p ∧ p.showable = true ∧ p.shown.length ≤ sizeLine ∧ p.depth ≤ 60 ∧ Q (.str p.shown) h
  | _ => False
theorem bsReprD {K : Frag} (sm : smB K = true) : CallS K (rReprD K) bReprD := by
  refine ⟨fun ds h Q Q' hQ q => ?_, fun ι H h ds vs Q Qv hH rs q k => ?_⟩
  · unfold bReprD at *
    split at q
    · obtain ⟨p, e, a, b, c, q⟩ := q; exact ⟨p, e, a, b, c, hQ _ _ q⟩
    · exact q.elim
  · unfold bReprD at q
    split at q
    · obtain ⟨v, rfl, r⟩ := rs.one
      obtain ⟨p, e, a, b, c, q⟩ := q
      exact ⟨v, p, rfl, rpH_of hH r e, sm, a, b, c, k _ h ι _ H q (.refl _ _) hH rfl⟩
    · exact q.elim

/-! ### f-strings -/
/-- the text of {x} -/
def fmtD (d : D) (Q : Str → Prop) : Prop := match d with
  | .str y => y.length ≤ sizeLine ∧ Q y
  | .int i => i.natAbs.log2 < 1920 ∧ Q (toString i)
  | _ => False
def eFmt (m : LE) : LE := fun σ h Q E => m σ h (fun d h1 => fmtD d fun x => Q (.str x) h1) E
theorem je_fmt {e : Expr} {m : LE} {pos : Pos} (he : JE X W e m) : JE X W (.FormattedValue e (-1) none pos) (eFmt m) := by
  refine ⟨fun σ h Q Q' E E' hQ hE q => he.mono σ h _ _ _ _ (fun d h1 q1 => ?_) hE q, PE.weak (pe_fmt he.run) fun σV H Q ⟨ι, σ, h, hS, hH, q⟩ => ?_⟩
  · unfold fmtD at *
    split at q1
    · exact ⟨q1.1, hQ _ _ q1.2⟩
    · exact ⟨q1.1, hQ _ _ q1.2⟩
    · exact q1.elim
  · refine tX.into he.mono hS hH q (fun d h1 ι1 v H1 q1 e1 hH1 r => ?_) (fun c fs h1 ι1 dx H1 q1 => q1 ι1 dx H1)
    unfold fmtD at q1
    split at q1
    · exact .inl ⟨_, r, q1.1, q1.2 ι1 (.str _) H1 e1 hH1 rfl⟩
    · exact .inr ⟨_, r, q1.1, q1.2 ι1 (.str _) H1 e1 hH1 rfl⟩
    · exact q1.elim
inductive JP (X : Cx) (W : WX) : List Expr → List LE → Prop where
  | nil : JP X W [] []
  | cons {e : Expr} {m : LE} {es : List Expr} {ms : List LE} (h : JE X W e m) (r : JP X W es ms) : JP X W (e :: es) (m :: ms)
theorem JP.pj {es : List Expr} {ms : List LE} (h : JP X W es ms) : PJ X es (ms.map fun m => tE X.K W m) := by
  induction h with
  | nil => exact .nil
  | cons h r ih => exact .cons h.run ih
/-- the texts one behind the other -/
def eJoin : List LE → Str → LV → LH → (Str → LH → Prop) → XL → Prop
  | [], acc, _, h, Q, _ => Q acc h
  | m :: ms, acc, σ, h, Q, E => m σ h (fun d h1 => match d with | .str y => (acc ++ y).length ≤ sizeLine ∧ eJoin ms (acc ++ y) σ h1 Q E | _ => False) E
theorem eJoin_mono {es : List Expr} {ms : List LE} (hp : JP X W es ms) : ∀ (acc : Str) (σ : LV) (h : LH) (Q Q' : Str → LH → Prop) (E E' : XL), (∀ x h, Q x h → Q' x h) → (∀ c fs h, E c fs h → E' c fs h) → eJoin ms acc σ h Q E → eJoin ms acc σ h Q' E' := by
  induction hp with
  | nil => exact fun acc σ h Q Q' E E' hQ hE q => hQ _ _ q
  | cons hm _ ih =>
    intro acc σ h Q Q' E E' hQ hE q
    refine hm.mono σ h _ _ _ _ (fun d h1 q1 => ?_) hE q
    cases d with
    | str y => exact ⟨q1.1, ih _ _ _ _ _ _ _ hQ hE q1.2⟩
    | _ => exact q1.elim
theorem eJoin_run {es : List Expr} {ms : List LE} (hp : JP X W es ms) : ∀ (acc : Str) {ι : Ad} {σ : LV} {h : LH} {σV : L2.St} {H : Hp} {Q0 : Str → LH → Prop} {E0 : XL} {Q : Str → Hp → Prop}, RelS X.K ι H σ σV → RelH X.K ι H h → eJoin ms acc σ h Q0 E0 →
    (∀ x h1 ι1 H1, Q0 x h1 → Ext ι H ι1 H1 → RelH X.K ι1 H1 h1 → Q x H1) → (∀ c fs h1 ι1 dx H1, E0 c fs h1 → Ext ι H ι1 H1 → RelH X.K ι1 H1 h1 → RelX X.K ι1 H1 fs dx → W (.ref (He.ga X.K c)) dx σV H1) →
    tJs (ms.map fun m => tE X.K W m) acc σV H Q := by
  induction hp with
  | nil => exact fun acc ι σ h σV H Q0 E0 Q hS hH q k _ => k acc h ι H q (.refl _ _) hH
  | cons hm _ ih =>
    intro acc ι σ h σV H Q0 E0 Q hS hH q k ke
    refine tX.into hm.mono hS hH q (fun d h1 ι1 v H1 q1 e1 hH1 r => ?_) ke
    cases d with
    | str y =>
      obtain rfl : v = .str y := r
      exact ⟨y, rfl, q1.1, ih _ (hS.ext e1) hH1 q1.2 (fun x h2 ι2 H2 q2 e2 hH2 => k x h2 ι2 H2 q2 (e1.trans e2) hH2) fun c fs h2 ι2 dx H2 q2 e2 hH2 r2 => ke c fs h2 ι2 dx H2 q2 (e1.trans e2) hH2 r2⟩
    | _ => exact q1.elim
def eFstr (ms : List LE) : LE := fun σ h Q E => eJoin ms Str.empty σ h (fun x h1 => Q (.str x) h1) E
theorem je_fstr {v1 v2 : Expr} {rest : List Expr} {ms : List LE} {pos : Pos} (hp : JP X W (v1 :: v2 :: rest) ms) : JE X W (.JoinedStr (v1 :: v2 :: rest) pos) (eFstr ms) := by
  refine ⟨fun σ h Q Q' E E' hQ hE q => eJoin_mono hp _ _ _ _ _ _ _ (fun x h1 q1 => hQ _ _ q1) hE q, PE.weak (pe_joined hp.pj) fun σV H Q ⟨ι, σ, h, hS, hH, q⟩ => ?_⟩
  exact eJoin_run hp Str.empty hS hH q (fun x h1 ι1 H1 q1 e1 hH1 => q1 ι1 (.str x) H1 e1 hH1 rfl) fun c fs h1 ι1 dx H1 q1 => q1 ι1 dx H1
/-! ### {} -/
def eDct0 : LE := fun _ h Q _ => Q (.dct [] []) h
theorem je_dct0 {pos : Pos} : JE X W (.Dict [] [] pos) eDct0 := by
  refine ⟨fun σ h Q Q' E E' hQ hE q => hQ _ _ q, PE.weak pe_dnewK fun σV H Q ⟨ι, σ, h, hS, hH, q⟩ => ?_⟩
  intro p hp
  have ex : Ext ι H ι (upd H p (.dK [])) := Ext.new hp
  exact q ι (.ref p) _ ex (hH.new hp) ⟨p, [], rfl, hH.notNew hp, upd_same, rfl, rfl⟩
end LL
end

section
set_option Elab.async false
set_option linter.all false
set_option maxRecDepth 100000
set_option maxHeartbeats 1000000
/-! LLFrz: what is new is frozen, what is no longer needed is left out of the logical heap. -/
namespace LL
open PySem PySem.Spec PyProof.Rows L2
variable {X : Cx} {W : WX}

mutual
/-- its references lie below k -/
def D.bel (k : Nat) : D → Bool
  | .ref n => decide (n < k)
  | .tup ds => D.bels k ds
  | .lst ds => D.bels k ds
  | .ob _ _ ds => D.bels k ds
  | .non => true
  | .bl _ => true
  | .int _ => true
  | .str _ => true
  | .dfn _ => true
  | .fn _ _ ι _ => decide (ι.ix.length ≤ k)
  | .dct _ ds => D.bels k ds
  | .exc _ _ _ _ ds => D.bels k ds
def D.bels (k : Nat) : List D → Bool
  | [] => true
  | d :: ds => D.bel k d && D.bels k ds
end
def O.bel (k : Nat) : O → Bool
  | .lst ds => D.bels k ds
  | .ins _ fs => D.bels k (fs.map (·.2))
  | .gone => true
mutual
/-- d' is d with what stands at k or above told inline -/
inductive Frz (h : LH) (k : Nat) : D → D → Prop where
  | old {d : D} (b : d.bel k = true) : Frz h k d d
  | tup {ds ds' : List D} (r : Frzs h k ds ds') : Frz h k (.tup ds) (.tup ds')
  | lst {ds ds' : List D} (r : Frzs h k ds ds') : Frz h k (.lst ds) (.lst ds')
  | ob {C : Str} {ns : List Str} {ds ds' : List D} (r : Frzs h k ds ds') : Frz h k (.ob C ns ds) (.ob C ns ds')
  | newL {n : Nat} {ds ds' : List D} (l : k ≤ n) (e : h[n]? = some (.lst ds)) (r : Frzs h k ds ds') : Frz h k (.ref n) (.lst ds')
  | newI {n : Nat} {C : Str} {fs : List (Str × D)} {ds' : List D} (l : k ≤ n) (e : h[n]? = some (.ins C fs)) (r : Frzs h k (fs.map (·.2)) ds') : Frz h k (.ref n) (.ob C (fs.map (·.1)) ds')
inductive Frzs (h : LH) (k : Nat) : List D → List D → Prop where
  | nil : Frzs h k [] []
  | cons {d d' : D} {ds ds' : List D} (a : Frz h k d d') (r : Frzs h k ds ds') : Frzs h k (d :: ds) (d' :: ds')
end
def Ad.trunc (ι : Ad) (k : Nat) : Ad := ⟨ι.ix.take k, ι.res, ι.tab⟩
section
variable {K : Frag} {ι : Ad} {H : Hp} {h : LH} {k : Nat}
theorem Ad.trunc_no {a : Addr} (n : ι.no a) : (ι.trunc k).no a := ⟨fun z => n.1 (List.mem_of_mem_take z), n.2⟩
theorem FzL.trunc {a : Addr} {vs : List V} (q : FzL K ι H a vs) : FzL K (ι.trunc k) H a vs := by
  rcases q with ⟨q, n⟩ | q
  · exact .inl ⟨q, Ad.trunc_no n⟩
  · exact .inr q
theorem trunc_new {n : Nat} {a : Addr} (hH : RelH K ι H h) (e : ι.ix[n]? = some (some a)) (l : k ≤ n) : (ι.trunc k).no a := by
  refine ⟨fun z => ?_, hH.disj a (List.mem_of_getElem? e)⟩
  obtain ⟨m, q⟩ := List.mem_iff_getElem?.mp z
  have lm : m < k := by
    have := (List.getElem?_eq_some_iff.mp q).1
    simp only [Ad.trunc, List.length_take] at this
    omega
  simp only [Ad.trunc, List.getElem?_take, lm, if_true] at q
  have := hH.inj n m a e q
  omega
theorem RelFs.snd : ∀ {fs : List (Str × D)} {vs : List (Str × V)}, RelFs K ι H fs vs → ∃ us, vs = (fs.map (·.1)).zip us ∧ RelDs K ι H (fs.map (·.2)) us
  | [], vs, h => by obtain rfl : vs = [] := h; exact ⟨[], rfl, rfl⟩
  | (f, d) :: fs, vs, ⟨v, r, h1, h2, h3⟩ => by
    obtain ⟨us, e, q⟩ := RelFs.snd h3
    subst h1 e
    exact ⟨v :: us, rfl, v, us, rfl, h2, q⟩
mutual
theorem RelD.below (d : D) {v : V} (r : RelD K ι H d v) : d.bel ι.ix.length = true := by
  cases d with
  | ref n => obtain ⟨a, e, _⟩ := r; simp only [D.bel, decide_eq_true_eq]; exact (List.getElem?_eq_some_iff.mp e).1
  | tup ds => obtain ⟨_, _, _, _, q⟩ := r; simp only [D.bel]; exact RelDs.below ds q
  | lst ds => obtain ⟨_, _, _, _, q⟩ := r; simp only [D.bel]; exact RelDs.below ds q
  | ob C ns ds => obtain ⟨_, _, _, _, _, _, _, q⟩ := r; simp only [D.bel]; exact RelDs.below ds q
  | non => simp [D.bel]
  | bl _ => simp [D.bel]
  | int _ => simp [D.bel]
  | str _ => simp [D.bel]
  | dfn _ => simp [D.bel]
  | dct _ ds => obtain ⟨_, _, _, _, _, _, q⟩ := r; simp only [D.bel]; exact RelDs.below ds q
  | fn _ _ _ _ =>
    obtain ⟨_, _, e⟩ := r
    obtain ⟨l, q, _⟩ := e.pre
    simp only [D.bel, decide_eq_true_eq]
    rw [q]; simp
  | exc _ _ d _ ds =>
    obtain ⟨_, r⟩ := r
    cases d with
    | none => have r : ds = [] := r; subst r; simp [D.bel, D.bels]
    | some x => obtain ⟨_, _, _, _, q⟩ := r; simp only [D.bel]; exact RelDs.below ds q
theorem RelDs.below (ds : List D) {vs : List V} (r : RelDs K ι H ds vs) : D.bels ι.ix.length ds = true := by
  cases ds with
  | nil => simp [D.bels]
  | cons d ds =>
    obtain ⟨v, q, _, h1, h2⟩ := r
    simp only [D.bels, RelD.below d h1, RelDs.below ds h2, Bool.and_self]
end
mutual
theorem RelD.keepB (d : D) {v : V} (r : RelD K ι H d v) (b : d.bel k = true) : RelD K (ι.trunc k) H d v := by
  cases d with
  | ref n =>
    obtain ⟨a, e, rfl⟩ := r
    simp only [D.bel, decide_eq_true_eq] at b
    exact ⟨a, by simp only [Ad.trunc, List.getElem?_take, b, if_true]; exact e, rfl⟩
  | tup ds => obtain ⟨a, vs, h1, h2, q⟩ := r; exact ⟨a, vs, h1, h2, RelDs.keepB ds q (by simpa [D.bel] using b)⟩
  | lst ds => obtain ⟨a, vs, h1, h2, q⟩ := r; exact ⟨a, vs, h1, h2.trunc, RelDs.keepB ds q (by simpa [D.bel] using b)⟩
  | ob C ns ds => obtain ⟨a, dx, vs, h1, h2, h3, h4, q⟩ := r; exact ⟨a, dx, vs, h1, Ad.trunc_no h2, h3, h4, RelDs.keepB ds q (by simpa [D.bel] using b)⟩
  | non => exact r
  | bl _ => exact r
  | int _ => exact r
  | str _ => exact r
  | dfn _ => exact r
  | dct ks ds => obtain ⟨a, vs, h1, h2, h3, h4, q⟩ := r; exact ⟨a, vs, h1, Ad.trunc_no h2, h3, h4, RelDs.keepB ds q (by simpa [D.bel] using b)⟩
  | fn f' xs ι0 H0 =>
    obtain ⟨h1, h2, e⟩ := r
    obtain ⟨l, q, f⟩ := e.pre
    simp only [D.bel, decide_eq_true_eq] at b
    refine ⟨h1, h2, ⟨l.take (k - ι0.ix.length), ?_, fun a z => f a (List.mem_of_mem_take z)⟩, e.res2, e.keep, e.tups, e.frzs, e.exts, e.there⟩
    show ι.ix.take k = _
    rw [q, List.take_append, List.take_of_length_le b]
  | exc _ _ d _ ds =>
    obtain ⟨h0, r⟩ := r
    refine ⟨h0, ?_⟩
    cases d with
    | none => exact r
    | some x => obtain ⟨vs, h1, h2, h3, q⟩ := r; exact ⟨vs, h1, Ad.trunc_no h2, h3, RelDs.keepB ds q (by simpa [D.bel] using b)⟩
theorem RelDs.keepB (ds : List D) {vs : List V} (r : RelDs K ι H ds vs) (b : D.bels k ds = true) : RelDs K (ι.trunc k) H ds vs := by
  cases ds with
  | nil => exact r
  | cons d ds =>
    obtain ⟨v, q, h0, h1, h2⟩ := r
    simp only [D.bels, Bool.and_eq_true] at b
    exact ⟨v, q, h0, RelD.keepB d h1 b.1, RelDs.keepB ds h2 b.2⟩
end
theorem RelFs.keepB : ∀ {fs : List (Str × D)} {vs : List (Str × V)}, RelFs K ι H fs vs → D.bels k (fs.map (·.2)) = true → RelFs K (ι.trunc k) H fs vs
  | [], _, h, _ => h
  | (f, d) :: fs, _, ⟨v, r, h1, h2, h3⟩, b => by
    simp only [List.map_cons, D.bels, Bool.and_eq_true] at b
    exact ⟨v, r, h1, h2.keepB _ b.1, h3.keepB b.2⟩
theorem Frzs.len : ∀ {ds ds' : List D}, Frzs h k ds ds' → ds.length = ds'.length
  | _, _, .nil => rfl
  | _, _, .cons _ q => congrArg Nat.succ (Frzs.len q)
mutual
theorem RelD.frz (hH : RelH K ι H h) : ∀ {d d' : D} {v : V}, Frz h k d d' → RelD K ι H d v → RelD K (ι.trunc k) H d' v
  | _, _, _, .old b, r => r.keepB _ b
  | _, _, _, .tup q, ⟨a, vs, h1, h2, h3⟩ => ⟨a, vs, h1, h2, RelDs.frz hH q h3⟩
  | _, _, _, .lst q, ⟨a, vs, h1, h2, h3⟩ => ⟨a, vs, h1, h2.trunc, RelDs.frz hH q h3⟩
  | _, _, _, .ob q, ⟨a, dx, vs, h1, h2, h3, h4, h5⟩ => ⟨a, dx, vs, h1, Ad.trunc_no h2, h3, h4.trans q.len, RelDs.frz hH q h5⟩
  | _, _, _, .newL l e q, ⟨a, ha, hv⟩ =>
    let ⟨vs, h1, rs⟩ := hH.lst ha e
    ⟨a, vs, hv, .inl ⟨h1, trunc_new hH ha l⟩, RelDs.frz hH q rs⟩
  | _, _, _, .newI l e q, ⟨a, ha, hv⟩ =>
    let ⟨dx, vs, h1, rs⟩ := hH.ins ha e
    let ⟨us, e2, rs2⟩ := rs.snd
    ⟨a, dx, us, hv, trunc_new hH ha l, by rw [← e2]; exact h1, by simpa using q.len, RelDs.frz hH q rs2⟩
theorem RelDs.frz (hH : RelH K ι H h) : ∀ {ds ds' : List D} {vs : List V}, Frzs h k ds ds' → RelDs K ι H ds vs → RelDs K (ι.trunc k) H ds' vs
  | _, _, _, .nil, r => r
  | _, _, _, .cons a q, ⟨v, w, h1, h2, h3⟩ => ⟨v, w, h1, RelD.frz hH a h2, RelDs.frz hH q h3⟩
end
/-- what stands below k looks at nothing above -/
def belH (k : Nat) (h : LH) : Bool := (h.take k).all (O.bel k)
theorem RelH.trunc (hH : RelH K ι H h) (b : belH k h = true) : RelH K (ι.trunc k) H (h.take k) := by
  refine ⟨by simp [Ad.trunc, hH.len], fun n m a e1 e2 => ?_, fun a m => hH.live a (List.mem_of_mem_take m), hH.liveR, fun a m => hH.disj a (List.mem_of_mem_take m), hH.tabs, fun n o q g => ?_⟩
  · simp only [Ad.trunc, List.getElem?_take] at e1 e2
    split at e1
    · split at e2
      · exact hH.inj n m a e1 e2
      · cases e2
    · cases e1
  · have hb := List.all_eq_true.mp b o (List.mem_of_getElem? q)
    rw [List.getElem?_take] at q
    split at q
    · rename_i l
      obtain ⟨a, e, r⟩ := hH.obj n o q g
      refine ⟨a, by simp only [Ad.trunc, List.getElem?_take, l, if_true]; exact e, ?_⟩
      cases o with
      | lst ds => obtain ⟨vs, h1, h2⟩ := r; exact ⟨vs, h1, h2.keepB _ hb⟩
      | ins C fs => obtain ⟨dx, vs, h1, h2⟩ := r; exact ⟨dx, vs, h1, h2.keepB hb⟩
      | gone => trivial
    · cases q
theorem Ext.trunc {ι' : Ad} {H' : Hp} (e : Ext ι H ι' H') (l : ι.ix.length ≤ k) : Ext ι H (ι'.trunc k) H' := by
  obtain ⟨m, q, f⟩ := e.pre
  refine ⟨⟨m.take (k - ι.ix.length), ?_, fun a z => f a (List.mem_of_mem_take z)⟩, e.res1, e.res2, e.tab, e.keep, e.tups, e.frzs, e.exts, e.there⟩
  simp only [Ad.trunc, q, List.take_append]
  rw [List.take_of_length_le l]
end
/-- a result is frozen: d is told as d', the logical heap is cut at k -/
def frzK (k0 : Nat) (Q : D → LH → Prop) : D → LH → Prop := fun d h => ∃ k d', k0 ≤ k ∧ Frz h k d d' ∧ belH k h = true ∧ Q d' (h.take k)
theorem frzK_mono {k0 : Nat} {Q Q' : D → LH → Prop} (hQ : ∀ d h, Q d h → Q' d h) {d : D} {h : LH} (q : frzK k0 Q d h) : frzK k0 Q' d h := let ⟨k, d', a, b, c, q⟩ := q; ⟨k, d', a, b, c, hQ _ _ q⟩
/-- an expression whose value is frozen -/
def eFrz (m : LE) : LE := fun σ h Q E => m σ h (frzK h.length Q) E
theorem je_frz {e : Expr} {m : LE} (he : JE X W e m) : JE X W e (eFrz m) := by
  refine ⟨fun σ h Q Q' E E' hQ hE q => he.mono σ h _ _ _ _ (fun d h1 q1 => frzK_mono hQ q1) hE q, PE.weak he.run fun σV H Q ⟨ι, σ, h, hS, hH, q⟩ => ?_⟩
  refine ⟨ι, σ, h, hS, hH, he.mono σ h _ _ _ _ (fun d h1 q1 ι1 v H1 e1 hH1 r => ?_) (fun c fs h1 q1 => q1) q⟩
  obtain ⟨k, d', a, b, c, q1⟩ := q1
  exact q1 (ι1.trunc k) v H1 (e1.trunc (by rw [hH.len]; exact a)) (hH1.trunc c) (RelD.frz hH1 b r)
/-- a def whose result is frozen -/
theorem keeps_frz {P : Program} {w : World} {K : Frag} {mg : Str → Option Value} {base : Heap} {x qual : Str} {params : Arguments} {body : List Stmt} {scope : Scope} {dvs : List V} {kws : List (Str × V)} {f : Addr} {fd : FuncData} {N ps : List Str} {k n : Nat} {G : LSp} {b : LS}
    (F : FunD K x qual params body scope dvs kws f fd) (S : FnScope N ps scope) (hn : ps.length = n) (hb : Binds K fd ps []) (hG : MonoP G)
    (hbody : ∀ (cdv : Value) (A : Around) (outer : List Env) (s : Shared) (H : Hp) (E : XK), CodeAt K f cdv → RoomG k (A.deeper (envOfC qual scope s.heap.objs.size f cdv)) →
      JSs (cxOf (L2N.CX P w) P w K mg base N qual scope f cdv A outer s H E) (fun cls d _ H => E cls d H) body b)
    (hv : ∀ ds h Q E, ds.length = n → G ds h Q E → b (startD N ds) h (bodyK (frzK h.length Q) E)) : Keeps P w K mg base (k + 1) f n G := by
  obtain ⟨oc, od, dV, kV, doc, pm, an, cdv, ct, osl, rfl, lk, hcd, _, _⟩ := F.ex
  have len : ∀ vs H Q E, spV K n G vs H Q E → vs.length = ps.length := fun vs H Q E ⟨ι, ds, h, _, r, l, _⟩ => by rw [← r.length, l, hn]
  refine ⟨hG, _, ps, hn, ⟨len, fun A outer s H args us vs Q E hr e0 hbt hv' hsp => ?_⟩, hb⟩
  refine LamX.run_ofS (k := k) lk hcd S hr.r e0 hbt hv' (len vs H Q E hsp) fun hr' => ?_
  obtain ⟨ι, ds, h, hH, r, l, q⟩ := hsp
  have j := hbody cdv A outer s H E ⟨_, _, _, _, lk, rfl, _, hcd⟩ ⟨hr', hr.g⟩
  refine ⟨_, j.run, ι, H, ι, startD N ds, h, .refl _ _, rel_start r, hH, ?_⟩
  refine j.mono _ _ _ _ ?_ (hv ds h _ _ l q)
  have fin : ∀ d h', frzK h.length (fun d h' => ∀ ι' v H', Ext ι H ι' H' → RelH K ι' H' h' → RelD K ι' H' d v → Q v H') d h' → ∀ ι' v H', Ext ι H ι' H' → RelH K ι' H' h' → RelD K ι' H' d v → Q v H' := fun d h' ⟨k, d', a, b, c, q'⟩ ι' v H' e' hH' r' =>
    q' (ι'.trunc k) v H' (e'.trunc (by rw [hH.len]; exact a)) (hH'.trunc c) (RelD.frz hH' b r')
  exact ⟨fun σ' h' q' ι' σV' H' e' _ hH' => fin .non h' q' ι' .non H' e' hH' rfl, fun d h' q' ι' v H' e' hH' r' => fin d h' q' ι' v H' e' hH' r', fun _ _ z => z.elim, fun _ _ z => z.elim, fun c fs σ' h' q' ι' dx σV' H' e' _ hH' r' => q' ι' dx H' e' hH' r'⟩

/-! ### .. where what stood before is as it was -/
theorem RelFs.below {K : Frag} {ι : Ad} {H : Hp} : ∀ {fs : List (Str × D)} {vs : List (Str × V)}, RelFs K ι H fs vs → D.bels ι.ix.length (fs.map (·.2)) = true
  | [], _, _ => by simp [D.bels]
  | (f, d) :: fs, _, ⟨v, r, _, h2, h3⟩ => by simp only [List.map_cons, D.bels, RelD.below d h2, RelFs.below h3, Bool.and_self]
theorem RelH.wf {K : Frag} {ι : Ad} {H : Hp} {h : LH} (hH : RelH K ι H h) : h.all (O.bel h.length) = true := by
  rw [List.all_eq_true]
  intro o ho
  obtain ⟨n, e⟩ := List.mem_iff_getElem?.mp ho
  cases o with
  | gone => rfl
  | lst ds =>
    obtain ⟨a, _, vs, _, r⟩ := hH.obj n _ e (by simp)
    have := RelDs.below ds r
    rw [hH.len] at this
    exact this
  | ins C fs =>
    obtain ⟨a, _, dx, vs, _, r⟩ := hH.obj n _ e (by simp)
    have := RelFs.below r
    rw [hH.len] at this
    exact this
/-- a result is frozen; the logical heap is what it was -/
def frz0K (h0 : LH) (Q : D → LH → Prop) : D → LH → Prop := fun d h => ∃ d', Frz h h0.length d d' ∧ h.take h0.length = h0 ∧ Q d' h0
theorem frz0K.frzK {K : Frag} {ι : Ad} {H : Hp} {h0 h : LH} {Q : D → LH → Prop} {d : D} (hH : RelH K ι H h0) (q : frz0K h0 Q d h) : frzK h0.length Q d h := by
  obtain ⟨d', f, e, q⟩ := q
  refine ⟨h0.length, d', Nat.le_refl _, f, ?_, by rw [e]; exact q⟩
  unfold belH
  rw [e]
  exact hH.wf
theorem frz0K_mono {h0 : LH} {Q Q' : D → LH → Prop} (hQ : ∀ d h, Q d h → Q' d h) {d : D} {h : LH} (q : frz0K h0 Q d h) : frz0K h0 Q' d h := let ⟨d', a, b, q⟩ := q; ⟨d', a, b, hQ _ _ q⟩
def eFrz0 (m : LE) : LE := fun σ h Q E => m σ h (frz0K h Q) E
theorem je_frz0 {e : Expr} {m : LE} (he : JE X W e m) : JE X W e (eFrz0 m) := by
  refine ⟨fun σ h Q Q' E E' hQ hE q => he.mono σ h _ _ _ _ (fun d h1 q1 => frz0K_mono hQ q1) hE q, PE.weak (je_frz he).run fun σV H Q ⟨ι, σ, h, hS, hH, q⟩ => ⟨ι, σ, h, hS, hH, he.mono σ h _ _ _ _ (fun d h1 q1 => q1.frzK hH) (fun c fs h1 q1 => q1) q⟩⟩
/-- a def whose result is frozen, what stood before is as it was -/
theorem keeps_frz0 {P : Program} {w : World} {K : Frag} {mg : Str → Option Value} {base : Heap} {x qual : Str} {params : Arguments} {body : List Stmt} {scope : Scope} {dvs : List V} {kws : List (Str × V)} {f : Addr} {fd : FuncData} {N ps : List Str} {k n : Nat} {G : LSp} {b : LS}
    (F : FunD K x qual params body scope dvs kws f fd) (S : FnScope N ps scope) (hn : ps.length = n) (hb : Binds K fd ps []) (hG : MonoP G)
    (hbody : ∀ (cdv : Value) (A : Around) (outer : List Env) (s : Shared) (H : Hp) (E : XK), CodeAt K f cdv → RoomG k (A.deeper (envOfC qual scope s.heap.objs.size f cdv)) →
      JSs (cxOf (L2N.CX P w) P w K mg base N qual scope f cdv A outer s H E) (fun cls d _ H => E cls d H) body b)
    (hv : ∀ ds h Q E, ds.length = n → G ds h Q E → b (startD N ds) h (bodyK (frz0K h Q) E)) : Keeps P w K mg base (k + 1) f n G := by
  obtain ⟨oc, od, dV, kV, doc, pm, an, cdv, ct, osl, rfl, lk, hcd, _, _⟩ := F.ex
  have len : ∀ vs H Q E, spV K n G vs H Q E → vs.length = ps.length := fun vs H Q E ⟨ι, ds, h, _, r, l, _⟩ => by rw [← r.length, l, hn]
  refine ⟨hG, _, ps, hn, ⟨len, fun A outer s H args us vs Q E hr e0 hbt hv' hsp => ?_⟩, hb⟩
  refine LamX.run_ofS (k := k) lk hcd S hr.r e0 hbt hv' (len vs H Q E hsp) fun hr' => ?_
  obtain ⟨ι, ds, h, hH, r, l, q⟩ := hsp
  have j := hbody cdv A outer s H E ⟨_, _, _, _, lk, rfl, _, hcd⟩ ⟨hr', hr.g⟩
  refine ⟨_, j.run, ι, H, ι, startD N ds, h, .refl _ _, rel_start r, hH, ?_⟩
  refine j.mono _ _ _ _ ?_ (hv ds h _ _ l q)
  have fin : ∀ d h', frz0K h (fun d h' => ∀ ι' v H', Ext ι H ι' H' → RelH K ι' H' h' → RelD K ι' H' d v → Q v H') d h' → ∀ ι' v H', Ext ι H ι' H' → RelH K ι' H' h' → RelD K ι' H' d v → Q v H' := fun d h' q0 ι' v H' e' hH' r' =>
    let ⟨k, d', a, b, c, q'⟩ := q0.frzK hH
    q' (ι'.trunc k) v H' (e'.trunc (by rw [hH.len]; exact a)) (hH'.trunc c) (RelD.frz hH' b r')
  exact ⟨fun σ' h' q' ι' σV' H' e' _ hH' => fin .non h' q' ι' .non H' e' hH' rfl, fun d h' q' ι' v H' e' hH' r' => fin d h' q' ι' v H' e' hH' r', fun _ _ z => z.elim, fun _ _ z => z.elim, fun c fs σ' h' q' ι' dx σV' H' e' _ hH' r' => q' ι' dx H' e' hH' r'⟩

end LL
end

section
set_option Elab.async false
set_option linter.all false
set_option maxRecDepth 100000
set_option maxHeartbeats 1000000
/-! LLKit: methods of lists, isinstance. -/
namespace LL
open PySem PySem.Spec PyProof.Rows L2
variable {X : Cx} {W : WX}

/-! ### methods of lists -/
abbrev LM := D → List D → LH → (D → LH → Prop) → Prop
structure MtS (K : Frag) (r : V → List V → Hp → VK → Prop) (op : LM) : Prop where
  mono : ∀ x ds h (Q Q' : D → LH → Prop), (∀ d h, Q d h → Q' d h) → op x ds h Q → op x ds h Q'
  run : ∀ ι H h x vx ds vs (Q : D → LH → Prop) (Qv : VK), RelH K ι H h → RelD K ι H x vx → RelDs K ι H ds vs → op x ds h Q →
    (∀ d h' ι' v H', Q d h' → Ext ι H ι' H' → RelH K ι' H' h' → RelD K ι' H' d v → Qv v H') → r vx vs H Qv
/-- o.m(..): o is a list -/
def eMt (op : LM) (o : LE) (A : LX (List D)) : LE := fun σ h Q E => o σ h (fun x h1 => (seqL x h1 fun _ => True) ∧ A σ h1 (fun ds h2 => op x ds h2 Q) E) E
section
variable {r : V → List V → Hp → VK → Prop} {op : LM} {o e : Expr} {es : List Expr} {O : LE} {A : LX (List D)} {name : Str} {id : String} {apos pos : Pos}
theorem mono_mt (hs : MtS X.K r op) (ho : Mono O) (ha : Mono A) : Mono (eMt op O A) := fun σ h Q Q' E E' hQ hE q => ho σ h _ _ _ _ (fun x h1 ⟨t, q1⟩ => ⟨t, ha σ h1 _ _ _ _ (fun ds h2 q2 => hs.mono x ds h2 _ _ hQ q2) hE q1⟩) hE q
theorem mt_run (hs : MtS X.K r op) (ho : Mono O) (ha : Mono A) {σV : L2.St} {H : Hp} {Q : VK} (q : tE X.K W (eMt op O A) σV H Q) : tBM X.K "list" r (tE X.K W O) (tA X.K W A) σV H Q := by
  obtain ⟨ι, σ, h, hS, hH, q⟩ := q
  refine tX.into ho hS hH q (fun x h1 ι1 vx H1 q1 e1 hH1 rx => ?_) (fun c fs h1 ι1 dx H1 q1 => q1 ι1 dx H1)
  obtain ⟨a, ds, vs, rfl, hl, _, _⟩ := seqL_run hH1 rx q1.1
  refine ⟨.inl ⟨rfl, vs, hl⟩, ?_⟩
  refine tX.into ha (hS.ext e1) hH1 q1.2 (fun ds h2 ι2 vs H2 q2 e2 hH2 rs => ?_) (fun c fs h2 ι2 dx H2 q2 e2 => q2 ι2 dx H2 (e1.trans e2))
  exact hs.run ι2 H2 h2 x _ ds vs _ _ hH2 (rx.ext e2) rs q2 fun d h' ι' v H' q' e' => q' ι' v H' (e1.trans (e2.trans e'))
theorem je_mt (hm : MtR X id r) (hs : MtS X.K r op) (slot : Slot "list" name id) (hty : typeOf (.builtin id) = pure (.type "method_descriptor")) (ho : JE X W o O) (ha : JA X W (e :: es) A)
    (h : ∀ {to : TE} {t : TA}, PE X o to → PA X (e :: es) t → PE X (.Call (.Attribute o name apos) (e :: es) [] pos) (tBM X.K "list" r to t)) : JE X W (.Call (.Attribute o name apos) (e :: es) [] pos) (eMt op O A) :=
  ⟨mono_mt hs ho.mono ha.mono, PE.weak (h ho.run ha.run) fun _ _ _ q => mt_run hs ho.mono ha.mono q⟩
theorem je_mt0 (hs : MtS X.K r op) (ho : JE X W o O) (h : ∀ {to : TE}, PE X o to → PE X (.Call (.Attribute o name apos) [] [] pos) (tBM0 X.K "list" r to)) : JE X W (.Call (.Attribute o name apos) [] [] pos) (eMt op O eNil) := by
  refine ⟨mono_mt hs ho.mono (ja_nil (X := X) (W := W)).mono, PE.weak (h ho.run) fun σV H Q ⟨ι, σ, h, hS, hH, q⟩ => ?_⟩
  refine tX.into ho.mono hS hH q (fun x h1 ι1 vx H1 q1 e1 hH1 rx => ?_) (fun c fs h1 ι1 dx H1 q1 => q1 ι1 dx H1)
  obtain ⟨a, ds, vs, rfl, hl, _, _⟩ := seqL_run hH1 rx q1.1
  exact ⟨.inl ⟨rfl, vs, hl⟩, hs.run ι1 H1 h1 x _ [] [] _ _ hH1 rx rfl q1.2 fun d h' ι' v H' q' e' => q' ι' v H' (e1.trans e')⟩
end
def mAppend : LM := fun x ds h Q => match x, ds with
  | .ref n, [y] => match h[n]? with
    | some (.lst xs) => xs.length < sizeLine ∧ Q .non (h.set n (.lst (xs ++ [y])))
    | _ => False
  | _, _ => False
theorem RelDs.snoc' {K : Frag} {ι : Ad} {H : Hp} {d : D} {v : V} {ds : List D} {vs : List V} (rs : RelDs K ι H ds vs) (r : RelD K ι H d v) : RelDs K ι H (ds ++ [d]) (vs ++ [v]) := rs.append ⟨v, [], rfl, r, rfl⟩
theorem msAppend {K : Frag} : MtS K rAppend mAppend := by
  refine ⟨fun x ds h Q Q' hQ q => ?_, fun ι H h x vx ds vs Q Qv hH rx rs q k => ?_⟩
  · unfold mAppend at *
    split at q
    · split at q
      · exact ⟨q.1, hQ _ _ q.2⟩
      · exact q.elim
    · exact q.elim
  · unfold mAppend at q
    split at q
    · split at q
      · rename_i ho
        obtain ⟨a, ha, rfl⟩ := rx
        obtain ⟨us, h1, ru⟩ := hH.lst ha ho
        obtain ⟨v, rfl, r⟩ := rs.one
        have mu : MutO (H a) := by rw [h1]; trivial
        have ex : Ext ι H ι (upd H a (.lst (us ++ [v]))) := Ext.write hH ha mu trivial
        exact ⟨a, us, v, rfl, rfl, h1, by rw [← ru.length]; exact q.1, k _ _ ι _ _ q.2 ex (hH.write (o := .lst (_ ++ [_])) ha mu ex ⟨_, upd_same, (ru.ext ex).snoc' (r.ext ex)⟩) rfl⟩
      · exact q.elim
    · exact q.elim
/-- pop() of the last item -/
def mPop : LM := fun x ds h Q => match x, ds with
  | .ref n, [] => match h[n]? with
    | some (.lst xs) => ∃ y, xs[xs.length - 1]? = some y ∧ Q y (h.set n (.lst xs.dropLast))
    | _ => False
  | _, _ => False
theorem RelDs.dropLast {K : Frag} {ι : Ad} {H : Hp} {ds : List D} {vs : List V} (rs : RelDs K ι H ds vs) : RelDs K ι H ds.dropLast vs.dropLast := by
  rw [List.dropLast_eq_take, List.dropLast_eq_take, ← rs.length]
  exact rs.take _
theorem msPop {K : Frag} : MtS K rPop mPop := by
  refine ⟨fun x ds h Q Q' hQ q => ?_, fun ι H h x vx ds vs Q Qv hH rx rs q k => ?_⟩
  · unfold mPop at *
    split at q
    · split at q
      · obtain ⟨y, e, q⟩ := q; exact ⟨y, e, hQ _ _ q⟩
      · exact q.elim
    · exact q.elim
  · unfold mPop at q
    split at q
    · split at q
      · rename_i ho
        obtain ⟨a, ha, rfl⟩ := rx
        obtain ⟨us, h1, ru⟩ := hH.lst ha ho
        obtain rfl : vs = [] := rs
        obtain ⟨y, e, q⟩ := q
        obtain ⟨v, hv, r⟩ := ru.get e
        have mu : MutO (H a) := by rw [h1]; trivial
        have ex : Ext ι H ι (upd H a (.lst us.dropLast)) := Ext.write hH ha mu trivial
        exact ⟨a, us, v, rfl, rfl, h1, by rw [← ru.length]; exact hv, k _ _ ι _ _ q ex (hH.write (o := .lst _) ha mu ex ⟨_, upd_same, (ru.ext ex).dropLast⟩) (r.ext ex)⟩
      · exact q.elim
    · exact q.elim

/-! ### isinstance -/
inductive Ty where
  | bt (s : String)
  | cl (C : Str)
deriving DecidableEq
def Ty.v (K : Frag) : Ty → Value
  | .bt s => .type s
  | .cl C => .ref (He.ga K C)
def tyD (d : D) (h : LH) : Option Ty := match d with
  | .non => some (.bt "NoneType")
  | .bl _ => some (.bt "bool")
  | .int _ => some (.bt "int")
  | .str _ => some (.bt "str")
  | .tup _ => some (.bt "tuple")
  | .lst _ => some (.bt "list")
  | .ob C _ _ => some (.cl C)
  | .ref n => match h[n]? with
    | some (.lst _) => some (.bt "list")
    | some (.ins C _) => some (.cl C)
    | _ => none
  | .dfn _ => none
  | .fn _ _ _ _ => none
  | .dct _ _ => some (.bt "dict")
  | .exc _ _ _ _ _ => none
/-- what isinstance asks of an own class -/
def insB (K : Frag) (C : Str) : Bool := decide (PySem.W.findIn K (.ref (He.ga K C)) "__class__" = some (some (.builtin "object.__class__"))) &&
  (decide (PySem.W.specialIn K (.builtin "object.__class__") "__get__" = some (some (.builtin "getset_descriptor.__get__"))) &&
  (decide (PySem.W.takesIn K (.builtin "object.__class__") = some true) && decide (PySem.W.mroIn K (He.ga K C) (.type "object") = some true)))
/-- an answer of isinstance(x, T), x of the type t -/
def isB (K : Frag) (T : Ty) (p : Ty × Bool) : Bool := decide (PySem.W.kitOne K (p.1.v K) (T.v K) = some p.2) && match p.1 with
  | .cl C => insB K C && (Fa.ok' K C)
  | .bt _ => true
where Fa.ok' (K : Frag) (C : Str) : Bool := (He.Fa.cls C).ok K
theorem tyX_tup {K : Frag} {H : Hp} {a : Addr} {xs : List V} (h : SqT K H a xs) : TyX K H (.ref a) (.type "tuple") := by
  rcases h with (h | ⟨o, h⟩) | ⟨o, its, n, h1, h2, _⟩
  · exact .base (.tup h)
  · exact .fTuple h
  · exact .kTuple h1 h2
theorem tyX_lst {K : Frag} {H : Hp} {a : Addr} {xs : List V} (h : SqL K H a xs) : TyX K H (.ref a) (.type "list") := by
  rcases h with (h | ⟨o, h⟩) | ⟨o, its, n, h1, h2, _⟩
  · exact .base (.lst h)
  · exact .base (.frz h)
  · exact .kList h1 h2
def eIsi (l : List (Ty × Bool)) (m : LE) : LE := fun σ h Q E => m σ h (fun d h1 => ∃ t b, tyD d h1 = some t ∧ l.lookup t = some b ∧ Q (.bl b) h1) E
theorem isi_run {K : Frag} {ι : Ad} {H : Hp} {h : LH} {d : D} {v : V} {T t : Ty} {b : Bool} (hH : RelH K ι H h) (r : RelD K ι H d v) (e : tyD d h = some t) (q : isB K T (t, b) = true) : TyX K H v (t.v K) ∧ PySem.W.kitOne K (t.v K) (T.v K) = some b := by
  unfold isB at q
  obtain ⟨q1, q2⟩ := He.ba q
  refine ⟨?_, of_decide_eq_true q1⟩
  have ins : ∀ {C : Str} {a dx : Addr} {fs : List (Str × V)}, t = .cl C → H a = some (.ins (He.ga K C) dx fs) → TyX K H (.ref a) (t.v K) := by
    rintro C a dx fs rfl h1
    obtain ⟨z1, z2⟩ := He.ba q2
    unfold insB at z1
    obtain ⟨y1, y2⟩ := He.ba z1
    obtain ⟨y3, y4⟩ := He.ba y2
    obtain ⟨y5, y6⟩ := He.ba y4
    exact .base (.ins h1 (He.cls_ok z2) (of_decide_eq_true y1) (of_decide_eq_true y3) (of_decide_eq_true y5) (of_decide_eq_true y6))
  unfold tyD at e
  split at e
  · cases e; obtain rfl : v = .non := r; exact .base .non
  · cases e; rename_i b; obtain rfl : v = .bl b := r; exact .base (.bl b)
  · cases e; rename_i i; obtain rfl : v = .int i := r; exact .base (.int i)
  · cases e; rename_i x; obtain rfl : v = .str x := r; exact .base (.str x)
  · cases e; obtain ⟨a, vs, rfl, h2, _⟩ := r; exact tyX_tup h2
  · cases e; obtain ⟨a, vs, rfl, h2, _⟩ := r; exact tyX_lst h2.sq
  · cases e; obtain ⟨a, dx, vs, rfl, _, h2, _, _⟩ := r; exact ins rfl h2
  · obtain ⟨a, ha, rfl⟩ := r
    split at e
    · rename_i ho; cases e; obtain ⟨vs, h1, _⟩ := hH.lst ha ho; exact .base (.lst h1)
    · rename_i ho; cases e; obtain ⟨dx, vs, h1, _⟩ := hH.ins ha ho; exact ins rfl h1
    · cases e
  · cases e
  · cases e
  · cases e; obtain ⟨a, vs, rfl, _, h2, _⟩ := r; exact .base (.dK h2)
  · cases e
theorem lookup_all {l : List (Ty × Bool)} {t : Ty} {b : Bool} {p : Ty × Bool → Bool} (e : l.lookup t = some b) (h : l.all p = true) : p (t, b) = true := by
  induction l with
  | nil => cases e
  | cons q l ih =>
    obtain ⟨t', b'⟩ := q
    rw [List.all_cons, Bool.and_eq_true] at h
    rw [List.lookup_cons] at e
    cases z : (t == t') with
    | true => rw [z] at e; cases e; rw [beq_iff_eq.mp z]; exact h.1
    | false => rw [z] at e; exact ih e h.2
/-- isinstance(e, T) -/
theorem je_isi {e : Expr} {m : LE} {T : Ty} {tv : V} {x : Str} {l : List (Ty × Bool)} {p p2 pos : Pos} (he : JE X W e m) (hT : PE X (.Name x p2) (tC tv)) (k : ClsV tv (T.v X.K)) (hl : l.all (isB X.K T) = true) (hm : X.mg "isinstance" = none) (hg : Gl X "isinstance" := by rfl)
    (h : ∀ {t : TA}, CallR X (.builtin "isinstance") (rIsi X.K) → Gl X "isinstance" → X.mg "isinstance" = none → PA X [e, .Name x p2] t → PE X (.Call (.Name "isinstance" p) [e, .Name x p2] [] pos) (tCB (rIsi X.K) t) := by exact fun a b c d => pe_callB a b c rfl d)
    (ha : ∀ {te tT : TE}, PE X e te → PE X (.Name x p2) tT → PA X [e, .Name x p2] (tCons te (tCons tT tNil)) := by exact fun a b => pa_cons a (pa_cons b pa_nil)) : JE X W (.Call (.Name "isinstance" p) [e, .Name x p2] [] pos) (eIsi l m) := by
  refine ⟨fun σ h Q Q' E E' hQ hE q => he.mono σ h _ _ _ _ (fun d h1 ⟨t, b, e1, e2, q1⟩ => ⟨t, b, e1, e2, hQ _ _ q1⟩) hE q, PE.weak (h call_isi hg hm (ha he.run hT)) fun σV H Q ⟨ι, σ, h, hS, hH, q⟩ => ?_⟩
  refine tX.into he.mono hS hH q (fun d h1 ι1 v H1 q1 e1 hH1 r => ?_) (fun c fs h1 ι1 dx H1 q1 => q1 ι1 dx H1)
  obtain ⟨t, b, e2, e3, q2⟩ := q1
  obtain ⟨z1, z2⟩ := isi_run hH1 r e2 (lookup_all e3 hl)
  exact ⟨v, tv, _, _, b, rfl, k, z1, z2, q2 ι1 _ H1 e1 hH1 rfl⟩
end LL
end

section
set_option Elab.async false
set_option linter.all false
set_option maxRecDepth 100000
set_option maxHeartbeats 1000000
/-! LLSort: sorted(xs, key=lambda x: ..), the key's body one of a few forms. -/
namespace LL
open PySem PySem.Spec PyProof.Rows L2
variable {X : Cx} {W : WX}

/-! ### a lambda of one parameter is called -/
/-- the code of a lambda of one parameter -/
structure Lam1 (x : Str) (scope : Scope) : Prop where
  kind : scope.kind = .function
  co : scope.isCoroutine = false
  gen : scope.isGenerator = false
  loc : scope.names.lookup x = some .local
  own : ∀ y ∈ scope.names, y.2 ≠ .cell
abbrev l1Env (q : Str) (scope : Scope) (L f c' : Addr) (cl : List (Str × Addr)) : Env := PySem.W.envX q scope L f (.ref c') cl
theorem lam1_call {prog : Program} {w : World} {A : Around} {E : Value → Shared → Prop} {s : Shared} {f c' : Addr} {x q : Str} {params : Arguments} {body : Expr} {scope : Scope} {cl : List (Str × Addr)} {pm ctv v : Value} {Q : Value → Shared → Prop} (S : Lam1 x scope) (hd : A.depth < recursionLimit)
    (hf : s.heap.get? f = some (PySem.W.kla_obj "<lambda>" q params body scope cl pm c' ctv)) (hc : ∃ (oc : Obj) (vs : Array Value) (t : Tok), s.heap.get? c' = some oc ∧ oc.data = .fields vs ∧ vs[1]? = some (.str q t)) (hl : s.heap.NoLimit)
    (hb : bindArgs (PySem.W.kla_fn "<lambda>" q params body scope cl pm (.ref c') ctv) ⟨[v], []⟩ = pure [(x, v)])
    (h : ∀ h₁ m, h₁.Ns s.heap.objs.size m → m x = some v → (∀ b o, s.heap.get? b = some o → h₁.get? b = some o) →
      wpAny (model prog w) (A.deeper (l1Env q scope s.heap.objs.size f c' cl)) (eval body (l1Env q scope s.heap.objs.size f c' cl)) Q (fun _ _ => False) { s with heap := h₁, toks := s.toks + 1 }) :
    wpAny (model prog w) A (call (.ref f) [v]) Q E s := by
  obtain ⟨oc, vs, t, h1, h2, h3⟩ := hc
  refine wpAny_call (PySem.W.kla_callFunE hd hf rfl S.co S.gen rfl ⟨c', oc, vs, t, rfl, h1, h2, h3⟩ ?_)
  rw [hb]
  refine wpAny_pure (wpAny_newFunctionEnv S.own (fun y hy => ?_) (fun h₁ hns hsb => ⟨hl.fresh _ hsb, ?_⟩) S.kind)
  · simp only [List.mem_singleton] at hy
    subst hy
    exact S.loc
  · refine PySem.W.kla_codeExpr (wpAny_mono (h h₁ _ hns (by simp) fun b o e => hsb.extBut b o (Nat.ne_of_lt (Heap.lt_size e)) (Heap.get?_push_of_some _ e)) (fun _ _ z => z) fun _ _ z => z.elim)

/-! ### the keys' bodies -/
/-- the body gives the key k of a tuple with these items -/
def KeyB (x : Str) (body : Expr) (key : List Value → PyData → Prop) : Prop := ∀ (prog : Program) (w : World) (A : Around) (E : Value → Shared → Prop) (s : Shared) (env : Env) (m : Str → Option Value) (t : Addr) (its : List Value) (k : PyData),
  env.scope.kind = .function → env.kindOf x = some .local → s.heap.Ns env.locals m → m x = some (.ref t) → IsTup s.heap t its.toArray → its.length ≤ sizeLine → key its k → wpAny (model prog w) A (eval body env) (PySem.W.KeyPure k s) E s
theorem ints_reads {h : Heap} : ∀ {us : List Value} {ns : List Int}, IntsAre us ns → ReadsAll h us (ns.map PyData.int) []
  | _, _, .nil => .nil
  | _, _, .cons n t r => .cons (as := []) (bs := []) (.int n t) (ints_reads r)
/-- x[:2] -/
theorem key_two {x : Str} {p1 p2 p3 p4 : Pos} {k1 : Nat} (hx : (x == ("__debug__" : Str)) = false) : KeyB x (.Subscript (.Name x p1) (.Slice none (some (.Constant (.int 2) k1 p2)) none p3) p4) fun its k => ∃ i j t u r, its = .int i t :: .int j u :: r ∧ r ≠ [] ∧ k = .tuple [.int i, .int j] := by
  rintro prog w A E s env m t its k hk hx2 hn hm ht hz ⟨i, j, ti, tj, r, rfl, hr, rfl⟩
  refine Subscript_ (wpAny_Name (wpAny_loadName_local hk hx2 hn hm ?_) hx)
  refine wpAny_Slice ?_
  rw [evalPart_none]
  refine wpAny_pure ?_
  rw [evalPart_some]
  refine wpAny_Constant_int (wpAny_pure ?_)
  obtain ⟨o, h1, h2, h3⟩ := ht
  have ht2 : IsTup (s.heap.push { cls := .type "slice", data := .fields #[.none, .int 2 s.toks, .none] }) t (.int i ti :: .int j tj :: r : List Value).toArray := ⟨o, Heap.get?_push_of_some _ h1, h2, h3⟩
  refine tail_any (ops := [.ref s.heap.objs.size, .ref t]) ⟨o, Heap.get?_push_of_some _ h1, h2⟩ slot_tuple_getitem.lookup ?_ (by with_unfolding_all rfl)
  have l : 2 < (.int i ti :: .int j tj :: r : List Value).length := by
    cases r with
    | nil => exact absurd rfl hr
    | cons => simp only [List.length_cons]; omega
  have e2 : HT.sIx (.int i ti :: .int j tj :: r : List Value).toArray.size (.int i ti :: .int j tj :: r : List Value).toArray.size (some 2) = 2 := by
    have := HT.sIx_nat (.int i ti :: .int j tj :: r : List Value).toArray.size (.int i ti :: .int j tj :: r : List Value).toArray.size 2
    rw [show (((2 : Nat) : Int)) = 2 from rfl] at this
    rw [this, List.size_toArray]
    omega
  refine HT.getItem_tuple_cut (lo := none) (hi := some 2) ht2 (Heap.IsSliceOf.new ..) .none (.int 2 _) ?_ ?_ (by simpa using hz)
  · rw [HT.sIx_none, e2, List.size_toArray]
    omega
  · rw [HT.sIx_none, e2]
    refine ⟨_, s.toks + 1, rfl, fun b o e => Heap.get?_push_of_some _ (Heap.get?_push_of_some _ e), ?_⟩
    exact Reads.tuple (Heap.get?_push_size _ rfl) rfl rfl (ints_reads (ns := [i, j]) (.cons i ti (.cons j tj .nil)))
/-- x[0] * 2 + x[1] -/
theorem key_sum {x : Str} {p1 p2 p3 p4 p5 p6 p7 p8 p9 : Pos} {k1 k2 k3 : Nat} (hx : (x == ("__debug__" : Str)) = false) :
    KeyB x (.BinOp (.BinOp (.Subscript (.Name x p1) (.Constant (.int 0) k1 p2) p3) .Mult (.Constant (.int 2) k2 p4) p5) .Add (.Subscript (.Name x p6) (.Constant (.int 1) k3 p7) p8) p9) fun its k => ∃ i j t u r, its = .int i t :: .int j u :: r ∧ CMul i 2 ∧ k = .int (i * 2 + j) := by
  rintro prog w A E s env m t its k hk hx2 hn hm ht hz ⟨i, j, ti, tj, r, rfl, hr, rfl⟩
  have item : ∀ (n : Int) (y : Value) (k : Nat) (p p' p'' : Pos) (tk : Nat) (Q : Value → Shared → Prop), seqIndex? n (.int i ti :: .int j tj :: r : List Value).toArray.size = some n.toNat → (.int i ti :: .int j tj :: r : List Value).toArray[n.toNat]? = some y → -(2 ^ 63) ≤ n → n < 2 ^ 63 →
      (∀ tk', Q y { s with toks := tk' }) → wpAny (model prog w) A (eval (.Subscript (.Name x p) (.Constant (.int n) k p') p'') env) Q E { s with toks := tk } := by
    intro n y k p p' p'' tk Q h1 h2 h3 h4 hq
    refine Subscript_ (wpAny_Name (wpAny_loadName_local hk hx2 hn hm ?_) hx)
    refine wpAny_Constant_int ?_
    obtain ⟨o, z1, z2, z3⟩ := ht
    exact tail_any (ops := [.ref t, .int n tk]) ⟨o, z1, z2⟩ slot_tuple_getitem.lookup (PyProof.Rows.getItem_tuple ⟨o, z1, z2, z3⟩ h3 h4 h1 h2 (hq _)) (by with_unfolding_all rfl)
  have l2 : 2 ≤ (.int i ti :: .int j tj :: r : List Value).toArray.size := by simp
  refine wpAny_BinOp (wpAny_BinOp (item 0 (.int i ti) k1 p1 p2 p3 s.toks _ (PySem.StrLaws.seqIndex_nonneg (by omega) (by omega)) rfl (by omega) (by omega) fun tk => ?_))
  refine wpAny_Constant_int (mul_int ?_ hr.ok)
  refine item 1 (.int j tj) k3 p6 p7 p8 _ _ (PySem.StrLaws.seqIndex_nonneg (by omega) (by omega)) rfl (by omega) (by omega) fun tk => ?_
  exact add_int ⟨s.heap, _, rfl, fun _ _ e => e, .int _ _⟩
/-! ### sorted(e, key=lambda x: ..) -/
theorem extN_sqT {K : Frag} {H H' : Hp} {a : Addr} {xs : List V} (e : LamX.ExtN H H') (h : SqT K H a xs) : SqT K H' a xs := by
  rcases h with (h | ⟨o, h⟩) | h
  · exact .inl (.inl (e a _ h (fun _ z => by cases z)))
  · exact .inl (.inr ⟨o, e a _ h (fun _ z => by cases z)⟩)
  · exact .inr h
theorem extN_sqL {K : Frag} {H H' : Hp} {a : Addr} {xs : List V} (e : LamX.ExtN H H') (h : SqL K H a xs) : SqL K H' a xs := by
  rcases h with (h | ⟨o, h⟩) | h
  · exact .inl (.inl (e a _ h (fun _ z => by cases z)))
  · exact .inl (.inr ⟨o, e a _ h (fun _ z => by cases z)⟩)
  · exact .inr h
theorem each_vals {α : Type} : ∀ {us : List Value} {bs : List (V × α)}, PySem.W.EachIs (fun u (b : V × α) => RelV b.1 u) us bs → Vals (bs.map (·.1)) us
  | _, _, .nil => .nil
  | _, _, .cons h r => .cons h (each_vals r)
theorem vals_each {α : Type} : ∀ {us : List Value} {bs : List (V × α)}, Vals (bs.map (·.1)) us → PySem.W.EachIs (fun u (b : V × α) => RelV b.1 u) us bs
  | us, [], r => by cases r; exact .nil
  | us, b :: bs, r => by cases r with | cons h r => exact .cons h (vals_each r)
/-- the tables that a lambda of this def needs -/
structure LamT (X : Cx) (T : List (Addr × Str)) (c P : Addr) : Prop where
  tb : LamX.TabB X.base X.mg c P
  code : X.env.code = .ref c
  mem : (P, X.env.qual ++ "<lambda>") ∈ T
  uni : ∀ p ∈ T, p.1 = P → p.2 = X.env.qual ++ "<lambda>"
def tSortK (K : Frag) (T : List (Addr × Str)) (key : List Value → PyData → Prop) (te : TE) : TE := fun σ H Q => te σ H fun x H1 => LamX.Tabs T H1 ∧ ∃ (a : Addr) (bs : List (V × PyData)), x = .ref a ∧ SqL K H1 a (bs.map (·.1)) ∧
  (∀ b ∈ bs, ∃ a xs, b.1 = .ref a ∧ SqT K H1 a xs ∧ ∀ us, Vals xs us → key us b.2) ∧ PySem.W.AllAlike (bs.map (·.2)) ∧ PySem.W.Sortable (bs.map (·.2)) ∧ (∀ b ∈ bs, b.2.depth ≤ 4) ∧
  ∀ H2, LamX.ExtN H1 H2 → LamX.Tabs T H2 → ∀ p, H2 p = none → Q (.ref p) (upd H2 p (.lst ((bs.mergeSort (PySem.W.dataLe false (·.2))).map (·.1))))
theorem pe_sortK {e : Expr} {te : TE} {p pos lpos kpos : Pos} {params : Arguments} {body : Expr} {scope : Scope} {x : Str} {T : List (Addr × Str)} {c P : Addr} {k : Nat} {key : List Value → PyData → Prop} (he : PE X e te) (hr : RoomG k X.A) (L : LamT X T c P) (S : Lam1 x scope) (hb : KeyB x body key)
    (hbind : ∀ (q : Str) (cl : List (Str × Addr)) (pm cv ctv v : Value), bindArgs (PySem.W.kla_fn "<lambda>" q params body scope cl pm cv ctv) ⟨[v], []⟩ = pure [(x, v)])
    (hm : X.mg "sorted" = none) (hfree : ∀ y ∈ scope.names, y.2 ≠ .free) (hdef : defaultsOf params X.env = ([], [])) (hg : Gl X "sorted") (hs : backTo pos (starEach [e] X.env) = (false, eval e X.env) :: backTo pos (starEach [] X.env)) (hpl : (backTo pos (starEach [e] X.env)).any (·.1) = false)
    (hkw : ((backToKw pos (keywordEach [⟨some "key", .Lambda params body scope lpos, kpos⟩] X.env)).map (·.2)) = [do let v ← eval (.Lambda params body scope lpos) X.env; standAt pos; pure v]) (hkn : (backToKw pos (keywordEach [⟨some "key", .Lambda params body scope lpos, kpos⟩] X.env)).filterMap (·.1) = [Str.ofString "key"])
    (hall : (backToKw pos (keywordEach [⟨some "key", .Lambda params body scope lpos, kpos⟩] X.env)).all (·.1.isSome) = true) (hnone : (backToKw pos (keywordEach [⟨some "key", .Lambda params body scope lpos, kpos⟩] X.env)).any (·.1.isNone) = false) :
    PE X (.Call (.Name "sorted" p) [e] [⟨some "key", .Lambda params body scope lpos, kpos⟩] pos) (tSortK X.K T key te) := by
  refine ⟨fun pins s σ H Q I h => wpAny_Call_Name_kw (ld_blt I hg hm PyProof.Rows.boot_sorted (PyProof.Rows.callWith_kw (rest := []) ?_ hs hpl hall hnone))⟩
  rw [hs, hkw, hkn]
  refine Calls.spliced_cons (thn (he.run pins s σ H _ I h) fun u s1 ⟨v, H1, I1, r1, hT, a, bs, ev, hl, hk, al, so, dp, q⟩ => Calls.spliced_nil ?_)
  subst ev
  obtain rfl : u = Value.ref a := r1
  show wpAny _ _ ((do let v ← eval (.Lambda params body scope lpos) X.env; standAt pos; pure v) >>= _) _ _ _
  refine wpAny_bind (wpAny_bind (LamX.lam_make2 I1 L.tb L.code L.mem L.uni hT hdef (fun y hy e => absurd e (hfree y hy)) fun f c' pm ctv H2 s2 I2 eN T2 hf hfn hfr hc => wpAny_bind (wpAny_standAt (wpAny_pure ?_))))
  show wpAny _ _ (evalAll [] >>= _) _ _ _
  refine wpAny_bind (wpAny_pure (wpAny_pure ?_))
  obtain ⟨its, rv, pl, hz⟩ := I2.list (extN_sqL eN hl)
  have hlen : bs.length ≤ sizeLine := by simpa using hz
  have hd : X.A.in1.in1.depth < recursionLimit := hr.r.depth
  obtain ⟨⟨oc, vs, t, hoc, hdc, hvc⟩, _, _⟩ := I2.hok c' _ hc
  refine PySem.W.sorted_key_data (b := false) (fun b : V × PyData => b.2) pl.isList (vals_each rv) al so hlen (fun b hb => ?_) (ksk_s1 _ _) (fun _ => ksk_l1 _ _) (fun _ => ksk_t1 _ _) (fun u b ru hb' g tk kp => ?_) (fun out c2 h' tk kp fr hD ln eo => ?_)
  · have := hr.r.units
    have := dp b hb
    omega
  · obtain ⟨a', xs, e1, hq, hkey⟩ := hk b hb'
    rw [e1] at ru
    obtain rfl : u = Value.ref a' := ru
    obtain ⟨its', rv', ⟨o', g1, g2, g3⟩, hz'⟩ := I2.tuple (extN_sqT eN hq)
    have lim : g.NoLimit := I2.nolimit.keeps kp
    refine lam1_call S hd (kp _ _ hf) ⟨oc, vs, t, kp _ _ hoc, hdc, hvc⟩ lim (hbind _ _ _ _ _ _) fun h₁ m hns hm' kp1 => ?_
    have hl1 : (l1Env (X.env.qual ++ "<lambda>") scope g.objs.size f c' (cloFrom X.env.cells scope.names [])).kindOf x = some .local := S.loc
    refine wpAny_mono (hb _ _ _ (fun _ _ => False) _ _ m a' its' b.2 S.kind hl1 hns hm' ⟨o', kp1 _ _ (kp _ _ g1), g2, g3⟩ (by rw [← rv'.length]; exact hz') (hkey its' rv')) (fun u s3 hkp => ?_) fun _ _ z => z
    obtain ⟨h3, tk3, rfl, k3, r3⟩ := hkp
    exact ⟨h3, tk3, rfl, fun b o e => k3 b o (kp1 b o e), r3⟩
  · have vo := each_vals eo
    have lo : ((bs.mergeSort (PySem.W.dataLe false (·.2))).map (·.1)).length ≤ sizeLine := by simpa using hlen
    refine ⟨.ref (s2.heap.objs.size + 1), _, I2.laid (t' := tk) (o := .lst ((bs.mergeSort (PySem.W.dataLe false (·.2))).map (·.1))) kp (Nat.le_succ _) ⟨lo, out, c2, vo, hD⟩, rfl, q H2 eN T2 _ (I2.hok.fresh (Nat.le_succ _))⟩
/-! ### .. in logical words -/
/-- the first two items of a tuple, if they are ints and one more follows -/
def k2 (d : D) : Int × Int := match d with
  | .tup (.int i :: .int j :: _ :: _) => (i, j)
  | _ => (0, 0)
def is2 (d : D) : Bool := match d with
  | .tup (.int _ :: .int _ :: _ :: _) => true
  | _ => false
def le2 (a b : D) : Bool := decide ((k2 a).1 < (k2 b).1 ∨ ((k2 a).1 = (k2 b).1 ∧ (k2 a).2 ≤ (k2 b).2))
def leS (a b : D) : Bool := decide ((k2 a).1 * 2 + (k2 a).2 ≤ (k2 b).1 * 2 + (k2 b).2)
/-- sorted by the two -/
def eSort2 (m : LE) : LE := fun σ h Q E => m σ h (fun d h1 => seqL d h1 fun ds => ds.all is2 = true ∧ Q (.lst (ds.mergeSort le2)) h1) E
def eSortS (m : LE) : LE := fun σ h Q E => m σ h (fun d h1 => seqL d h1 fun ds => ds.all is2 = true ∧ (∀ d ∈ ds, CMul (k2 d).1 2) ∧ Q (.lst (ds.mergeSort leS)) h1) E
theorem is2_rel {K : Frag} {ι : Ad} {H : Hp} {d : D} {v : V} (r : RelD K ι H d v) (h : is2 d = true) : ∃ a xs, v = .ref a ∧ SqT K H a xs ∧ ∀ us, Vals xs us → ∃ t u rr, us = .int (k2 d).1 t :: .int (k2 d).2 u :: rr ∧ rr ≠ [] := by
  unfold is2 at h
  split at h
  · rename_i i j x r'
    obtain ⟨a, xs, rfl, hq, v1, w1, rfl, e1, v2, w2, rfl, e2, v3, w3, rfl, e3, _⟩ := r
    obtain rfl : v1 = .int i := e1
    obtain rfl : v2 = .int j := e2
    refine ⟨a, _, rfl, hq, fun us r => ?_⟩
    cases r with
    | cons r1 r =>
      cases r with
      | cons r2 r =>
        cases r with
        | cons r3 r =>
          obtain ⟨t, rfl⟩ := r1
          obtain ⟨u, rfl⟩ := r2
          exact ⟨t, u, _, rfl, by simp⟩
  · cases h
theorem rels_zip {K : Frag} {ι : Ad} {H : Hp} : ∀ {ds : List D} {vs : List V}, RelDs K ι H ds vs → ∃ T : List (V × D), T.map (·.1) = vs ∧ T.map (·.2) = ds ∧ ∀ p ∈ T, RelD K ι H p.2 p.1
  | [], vs, h => by obtain rfl : vs = [] := h; exact ⟨[], rfl, rfl, by simp⟩
  | d :: ds, _, ⟨v, r, h1, h2, h3⟩ => by
    obtain ⟨T, e1, e2, q⟩ := rels_zip h3
    subst h1 e1 e2
    refine ⟨(v, d) :: T, rfl, rfl, fun p hp => ?_⟩
    rcases List.mem_cons.mp hp with rfl | hp
    · exact h2
    · exact q p hp
theorem rels_of {K : Frag} {ι : Ad} {H : Hp} : ∀ {T : List (V × D)}, (∀ p ∈ T, RelD K ι H p.2 p.1) → RelDs K ι H (T.map (·.2)) (T.map (·.1))
  | [], _ => rfl
  | p :: T, h => ⟨p.1, T.map (·.1), rfl, h p (by simp), rels_of fun q hq => h q (by simp [hq])⟩
/-- a later moment, where a lambda is made and a list is laid -/
theorem Ext.nt {K : Frag} {ι : Ad} {H H' : Hp} {h : LH} (e : LamX.ExtN H H') : Ext ι H ι H' := by
  refine ⟨⟨[], by simp, fun _ z => by cases z⟩, fun _ h => h, fun _ h => .inl h, rfl, fun a o q _ t => e a o q t, fun a xs q => e a _ q (fun _ z => by cases z), fun a o u q => e a _ q (fun _ z => by cases z), fun a f q => e a _ q (fun _ z => by cases z), fun a ⟨o, q, t⟩ => ⟨o, e a o q t, t⟩⟩
theorem RelH.nt {K : Frag} {ι : Ad} {H H' : Hp} {h : LH} (hH : RelH K ι H h) (e : LamX.ExtN H H') (t : LamX.Tabs (tabsK K) H') : RelH K ι H' h := by
  have ex : Ext ι H ι H' := Ext.nt (K := K) (h := h) e
  refine ⟨hH.len, hH.inj, fun a m => ex.there a (hH.live a m), fun a m => ex.there a (hH.liveR a m), hH.disj, t, fun n o q g => ?_⟩
  obtain ⟨a, e1, r⟩ := hH.obj n o q g
  refine ⟨a, e1, ?_⟩
  cases o with
  | lst ds => obtain ⟨vs, h1, h2⟩ := r; exact ⟨vs, e a _ h1 (fun _ z => by cases z), h2.ext ex⟩
  | ins C fs => obtain ⟨dx, vs, h1, h2⟩ := r; exact ⟨dx, vs, e a _ h1 (fun _ z => by cases z), h2.ext ex⟩
  | gone => trivial
/-- the sorting of the items by their keys -/
theorem sort_run {K : Frag} {key : List Value → PyData → Prop} {kf : D → PyData} {le : D → D → Bool} {ok : D → Prop} (hk : ∀ ι H d v, RelD K ι H d v → is2 d = true → ok d → ∃ a xs, v = .ref a ∧ SqT K H a xs ∧ ∀ us, Vals xs us → key us (kf d)) (hal : ∀ ds : List D, PySem.W.AllAlike (ds.map kf)) (hso : ∀ ds : List D, PySem.W.Sortable (ds.map kf))
    (hd : ∀ d, (kf d).depth ≤ 4) (hle : ∀ a b : D, PySem.W.dataLe false kf a b = le a b) {m : LE} (hm : Mono m) {σV : L2.St} {H : Hp} {Qv : VK} {Q0 : LV → LH → (D → LH → Prop) → XL → Prop}
    (q : tE K W (fun σ h Q E => m σ h (fun d h1 => seqL d h1 fun ds => ds.all is2 = true ∧ (∀ d ∈ ds, ok d) ∧ Q (.lst (ds.mergeSort le)) h1) E) σV H Qv) : tSortK K (tabsK K) key (tE K W m) σV H Qv := by
  obtain ⟨ι, σ, h, hS, hH, q⟩ := q
  refine tX.into hm hS hH q (fun d h1 ι1 v H1 q1 e1 hH1 r => ⟨hH1.tabs, ?_⟩) (fun c fs h1 ι1 dx H1 q1 => q1 ι1 dx H1)
  obtain ⟨a, ds, vs, rfl, hl, rs, h2, h3, q2⟩ := seqL_run hH1 r q1
  obtain ⟨T, rfl, rfl, hT⟩ := rels_zip rs
  have e2 : (T.map fun p => (p.1, kf p.2)).map (·.1) = T.map (·.1) := by simp
  have e3 : (T.map fun p => (p.1, kf p.2)).map (·.2) = (T.map (·.2)).map kf := by simp
  refine ⟨a, T.map fun p => (p.1, kf p.2), rfl, by rw [e2]; exact hl, fun b hb => ?_, by rw [e3]; exact hal _, by rw [e3]; exact hso _, fun b hb => ?_, fun H2 eN tN p hp => ?_⟩
  · obtain ⟨z, hz, rfl⟩ := List.mem_map.mp hb
    have hm2 : z.2 ∈ T.map (·.2) := List.mem_map.mpr ⟨z, hz, rfl⟩
    exact hk _ _ _ _ (hT z hz) (List.all_eq_true.mp h2 _ hm2) (h3 _ hm2)
  · obtain ⟨z, hz, rfl⟩ := List.mem_map.mp hb
    exact hd _
  · have s1 : (T.map fun p => (p.1, kf p.2)).mergeSort (PySem.W.dataLe false (·.2)) = (T.mergeSort fun a b => le a.2 b.2).map fun p => (p.1, kf p.2) := by
      rw [List.map_mergeSort]
      intro x _ y _
      exact (hle x.2 y.2).symm
    have s2 : (T.map (·.2)).mergeSort le = (T.mergeSort fun a b => le a.2 b.2).map (·.2) := by
      rw [List.map_mergeSort]
      intro x _ y _
      rfl
    have e4 : ((T.mergeSort fun a b => le a.2 b.2).map fun p => (p.1, kf p.2)).map (·.1) = (T.mergeSort fun a b => le a.2 b.2).map (·.1) := by simp
    rw [s1, e4]
    rw [s2] at q2
    have ex1 : Ext ι1 H1 ι1 H2 := Ext.nt (K := K) (h := h1) eN
    have hH2 := hH1.nt eN tN
    have ex2 : Ext ι1 H2 ι1 (upd H2 p (.lst ((T.mergeSort fun a b => le a.2 b.2).map (·.1)))) := Ext.new hp
    refine q2 ι1 _ _ (e1.trans (ex1.trans ex2)) (hH2.new hp) ⟨p, _, rfl, .inl ⟨upd_same, hH2.notNew hp⟩, rels_of fun z hz => ?_⟩
    exact (hT z ((List.mergeSort_perm _ _).mem_iff.mp hz)).ext (ex1.trans ex2)
theorem mono_sort2 {m : LE} (hm : Mono m) : Mono (eSort2 m) := fun σ h Q Q' E E' hQ hE q => hm σ h _ _ _ _ (fun d h1 q1 => seqL_mono (fun ds q => ⟨q.1, hQ _ _ q.2⟩) q1) hE q
theorem mono_sortS {m : LE} (hm : Mono m) : Mono (eSortS m) := fun σ h Q Q' E E' hQ hE q => hm σ h _ _ _ _ (fun d h1 q1 => seqL_mono (fun ds q => ⟨q.1, q.2.1, hQ _ _ q.2.2⟩) q1) hE q
abbrev kf2 (d : D) : PyData := .tuple [.int (k2 d).1, .int (k2 d).2]
abbrev kfS (d : D) : PyData := .int ((k2 d).1 * 2 + (k2 d).2)
section
variable {e : Expr} {m : LE} {p pos lpos kpos p1 p2 p3 p4 p5 p6 p7 p8 p9 : Pos} {i1 i2 i3 : Nat} {params : Arguments} {scope : Scope} {x : Str} {c P : Addr} {k : Nat}
theorem je_sort2 (he : JE X W e m) (h : ∀ {te : TE}, PE X e te → PE X (.Call (.Name "sorted" p) [e] [⟨some "key", .Lambda params (.Subscript (.Name x p1) (.Slice none (some (.Constant (.int 2) i1 p2)) none p3) p4) scope lpos, kpos⟩] pos)
      (tSortK X.K (tabsK X.K) (fun its k => ∃ i j t u r, its = .int i t :: .int j u :: r ∧ r ≠ [] ∧ k = .tuple [.int i, .int j]) te)) :
    JE X W (.Call (.Name "sorted" p) [e] [⟨some "key", .Lambda params (.Subscript (.Name x p1) (.Slice none (some (.Constant (.int 2) i1 p2)) none p3) p4) scope lpos, kpos⟩] pos) (eSort2 m) := by
  refine ⟨mono_sort2 he.mono, PE.weak (h he.run) fun σV H Q q => sort_run (kf := kf2) (le := le2) (ok := fun _ => True) (fun ι H d v r i _ => ?_) (fun ds => PySem.W.AllAlike.of fun _ _ => by simp [PySem.W.alike, PySem.W.alikeAll]) (fun ds => PySem.W.Sortable.tuples fun _ => ⟨_, _, rfl⟩) (fun d => by simp [PyData.depth, PyData.depthAll]) (fun a b => ?_) he.mono (Q0 := fun _ _ _ _ => True) ?_⟩
  · obtain ⟨a, xs, e1, e2, e3⟩ := is2_rel r i
    refine ⟨a, xs, e1, e2, fun us hv => ?_⟩
    obtain ⟨t, u, rr, e4, e5⟩ := e3 us hv
    exact ⟨_, _, t, u, rr, e4, e5, rfl⟩
  · exact congrFun (congrFun (PySem.W.dataLe_ii (fun d => (k2 d).1) (fun d => (k2 d).2)) a) b
  · obtain ⟨ι, σ, h, hS, hH, q⟩ := q
    exact ⟨ι, σ, h, hS, hH, he.mono σ h _ _ _ _ (fun d h1 q1 => seqL_mono (fun ds q => ⟨q.1, fun _ _ => trivial, q.2⟩) q1) (fun _ _ _ q => q) q⟩
theorem je_sortS (he : JE X W e m) (h : ∀ {te : TE}, PE X e te → PE X (.Call (.Name "sorted" p) [e] [⟨some "key", .Lambda params (.BinOp (.BinOp (.Subscript (.Name x p1) (.Constant (.int 0) i1 p2) p3) .Mult (.Constant (.int 2) i2 p4) p5) .Add (.Subscript (.Name x p6) (.Constant (.int 1) i3 p7) p8) p9) scope lpos, kpos⟩] pos)
      (tSortK X.K (tabsK X.K) (fun its k => ∃ i j t u r, its = .int i t :: .int j u :: r ∧ CMul i 2 ∧ k = .int (i * 2 + j)) te)) :
    JE X W (.Call (.Name "sorted" p) [e] [⟨some "key", .Lambda params (.BinOp (.BinOp (.Subscript (.Name x p1) (.Constant (.int 0) i1 p2) p3) .Mult (.Constant (.int 2) i2 p4) p5) .Add (.Subscript (.Name x p6) (.Constant (.int 1) i3 p7) p8) p9) scope lpos, kpos⟩] pos) (eSortS m) := by
  refine ⟨mono_sortS he.mono, PE.weak (h he.run) fun σV H Q q => sort_run (kf := kfS) (le := leS) (ok := fun d => CMul (k2 d).1 2) (fun ι H d v r i hc => ?_) (fun ds => PySem.W.AllAlike.of fun _ _ => by simp [PySem.W.alike]) (fun ds => ?_) (fun d => by simp [PyData.depth]) (fun a b => ?_) he.mono (Q0 := fun _ _ _ _ => True) q⟩
  · obtain ⟨a, xs, e1, e2, e3⟩ := is2_rel r i
    refine ⟨a, xs, e1, e2, fun us hv => ?_⟩
    obtain ⟨t, u, rr, e4, e5⟩ := e3 us hv
    exact ⟨_, _, t, u, rr, e4, hc, rfl⟩
  · exact PySem.W.Sortable.others fun _ => ⟨by simp, by simp⟩
  · exact congrFun (congrFun (PySem.W.dataLe_int (fun d => (k2 d).1 * 2 + (k2 d).2)) a) b
end
end LL
end

section
set_option Elab.async false
set_option linter.all false
set_option maxRecDepth 100000
set_option maxHeartbeats 1000000
/-! LLEnd: the law is called at the top; the head's Hook. -/
namespace LL
open PySem PySem.Spec PyProof.Rows L2

/-! ### the call at the top -/
section
variable {P : Program} {w : World} {K : Frag} {mg mb : Str → Option Value} {k : Nat} {fa a : Addr} {cs : List (Addr × Addr)} {G : LSp} {s1 : Shared} {vs : List Value} {ns : List Int}
/-- what is tracked at the start: the script (if the written part does not hold it), the tables -/
def H0 (K : Frag) (a : Addr) (vs : List Value) (ns : List Int) (tb : List Addr) : Hp := fun b =>
  if b = a then (match K.lookup a with | none => some (.frz { cls := .type "list", data := .seq vs.toArray } (.lst (ns.map V.int))) | some _ => none) else if b ∈ tb then some (.tbl #[]) else none
abbrev emptyT : Obj := { cls := .none, data := .fields #[] }
abbrev scriptO (vs : List Value) : Obj := { cls := .type "list", data := .seq vs.toArray }
/-- the facts of the heap behind the top -/
structure TopH (K : Frag) (mg mb : Str → Option Value) (cs : List (Addr × Addr)) (a : Addr) (vs : List Value) (s1 : Shared) : Prop where
  kin : K.In s1.heap
  ns : s1.heap.Ns mainGlobals mg
  nb : s1.heap.Ns builtinsNs mb
  bb : ∀ x : Str, x ≠ "__name__" → mb x = bootBuiltins x
  lim : s1.heap.NoLimit
  gens : s1.gens = #[]
  tab : ∀ p ∈ cs, s1.heap.get? p.2 = some emptyT
  out : ∀ p ∈ cs, K.lookup p.2 = none
  cod : ∀ p ∈ cs, PySem.W.CodeHd s1.heap p.1 p.2
  bm : ∃ (bm : Addr) (ob : Obj), mg "__builtins__" = some (.ref bm) ∧ bm ≠ builtinsNs ∧ s1.heap.get? bm = some ob ∧ ob.cls = .type "module" ∧ ob.dict = some builtinsNs ∧ ob.data = .plain
  scr : s1.heap.get? a = some (scriptO vs)
theorem cx_none {H : Hp} {e : Value} {s s' : Shared} (h : L2N.CX P w [] H s (fun _ _ _ => False) e s') : False := by
  obtain ⟨_, _, _, _, _, _, _, _, _, _, _, _, z⟩ := h
  exact z
section
variable (T : TopH K mg mb cs a vs s1)
include T
theorem TopH.tabAt {b : Addr} (h : b ∈ cs.map (·.2)) : s1.heap.get? b = some emptyT := by
  obtain ⟨p, hp, rfl⟩ := List.mem_map.mp h
  exact T.tab p hp
theorem TopH.aNo : a ∉ cs.map (·.2) := fun z => by
  have := T.tabAt z
  rw [T.scr] at this
  exact nomatch congrArg Obj.data (Option.some.inj this)
/-- an object that is no list and no table is not tracked -/
theorem TopH.free {b : Addr} {o : Obj} (e : s1.heap.get? b = some o) (n1 : o ≠ scriptO vs) (n2 : o ≠ emptyT) : H0 K a vs ns (cs.map (·.2)) b = none := by
  unfold H0
  split
  · rename_i z
    subst z
    rw [T.scr] at e
    exact absurd (Option.some.inj e).symm n1
  · split
    · rename_i z
      rw [T.tabAt z] at e
      exact absurd (Option.some.inj e).symm n2
    · rfl
theorem TopH.kfree {b : Addr} {o : Obj} (e : K.lookup b = some o) : H0 K a vs ns (cs.map (·.2)) b = none := by
  unfold H0
  split
  · rename_i z
    subst z
    rw [e]
  · split
    · rename_i z
      obtain ⟨p, hp, rfl⟩ := List.mem_map.mp z
      rw [T.out p hp] at e; cases e
    · rfl
theorem TopH.ok (hi : IntsAre vs ns) (hl : ns.length ≤ sizeLine) : HOk P w (H0 K a vs ns (cs.map (·.2))) s1.heap := by
  intro b u e
  unfold H0 at e
  split at e
  · rename_i z
    subst z
    split at e
    · cases e
      exact ⟨T.scr, by rw [List.length_map]; exact hl, vs, _, vals_ints hi, T.scr⟩
    · cases e
  · split at e
    · cases e
      exact T.tabAt ‹_›
    · cases e
theorem TopH.nsK {b : Addr} {m : Str → Option Value} (h : s1.heap.Ns b m) : (hidT s1.heap (H0 K a vs ns (cs.map (·.2)))).Ns b m := by
  obtain ⟨o, es, ep, e, d, r⟩ := h
  exact ⟨o, es, ep, hidT_get e (T.free e (by rintro rfl; cases d) (by rintro rfl; cases d)), d, r⟩
theorem TopH.kB : K.In (hidT s1.heap (H0 K a vs ns (cs.map (·.2)))) := fun b o e => hidT_get (T.kin b o e) (T.kfree e)
theorem TopH.tabB : ∀ p ∈ cs, LamX.TabB (hidT s1.heap (H0 K a vs ns (cs.map (·.2)))) mg p.1 p.2 := fun p hp => by
  have ne : ∀ {b : Addr} {o : Obj}, s1.heap.get? b = some o → o ≠ emptyT → b ≠ p.2 := fun e n z => n (by rw [z, T.tab p hp] at e; exact (Option.some.inj e).symm)
  refine ⟨?_, ?_, fun z => ?_⟩
  · obtain ⟨o, us, file, tf, flags, tg, inF, text, tt, e1, r1, r2, r3, r4, r5, r6, r7, r8, hne⟩ := T.cod p hp
    exact ⟨o, us, file, tf, flags, tg, inF, text, tt, hidT_get e1 (T.free e1 (by rintro rfl; cases r2) (by rintro rfl; cases r2; simp at r3)), r1, r2, r3, r4, r5, r6, r7, r8, hne⟩
  · obtain ⟨bm, ob, b1, b2, b3, b4, b5, b6⟩ := T.bm
    refine ⟨bm, ob, b1, b2, fun q => ?_, ne b3 (by rintro rfl; cases b6), hidT_get b3 (T.free b3 (by rintro rfl; cases b6) (by rintro rfl; cases b6)), b4, b5, b6⟩
    obtain ⟨o, es, ep, e, d, _⟩ := T.ns
    rw [q, e] at b3
    cases b3
    rw [d] at b6
    cases b6
  · obtain ⟨o, es, ep, e, d, _⟩ := T.ns
    exact ne e (by rintro rfl; cases d) z
theorem TopH.call (hi : IntsAre vs ns) (hl : ns.length ≤ sizeLine) (hr : RoomG k callerA) (F : ∀ base : Heap, K.In base → base.Ns mainGlobals mg → (∀ p ∈ cs, LamX.TabB base mg p.1 p.2) → Keeps P w K mg base k fa 1 G)
    (hsp : ∀ H : Hp, (∀ p ∈ cs, H p.2 = some (.tbl #[])) → LstX K H a (ns.map V.int) → spV K 1 G [.ref a] H (fun v _ => v = .bl true) fun _ _ _ => False) :
    codeAny (model P w) callerA (.call (.ref fa) ⟨[.ref a], []⟩) (fun r s' => r = .ok (.ret (.bool true)) ∧ OldK s1.heap s'.heap ∧ s'.os = s1.os ∧ AllBare s'.gens) s1 := by
  have hH : ∀ p ∈ cs, H0 K a vs ns (cs.map (·.2)) p.2 = some (.tbl #[]) := fun p hp => by
    have m : p.2 ∈ cs.map (·.2) := List.mem_map.mpr ⟨p, hp, rfl⟩
    unfold H0
    rw [if_neg (fun z => T.aNo (by rw [← z]; exact m)), if_pos m]
  have hS : LstX K (H0 K a vs ns (cs.map (·.2))) a (ns.map V.int) := by
    cases q : K.lookup a with
    | none => exact .inr (.inl ⟨_, by unfold H0; rw [if_pos rfl, q]⟩)
    | some o =>
      have := T.kin a o q
      rw [T.scr] at this
      cases this
      exact .inr (.inr ⟨vs, _, q, by rw [List.length_map]; exact hl, vals_ints hi⟩)
  have e0 : Env0 P w K mg (hidT s1.heap (H0 K a vs ns (cs.map (·.2)))) callerA [] s1 (H0 K a vs ns (cs.map (·.2))) :=
    ⟨rfl, ⟨T.kB, T.nsK T.ns, ⟨mb, T.nsK T.nb, T.bb⟩, let ⟨mc, h1, h2⟩ := T.lim; ⟨mc, T.nsK h1, h2⟩⟩, fun b o e => of_hidT e, Nat.le_of_eq (hidT_size _ _), trivial, fun b hb => absurd (show b ∈ ([] : List Addr) from hb) (by simp), T.ok hi hl, .of_eq T.gens⟩
  obtain ⟨hG, fd, ps, hn, Fg, hb⟩ := F _ T.kB (T.nsK T.ns) T.tabB
  have b1 : BindsTo s1 fd ⟨[.ref a], []⟩ (ps.zip ([Value.ref a] ++ [])) := hb s1 [.ref a] T.kin (by rw [hn]; rfl)
  refine codeAny_mono (Fg.run callerA [] s1 _ ⟨[.ref a], []⟩ ([Value.ref a] ++ []) [V.ref a] _ _ hr e0 b1 (.cons (show RelV (V.ref a) (Value.ref a) from rfl) .nil) (hsp _ hH hS)) fun r s' h => ?_
  match r, h with
  | .error e, h => exact (cx_none (show L2N.CX P w [] _ s1 _ e s' from h)).elim
  | .ok .next, h => exact h.elim
  | .ok .brk, h => exact h.elim
  | .ok .cont, h => exact h.elim
  | .ok (.ret u), ⟨v, H', os, bare, un, hok', r', q⟩ =>
    obtain rfl : v = .bl true := q
    obtain rfl : u = Value.bool true := r'
    have old : ∀ b o, b ∉ cs.map (·.2) → s1.heap.get? b = some o → s'.heap.get? b = some o := fun b o nb e => by
      cases q : H0 K a vs ns (cs.map (·.2)) b with
      | none => exact un.keep b o e q (by intro z; exact absurd (show b ∈ ([] : List Addr) from z) (by simp)) (by simp)
      | some u =>
        have z := q
        unfold H0 at z
        split at z
        · rename_i zz
          subst zz
          split at z
          · cases z
            obtain ⟨e1, _⟩ := hok' b _ (un.frzs b _ _ q)
            rw [T.scr] at e
            rw [← Option.some.inj e]
            exact e1
          · cases z
        · first | cases z | (rw [if_neg nb] at z; cases z)
    have grown : ∀ p ∈ cs, ∃ more : Array Value, s'.heap.get? p.2 = some { cls := .none, data := .fields more } := fun p hp =>
      let ⟨more, z⟩ := un.tbls p.2 #[] (hH p hp)
      ⟨_, hok' p.2 _ z⟩
    refine ⟨rfl, ⟨fun b o e => ?_, fun b o e => ?_⟩, os, bare⟩
    · by_cases hb : b ∈ cs.map (·.2)
      · obtain ⟨p, hp, rfl⟩ := List.mem_map.mp hb
        obtain ⟨more, hm⟩ := grown p hp
        rw [T.tab p hp] at e
        cases e
        exact .inr (.inl ⟨((T.cod p hp).tab (T.tab p hp)).isCodeTable, rfl, #[], more, rfl, by rw [Array.empty_append]; exact hm⟩)
      · exact .inl (old b o hb e)
    · by_cases hb : b ∈ cs.map (·.2)
      · obtain ⟨p, hp, rfl⟩ := List.mem_map.mp hb
        obtain ⟨more, hm⟩ := grown p hp
        exact ⟨_, hm⟩
      · exact ⟨o, old b o hb e⟩
end
end
/-! ### the head's Hook: a part of the heap, told by a short way -/
def refsT (o : Obj) : List Addr := match o.data with
  | .seq its _ => its.toList.flatMap He.refV
  | .dict es _ => es.toList.flatMap fun e => He.refV e.val
  | .func fd => He.refV fd.code ++ He.refV fd.defaults ++ He.refV fd.kwdefaults
  | .cls cd => cd.ns :: cd.mro.flatMap He.refV
  | .fields vs => vs.toList.flatMap He.refV
  | _ => []
def stepT (g : Addr → Option Obj) (as : List Addr) : List Addr := as.flatMap fun a => match g a with
  | some o => refsT o
  | none => []
def reachT (g : Addr → Option Obj) : Nat → List Addr → List Addr
  | 0, as => as
  | n + 1, as => as ++ reachT g n (stepT g as)
abbrev asT (g : Addr → Option Obj) (n : Nat) : List Addr := sysModules :: reachT g n [mainGlobals]
open He in
def obsL (n : Nat) (fa : List Fa) (fn : List DefD) (ts : List Tab) (tf : List Defn) (ex : Frag → Bool) (g : Addr → Option Obj) : AlX := (obsT fa fn ts (frT g (asT g n)), ex (frT g (asT g n)) && tabsB g tf (frT g (asT g n)))
open He in
theorem saysL {n : Nat} {fa : List Fa} {fn : List DefD} {ts : List Tab} {tf : List Defn} {ex : Frag → Bool} {w : World} {h : Heap} (e : obsL n fa fn ts tf ex h.get? = valX fn ts w) : SaysX fa fn ts tf ex w h (frT h.get? (asT h.get? n)) := by
  obtain ⟨m1, m2⟩ := ba (congrArg Prod.snd e)
  have tab : ∀ p ∈ tf, PySem.W.codeHdIn (frT h.get? (asT h.get? n)) (cT (frT h.get? (asT h.get? n)) p).1 (cT (frT h.get? (asT h.get? n)) p).2 = true ∧ ∃ o, h.get? (cT (frT h.get? (asT h.get? n)) p).2 = some o ∧ emptyTab o = true := fun p hp => by
    obtain ⟨z1, z2⟩ := ba (List.all_eq_true.mp m2 p hp)
    cases q : h.get? (cT (frT h.get? (asT h.get? n)) p).2 with
    | none => rw [q] at z2; cases z2
    | some o => rw [q] at z2; exact ⟨z1, o, rfl, z2⟩
  refine ⟨congrArg Prod.fst e, m1, fun p hp => (tab p hp).1, fun p hp => ?_, fun p hp => ?_⟩
  · obtain ⟨_, o, q, z⟩ := tab p hp
    exact frT_none q z
  · obtain ⟨_, o, q, z⟩ := tab p hp
    rw [q, emptyTab_eq z]
open He in
def hookL (n : Nat) (fa : List Fa) (fn : List DefD) (ts : List Tab) (tf : List Defn) (ex : Frag → Bool) : PySem.W.Hook where
  α := AlX
  obs := fun s => obsL n fa fn ts tf ex s.heap.get?
  val := fun w => valX fn ts w
  says := fun w h => ∃ K : Frag, K.In h ∧ SaysX fa fn ts tf ex w h K
  of := fun _ _ e => ⟨_, frT_in, saysL e⟩
  keeps := fun _ _ _ ⟨K, hK, c⟩ k => ⟨K, PySem.W.Frag.In.keeps hK k, ⟨c.t, c.more, c.hd, c.out, fun p hp => k _ _ (c.empty p hp)⟩⟩
theorem obsL_eq {n : Nat} {fa : List He.Fa} {fn : List He.DefD} {ts : List He.Tab} {tf : List He.Defn} {ex : Frag → Bool} {g : Addr → Option Obj} {s : Shared} (h : ∀ a, g a = s.heap.get? a) : obsL n fa fn ts tf ex g = (hookL n fa fn ts tf ex).obs s := by
  have e : g = s.heap.get? := funext h
  rw [e]
  rfl
/-- the tables that are known are told apart -/
def tabsOk (K : Frag) : Bool := decide ((tabsK K).map (·.1)).Nodup
theorem tabs_uni {K : Frag} (h : tabsOk K = true) {P : Addr} {q : Str} (m : (P, q) ∈ tabsK K) : ∀ p ∈ tabsK K, p.1 = P → p.2 = q := by
  have nd : ((tabsK K).map (·.1)).Nodup := of_decide_eq_true h
  intro p hp e
  subst e
  have key : ∀ (l : List (Addr × Str)), (l.map (·.1)).Nodup → ∀ p ∈ l, ∀ r ∈ l, p.1 = r.1 → p = r := by
    intro l
    induction l with
    | nil => intro _ p hp; cases hp
    | cons x l ih =>
      intro nd p hp r hr e
      rw [List.map_cons, List.nodup_cons] at nd
      rcases List.mem_cons.mp hp with h1 | h1
      · rcases List.mem_cons.mp hr with h2 | h2
        · rw [h1, h2]
        · exact (nd.1 (List.mem_map.mpr ⟨r, h2, by rw [← e, h1]⟩)).elim
      · rcases List.mem_cons.mp hr with h2 | h2
        · exact (nd.1 (List.mem_map.mpr ⟨p, h1, by rw [e, h2]⟩)).elim
        · exact ih nd.2 p h1 r h2 e
  exact congrArg Prod.snd (key _ nd p hp (p.1, q) m rfl)
/-- a def that makes a lambda -/
theorem lamT_of {X : Cx} {p : He.Defn} {q : Str} (hm : (p, q) ∈ lamNames) (hc : PySem.W.codeHdIn X.K (He.cT X.K p).1 (He.cT X.K p).2 = true) (ht : tabsOk X.K = true) (tb : LamX.TabB X.base X.mg (He.cT X.K p).1 (He.cT X.K p).2) (hcode : X.env.code = .ref (He.cT X.K p).1) (hq : X.env.qual ++ "<lambda>" = q) :
    LamT X (tabsK X.K) (He.cT X.K p).1 (He.cT X.K p).2 := by
  have m : ((He.cT X.K p).2, q) ∈ tabsK X.K := List.mem_map.mpr ⟨(p, q), List.mem_filter.mpr ⟨hm, hc⟩, rfl⟩
  subst hq
  exact ⟨tb, hcode, m, tabs_uni ht m⟩

/-! ### the law's own promise -/
/-- the law: at every script of at most n ints of that many bits it answers True -/
def spLaw (n : Nat) : LSp := fun ds h Q _ => ∃ ns : List Int, ds = [.lst (ns.map D.int)] ∧ h = [] ∧ ns.length ≤ n ∧ (∀ z ∈ ns, Builtin.Int.intBits z ≤ 1048576) ∧ ∀ d h', d = .bl true → Q d h'
theorem mono_law {n : Nat} : MonoP (spLaw n) := fun ds h Q Q' E E' hQ hE ⟨ns, a, b, c, d, e⟩ => ⟨ns, a, b, c, d, fun d h' z => hQ _ _ (e d h' z)⟩
theorem rel_ints' {K : Frag} {ι : Ad} {H : Hp} : ∀ ns : List Int, RelDs K ι H (ns.map D.int) (ns.map V.int)
  | [] => rfl
  | n :: ns => ⟨.int n, _, rfl, rfl, rel_ints' ns⟩
theorem law_sp {K : Frag} {n : Nat} {H : Hp} {a : Addr} {ns : List Int} (hl : ns.length ≤ n) (hb : ∀ z ∈ ns, Builtin.Int.intBits z ≤ 1048576) (hT : LamX.Tabs (tabsK K) H) (hS : LstX K H a (ns.map V.int)) :
    spV K 1 (spLaw n) [.ref a] H (fun v _ => v = .bl true) fun _ _ _ => False := by
  refine ⟨⟨[], [], []⟩, [.lst (ns.map D.int)], [], ⟨rfl, fun n m a e => by simp at e, fun a m => by simp at m, fun a m => by simp at m, fun a m => by simp at m, hT, fun n o q => by simp at q⟩, ⟨.ref a, [], rfl, ⟨a, ns.map V.int, rfl, ?_, rel_ints' ns⟩, rfl⟩, rfl, ns, rfl, rfl, hl, hb, fun d h' e ι' v H' _ _ r => ?_⟩
  · rcases hS with h | h | h
    · exact .inl ⟨h, by simp [Ad.no]⟩
    · exact .inr (.inl h)
    · exact .inr (.inr h)
  · subst e
    exact r
open He in
/-- THE END: the law's def keeps its promise over every base -/
theorem walk_L {l : PySem.W.OpenLaw} {n k : Nat} {q : Program} {loose : List Str} {XP : (Str → Option Value) → Heap → Prop} {fa : List Fa} {fn : List DefD} {ts : List Tab} {ex : Frag → Bool} {d : DefRec} {m : Nat} {tf : List Defn}
    (hn : l.most = some n) (hn2 : n ≤ sizeLine) (hdf : d.params.defaults = []) (hr : Room k callerA) (hd : d.name = "law") (hglo : Fa.glo "law" ∈ fa) (htf : ∀ p ∈ lamNames, p.1 ∈ tf)
    (F : ∀ (w : World) (K : Frag) (mg : Str → Option Value) (h base : Heap), K.In h → h.Ns mainGlobals mg → SaysX fa fn ts tf ex w h K → (∀ p ∈ tf, LamX.TabB base mg (cT K p).1 (cT K p).2) → Keeps l.prog w K mg base k (ga K "law") 1 (spLaw n)) :
    PySem.W.WalkO q loose XP (fun w h => (hookL m fa fn ts tf ex).says w h) l.row.toRowW d [] (fun f vs => PySem.call f vs) := by
  refine Att.attach_callB hn hdf fun w s₀ s₁ mg mb fa' o pm cd doc a vs ns G Y ho hdt hcd hmg hobj hints hlen hbits hg => ?_
  obtain ⟨K, KX, c⟩ := Y
  have e := (hd ▸ hmg).symm.trans (He.glo_ok KX G.T.g (He.SaysD.facts c.t.d hglo))
  cases e
  have T : TopH K mg mb (tf.map (cT K)) a vs s₁ := ⟨KX, G.T.g, G.T.b, G.T.builtins, G.T.nolimit, hg, fun p hp => by
      obtain ⟨r, hr, rfl⟩ := List.mem_map.mp hp
      exact c.empty r hr, fun p hp => by
      obtain ⟨r, hr, rfl⟩ := List.mem_map.mp hp
      exact c.out r hr, fun p hp => by
      obtain ⟨r, hr, rfl⟩ := List.mem_map.mp hp
      exact PySem.W.codeHd_of_K KX (c.hd r hr), G.T.bmain, hobj⟩
  refine T.call hints (Nat.le_trans hlen hn2) ⟨hr, rfl⟩ (fun base KB hns tb => F w K mg _ base KX G.T.g c fun p hp => tb _ (List.mem_map.mpr ⟨p, hp, rfl⟩)) fun H hH hS => law_sp hlen hbits (fun p hp => ?_) hS
  obtain ⟨r, hr, rfl⟩ := List.mem_map.mp hp
  obtain ⟨hr1, _⟩ := List.mem_filter.mp hr
  exact LamX.TabS.nil (hH _ (List.mem_map.mpr ⟨r.1, htf r hr1, rfl⟩))
end LL
end

section
set_option Elab.async false
set_option linter.all false
set_option maxRecDepth 100000
set_option maxHeartbeats 1000000
/-! LLAsg: a, b = x, y (and three) with plain local names; -x; the names of built-in types. -/
namespace LL
open PySem PySem.Spec PyProof.Rows L2
variable {X : Cx} {W : WX}

def sPar (i j : Nat) (A : LX (List D)) : LS := fun σ h K => A σ h (fun ds h1 => match ds with | [d, e] => K.nx ((σ.set i (some d)).set j (some e)) h1 | _ => False) (exOf K σ)
def sPar3 (i j l : Nat) (A : LX (List D)) : LS := fun σ h K => A σ h (fun ds h1 => match ds with | [d, e, f] => K.nx (((σ.set i (some d)).set j (some e)).set l (some f)) h1 | _ => False) (exOf K σ)
theorem RelDs.three {K : Frag} {ι : Ad} {H : Hp} {d d2 d3 : D} {vs : List V} (r : RelDs K ι H [d, d2, d3] vs) : ∃ v v2 v3, vs = [v, v2, v3] ∧ RelD K ι H d v ∧ RelD K ι H d2 v2 ∧ RelD K ι H d3 v3 := by
  obtain ⟨v, r', e, h1, h⟩ := r
  obtain ⟨v2, v3, e2, h2, h3⟩ := RelDs.two h
  subst e2
  exact ⟨v, v2, v3, e, h1, h2, h3⟩
theorem js_par {i j : Nat} {es : List Expr} {A : LX (List D)} {st : Stmt} (ha : JA X W es A) (h : ∀ {ta : TA}, PA X es ta → PS X st (tPar i j ta)) : JS X W st (sPar i j A) := by
  refine ⟨fun σ h A' B l q => ha.mono σ h _ _ _ _ (fun ds h1 q1 => ?_) (exOf.le l σ) q, PS.weak (h ha.run) fun Dn σV H ⟨ι0, H0, ι, σ, h, e, hS, hH, q⟩ => ?_⟩
  · split at q1
    · exact l.nx _ _ q1
    · exact q1.elim
  · refine tX.into ha.mono hS hH q (fun ds h1 ι1 vs H1 q1 e1 hH1 r => ?_) (fun c fs h1 ι1 dx H1 q1 e1 hH1 r => q1 ι1 dx σV H1 (e.trans e1) (hS.ext e1) hH1 r)
    split at q1
    · obtain ⟨v, v2, rfl, r1, r2⟩ := r.two
      exact ⟨v, v2, rfl, q1 ι1 _ H1 (e.trans e1) (((hS.ext e1).set i r1).set j r2) hH1⟩
    · exact q1.elim
theorem js_par3 {i j l : Nat} {es : List Expr} {A : LX (List D)} {st : Stmt} (ha : JA X W es A) (h : ∀ {ta : TA}, PA X es ta → PS X st (tPar3 i j l ta)) : JS X W st (sPar3 i j l A) := by
  refine ⟨fun σ h A' B le q => ha.mono σ h _ _ _ _ (fun ds h1 q1 => ?_) (exOf.le le σ) q, PS.weak (h ha.run) fun Dn σV H ⟨ι0, H0, ι, σ, h, e, hS, hH, q⟩ => ?_⟩
  · split at q1
    · exact le.nx _ _ q1
    · exact q1.elim
  · refine tX.into ha.mono hS hH q (fun ds h1 ι1 vs H1 q1 e1 hH1 r => ?_) (fun c fs h1 ι1 dx H1 q1 e1 hH1 r => q1 ι1 dx σV H1 (e.trans e1) (hS.ext e1) hH1 r)
    split at q1
    · obtain ⟨v, v2, v3, rfl, r1, r2, r3⟩ := r.three
      exact ⟨v, v2, v3, rfl, q1 ι1 _ H1 (e.trans e1) ((((hS.ext e1).set i r1).set j r2).set l r3) hH1⟩
    · exact q1.elim
def eNeg (m : LE) : LE := fun σ h Q E => m σ h (fun d h1 => match d with | .int i => Q (.int (-i)) h1 | _ => False) E
theorem je_neg {e : Expr} {m : LE} {pos : Pos} (he : JE X W e m) : JE X W (.UnaryOp .USub e pos) (eNeg m) := by
  refine ⟨fun σ h Q Q' E E' hQ hE q => he.mono σ h _ _ _ _ (fun d h1 q1 => ?_) hE q, PE.weak (pe_un un_neg he.run) fun σV H Q ⟨ι, σ, h, hS, hH, q⟩ => ?_⟩
  · split at q1
    · exact hQ _ _ q1
    · exact q1.elim
  · refine tX.into he.mono hS hH q (fun d h1 ι1 v H1 q1 e1 hH1 r => ?_) (fun c fs h1 ι1 dx H1 q1 => q1 ι1 dx H1)
    split at q1
    · rename_i i
      exact ⟨i, r, q1 ι1 _ H1 e1 hH1 rfl⟩
    · exact q1.elim
/-- the name of a built-in type -/
theorem pe_tyn {x : Str} {n : String} {pos : Pos} (hm : X.mg x = none) (hv : bootBuiltins x = some (.type n)) (hg : Gl X x := by rfl) (hn : x ≠ "__name__" := by decide) (hd : (x == ("__debug__" : Str)) = false := by decide) : PE X (.Name x pos) (tC (.ty n)) := pe_bltn hg hm hv (v := .ty n) rfl hn hd
/-- the name of an own class -/
theorem pe_cln {C : Str} {pos : Pos} (hm : X.mg C = some (.ref (He.ga X.K C))) (hg : Gl X C := by rfl) (hd : (C == ("__debug__" : Str)) = false := by decide) : PE X (.Name C pos) (tC (.ref (He.ga X.K C))) := pe_glob hg hm (v := .ref (He.ga X.K C)) rfl hd
end LL
end

section
set_option Elab.async false
set_option linter.all false
set_option maxRecDepth 100000
/-! LLSim: rules by which simp runs a logical body (a part is opened when it is run, not before). -/
namespace LL
open PySem PySem.Spec PyProof.Rows
/-- a value that is a bool -/
def tstD (d : D) (R : Bool → Prop) : Prop := ∃ b, d = .bl b ∧ R b
@[simp] theorem tstD_bl {b : Bool} {R : Bool → Prop} : tstD (.bl b) R = R b := propext ⟨fun ⟨c, e, r⟩ => by cases e; exact r, fun r => ⟨b, rfl, r⟩⟩
/-- what follows, closed until it is run -/
def seqK (r : LS) (K : LK) : LV → LH → Prop := fun σ h => r σ h K
/-- what a walk asks behind its iterable -/
def compAt (J : LIt) (p : Pt) (t : LX Bool) (e : LE) (vs : List Nat) (σ : LV) (h1 : LH) (Q : List D → LH → Prop) : Prop := ∃ I : Nat → List D → LH → Prop, I 0 [] h1 ∧ (∀ i acc h, i ≤ J.items.length → I i acc h → J.ok h) ∧
  (∀ i x acc h, J.items[i]? = some x → I i acc h → p.st x (lwipe σ vs) fun σ2 => t σ2 h (fun b h2 => if b = true then e σ2 h2 (fun y h3 => acc.length < sizeLine ∧ I (i + 1) (acc ++ [y]) h3) (fun _ _ _ => False) else I (i + 1) acc h2) (fun _ _ _ => False)) ∧
  ∀ acc h, I J.items.length acc h → Q acc h
def forAt (J : LIt) (g : LG) (b : LS) (σ : LV) (h1 : LH) (K : LK) : Prop := ∃ I : Nat → LV → LH → Prop, I 0 σ h1 ∧ (∀ i σ h, i ≤ J.items.length → I i σ h → J.ok h) ∧
    (∀ i x σ h, J.items[i]? = some x → I i σ h → g x σ h (fun σ2 h2 => b σ2 h2 { nx := I (i + 1), ct := I (i + 1), bk := K.nx, rt := K.rt, ex := K.ex }) (exOf K σ)) ∧
    ∀ σ h, I J.items.length σ h → K.nx σ h
section
variable {m a b c o e : LE} {A : LX (List D)} {t u : LX Bool} {s r : LS} {g : LG} {gs : LGs} {mi : LI} {op op' : LOp} {σ : LV} {h : LH} {Q : D → LH → Prop} {Qs : List D → LH → Prop} {Qb : Bool → LH → Prop} {R : LV → LH → Prop} {QI : LIt → LH → Prop} {E : XL} {K : LK} {d : D} {ds : List D} {i j l n : Nat} {C f : Str} {Cs : List Str}
@[simp] theorem exOf_run : exOf K σ = fun cl fs h => K.ex cl fs σ h := (rfl)
@[simp] theorem le_sizeLine (e : n ≤ 16777216) : n ≤ sizeLine := e
@[simp] theorem lt_sizeLine (e : n < 16777216) : n < sizeLine := e
@[simp] theorem sSeq_run : sSeq s r σ h K = s σ h { K with nx := seqK r K } := (rfl)
@[simp] theorem seqK_run : seqK r K σ h = r σ h K := (rfl)
@[simp] theorem sNil_run : sNil σ h K = K.nx σ h := (rfl)
@[simp] theorem sNever_run : sNever σ h K = False := (rfl)
@[simp] theorem sBrk_run : sBrk σ h K = K.bk σ h := (rfl)
@[simp] theorem sCnt_run : sCnt σ h K = K.ct σ h := (rfl)
@[simp] theorem sExpr_run : sExpr m σ h K = m σ h (fun _ h1 => K.nx σ h1) (exOf K σ) := (rfl)
@[simp] theorem sRet_run : sRet m σ h K = m σ h K.rt (exOf K σ) := (rfl)
@[simp] theorem sRetN_run : sRetN σ h K = K.rt .non h := (rfl)
@[simp] theorem sIf_run : sIf t s r σ h K = t σ h (fun c h1 => if c = true then s σ h1 K else r σ h1 K) (exOf K σ) := (rfl)
@[simp] theorem sAsg_run : sAsg m g σ h K = m σ h (fun d h1 => g d σ h1 K.nx (exOf K σ)) (exOf K σ) := (rfl)
@[simp] theorem gNm_run : gNm i d σ h R E = R (σ.set i (some d)) h := (rfl)
@[simp] theorem gSb_run : gSb a b d σ h R E = a σ h (fun x h1 => b σ h1 (fun y h2 => setL x y d h2 (R σ)) E) E := (rfl)
@[simp] theorem gFd_run : gFd Cs f o d σ h R E = o σ h (fun x h1 => setF Cs f x d h1 (R σ)) E := (rfl)
@[simp] theorem gTp_run : gTp n gs (.tup ds) σ h R E = (ds.length = n ∧ gs ds σ h R (fun _ _ _ => False)) := (rfl)
@[simp] theorem gNl_run : gNl ds σ h R E = (ds = [] ∧ R σ h) := (rfl)
@[simp] theorem gCs_run : gCs g gs (d :: ds) σ h R E = g d σ h (fun σ' h' => gs ds σ' h' R E) E := (rfl)
@[simp] theorem eC_run : eC d σ h Q E = Q d h := (rfl)
@[simp] theorem eOp_run : eOp op a b σ h Q E = a σ h (fun x h1 => b σ h1 (fun y h2 => op x y h2 Q) E) E := (rfl)
@[simp] theorem eTest_run : eTest m σ h Qb E = m σ h (fun d h1 => tstD d fun b => Qb b h1) E := (rfl)
@[simp] theorem eTru_run : eTru m σ h Qb E = m σ h (fun d h1 => truD d h1 fun b => Qb b h1) E := (rfl)
@[simp] theorem eAnd_run : eAnd t u σ h Qb E = t σ h (fun c h1 => if c = true then u σ h1 Qb E else Qb false h1) E := (rfl)
@[simp] theorem eOr_run : eOr t u σ h Qb E = t σ h (fun c h1 => if c = true then Qb true h1 else u σ h1 Qb E) E := (rfl)
@[simp] theorem eNot_run : eNot t σ h Qb E = t σ h (fun c h1 => Qb (!c) h1) E := (rfl)
@[simp] theorem eYes_run : eYes σ h Qb E = Qb true h := (rfl)
@[simp] theorem eAndV_run : eAndV a b σ h Q E = a σ h (fun d h1 => tstD d fun c => if c = true then b σ h1 Q E else Q (.bl false) h1) E := (rfl)
@[simp] theorem eOrV_run : eOrV a b σ h Q E = a σ h (fun d h1 => tstD d fun c => if c = true then Q (.bl true) h1 else b σ h1 Q E) E := (rfl)
@[simp] theorem eNotV_run : eNotV a σ h Q E = a σ h (fun d h1 => tstD d fun c => Q (.bl (!c)) h1) E := (rfl)
@[simp] theorem eIf_run : eIf t a b σ h Q E = t σ h (fun c h1 => if c = true then a σ h1 Q E else b σ h1 Q E) E := (rfl)
@[simp] theorem eNil_run : eNil σ h Qs E = Qs [] h := (rfl)
@[simp] theorem eCons_run : eCons a A σ h Qs E = a σ h (fun x h1 => A σ h1 (fun xs h2 => Qs (x :: xs) h2) E) E := (rfl)
@[simp] theorem eTup_run : eTup A σ h Q E = A σ h (fun xs h1 => xs.length ≤ sizeLine ∧ Q (.tup xs) h1) E := (rfl)
@[simp] theorem eLst_run : eLst A σ h Q E = A σ h (fun xs h1 => xs.length ≤ sizeLine ∧ Q (.lst xs) h1) E := (rfl)
@[simp] theorem eLstM_run : eLstM A σ h Q E = A σ h (fun xs h1 => xs.length ≤ sizeLine ∧ Q (.ref h1.length) (h1 ++ [.lst xs])) E := (rfl)
@[simp] theorem eChain_run : eChain op op' a b c σ h Q E = a σ h (fun x h1 => b σ h1 (fun y h2 => op x y h2 (fun z h3 => tstD z fun k => if k = true then c σ h3 (fun w h4 => op' y w h4 Q) E else Q (.bl false) h3)) E) E := (rfl)
@[simp] theorem eFld_run : eFld Cs f m σ h Q E = m σ h (fun d h1 => getF Cs f d h1 Q) E := (rfl)
@[simp] theorem sFldA_run : sFldA Cs f m o σ h K = m σ h (fun y h1 => o σ h1 (fun d h2 => setF Cs f d y h2 (K.nx σ)) (exOf K σ)) (exOf K σ) := (rfl)
@[simp] theorem eNoPart_run {Q : Option Int → LH → Prop} : eNoPart σ h Q E = Q none h := (rfl)
def somePart (d : D) (h : LH) (Q : Option Int → LH → Prop) : Prop := match d with | .int i => Q (some i) h | _ => False
@[simp] theorem somePart_int {i : Int} {Q : Option Int → LH → Prop} : somePart (.int i) h Q = Q (some i) h := (rfl)
@[simp] theorem eSomePart_run {Q : Option Int → LH → Prop} : eSomePart m σ h Q E = m σ h (fun d h1 => somePart d h1 Q) E := (rfl)
def slcD (x : D) (l u : Option Int) (h : LH) (Q : D → LH → Prop) : Prop := match x with
  | .tup ds => ¬ (HT.sIx ds.length 0 l = 0 ∧ HT.sIx ds.length ds.length u = ds.length) ∧ Q (.tup (cutD ds l u)) h
  | d => seqL d h fun ds => Q (.lst (cutD ds l u)) h
@[simp] theorem eSl_run {lo hi : LO} : eSl m lo hi σ h Q E = m σ h (fun x h1 => lo σ h1 (fun l h2 => hi σ h2 (fun u h3 => slcD x l u h3 Q) E) E) E := (rfl)
@[simp] theorem slcD_lst {l u : Option Int} : slcD (.lst ds) l u h Q = Q (.lst (cutD ds l u)) h := (rfl)
@[simp] theorem slcD_ref {l u : Option Int} (q : h[n]? = some (.lst ds)) : slcD (.ref n) l u h Q = Q (.lst (cutD ds l u)) h := by show seqL (.ref n) h _ = _; unfold seqL; simp only [q]
@[simp] theorem slcD_tup {l u : Option Int} : slcD (.tup ds) l u h Q = (¬ (HT.sIx ds.length 0 l = 0 ∧ HT.sIx ds.length ds.length u = ds.length) ∧ Q (.tup (cutD ds l u)) h) := (rfl)
/-- behind an amount -/
def intD (z : D) (R : Int → Prop) : Prop := match z with | .int q => R q | _ => False
@[simp] theorem intD_int {q : Int} {R : Int → Prop} : intD (.int q) R = R q := (rfl)
@[simp] theorem sAugS_run {f : Int → Int → Int} : sAugS a b e f σ h K = a σ h (fun x h1 => b σ h1 (fun y h2 => ∃ p, getI x y h2 p ∧ e σ h2 (fun z h3 => intD z fun q => setL x y (.int (f p q)) h3 (K.nx σ)) (exOf K σ)) (exOf K σ)) (exOf K σ) := (rfl)
@[simp] theorem sAug_run {f : Int → Int → Int} : sAug i e f σ h K = ∃ p, σ[i]? = some (some (.int p)) ∧ e σ h (fun z h1 => intD z fun q => K.nx (σ.set i (some (.int (f p q)))) h1) (exOf K σ) := (rfl)
@[simp] theorem getI_run {x : D} {k p : Int} : getI x (.int k) h p = seqL x h fun ds => L2.atI ds k = some (.int p) := (rfl)
@[simp] theorem eB_run {op : LB} : eB op A σ h Q E = A σ h (fun ds h1 => op ds h1 Q) E := (rfl)
@[simp] theorem eCall_run {G : LSp} : eCall G n A σ h Q E = A σ h (fun ds h1 => ds.length = n ∧ G ds h1 Q E) E := (rfl)
@[simp] theorem eMeth_run {G : LSp} : eMeth C f G n o A σ h Q E = o σ h (fun x h1 => isIns C f x h1 ∧ A σ h1 (fun ds h2 => ds.length + 1 = n ∧ G (x :: ds) h2 Q E) E) E := (rfl)
@[simp] theorem eMake_run {G : LSp} : eMake C G n A σ h Q E = A σ h (fun ds h1 => ds.length + 1 = n ∧ G (.ref h1.length :: ds) (h1 ++ [.ins C []]) (fun d h2 => d = .non ∧ Q (.ref h1.length) h2) E) E := (rfl)
@[simp] theorem eNeg_run : eNeg m σ h Q E = m σ h (fun d h1 => intD d fun i => Q (.int (-i)) h1) E := (rfl)
@[simp] theorem eIsi_run {l : List (Ty × Bool)} : eIsi l m σ h Q E = m σ h (fun d h1 => ∃ t b, tyD d h1 = some t ∧ l.lookup t = some b ∧ Q (.bl b) h1) E := (rfl)
@[simp] theorem iSeq_run : iSeq m σ h QI E = m σ h (fun d h1 => walkD d h1 fun J => QI J h1) E := (rfl)
def rng1 (ds : List D) (h : LH) (Q : LIt → LH → Prop) : Prop := match ds with
  | [.int j] => -(2 ^ 62) ≤ j ∧ j < 2 ^ 62 ∧ Q ⟨rngD 0 j.toNat, fun _ => True⟩ h
  | [.int i, .int j] => -(2 ^ 62) ≤ i ∧ i < 2 ^ 62 ∧ -(2 ^ 62) ≤ j ∧ j < 2 ^ 62 ∧ Q ⟨rngD i (j - i).toNat, fun _ => True⟩ h
  | _ => False
@[simp] theorem rng1_one {j : Int} : rng1 [.int j] h QI = (-(2 ^ 62) ≤ j ∧ j < 2 ^ 62 ∧ QI ⟨rngD 0 j.toNat, fun _ => True⟩ h) := (rfl)
@[simp] theorem rng1_two {i j : Int} : rng1 [.int i, .int j] h QI = (-(2 ^ 62) ≤ i ∧ i < 2 ^ 62 ∧ -(2 ^ 62) ≤ j ∧ j < 2 ^ 62 ∧ QI ⟨rngD i (j - i).toNat, fun _ => True⟩ h) := (rfl)
@[simp] theorem iRangeN_run {k : Nat} : iRangeN k A σ h QI E = A σ h (fun ds h1 => ds.length = k ∧ rng1 ds h1 QI) E := (rfl)
def enum1 (ds : List D) (h : LH) (Q : LIt → LH → Prop) : Prop := match ds with | [d] => walkL d h fun J => Q (enumOf J) h | _ => False
@[simp] theorem enum1_one : enum1 [d] h QI = walkL d h fun J => QI (enumOf J) h := (rfl)
@[simp] theorem iEnumL_run : iEnumL A σ h QI E = A σ h (fun ds h1 => enum1 ds h1 QI) E := (rfl)
def zip1 (ds : List D) (h : LH) (Q : LIt → LH → Prop) : Prop := match ds with | [d, e] => walkL d h fun J => walkL e h fun J' => Q (zipOf J J') h | _ => False
@[simp] theorem zip1_two {d' : D} : zip1 [d, d'] h QI = walkL d h fun J => walkL d' h fun J' => QI (zipOf J J') h := (rfl)
@[simp] theorem iZipL_run : iZipL A σ h QI E = A σ h (fun ds h1 => zip1 ds h1 QI) E := (rfl)
@[simp] theorem eLC_run {p : Pt} {vs : List Nat} : eLC mi p t e vs σ h Q E = mi σ h (fun J h1 => compAt J p t e vs σ h1 fun acc h2 => Q (.lst acc) h2) E := (rfl)
@[simp] theorem eLCM_run {p : Pt} {vs : List Nat} : eLCM mi p t e vs σ h Q E = mi σ h (fun J h1 => compAt J p t e vs σ h1 fun acc h2 => Q (.ref h2.length) (h2 ++ [.lst acc])) E := (rfl)
@[simp] theorem sFor_run : sFor mi g s σ h K = mi σ h (fun J h1 => forAt J g s σ h1 K) (exOf K σ) := (rfl)
@[simp] theorem st_nm {R : LV → Prop} : Pt.st (.nm i) d σ R = R (σ.set i (some d)) := (rfl)
@[simp] theorem st_tp {is : List Nat} {R : LV → Prop} : Pt.st (.tp is) (.tup ds) σ R = (ds.length = is.length ∧ R (LL.setDs is ds σ)) := (rfl)
@[simp] theorem setDs_cons {is : List Nat} : LL.setDs (i :: is) (d :: ds) σ = LL.setDs is ds (σ.set i (some d)) := (rfl)
@[simp] theorem setDs_nil : LL.setDs [] ds σ = σ := by unfold LL.setDs; rfl
@[simp] theorem lwipe_nil : lwipe σ [] = σ := (rfl)
@[simp] theorem lwipe_cons {vs : List Nat} : lwipe σ (i :: vs) = (lwipe σ vs).set i none := (rfl)
def two1 (ds : List D) (R : D → D → Prop) : Prop := match ds with | [d, e] => R d e | _ => False
@[simp] theorem two1_two {d' : D} {R : D → D → Prop} : two1 [d, d'] R = R d d' := (rfl)
@[simp] theorem sPar_run : sPar i j A σ h K = A σ h (fun ds h1 => two1 ds fun d e => K.nx ((σ.set i (some d)).set j (some e)) h1) (exOf K σ) := (rfl)
def three1 (ds : List D) (R : D → D → D → Prop) : Prop := match ds with | [d, e, f] => R d e f | _ => False
@[simp] theorem three1_three {d' d'' : D} {R : D → D → D → Prop} : three1 [d, d', d''] R = R d d' d'' := (rfl)
@[simp] theorem sPar3_run : sPar3 i j l A σ h K = A σ h (fun ds h1 => three1 ds fun d e f => K.nx (((σ.set i (some d)).set j (some e)).set l (some f)) h1) (exOf K σ) := (rfl)
def delAt (x y : D) (h : LH) (R : LH → Prop) : Prop := match x, y with
  | .ref n, .int k => match h[n]? with
    | some (.lst ds) => -(2 ^ 63) ≤ k ∧ k < 2 ^ 63 ∧ ∃ j, seqIndex? k ds.length = some j ∧ R (h.set n (.lst (ds.eraseIdx j)))
    | _ => False
  | _, _ => False
@[simp] theorem sDel_run : sDel a b σ h K = a σ h (fun x h1 => b σ h1 (fun y h2 => delAt x y h2 (K.nx σ)) (exOf K σ)) (exOf K σ) := (rfl)
@[simp] theorem delAt_ref {k : Int} {R : LH → Prop} (q : h[n]? = some (.lst ds)) : delAt (.ref n) (.int k) h R = (-(2 ^ 63) ≤ k ∧ k < 2 ^ 63 ∧ ∃ j, seqIndex? k ds.length = some j ∧ R (h.set n (.lst (ds.eraseIdx j)))) := by unfold delAt; simp only [q]
@[simp] theorem eFrz0_run : eFrz0 m σ h Q E = m σ h (frz0K h Q) E := (rfl)
@[simp] theorem eFrz_run : eFrz m σ h Q E = m σ h (frzK h.length Q) E := (rfl)
@[simp] theorem eSort2_run : eSort2 m σ h Q E = m σ h (fun d h1 => seqL d h1 fun ds => ds.all is2 = true ∧ Q (.lst (ds.mergeSort le2)) h1) E := (rfl)
@[simp] theorem eSortS_run : eSortS m σ h Q E = m σ h (fun d h1 => seqL d h1 fun ds => ds.all is2 = true ∧ (∀ d ∈ ds, L2.CMul (k2 d).1 2) ∧ Q (.lst (ds.mergeSort leS)) h1) E := (rfl)
@[simp] theorem eFmt_run : eFmt m σ h Q E = m σ h (fun d h1 => fmtD d fun x => Q (.str x) h1) E := (rfl)
@[simp] theorem fmtD_str {y : Str} {R : Str → Prop} : fmtD (.str y) R = (y.length ≤ sizeLine ∧ R y) := (rfl)
@[simp] theorem fmtD_int {k : Int} {R : Str → Prop} : fmtD (.int k) R = (k.natAbs.log2 < 1920 ∧ R (toString k)) := (rfl)
def strD (d : D) (R : Str → Prop) : Prop := match d with | .str y => R y | _ => False
@[simp] theorem strD_str {y : Str} {R : Str → Prop} : strD (.str y) R = R y := (rfl)
@[simp] theorem eFstr_run {ms : List LE} : eFstr ms σ h Q E = eJoin ms Str.empty σ h (fun x h1 => Q (.str x) h1) E := (rfl)
@[simp] theorem eJoin_nil {acc : Str} {R : Str → LH → Prop} : eJoin [] acc σ h R E = R acc h := (rfl)
@[simp] theorem eJoin_cons {ms : List LE} {acc : Str} {R : Str → LH → Prop} : eJoin (m :: ms) acc σ h R E = m σ h (fun d h1 => strD d fun y => (acc ++ y).length ≤ sizeLine ∧ eJoin ms (acc ++ y) σ h1 R E) E := (rfl)
@[simp] theorem bOwn_run {G : LSp} {P : D → (D → Prop) → Prop} : bOwn C G P [d] h Q = (isObj C d h ∧ G [d] h (fun d h2 => P d fun d' => Q d' h2) (fun _ _ _ => False)) := (rfl)
@[simp] theorem pLen_int {k : Int} {R : D → Prop} : pLen (.int k) R = ((0 ≤ k ∧ k < 2 ^ 63) ∧ R (.int k)) := (rfl)
@[simp] theorem pBool_int {k : Int} {R : D → Prop} : pBool (.int k) R = ((0 ≤ k ∧ k < 2 ^ 63) ∧ R (.bl (k != 0))) := (rfl)
@[simp] theorem pRepr_str {y : Str} {R : D → Prop} : pRepr (.str y) R = R (.str y) := (rfl)
end
/-- the ends of a body are kept closed (the kernel's check of what simp did stays small) -/
theorem byK {b : LS} {σ : LV} {h : LH} {Q : D → LH → Prop} {E : XL} (H : ∀ κ : LK, (∀ d h, Q d h → κ.rt d h) → (∀ σ h, Q .non h → κ.nx σ h) → (∀ c fs σ h, E c fs h → κ.ex c fs σ h) → b σ h κ) : b σ h (bodyK Q E) := H _ (fun _ _ q => q) (fun _ _ q => q) (fun _ _ _ _ q => q)
/-- a later round, closed for simp -/
def dec (I : Nat → LV → LH → Prop) (m : Nat) (σ : LV) (h : LH) : Prop := ∃ m', m' < m ∧ I m' σ h
def opq (I : Nat → LV → LH → Prop) (m : Nat) (σ : LV) (h : LH) : Prop := I m σ h
theorem whileBy {t : LX Bool} {b : LS} {σ : LV} {h : LH} {K : LK} (I : Nat → LV → LH → Prop) (m : Nat) (h0 : I m σ h)
    (hs : ∀ m σ h, I m σ h → t σ h (fun c h1 => if c = true then b σ h1 { nx := dec I m, ct := dec I m, bk := K.nx, rt := K.rt, ex := K.ex } else K.nx σ h1) (exOf K σ)) : sWhile t b σ h K := ⟨I, ⟨m, h0⟩, hs⟩
/-- .. with a test that only looks -/
theorem whileT {t : LX Bool} {b : LS} {σ : LV} {h : LH} {K : LK} (I : Nat → LV → LH → Prop) (m : Nat) (h0 : I m σ h)
    (hs : ∀ m σ h, I m σ h → ∃ c : Bool, (∀ Qb E, Qb c h → t σ h Qb E) ∧ (c = true → b σ h { nx := dec I m, ct := dec I m, bk := K.nx, rt := K.rt, ex := K.ex }) ∧ (c = false → K.nx σ h)) : sWhile t b σ h K := by
  refine whileBy I m h0 fun m σ h q => ?_
  obtain ⟨c, h1, h2, h3⟩ := hs m σ h q
  refine h1 _ _ ?_
  cases c with
  | true => rw [if_pos rfl]; exact h2 rfl
  | false => rw [if_neg Bool.false_ne_true]; exact h3 rfl
theorem forBy {J : LIt} {g : LG} {b : LS} {σ : LV} {h : LH} {K : LK} (I : Nat → LV → LH → Prop) (h0 : I 0 σ h) (hok : ∀ i σ h, i ≤ J.items.length → I i σ h → J.ok h)
    (hs : ∀ i x σ h, J.items[i]? = some x → I i σ h → g x σ h (fun σ2 h2 => b σ2 h2 { nx := opq I (i + 1), ct := opq I (i + 1), bk := K.nx, rt := K.rt, ex := K.ex }) (exOf K σ))
    (he : ∀ σ h, I J.items.length σ h → K.nx σ h) : forAt J g b σ h K := ⟨I, h0, hok, hs, he⟩
section
variable {h : LH} {Q : D → LH → Prop} {σ : LV} {E : XL} {i j : Int} {n : Nat}
@[simp] theorem eVar_at {i : Nat} {d : D} (e : σ[i]? = some (some d)) : eVar i σ h Q E = Q d h := by unfold eVar; rw [e]
@[simp] theorem oPlus_int : oPlus (.int i) (.int j) h Q = Q (.int (i + j)) h := by unfold oPlus; rfl
@[simp] theorem oPlus_lst {xs ys : List D} : oPlus (.lst xs) (.lst ys) h Q = (xs.length + ys.length ≤ sizeLine ∧ Q (.lst (xs ++ ys)) h) := by unfold oPlus; rfl
@[simp] theorem oPlus_str {x y : Str} : oPlus (.str x) (.str y) h Q = (x.length + y.length ≤ sizeLine ∧ Q (.str (x ++ y)) h) := by unfold oPlus; rfl
@[simp] theorem oPlus_tup {xs ys : List D} : oPlus (.tup xs) (.tup ys) h Q = (xs ≠ [] ∧ xs.length + ys.length ≤ sizeLine ∧ Q (.tup (xs ++ ys)) h) := by unfold oPlus; rfl
@[simp] theorem oPlus_rl {xs ys : List D} (e : h[n]? = some (.lst xs)) : oPlus (.ref n) (.lst ys) h Q = (xs.length + ys.length ≤ sizeLine ∧ Q (.lst (xs ++ ys)) h) := by unfold oPlus seqL; simp only [e]
@[simp] theorem oPlus_rr {m : Nat} {xs ys : List D} (e : h[n]? = some (.lst xs)) (e2 : h[m]? = some (.lst ys)) : oPlus (.ref n) (.ref m) h Q = (xs.length + ys.length ≤ sizeLine ∧ Q (.lst (xs ++ ys)) h) := by unfold oPlus seqL; simp only [e, e2]
@[simp] theorem oSub_int : oSub (.int i) (.int j) h Q = Q (.int (i - j)) h := (rfl)
@[simp] theorem oMul_int : oMul (.int i) (.int j) h Q = (L2.CMul i j ∧ Q (.int (i * j)) h) := (rfl)
@[simp] theorem oMod_int : oMod (.int i) (.int j) h Q = (0 < j ∧ Q (.int (i % j)) h) := (rfl)
@[simp] theorem oDiv_int : oDiv (.int i) (.int j) h Q = (L2.CDiv i j ∧ Q (.int (i / j)) h) := (rfl)
@[simp] theorem oPow_int : oPow (.int i) (.int j) h Q = (L2.CPow i j ∧ Q (.int (i ^ j.toNat)) h) := (rfl)
@[simp] theorem oLt_int : oLt (.int i) (.int j) h Q = Q (.bl (decide (i < j))) h := (rfl)
@[simp] theorem oLe_int : oLe (.int i) (.int j) h Q = Q (.bl (decide (i ≤ j))) h := (rfl)
@[simp] theorem oGt_int : oGt (.int i) (.int j) h Q = Q (.bl (decide (j < i))) h := (rfl)
@[simp] theorem oGe_int : oGe (.int i) (.int j) h Q = Q (.bl (decide (j ≤ i))) h := (rfl)
@[simp] theorem oIsN_non {x : D} : oIsN x .non h Q = Q (.bl x.isNon) h := (rfl)
@[simp] theorem oNotN_non {x : D} : oNotN x .non h Q = Q (.bl (!x.isNon)) h := (rfl)
@[simp] theorem isNon_non : D.isNon .non = true := (rfl)
@[simp] theorem isNon_int : D.isNon (.int i) = false := (rfl)
@[simp] theorem oIx_int {x : D} : oIx x (.int i) h Q = seqA x h (fun ds => ∃ d, L2.atI ds i = some d ∧ Q d h) := (rfl)
@[simp] theorem seqA_tup {ds : List D} {R : List D → Prop} : seqA (.tup ds) h R = R ds := (rfl)
@[simp] theorem seqA_lst {ds : List D} {R : List D → Prop} : seqA (.lst ds) h R = R ds := (rfl)
@[simp] theorem seqL_lst {ds : List D} {R : List D → Prop} : seqL (.lst ds) h R = R ds := (rfl)
@[simp] theorem seqA_ref {ds : List D} {R : List D → Prop} (e : h[n]? = some (.lst ds)) : seqA (.ref n) h R = R ds := by unfold seqA seqL; simp [e]
@[simp] theorem seqL_ref {ds : List D} {R : List D → Prop} (e : h[n]? = some (.lst ds)) : seqL (.ref n) h R = R ds := by unfold seqL; simp [e]
@[simp] theorem setL_ref {ds : List D} {v : D} {R : LH → Prop} (e : h[n]? = some (.lst ds)) : setL (.ref n) (.int i) v h R = ∃ j, L2.ixN ds.length i = some j ∧ R (h.set n (.lst (ds.set j v))) := by unfold setL; simp [e]
/-- what stands there is an instance -/
def getFo (Cs : List Str) (f : Str) (o : O) (h : LH) (Q : D → LH → Prop) : Prop := match o with | .ins C fs => C ∈ Cs ∧ ∃ v, fs.lookup f = some v ∧ Q v h | _ => False
@[simp] theorem getFo_ins {Cs : List Str} {f : Str} {C : Str} {fs : List (Str × D)} : getFo Cs f (.ins C fs) h Q = (C ∈ Cs ∧ ∃ v, fs.lookup f = some v ∧ Q v h) := (rfl)
@[simp] theorem getF_ref {Cs : List Str} {f : Str} {o : O} (e : h[n]? = some o) : getF Cs f (.ref n) h Q = getFo Cs f o h Q := by unfold getF; simp only [e]; cases o <;> rfl
@[simp] theorem getF_ob {Cs : List Str} {f : Str} {C : Str} {ns : List Str} {ds : List D} : getF Cs f (.ob C ns ds) h Q = (C ∈ Cs ∧ ∃ v, (ns.zip ds).lookup f = some v ∧ Q v h) := (rfl)
def setFo (Cs : List Str) (f : Str) (n : Nat) (o : O) (v : D) (h : LH) (R : LH → Prop) : Prop := match o with | .ins C fs => C ∈ Cs ∧ fs.length < 1000 ∧ R (h.set n (.ins C (putD f v fs))) | _ => False
@[simp] theorem setFo_ins {Cs : List Str} {f : Str} {C : Str} {fs : List (Str × D)} {v : D} {R : LH → Prop} : setFo Cs f n (.ins C fs) v h R = (C ∈ Cs ∧ fs.length < 1000 ∧ R (h.set n (.ins C (putD f v fs)))) := (rfl)
@[simp] theorem setF_ref {Cs : List Str} {f : Str} {o : O} {v : D} {R : LH → Prop} (e : h[n]? = some o) : setF Cs f (.ref n) v h R = setFo Cs f n o v h R := by unfold setF; simp only [e]; cases o <;> rfl
def isInsO (C m : Str) (o : O) : Prop := match o with | .ins C' fs => C' = C ∧ fs.lookup m = none | _ => False
@[simp] theorem isInsO_ins {C C' m : Str} {fs : List (Str × D)} : isInsO C m (.ins C' fs) = (C' = C ∧ fs.lookup m = none) := (rfl)
@[simp] theorem isIns_ref {C m : Str} {o : O} (e : h[n]? = some o) : isIns C m (.ref n) h = isInsO C m o := by unfold isIns; simp only [e]; cases o <;> rfl
@[simp] theorem isIns_ob {C C' m : Str} {ns : List Str} {ds : List D} : isIns C m (.ob C' ns ds) h = (C' = C ∧ (ns.zip ds).lookup m = none) := (rfl)
def isObjO (C : Str) (o : O) : Prop := match o with | .ins C' _ => C' = C | _ => False
@[simp] theorem isObjO_ins {C C' : Str} {fs : List (Str × D)} : isObjO C (.ins C' fs) = (C' = C) := (rfl)
@[simp] theorem isObj_ref {C : Str} {o : O} (e : h[n]? = some o) : isObj C (.ref n) h = isObjO C o := by unfold isObj; simp only [e]; cases o <;> rfl
@[simp] theorem isObj_ob {C C' : Str} {ns : List Str} {ds : List D} : isObj C (.ob C' ns ds) h = (C' = C) := (rfl)
@[simp] theorem walkD_lst {ds : List D} {R : LIt → Prop} : walkD (.lst ds) h R = R ⟨ds, fun _ => True⟩ := (rfl)
@[simp] theorem walkD_tup {ds : List D} {R : LIt → Prop} : walkD (.tup ds) h R = R ⟨ds, fun _ => True⟩ := (rfl)
@[simp] theorem walkD_ref {ds : List D} {R : LIt → Prop} (e : h[n]? = some (.lst ds)) : walkD (.ref n) h R = R ⟨ds, fun h' => h'[n]? = some (.lst ds)⟩ := by unfold walkD; simp [e]
@[simp] theorem bLen_str {s : Str} : bLen [.str s] h Q = (s.length ≤ sizeLine ∧ Q (.int s.length) h) := (rfl)
@[simp] theorem bLen_lst {ds : List D} : bLen [.lst ds] h Q = Q (.int ds.length) h := (rfl)
@[simp] theorem bLen_tup {ds : List D} : bLen [.tup ds] h Q = Q (.int ds.length) h := (rfl)
@[simp] theorem bLen_ref {ds : List D} (e : h[n]? = some (.lst ds)) : bLen [.ref n] h Q = Q (.int ds.length) h := by unfold bLen; simp [e]
@[simp] theorem bAbs_int : bAbs [.int i] h Q = Q (.int (if i < 0 then -i else i)) h := (rfl)
@[simp] theorem bInt_int : bInt [.int i] h Q = Q (.int i) h := (rfl)
@[simp] theorem bInt_bl {b : Bool} : bInt [.bl b] h Q = Q (.int (if b then 1 else 0)) h := (rfl)
@[simp] theorem bMax2_int : bMax2 [.int i, .int j] h Q = Q (.int (if j > i then j else i)) h := (rfl)
@[simp] theorem bMin2_int : bMin2 [.int i, .int j] h Q = Q (.int (if j < i then j else i)) h := (rfl)
@[simp] theorem bDivmod_int : bDivmod [.int i, .int j] h Q = (L2.CDiv i j ∧ Q (.tup [.int (i / j), .int (i % j)]) h) := (rfl)
@[simp] theorem bTuple_tup {ds : List D} : bTuple [.tup ds] h Q = Q (.tup ds) h := (rfl)
@[simp] theorem bTuple_lst {ds : List D} : bTuple [.lst ds] h Q = Q (.tup ds) h := (rfl)
@[simp] theorem bTuple_ref {ds : List D} (e : h[n]? = some (.lst ds)) : bTuple [.ref n] h Q = Q (.tup ds) h := by unfold bTuple; simp [e]
@[simp] theorem bSum_lst {ds : List D} : bSum [.lst ds] h Q = ∃ ns : List Int, ds = ns.map D.int ∧ Q (.int ns.sum) h := (rfl)
@[simp] theorem mAppend_ref {xs : List D} {y : D} (e : h[n]? = some (.lst xs)) : mAppend (.ref n) [y] h Q = (xs.length < sizeLine ∧ Q .non (h.set n (.lst (xs ++ [y])))) := by unfold mAppend; simp [e]
@[simp] theorem eMt_run {op : LM} {o : LE} {A : LX (List D)} : eMt op o A σ h Q E = o σ h (fun x h1 => (seqL x h1 fun _ => True) ∧ A σ h1 (fun ds h2 => op x ds h2 Q) E) E := (rfl)
@[simp] theorem atI_nat {α : Type} {xs : List α} (h0 : 0 ≤ i) (h1 : i < xs.length) : L2.atI xs i = xs[i.toNat]? := by
  unfold L2.atI L2.ixN
  rw [if_pos h0, if_pos h1]; rfl
@[simp] theorem atI_last {α : Type} {xs : List α} (h1 : 0 < xs.length) : L2.atI xs (-1) = xs[xs.length - 1]? := by
  unfold L2.atI L2.ixN
  rw [if_neg (by decide), if_pos (by omega)]
  show xs[(-1 + (xs.length : Int)).toNat]? = _
  congr 1
  omega
@[simp] theorem ixN_nat {n : Nat} (h0 : 0 ≤ i) (h1 : i < n) : L2.ixN n i = some i.toNat := by
  unfold L2.ixN
  rw [if_pos h0, if_pos h1]
@[simp] theorem set_get {o o' : O} (e : h[n]? = some o) : (h.set n o')[n]? = some o' := by
  rw [List.getElem?_set_self (by exact (List.getElem?_eq_some_iff.mp e).1)]
@[simp] theorem set_get_ne {m : Nat} {o' : O} (e : n ≠ m) : (h.set n o')[m]? = h[m]? := List.getElem?_set_ne e
@[simp] theorem cPow_nat (h0 : 0 ≤ j) (h1 : j ≤ 1000000) (h2 : i.natAbs < 18446744073709551616) : L2.CPow i j := ⟨h0, h1, h2⟩
@[simp] theorem cDiv_nat (h0 : 0 < j) (h1 : j < 1073741824) : L2.CDiv i j := ⟨h0, h1⟩
@[simp] theorem cMul_l (h0 : -(2 ^ 64) < i) (h1 : i < 2 ^ 64) : L2.CMul i j := .inl ⟨h0, h1⟩
@[simp] theorem cMul_r (h0 : -(2 ^ 64) < j) (h1 : j < 2 ^ 64) : L2.CMul i j := .inr ⟨h0, h1⟩
theorem mod_lt' {k : Int} (h : 0 < k) : i % k < k := Int.emod_lt_of_pos i h
theorem mod_nn {k : Int} (h : 0 < k) : 0 ≤ i % k := Int.emod_nonneg i (by omega)
end

section
variable {h l : LH} {n k : Nat} {o : O}
@[simp] theorem app_old (e : h[n]? = some o) : (h ++ l)[n]? = some o := by rw [List.getElem?_append_left (List.getElem?_eq_some_iff.mp e).1]; exact e
@[simp] theorem app_new : (h ++ l)[h.length + k]? = l[k]? := by rw [List.getElem?_append_right (by omega)]; congr 1; omega
@[simp] theorem app_new0 : (h ++ l)[h.length]? = l[0]? := by rw [List.getElem?_append_right (by omega)]; congr 1; omega
@[simp] theorem app_set : (h ++ l).set (h.length + k) o = h ++ l.set k o := by rw [List.set_append_right _ _ (by omega)]; congr 2; omega
@[simp] theorem app_set0 : (h ++ l).set h.length o = h ++ l.set 0 o := by rw [List.set_append_right _ _ (by omega)]; congr 2; omega
theorem app_setOld (e : n < h.length) : (h ++ l).set n o = h.set n o ++ l := List.set_append_left _ _ e
end
/-! names -/
theorem ofString_inj {a b : String} (h : Str.ofString a = Str.ofString b) : a = b := by
  rw [Str.ofString_eq_toList, Str.ofString_eq_toList] at h
  have h := congrArg (fun s : Str => s.cps.toList) h
  simp only [List.toList_toArray] at h
  have key : ∀ xs ys : List Char, xs.map Char.toNat = ys.map Char.toNat → xs = ys := by
    intro xs
    induction xs with
    | nil => intro ys e; cases ys with | nil => rfl | cons y ys => simp at e
    | cons x xs ih => intro ys e; cases ys with | nil => simp at e | cons y ys => simp only [List.map_cons, List.cons.injEq] at e; rw [ih ys e.2, Char.ext (UInt32.toNat_inj.mp e.1)]
  have : a.toList = b.toList := key _ _ h
  rw [← String.ofList_toList (s := a), this, String.ofList_toList]
@[simp] theorem ofString_eq {a b : String} : (Str.ofString a = Str.ofString b) = (a = b) := propext ⟨ofString_inj, fun h => by rw [h]⟩
@[simp] theorem lookup_if {β : Type} {a k : Str} {b : β} {es : List (Str × β)} : List.lookup a ((k, b) :: es) = if a = k then some b else List.lookup a es := by
  rw [List.lookup_cons]
  by_cases z : a = k
  · simp [z]
  · rw [if_neg z, show (a == k) = false from by simpa using z]
@[simp] theorem putD_if {f g : Str} {d e : D} {r : List (Str × D)} : putD f d ((g, e) :: r) = if g = f then (g, d) :: r else (g, e) :: putD f d r := (rfl)
@[simp] theorem putD_nil {f : Str} {d : D} : putD f d [] = [(f, d)] := (rfl)
section
variable {h : LH} {Q : D → LH → Prop} {σ : LV} {E : XL} {i j : Int} {n : Nat}
@[simp] theorem oEqD_int : oEqD (.int i) (.int j) h Q = Q (.bl (decide (i = j))) h := (rfl)
@[simp] theorem oNeD_int : oNeD (.int i) (.int j) h Q = Q (.bl (!decide (i = j))) h := (rfl)
@[simp] theorem oEqD_str {x y : Str} : oEqD (.str x) (.str y) h Q = Q (.bl (decide (x = y))) h := (rfl)
@[simp] theorem oNeD_str {x y : Str} : oNeD (.str x) (.str y) h Q = Q (.bl (!decide (x = y))) h := (rfl)
@[simp] theorem truD_bl {b : Bool} {R : Bool → Prop} : truD (.bl b) h R = R b := (rfl)
@[simp] theorem bListM_lst {ds : List D} : bListM [.lst ds] h Q = Q (.ref h.length) (h ++ [.lst ds]) := (rfl)
@[simp] theorem tyD_int : tyD (.int i) h = some (.bt "int") := (rfl)
@[simp] theorem tyD_str {x : Str} : tyD (.str x) h = some (.bt "str") := (rfl)
@[simp] theorem tyD_ob {C : Str} {ns : List Str} {ds : List D} : tyD (.ob C ns ds) h = some (.cl C) := (rfl)
@[simp] theorem bMin_run {d : D} : bMin [d] h Q = seqL d h fun xs => ∃ ns : List Int, xs = ns.map D.int ∧ 0 < ns.length ∧ ∀ m, m ∈ ns → (∀ y, y ∈ ns → m ≤ y) → Q (.int m) h := (rfl)
@[simp] theorem bMax_run {d : D} : bMax [d] h Q = seqL d h fun xs => ∃ ns : List Int, xs = ns.map D.int ∧ 0 < ns.length ∧ ∀ m, m ∈ ns → (∀ y, y ∈ ns → y ≤ m) → Q (.int m) h := (rfl)
@[simp] theorem bAll_run {d : D} : bAll [d] h Q = seqL d h fun xs => ∃ bs : List Bool, xs = bs.map D.bl ∧ Q (.bl (bs.all id)) h := (rfl)
@[simp] theorem bAny_run {d : D} : bAny [d] h Q = seqL d h fun xs => ∃ bs : List Bool, xs = bs.map D.bl ∧ Q (.bl (bs.any id)) h := (rfl)
@[simp] theorem oIn_run {neg : Bool} {x y : D} : oIn neg x y h Q = (flD x = true ∧ seqA y h fun ds => ds.all flD = true ∧ Q (.bl (if neg then !inD x ds else inD x ds)) h) := (rfl)
@[simp] theorem bReprD_run {d : D} : bReprD [d] h Q = ∃ p, dPyH h d = some p ∧ p.showable = true ∧ p.shown.length ≤ sizeLine ∧ p.depth ≤ 60 ∧ Q (.str p.shown) h := (rfl)
end
/-- a walk over two items -/
theorem forAt_two {g : LG} {b : LS} {σ : LV} {h : LH} {K : LK} {x y : D} {ok : LH → Prop} (hok : ∀ h, ok h)
    (q : g x σ h (fun σ2 h2 => b σ2 h2 { K with nx := fun σ3 h3 => g y σ3 h3 (fun σ4 h4 => b σ4 h4 { K with nx := K.nx, ct := K.nx, bk := K.nx }) (exOf K σ3), ct := fun σ3 h3 => g y σ3 h3 (fun σ4 h4 => b σ4 h4 { K with nx := K.nx, ct := K.nx, bk := K.nx }) (exOf K σ3), bk := K.nx }) (exOf K σ)) : forAt ⟨[x, y], ok⟩ g b σ h K := by
  refine ⟨fun i σ' h' => match i with | 0 => σ' = σ ∧ h' = h | 1 => g y σ' h' (fun σ4 h4 => b σ4 h4 { K with nx := K.nx, ct := K.nx, bk := K.nx }) (exOf K σ') | _ => K.nx σ' h', ⟨rfl, rfl⟩, fun _ _ _ _ _ => hok _, fun i z σ' h' e q' => ?_, fun σ' h' q' => q'⟩
  match i, e, q' with
  | 0, e, ⟨e1, e2⟩ => subst e1 e2; cases e; exact q
  | 1, e, q' => cases e; exact q'
/-- a comprehension that changes nothing -/
theorem comp_pure {J : LIt} {p : Pt} {t : LX Bool} {e : LE} {vs : List Nat} {σ : LV} {h : LH} {Q : List D → LH → Prop} (f : D → Option D) (hok : J.ok h) (hlen : J.items.length < sizeLine)
    (hst : ∀ x ∈ J.items, ∀ R : Option D → LH → Prop, R (f x) h → p.st x (lwipe σ vs) fun σ2 => t σ2 h (fun b h2 => if b = true then e σ2 h2 (fun y h3 => R (some y) h3) (fun _ _ _ => False) else R none h2) (fun _ _ _ => False))
    (q : Q (J.items.filterMap f) h) : compAt J p t e vs σ h Q := by
  refine ⟨fun i acc h' => acc = (J.items.take i).filterMap f ∧ h' = h, ⟨by simp, rfl⟩, fun i acc h' _ hI => by rw [hI.2]; exact hok, fun i x acc h' hx hI => ?_, fun acc h' hI => by rw [hI.1, hI.2, List.take_length]; exact q⟩
  obtain ⟨ea, eh⟩ := hI
  subst ea
  subst eh
  have hl := (List.getElem?_eq_some_iff.mp hx).1
  have tk : J.items.take (i + 1) = J.items.take i ++ [x] := by rw [List.take_succ, hx]; rfl
  have l1 : ((J.items.take i).filterMap f).length < sizeLine := by
    have a := List.length_filterMap_le f (J.items.take i)
    have b : (J.items.take i).length ≤ J.items.length := by rw [List.length_take]; omega
    omega
  refine hst x (List.mem_of_getElem? hx) (fun o h3 => match o with | some y => ((J.items.take i).filterMap f).length < sizeLine ∧ (J.items.take i).filterMap f ++ [y] = (J.items.take (i + 1)).filterMap f ∧ h3 = h' | none => (J.items.take i).filterMap f = (J.items.take (i + 1)).filterMap f ∧ h3 = h') ?_
  cases q : f x with
  | some y => exact ⟨l1, by rw [tk, List.filterMap_append, List.filterMap_cons, q]; rfl, rfl⟩
  | none => exact ⟨by rw [tk, List.filterMap_append, List.filterMap_cons, q]; simp, rfl⟩
end LL
end

section
set_option Elab.async false
set_option linter.all false
set_option maxRecDepth 100000
set_option maxHeartbeats 1000000
/-! LLExc: raise, try .. except, the field of a caught error, a lambda without parameters handed to a def. -/
namespace LL
open PySem PySem.Spec PyProof.Rows L2
variable {X : Cx} {W : WX}

/-! ### raise -/
section
variable {x : Str} {p pos pos' : Pos}
theorem pmk_own0 {C : Addr} {bmB : List Value} {B newId initId : String} (F : ExcBaseFacts B newId initId bmB) (q : PySem.W.excIn X.K C bmB newId = true) (gC : X.mg x = some (.ref C)) (kC : PySem.W.keepIn X.K (.ref C) = true) (r : Raises X (.ref C)) (hg : Gl X x)
    (hdb : (x == ("__debug__" : Str)) = false) : L2N.PMk X (.Call (.Name x p) [] [] pos) (fun _ H Q => Q (.ref C) none H) := by
  intro pins s σ H Q I h
  refine wpAny_Call_Name_kw (ld_glob I hg gC ?_ hdb)
  refine PySem.W.callWith_K0 I.kIn kC ?_
  show wpAny _ _ (call (.ref C) []) _ _ _
  obtain ⟨bm, N, nm, qn, bs, hdct, sn, sub, ab, col, dd, k0, k1, k2, k3, k5, mN, hC, hN, hni, T⟩ := exc_obj I.kIn q
  exact wpAny_call_exc_subT F T hC hN hni (fun h' e hm => L2N.mk_of I hm r h (I.hok.gone hm.new)) (Nat.zero_le _)
def sRaise0 (C : Str) : LS := fun σ h K => K.ex C [] σ h
theorem js_raise0 {bmB : List Value} {B newId initId : String} (F : ExcBaseFacts B newId initId bmB) (q : PySem.W.excIn X.K (He.ga X.K x) bmB newId = true) (gC : X.mg x = some (.ref (He.ga X.K x))) (kC : PySem.W.keepIn X.K (.ref (He.ga X.K x)) = true) (r : Raises X (.ref (He.ga X.K x))) (tk : L2N.Takes X W)
    (hc : X.calm = true := by rfl) (hg : Gl X x := by rfl) (hdb : (x == ("__debug__" : Str)) = false := by decide) : JS X W (.Raise (some (.Call (.Name x p) [] [] pos)) none pos') (sRaise0 x) :=
  ⟨fun σ h A B l q => l.ex _ _ _ _ q, PS.weak (L2N.ps_raise hc tk (pmk_own0 F q gC kC r hg hdb)) fun Dn σV H ⟨ι0, H0, ι, σ, h, e, hS, hH, q⟩ => q ι none σV H e hS hH rfl⟩
/-- an error class whose own __init__ sets the one field f -/
def spOex (K : Frag) (f : Str) : Sp := fun vs H Q _ => ∃ a C v, vs = [.ref a, v] ∧ OexC K C ∧ PySem.W.findIn K (.ref C) f = some none ∧ H a = some (exo a C none) ∧ ∀ dx, H dx = none → dx ≠ a → Q .non (upd (upd H dx (exd dx [(f, v)])) a (exo a C (some dx)))
theorem oex_keeps {P : Program} {w : World} {K : Frag} {mg : Str → Option Value} {base : Heap} {qual : Str} {params : Arguments} {body : List Stmt} {scope : Scope} {f : Str} {fI : Addr} {fd : FuncData} {N : List Str} {p : Str}
    (F : FunD K "__init__" qual params body scope [] [] fI fd) (S : FnScope N ["self", p] scope) (hN : N = (["self", p] : List Str))
    (hbody : ∀ (cdv : Value) (A : Around) (outer : List Env) (s : Shared) (H : Hp) (E : XK), PSs (cxOf (L2N.CX P w) P w K mg base N qual scope fI cdv A outer s H E) body (tOst K f (tVar 0) (tVar 1))) : FnOk P w K mg base (L2N.CX P w) 1 fI fd ["self", p] (spOex K f) := by
  obtain ⟨oc, od, dV, kV, doc, pm, an, cdv, ct, osl, rfl, lk, hcd, _, _⟩ := F.ex
  refine fn_of lk hcd S (fun vs H Q E ⟨a, C, v, e, _⟩ => by rw [e]; rfl) fun A outer s H vs Q E _ hsp => ⟨_, hbody cdv A outer s H E, ?_⟩
  obtain ⟨a, C, v, rfl, T, hno, ha, q⟩ := hsp
  subst hN
  exact ⟨v, rfl, .ref a, rfl, a, C, rfl, T, hno, .inl ⟨ha, fun dx n ne => q dx n ne⟩⟩
def sRaise1 (C f : Str) (m : LE) : LS := fun σ h K => m σ h (fun d h1 => K.ex C [(f, d)] σ h1) (exOf K σ)
theorem upd_eq_del {H : Hp} {a dx : Addr} {o o' u z : HO} (ha : H a = none) (ne : dx ≠ a) : upd (del (upd (upd (upd H a o) dx o') a u) a) dx z = upd H dx z := by
  funext b
  by_cases hb : b = dx
  · rw [hb, upd_same, upd_same]
  · rw [upd_ne hb, upd_ne hb]
    by_cases hc : b = a
    · rw [hc, del_same, ha]
    · rw [del_ne hc, upd_ne hc, upd_ne hb, upd_ne hc]
/-- C(e), C an own class whose own __init__ keeps sp -/
theorem pmkG {bmB : List Value} {B newId initId : String} (FB : ExcBaseFacts B newId initId bmB) {x : Str} {e : Expr} {ta : TA} {p pos : Pos} {C fI : Addr} {k : Nat} {fd : FuncData} {ps : List Str} {sp : Sp} {nm q : Str} {N : Addr} {bs bm : List Value} {sn : List Str} {sub : List Value} {ab : Bool} {col : Option Bool} {dd : Option Addr} {k0 k1 k2 k3 k5 : Option Value}
    (hC : X.K.lookup C = some (excClassObj nm q C N bs bm true sn sub ab col dd k0 k1 k2 k3 k5 newId)) (hT : ∀ Y : String, bm.contains (.type Y) = bmB.contains (.type Y)) (kC : PySem.W.keepIn X.K (.ref C) = true) (rs : Raises X (.ref C)) (iC : PySem.W.findIn X.K (.ref C) "__init__" = some (some (.ref fI))) (tI : PySem.W.typeIn X.K (.ref fI) = some (.type "function"))
    (F1 : FnOk X.prog X.w X.K X.mg X.base (L2N.CX X.prog X.w) k fI fd ps sp) (hr : Room (k + 1) X.A) (hb : Binds X.K fd ps []) (hx : Passes (L2N.CX X.prog X.w) X (fun _ _ _ => False)) (hg : Gl X x) (hm : X.mg x = some (.ref C)) (ha : PA X [e] ta)
    (hdb : (x == ("__debug__" : Str)) = false) (he : starEach [e] X.env = (false, eval e X.env) :: starEach [] X.env) : L2N.PMk X (.Call (.Name x p) [e] [] pos) (tMkO C sp [] ta) := by
  intro pins s σ H Q I h
  refine wpAny_Call_Name_kw (ld_glob I hg hm ?_ hdb)
  refine PySem.W.callWith_K (h₀ := X.base) I.ok.mod.kin kC (thn (ha.run pos pins s σ H _ I h) fun us s1 ⟨vs, H1, I1, r1, hz, q1⟩ => ⟨I1.kIn, ?_⟩) he rfl
  show wpAny _ _ (call (.ref C) us) _ _ _
  obtain ⟨hp, g, dr, tk, os⟩ := s1
  have hsz : hp.objs.size ≤ hp.objs.size + 1 := Nat.le_succ _
  have hn : H1 (hp.objs.size + 1) = none := I1.hok.fresh hsz
  have hq := q1 (hp.objs.size + 1) hn
  have kk : ∀ b o, hp.get? b = some o → ((hp.push (PySem.W.kdv_tup us)).push (PySem.HandSPX.excO C hp.objs.size)).get? b = some o := fun b o e => Heap.get?_push_of_some _ (Heap.get?_push_of_some _ e)
  have hget : ((hp.push (PySem.W.kdv_tup us)).push (PySem.HandSPX.excO C hp.objs.size)).get? (hp.objs.size + 1) = some (PySem.HandSPX.excO C hp.objs.size) := by heap_get
  have I2 : Inv X pins σ (upd H1 (hp.objs.size + 1) (exo (hp.objs.size + 1) C none)) ⟨(hp.push (PySem.W.kdv_tup us)).push (PySem.HandSPX.excO C hp.objs.size), g, dr, tk, os⟩ :=
    I1.laid (t' := tk) (a := hp.objs.size + 1) (o := exo (hp.objs.size + 1) C none) (h' := (hp.push (PySem.W.kdv_tup us)).push (PySem.HandSPX.excO C hp.objs.size)) kk hsz (exo_ok hget)
  rw [List.append_nil] at hq
  have r2 : Vals (V.ref (hp.objs.size + 1) :: vs) (Value.ref (hp.objs.size + 1) :: us) := .cons rfl r1
  have hl : (Value.ref (hp.objs.size + 1) :: us ++ []).length = ps.length := by
    rw [List.append_nil]
    have e := r2.length
    rw [F1.len _ _ _ _ hq] at e
    exact e.symm
  have hus : us.length ≤ sizeLine := by
    rw [← Paired.length r1, sizeLine_eq]
    omega
  have hbt := hb ⟨(hp.push (PySem.W.kdv_tup us)).push (PySem.HandSPX.excO C hp.objs.size), g, dr, tk, os⟩ (Value.ref (hp.objs.size + 1) :: us) I2.kIn hl
  rw [List.append_nil] at hbt
  refine wpAny_call (PySem.HandSPX.call_own FB hT (I1.kIn _ _ hC) (PySem.W.looks_findIn I1.kIn iC) (fun self => PySem.W.bind_fn I1.kIn self tI) hus
    (codeAny_mono (F1.run _ X.stack _ _ ⟨Value.ref (hp.objs.size + 1) :: us, []⟩ (Value.ref (hp.objs.size + 1) :: us) _ _ (fun _ _ _ => False) (hr.make C us []) (I2.env0.make C us []) hbt r2 hq) fun r s' hq' => ?_))
  cases r with
  | error er => exact hx pins σ _ _ er s' I2 hq'
  | ok fl =>
    cases fl with
    | ret u =>
      obtain ⟨v, H2, os2, bare2, un2, hok2, rv, ev, d, fs, ea, ed, hd1, q2⟩ := hq'
      subst ev
      obtain ⟨h2, g2, d2, t2, os'⟩ := s'
      obtain ⟨t0, G, J, kG, ge, hoe, na⟩ := mk_end0 (d2 := d2) (t2 := t2) I1 hsz kk un2 hok2 os2 bare2 ea ed hd1
      exact ⟨rv, _, _, _, ⟨G, g2, d2, t2, os'⟩, _, .ref C, some d, rfl, J, kG, ge, hoe, ⟨rfl, rfl, fun vs e => by cases e; rfl⟩, rfl, rfl, na, rfl, bare2, rs, q2⟩
    | next => exact False.elim hq'
    | brk => exact False.elim hq'
    | cont => exact False.elim hq'
/-- what the written part says of an error class whose own __init__ sets the field f -/
structure OexF (K : Frag) (x f : Str) : Prop where
  T : OexC K (He.ga K x)
  hno : PySem.W.findIn K (.ref (He.ga K x)) f = some none
  iC : PySem.W.findIn K (.ref (He.ga K x)) "__init__" = some (some (.ref (He.ma K (He.ga K x) "__init__")))
  tI : PySem.W.typeIn K (.ref (He.ma K (He.ga K x) "__init__")) = some (.type "function")
/-- its __init__ keeps its promise -/
structure OexK (P : Program) (w : World) (K : Frag) (mg : Str → Option Value) (base : Heap) (fI : Addr) (f : Str) : Prop where
  ex : ∃ (fd : FuncData) (ps : List Str), FnOk P w K mg base (L2N.CX P w) 1 fI fd ps (spOex K f) ∧ Binds K fd ps []
theorem js_raise1 {f : Str} {e : Expr} {m : LE} (he : JE X W e m) (O : OexF X.K x f) (hk : OexK X.prog X.w X.K X.mg X.base (He.ma X.K (He.ga X.K x) "__init__") f) (hr : RoomG 2 X.A)
    (gC : X.mg x = some (.ref (He.ga X.K x))) (tk : L2N.Takes X W) (hc : X.calm = true := by rfl) (hg : Gl X x := by rfl) (hdb : (x == ("__debug__" : Str)) = false := by decide) (hs : starEach [e] X.env = (false, eval e X.env) :: starEach [] X.env := by rfl)
    (hpa : ∀ {t : TE}, PE X e t → PA X [e] (tCons t tNil) := by exact fun a => pa_cons a pa_nil) :
    JS X W (.Raise (some (.Call (.Name x p) [e] [] pos)) none pos') (sRaise1 x f m) := by
  have ha : PA X [e] (tCons (tE X.K W m) tNil) := hpa he.run
  obtain ⟨T, hno, iC, tI⟩ := O
  obtain ⟨fd, ps, F1, hb⟩ := hk.ex
  obtain ⟨nm, q, N, bs, bm, sn, sub, ab, col, dd, k0, k1, k2, k3, k5, hC, hbm⟩ := T.cls
  refine ⟨fun σ h A B l q => he.mono σ h _ _ _ _ (fun d h1 q1 => l.ex _ _ _ _ q1) (exOf.le l σ) q, PS.weak (L2N.ps_raise hc tk (pmkG F.excBase_ValueError hC (fun Y => PySem.HandSPX.refsVE_contains Y _ hbm) T.kC (raises_own T.exC T.tyC) iC tI F1 hr.r hb (fun _ _ _ _ _ _ _ z => False.elim (let ⟨_, _, _, _, _, _, _, _, _, _, _, _, y⟩ := z; y)) hg gC ha hdb hs)) fun Dn σV H ⟨ι0, H0, ι, σ, h, e, hS, hH, q⟩ => ?_⟩
  refine tE.stm he.mono e hS hH q fun d h1 ι1 v H1 q1 e2 e1 hS1 hH1 rd => ?_
  refine ⟨by simp, fun a na => ⟨a, He.ga X.K x, v, rfl, T, hno, upd_same, fun dx nd ne => ⟨rfl, dx, [(f, v)], upd_same, ?_, ?_, ?_⟩⟩⟩
  · rw [upd_ne ne, upd_same]
  · rw [upd_ne ne] at nd; exact nd
  · rw [upd_ne ne] at nd
    rw [upd_eq_del na ne]
    have ex : Ext ι1 H1 ι1 (upd H1 dx (.xd [(f, v)])) := Ext.new nd
    exact q1 ι1 (some dx) σV _ (e1.trans ex) (hS1.ext ex) (hH1.new nd) ⟨_, upd_same, ⟨v, [], rfl, rd.ext ex, rfl⟩, hH1.notNew nd⟩
end

/-! ### try: clauses with and without a name -/
/-- a clause: the class, the slot of its name, what the suite reads -/
structure Hd where
  c : Value
  i : Option Nat
  ts : Addr → Value → Option Addr → TS
def unset (D : Ends) (i : Nat) : Ends := { nx := fun σ' H' => D.nx (σ'.set i none) H', rt := D.rt, bk := fun σ' H' => D.bk (σ'.set i none) H', ct := fun σ' H' => D.ct (σ'.set i none) H' }
def suiteOf (q : Hd) (a : Addr) (cls : Value) (d : Option Addr) (D : Ends) (σ : L2.St) (H : Hp) : Prop := match q.i with
  | none => q.ts a cls d D σ H
  | some i => q.ts a cls d (unset D i) (σ.set i (some (.ref a))) H
/-- what the clauses wish of an exception of the body, one after the other -/
def wMix (K : Frag) (Wout : WX) (D : Ends) : List Hd → WX
  | [] => Wout
  | q :: r => fun cls d σ H => ∃ b, PySem.W.exmOne K cls q.c = some b ∧ (b = true → ∀ a, H a = none → suiteOf q a cls d D σ H) ∧ (b = false → wMix K Wout D r cls d σ H)
def NmOk (X : Cx) : Option Str → Option Nat → Prop
  | none, none => True
  | some n, some i => X.N[i]? = some n ∧ X.env.kindOf n = some .local
  | _, _ => False
inductive HdsX (X : Cx) : List ExceptHandler → List Hd → Prop
  | nil : HdsX X [] []
  | cons {x : Str} {c : Value} {n : Option Str} {i : Option Nat} {ts : Addr → Value → Option Addr → TS} {b₀ : Stmt} {suite : List Stmt} {np pos' : Pos} {hds : List ExceptHandler} {l : List Hd} (hc : Names X x c) (hn : NmOk X n i)
      (hsu : ∀ (a : Addr) (oe : Obj) (cls : Value) (d : Option Addr) (pn : List (Addr × Obj)), L2N.Zn cls d oe → (∃ vs, oe.data = .fields vs) → PSs (X.suite a ((a, oe) :: pn)) (b₀ :: suite) (ts a cls d)) (r : HdsX X hds l) :
      HdsX X (.ExceptHandler (some (.Name x np)) n (b₀ :: suite) pos' :: hds) (⟨c, i, ts⟩ :: l)
section
variable {body : List Stmt} {h₀ : ExceptHandler} {hds : List ExceptHandler} {l : List Hd} {pos : Pos} {tb : WX → TS} {Wout : WX}
theorem ps_try_mix (hs : X.stack = X.env :: X.outer) (hf : X.env.frame = some X.env.locals) (hN : X.N.Nodup) (tk : L2N.Takes X Wout)
    (hb : ∀ (W : WX) (pn : List (Addr × Obj)) (xe : Value → Shared → Prop), L2N.Takes (X.tr pn xe) W → PassesOwn (model X.prog X.w) X.A X.env xe → PSs (X.tr pn xe) body (tb W))
    (hh : HdsX X (h₀ :: hds) l) : PS X (.Try body (h₀ :: hds) [] [] pos) (fun D σ H => tb (wMix X.K Wout D l) D σ H) := by
  refine ⟨fun pins s σ H D I h => ?_⟩
  have ok := I.ok
  have hfr : X.A.frames = some (X.env :: X.outer) := by rw [ok.frames, hs]
  -- what is caught is looked at here
  have go : ∀ {hds' : List ExceptHandler} {l' : List Hd}, HdsX X hds' l' → ∀ {a : Addr} {B h3 : Heap} {sI s' : Shared} {σ' : L2.St} {H' : Hp} {cls : Value} {d : Option Addr}, HandSPX.FlyingZ B (X.env :: X.outer) a (L2N.Zn cls d) h3 → Inv X pins σ' H' sI →
      (∀ b o, sI.heap.get? b = some o → b ∉ frs X.stack → B.get? b = some o) → sI.heap.UpToSlots h3 → H' a = none → s'.os = sI.os → AllBare s'.gens → a ∉ frs (X.env :: X.outer) → wMix X.K Wout D l' cls d σ' H' →
      wpAny (model X.prog X.w) X.A (handleBy (.ref a) X.env hds') (SP X pins D) X.xe { s' with heap := h3 } := by
    intro hds' l' hk
    induction hk with
    | nil =>
      intro a B h3 sI s' σ' H' cls d fl J nb up na os ag nfr w
      refine wpAny_handleBy_nil ?_
      obtain ⟨_, _, _, oe, vs, T, oT, ts', he, hz, hd, h1, hr⟩ := id fl
      unfold PySem.passOn
      refine wpAny_bind (wpAny_field he hd h1 ?_)
      rw [if_neg (show ¬ ((Value.ref T == Value.none) = true) from by simp)]
      have fin : wpAny (model X.prog X.w) X.A (setFlight (.ref a) X.env.frame) (fun _ s4 => wpAny (model X.prog X.w) X.A (throw (.ref a) : Sem Flow) (SP X pins D) X.xe s4) X.xe { s' with heap := h3 } := by
        rw [hf]
        exact HandSPX.setFlight_upZ fl fun h4 hh4 up4 => wpAny_throw (tk _ _ ⟨a, B, sI, pins, σ', H', cls, d, rfl, J, nb, up.trans up4, .inr (.inr (by rw [hs]; exact hh4)), na, os, ag, w⟩)
      first
        | exact wpAny_bind (wpAny_pure (wpAny_bind fin))
        | exact wpAny_bind fin
    | @cons x c n i ts b₀ suite np pos' hds2 l2 hc hn hsu r ih =>
      intro a B h3 sI s' σ' H' cls d fl J nb up na os ag nfr w
      obtain ⟨b, hb1, hyes, hno⟩ := w
      obtain ⟨oe, vs, he, hz, hd⟩ := fl.there
      have nL : a ≠ X.env.locals := fun z => nfr (List.mem_filterMap.mpr ⟨X.env, List.mem_cons_self, by rw [hf, z]⟩)
      have nF : a ∉ X.fs := fun hm => by
        obtain ⟨e, he, q⟩ := List.mem_filterMap.mp hm
        exact nfr (List.mem_filterMap.mpr ⟨e, List.mem_cons_of_mem _ he, q⟩)
      have J3 : Inv X pins σ' H' { s' with heap := h3 } := J.landed nb fl.1 up os ag
      have S3 := J3.suite he hd na nL nF
      have LT : PySem.W.Looks (model X.prog X.w) h3 (typeOf (.ref a)) cls := fun A Q E s k q => wpAny_typeOf_ref (k _ _ he) (by rw [hz.1]; exact q)
      have LM := PySem.W.exm_one (M := model X.prog X.w) (J3.kIn) LT hb1
      have test : ∀ {Q : Value → Shared → Prop} {E : Value → Shared → Prop}, Q c { s' with heap := h3 } → wpAny (model X.prog X.w) (X.A.mark (some (.ref a))) (eval (.Name x np) X.env) Q E { s' with heap := h3 } := fun {Q E} q => by
        obtain ⟨hg, hdbg, hm | ⟨hm, hv, hnn⟩⟩ := hc
        · exact ld_glob (X := X.suite a ((a, oe) :: (X.pn ++ pins))) S3 hg hm q hdbg
        · exact ld_blt (X := X.suite a ((a, oe) :: (X.pn ++ pins))) S3 hg hm hv q hnn hdbg
      refine wpAny_handleBy_cons (codeAny_handlers_test ?_) (by intro q; cases q)
      refine test (LM.here ?_)
      cases b with
      | false =>
        show wpAny _ X.A (handleBy (.ref a) X.env hds2) _ _ _
        exact ih fl J nb up na os ag nfr (hno rfl)
      | true =>
        have w := hyes rfl a na
        have into : ∀ {h4 : Heap}, HandSPX.FlyingZ B (X.env :: X.outer) a (L2N.Zn cls d) h4 → h3.UpToSlots h4 → ∃ oe4, L2N.Zn cls d oe4 ∧ (∃ vs, oe4.data = .fields vs) ∧ Inv (X.suite a ((a, oe4) :: (X.pn ++ pins))) [] σ' H' { s' with heap := h4 } := fun {h4} fl4 up4 => by
          have J4 : Inv X pins σ' H' { s' with heap := h4 } := J.landed nb fl4.1 (up.trans up4) os ag
          obtain ⟨oe4, vs4, he4, hz4, hd4⟩ := fl4.there
          exact ⟨oe4, hz4, ⟨_, hd4⟩, J4.suite he4 hd4 na nL nF⟩
        cases n with
        | none =>
          cases i with
          | some i => exact hn.elim
          | none =>
            refine codeAny_handlers_suite ?_
            refine HandSPX.lands_againZ fl fun h4 fl4 up4 => ?_
            obtain ⟨oe4, hz4, hd4, S4⟩ := into fl4 up4
            refine wpAny_mono ((hsu a oe4 cls d (X.pn ++ pins) hz4 hd4).run [] _ _ H' _ S4 w) (fun f s6 hsp => ?_) (fun _ _ z => False.elim z)
            cases f with
            | next => obtain ⟨σ6, H6, S6, q6⟩ := hsp; exact ⟨_, _, S6.unsuite ok, q6⟩
            | brk => obtain ⟨σ6, H6, S6, q6⟩ := hsp; exact ⟨_, _, S6.unsuite ok, q6⟩
            | cont => obtain ⟨σ6, H6, S6, q6⟩ := hsp; exact ⟨_, _, S6.unsuite ok, q6⟩
            | ret u => obtain ⟨v6, σ6, H6, S6, r6, q6⟩ := hsp; exact ⟨_, _, _, S6.unsuite ok, r6, q6⟩
        | some n =>
          cases i with
          | none => exact hn.elim
          | some i =>
            obtain ⟨hi, hln⟩ := hn
            refine codeAny_handlers_suite_as ?_
            refine HandSPX.lands_againZ fl fun h4 fl4 up4 => ?_
            obtain ⟨oe4, hz4, hd4, S4⟩ := into fl4 up4
            refine store_ok (X := X.suite a ((a, oe4) :: (X.pn ++ pins))) (v := .ref a) S4 hN hi (.inl hln) rfl (fun s5 S5 => ?_) (.inr hln)
            refine wpAny_mono ((hsu a oe4 cls d (X.pn ++ pins) hz4 hd4).run [] s5 _ H' _ S5 w) (fun f s6 hsp => ?_) (fun _ _ z => False.elim z)
            have end_ : ∀ {σ6 : L2.St} {H6 : Hp} {Q : Shared → Prop}, Inv (X.suite a ((a, oe4) :: (X.pn ++ pins))) [] σ6 H6 s6 → (∀ s7, Inv X pins (σ6.set i none) H6 s7 → Q s7) →
                wpAny (model X.prog X.w) X.A (do bindName X.env n .none; unbindBehindTheSuite X.env n pos') (fun _ s7 => Q s7) X.xe s6 := fun {σ6 H6 Q} S6 hq => gone_ok (S6.unsuite ok) hN hi hln hq
            cases f with
            | next => obtain ⟨σ6, H6, S6, q6⟩ := hsp; exact end_ S6 fun s7 J7 => ⟨_, _, J7, q6⟩
            | brk => obtain ⟨σ6, H6, S6, q6⟩ := hsp; exact end_ S6 fun s7 J7 => ⟨_, _, J7, q6⟩
            | cont => obtain ⟨σ6, H6, S6, q6⟩ := hsp; exact end_ S6 fun s7 J7 => ⟨_, _, J7, q6⟩
            | ret u => obtain ⟨v6, σ6, H6, S6, r6, q6⟩ := hsp; exact end_ S6 fun s7 J7 => ⟨_, _, _, J7, r6, q6⟩
  refine wpAny_Try_except ?_
  refine wpAny_mono ((hb (wMix X.K Wout D l) (X.pn ++ pins) (fun e s₁ => wpAny (model X.prog X.w) X.A (noteFrame e X.env) (fun _ s₂ => wpAny (model X.prog X.w) X.A (setFlight e none) (fun _ s₃ =>
    wpAny (model X.prog X.w) X.A (handleBy e X.env (h₀ :: hds)) (SP X pins D) X.xe s₃) X.xe s₂) X.xe s₁) (fun u s' xx => ?_) PassesOwn.looking).run [] s σ H D (I.toTry _) h) (fun f s1 hsp => ?_) (fun e s1 he => he)
  · obtain ⟨a, B, sI, pins', σ', H', cls, d, rfl, J', nb, up, sky, na, os, ag, w⟩ := xx
    have J : Inv X pins σ' H' sI := J'.ofTry ok
    have sky' : Sky B (X.env :: X.outer) a (L2N.Zn cls d) X.env.locals s'.heap := by rw [← hs]; exact sky
    show wpAny (model X.prog X.w) X.A (noteFrame (.ref a) X.env) _ _ _
    refine L2N.Sky.land L2N.Zn.steady hfr hf sky' fun h3 fl3 up3 => ?_
    obtain ⟨oe3, vs3, he3, hz3, hd3⟩ := fl3.there
    exact go hh fl3 J nb (up.trans up3) na os ag (fun hm => by
      obtain ⟨_, o', e', hnf⟩ := fl3.2.2.1.mem hm
      rw [he3] at e'; cases e'
      exact hnf _ hd3) w
  · cases f with
    | next => obtain ⟨σ', H', J', q⟩ := hsp; exact wpAny_execs_nil ⟨σ', H', J'.ofTry ok, q⟩
    | brk => obtain ⟨σ', H', J', q⟩ := hsp; exact ⟨σ', H', J'.ofTry ok, q⟩
    | cont => obtain ⟨σ', H', J', q⟩ := hsp; exact ⟨σ', H', J'.ofTry ok, q⟩
    | ret u => obtain ⟨v, σ', H', J', r, q⟩ := hsp; exact ⟨v, σ', H', J'.ofTry ok, r, q⟩
end

/-! ### try, in logical words -/
/-- a clause: which raised classes it takes, the slot of its name, the suite (of the caught error's address, class, dict) -/
structure LHd where
  l : List (Str × Bool)
  i : Option Nat
  s : Addr → Str → Option Addr → LS
def unsetK (K : LK) (i : Nat) : LK := { nx := fun σ h => K.nx (σ.set i none) h, rt := K.rt, bk := fun σ h => K.bk (σ.set i none) h, ct := fun σ h => K.ct (σ.set i none) h }
def suiteL (q : LHd) (a : Addr) (c : Str) (d : Option Addr) (fs : List (Str × D)) (σ : LV) (h : LH) (K : LK) : Prop := match q.i with
  | none => q.s a c d σ h { nx := K.nx, rt := K.rt, bk := K.bk, ct := K.ct }
  | some i => q.s a c d (σ.set i (some (.exc a c d (fs.map (·.1)) (fs.map (·.2))))) h (unsetK K i)
def hdsL : List LHd → Str → List (Str × D) → LV → LH → LK → Prop
  | [], c, fs, σ, h, K => K.ex c fs σ h
  | q :: r, c, fs, σ, h, K => ∃ b, q.l.lookup c = some b ∧ (b = true → ∀ (a : Addr) (d : Option Addr), (d = none → fs = []) → suiteL q a c d fs σ h K) ∧ (b = false → hdsL r c fs σ h K)
def sTry (body : LS) (hds : List LHd) : LS := fun σ h K => body σ h { K with ex := fun c fs σ' h' => hdsL hds c fs σ' h' K }
/-- nothing may be raised in a suite -/
abbrev NoX : WX := fun _ _ _ _ => False
/-- which raised classes C takes -/
def exmB (K : Frag) (C : Str) (p : Str × Bool) : Bool := decide (PySem.W.exmOne K (.ref (He.ga K p.1)) (.ref (He.ga K C)) = some p.2)
inductive LHds (X : Cx) : List ExceptHandler → List LHd → List Hd → Prop
  | nil : LHds X [] [] []
  | cons {x : Str} {n : Option Str} {q : LHd} {b₀ : Stmt} {suite : List Stmt} {np pos' : Pos} {hds : List ExceptHandler} {l : List LHd} {l' : List Hd} (hc : Names X x (.ref (He.ga X.K x))) (hl : q.l.all (exmB X.K x) = true) (hn : NmOk X n q.i)
      (hsu : ∀ (a : Addr) (oe : Obj) (c : Str) (d : Option Addr) (pn : List (Addr × Obj)), L2N.Zn (.ref (He.ga X.K c)) d oe → (∃ vs, oe.data = .fields vs) → JSs (X.suite a ((a, oe) :: pn)) NoX (b₀ :: suite) (q.s a c d)) (r : LHds X hds l l') :
      LHds X (.ExceptHandler (some (.Name x np)) n (b₀ :: suite) pos' :: hds) (q :: l) (⟨.ref (He.ga X.K x), q.i, fun a cls d Dn σV H => ∃ c, cls = .ref (He.ga X.K c) ∧ tS X.K NoX (q.s a c d) Dn σV H⟩ :: l')
theorem lookup_exm {K : Frag} {C c : Str} {b : Bool} {l : List (Str × Bool)} (e : l.lookup c = some b) (h : l.all (exmB K C) = true) : PySem.W.exmOne K (.ref (He.ga K c)) (.ref (He.ga K C)) = some b := by
  induction l with
  | nil => cases e
  | cons q l ih =>
    obtain ⟨c', b'⟩ := q
    rw [List.all_cons, Bool.and_eq_true] at h
    rw [List.lookup_cons] at e
    cases z : (c == c') with
    | true => rw [z] at e; cases e; rw [beq_iff_eq.mp z]; exact of_decide_eq_true h.1
    | false => rw [z] at e; exact ih e h.2
theorem PSs.pre {X : Cx} {st : List Stmt} {ι : Type} {t : ι → TS} {p : ι → Prop} (h : ∀ c, p c → PSs X st (t c)) : PSs X st (fun Dn σ H => ∃ c, p c ∧ t c Dn σ H) := ⟨fun pins s σ H Dn I ⟨c, e, q⟩ => (h c e).run pins s σ H Dn I q⟩
theorem LHds.hd {hds : List ExceptHandler} {l : List LHd} {l' : List Hd} (h : LHds X hds l l') : HdsX X hds l' := by
  induction h with
  | nil => exact .nil
  | @cons x n q b₀ suite np pos' hds l l' hc hl hn hsu r ih =>
    refine .cons hc hn (fun a oe cls d pn hz hd => ⟨fun pins s σ H Dn I w => ?_⟩) ih
    obtain ⟨c, rfl, w⟩ := w
    exact (hsu a oe c d pn hz hd).run.run pins s σ H Dn I w
theorem RelS.unset {K : Frag} {ι : Ad} {H : Hp} {σ : LV} {σV : L2.St} (hS : RelS K ι H σ σV) (i : Nat) : RelS K ι H (σ.set i none) (σV.set i none) := by
  refine ⟨by simpa using hS.1, fun j d' q => ?_⟩
  by_cases z : i = j
  · subst z
    have l := (List.getElem?_eq_some_iff.mp q).1
    rw [List.length_set] at l
    rw [List.getElem?_set_self l] at q
    cases q
  · rw [List.getElem?_set_ne z] at q
    obtain ⟨v', e, r'⟩ := hS.2 j d' q
    exact ⟨v', by rw [List.getElem?_set_ne z]; exact e, r'⟩
theorem hds_run {hds : List ExceptHandler} {l : List LHd} {l' : List Hd} (hh : LHds X hds l l') {ι0 ι : Ad} {H0 H : Hp} {Dn : Ends} {c : Str} {fs : List (Str × D)} {σ : LV} {h : LH} {σV : L2.St} {dx : Option Addr} (e : Ext ι0 H0 ι H) (hS : RelS X.K ι H σ σV) (hH : RelH X.K ι H h) (rx : RelX X.K ι H fs dx)
    (q : hdsL l c fs σ h (up X.K W ι0 H0 Dn)) : wMix X.K W Dn l' (.ref (He.ga X.K c)) dx σV H := by
  induction hh with
  | nil => exact q ι dx σV H e hS hH rx
  | @cons x n q' b₀ suite np pos' hds l l' hc hl hn hsu r ih =>
    obtain ⟨b, h1, h2, h3⟩ := q
    refine ⟨b, lookup_exm h1 hl, fun hb a na => ?_, fun hb => ih (h3 hb)⟩
    have q2 := h2 hb a dx (fun z => by subst z; exact rx)
    obtain ⟨ll, i, sq⟩ := q'
    have zz : L2N.Zn (.ref (He.ga X.K c)) dx ⟨.ref (He.ga X.K c), dx, .fields #[.none, .none, .none], #[]⟩ := ⟨rfl, rfl, fun vs e => by cases e; rfl⟩
    have mono := (hsu a _ c dx [] zz ⟨_, rfl⟩).mono
    cases i with
    | none =>
      refine ⟨c, rfl, ι0, H0, ι, σ, h, e, hS, hH, mono _ _ _ _ ?_ q2⟩
      exact ⟨fun _ _ z => z, fun _ _ z => z, fun _ _ z => z, fun _ _ z => z, fun _ _ _ _ z => z.elim⟩
    | some i =>
      refine ⟨c, rfl, ι0, H0, ι, _, h, e, hS.set i (v := .ref a) ?_, hH, mono _ _ _ _ ?_ q2⟩
      · refine ⟨rfl, ?_⟩
        cases dx with
        | none => obtain rfl : fs = [] := rx; rfl
        | some x' =>
          obtain ⟨vs, r1, r2, r3⟩ := rx
          obtain ⟨us, e1, r4⟩ := r2.snd
          subst e1
          exact ⟨us, r1, r3, by simp, r4⟩
      · exact ⟨fun _ _ z ι' σV' H' a1 a2 a3 => z ι' _ H' a1 (a2.unset i) a3, fun _ _ z => z, fun _ _ z ι' σV' H' a1 a2 a3 => z ι' _ H' a1 (a2.unset i) a3, fun _ _ z ι' σV' H' a1 a2 a3 => z ι' _ H' a1 (a2.unset i) a3, fun _ _ _ _ z => z.elim⟩
theorem hdsL_mono {hds : List ExceptHandler} {l : List LHd} {l' : List Hd} (hh : LHds X hds l l') {c : Str} {fs : List (Str × D)} {σ : LV} {h : LH} {A B : LK} (le : A.le B) (q : hdsL l c fs σ h A) : hdsL l c fs σ h B := by
  induction hh with
  | nil => exact le.ex _ _ _ _ q
  | @cons x n q' b₀ suite np pos' hds l l' hc hl hn hsu r ih =>
    obtain ⟨b, h1, h2, h3⟩ := q
    refine ⟨b, h1, fun hb a d hd => ?_, fun hb => ih (h3 hb)⟩
    have q2 := h2 hb a d hd
    obtain ⟨ll, i, sq⟩ := q'
    have zz : L2N.Zn (.ref (He.ga X.K c)) d ⟨.ref (He.ga X.K c), d, .fields #[.none, .none, .none], #[]⟩ := ⟨rfl, rfl, fun vs e => by cases e; rfl⟩
    have mono := (hsu a _ c d [] zz ⟨_, rfl⟩).mono
    cases i with
    | none => exact mono _ _ { nx := A.nx, rt := A.rt, bk := A.bk, ct := A.ct } { nx := B.nx, rt := B.rt, bk := B.bk, ct := B.ct } ⟨le.nx, le.rt, le.bk, le.ct, fun _ _ _ _ z => z⟩ q2
    | some i => exact mono _ _ (unsetK A i) (unsetK B i) ⟨fun _ _ z => le.nx _ _ z, le.rt, fun _ _ z => le.bk _ _ z, fun _ _ z => le.ct _ _ z, fun _ _ _ _ z => z⟩ q2
theorem js_try {body : List Stmt} {B : LS} {h₀ : ExceptHandler} {hds : List ExceptHandler} {l : List LHd} {l' : List Hd} {pos : Pos} (hN : X.N.Nodup) (tk : L2N.Takes X W)
    (hb : ∀ (W' : WX) (pn : List (Addr × Obj)) (xe : Value → Shared → Prop), L2N.Takes (X.tr pn xe) W' → PassesOwn (model X.prog X.w) X.A X.env xe → JSs (X.tr pn xe) W' body B) (hh : LHds X (h₀ :: hds) l l')
    (hs : X.stack = X.env :: X.outer := by rfl) (hf : X.env.frame = some X.env.locals := by rfl) : JS X W (.Try body (h₀ :: hds) [] [] pos) (sTry B l) := by
  have mono : MonoS B := (hb NoX [] (fun _ _ => False) (fun _ _ z => by
    obtain ⟨_, _, _, _, _, _, _, _, _, _, _, _, _, _, _, _, y⟩ := z
    exact y.elim) PassesOwn.never).mono
  refine ⟨fun σ h A B' le q => mono _ _ { A with ex := fun c fs σ' h' => hdsL l c fs σ' h' A } { B' with ex := fun c fs σ' h' => hdsL l c fs σ' h' B' } ⟨le.nx, le.rt, le.bk, le.ct, fun c fs σ' h' z => hdsL_mono hh le z⟩ q, PS.weak (ps_try_mix (tb := fun W' => tS X.K W' B) hs hf hN tk (fun W' pn xe t p => (hb W' pn xe t p).run) hh.hd) fun Dn σV H ⟨ι0, H0, ι, σ, h, e, hS, hH, q⟩ => ?_⟩
  refine ⟨ι0, H0, ι, σ, h, e, hS, hH, mono _ _ _ _ ?_ q⟩
  exact ⟨fun _ _ z => z, fun _ _ z => z, fun _ _ z => z, fun _ _ z => z, fun c fs σ' h' z ι' dx σV' H' e' hS' hH' rx => hds_run hh e' hS' hH' rx z⟩
/-- e.f in a suite, e the caught error -/
def eXf (C : Str) (a : Addr) (c : Str) (d : Option Addr) (f : Str) (m : LE) : LE := fun σ h Q E => m σ h (fun x h1 => c = C ∧ ∃ dd ns ds y, d = some dd ∧ x = .exc a C d ns ds ∧ (ns.zip ds).lookup f = some y ∧ Q y h1) E
theorem zip_lookup {K : Frag} {ι : Ad} {H : Hp} {f : Str} {y : D} : ∀ {ns : List Str} {ds : List D} {vs : List V}, RelDs K ι H ds vs → (ns.zip ds).lookup f = some y → ∃ v, (ns.zip vs).lookup f = some v ∧ RelD K ι H y v
  | [], _, _, _, e => by simp at e
  | _ :: _, [], _, _, e => by simp at e
  | n :: ns, d :: ds, _, ⟨v, r, e1, h1, h2⟩, e => by
    subst e1
    simp only [List.zip_cons_cons, List.lookup_cons] at e ⊢
    cases z : (f == n) with
    | true => rw [z] at e; cases e; exact ⟨v, rfl, h1⟩
    | false => rw [z] at e; exact zip_lookup h2 e
theorem je_xf {a : Addr} {oe : Obj} {c C : Str} {d : Option Addr} {pn : List (Addr × Obj)} {e : Expr} {m : LE} {pos : Pos} {n : Str} (T : XfC X.K (He.ga X.K C)) (hno : PySem.W.findIn X.K (.ref (He.ga X.K C)) n = some none)
    (hz : L2N.Zn (.ref (He.ga X.K c)) d oe) (hf : ∃ vs, oe.data = .fields vs) (he : JE (X.suite a ((a, oe) :: pn)) W e m) (hb : attributeBase e n X.env (eval e X.env) = eval e X.env := by rfl) : JE (X.suite a ((a, oe) :: pn)) W (.Attribute e n pos) (eXf C a c d n m) := by
  refine ⟨fun σ h Q Q' E E' hQ hE q => he.mono σ h _ _ _ _ (fun x h1 ⟨e1, dd, ns, ds, y, e2, e3, e4, q1⟩ => ⟨e1, dd, ns, ds, y, e2, e3, e4, hQ _ _ q1⟩) hE q, PE.weak (pe_xf (C := He.ga X.K C) T hno hz.zc hf he.run hb) fun σV H Q ⟨ι, σ, h, hS, hH, q⟩ => ?_⟩
  refine tX.into he.mono hS hH q (fun x h1 ι1 v H1 q1 e1 hH1 r => ?_) (fun c' fs h1 ι1 dx H1 q1 => q1 ι1 dx H1)
  obtain ⟨ec, dd, ns, ds, y, ed, ex, el, q2⟩ := q1
  subst ec ed ex
  obtain ⟨rfl, vs, h1', h2, h3, h4⟩ := r
  obtain ⟨u, hu, ru⟩ := zip_lookup h4 el
  exact ⟨rfl, rfl, dd, _, u, rfl, h1', hu, q2 ι1 u H1 e1 hH1 ru⟩

/-! ### what the written part says of an error class -/
/-- an own class without own __init__ below the built-in T -/
def excB0 (K : Frag) (x : Str) (bm : List Value) (newId : String) : Bool := PySem.W.excIn K (He.ga K x) bm newId && (PySem.W.keepIn K (.ref (He.ga K x)) && (decide (PySem.W.subIn K (.ref (He.ga K x)) (.type "BaseException") = some true) && decide (PySem.W.typeIn K (.ref (He.ga K x)) = some (.type "type"))))
theorem raises0 {X : Cx} {x : Str} {bm : List Value} {newId : String} (h : excB0 X.K x bm newId = true) : PySem.W.excIn X.K (He.ga X.K x) bm newId = true ∧ PySem.W.keepIn X.K (.ref (He.ga X.K x)) = true ∧ Raises X (.ref (He.ga X.K x)) := by
  obtain ⟨h1, h⟩ := He.ba h
  obtain ⟨h2, h⟩ := He.ba h
  obtain ⟨h3, h4⟩ := He.ba h
  exact ⟨h1, h2, raises_own (of_decide_eq_true h3) (of_decide_eq_true h4)⟩
/-- an own class below ValueError whose own __init__ (at fI) sets the field f -/
def oexB (K : Frag) (x f : Str) : Bool := (match K.lookup (He.ga K x) with
  | some ⟨.type "type", _, .cls cd, sl⟩ => (match cd.mro, sl.toList with
    | .ref C' :: bm, [_, _, _, _, some (.builtin n), _] => C' == He.ga K x && (n == "ValueError.__new__" && (!cd.hasDel && (cd.hasDict && PySem.HandSPX.refsVE bm)))
    | _, _ => false)
  | _ => false) && (decide (PySem.W.findIn K (.ref (He.ga K x)) "__setattr__" = some (some (.builtin "object.__setattr__"))) && (decide (PySem.W.subIn K (.ref (He.ga K x)) (.type "BaseException") = some true) && (decide (PySem.W.typeIn K (.ref (He.ga K x)) = some (.type "type")) && (PySem.W.keepIn K (.ref (He.ga K x)) &&
    (decide (PySem.W.findIn K (.ref (He.ga K x)) f = some none) && (decide (PySem.W.findIn K (.ref (He.ga K x)) "__init__" = some (some (.ref (He.ma K (He.ga K x) "__init__")))) && (decide (PySem.W.typeIn K (.ref (He.ma K (He.ga K x) "__init__")) = some (.type "function")))))))))
theorem oexB_ok {K : Frag} {x f : Str} (h : oexB K x f = true) : OexF K x f := by
  obtain ⟨h1, h⟩ := He.ba h
  obtain ⟨h2, h⟩ := He.ba h
  obtain ⟨h3, h⟩ := He.ba h
  obtain ⟨h4, h⟩ := He.ba h
  obtain ⟨h5, h⟩ := He.ba h
  obtain ⟨h6, h⟩ := He.ba h
  obtain ⟨h7, h8⟩ := He.ba h
  refine ⟨⟨?_, of_decide_eq_true h2, of_decide_eq_true h3, of_decide_eq_true h4, h5⟩, of_decide_eq_true h6, of_decide_eq_true h7, of_decide_eq_true h8⟩
  split at h1
  · rename_i dd cd sl ho
    split at h1
    · rename_i C' bm k0 k1 k2 k3 n k5 hm hs
      obtain ⟨g1, g⟩ := He.ba h1
      obtain ⟨g2, g⟩ := He.ba g
      obtain ⟨g3, g⟩ := He.ba g
      obtain ⟨g4, g5⟩ := He.ba g
      have e1 := beq_iff_eq.mp g1
      have e2 := beq_iff_eq.mp g2
      have e3 : cd.hasDel = false := by simpa using g3
      obtain ⟨nm, bs, mro, ns, qn, hd, sn, sub, ab, col, del⟩ := cd
      dsimp only at hm e3 g4
      subst hm e3 g4
      have hsl : sl = #[k0, k1, k2, k3, some (.builtin n), k5] := by
        obtain ⟨l⟩ := sl
        simp only at hs
        rw [hs]
      subst hsl e2
      rw [e1] at ho
      exact ⟨nm, qn, ns, bs, bm, sn, sub, ab, col, dd, k0, k1, k2, k3, k5, ho, g5⟩
    · cases h1
  · cases h1
/-- .. whose instances' field f is read -/
def xfnB (K : Frag) (x f : Str) : Bool := xfB K (He.ga K x) && decide (PySem.W.findIn K (.ref (He.ga K x)) f = some none)
theorem xfnB_ok {K : Frag} {x f : Str} (h : xfnB K x f = true) : XfC K (He.ga K x) ∧ PySem.W.findIn K (.ref (He.ga K x)) f = some none := ⟨xfB_ok (He.ba h).1, of_decide_eq_true (He.ba h).2⟩
theorem names_own {X : Cx} {x : Str} (hm : X.mg x = some (.ref (He.ga X.K x))) (hg : Gl X x := by rfl) (hdb : (x == ("__debug__" : Str)) = false := by decide) : Names X x (.ref (He.ga X.K x)) := ⟨hg, hdb, .inl hm⟩
end LL
end

section
set_option Elab.async false
set_option linter.all false
set_option maxRecDepth 100000
set_option maxHeartbeats 1000000
/-! LLLam: a lambda without parameters handed to a def, which calls it. -/
namespace LL
open PySem PySem.Spec PyProof.Rows L2
variable {X : Cx} {W : WX}
/-! ### values at a later moment, weakly later -/
theorem ExtW.at_ {ι ι' : Ad} {H H' : Hp} (e : ExtW ι H ι' H') {n : Nat} {a : Addr} (h : ι.ix[n]? = some (some a)) : ι'.ix[n]? = some (some a) := by
  obtain ⟨l, q, _⟩ := e.pre
  rw [q, List.getElem?_append_left ((List.getElem?_eq_some_iff.mp h).1)]
  exact h
theorem ExtW.kp {ι ι' : Ad} {H H' : Hp} (e : ExtW ι H ι' H') {a : Addr} {o : HO} (h : H a = some o) (n : ι.no a) (t : ∀ ps, o ≠ .tbl ps) : H' a = some o ∧ ι'.no a := ⟨e.keep a o h n t, e.no ⟨o, h, t⟩ n⟩
mutual
theorem RelD.extW {K : Frag} {ι ι' : Ad} {H H' : Hp} (e : ExtW ι H ι' H') : ∀ {d : D} {v : V}, RelD K ι H d v → RelD K ι' H' d v
  | .non, _, h => h
  | .bl _, _, h => h
  | .int _, _, h => h
  | .str _, _, h => h
  | .tup _, _, ⟨a, vs, h1, h2, h3⟩ => ⟨a, vs, h1, by
      rcases h2 with (h2 | ⟨o, h2⟩) | h2
      · exact .inl (.inl (e.tups a vs h2))
      · exact .inl (.inr ⟨o, e.frzs a o _ h2⟩)
      · exact .inr h2, RelDs.extW e h3⟩
  | .lst _, _, ⟨a, vs, h1, h2, h3⟩ => ⟨a, vs, h1, by
      rcases h2 with ⟨h2, n⟩ | ⟨o, h2⟩ | h2
      · exact .inl (e.kp h2 n (fun _ z => by cases z))
      · exact .inr (.inl ⟨o, e.frzs a o _ h2⟩)
      · exact .inr (.inr h2), RelDs.extW e h3⟩
  | .ob _ _ _, _, ⟨a, dx, vs, h1, h2, h3, h4, h5⟩ => ⟨a, dx, vs, h1, (e.kp h3 h2 (fun _ z => by cases z)).2, (e.kp h3 h2 (fun _ z => by cases z)).1, h4, RelDs.extW e h5⟩
  | .ref _, _, ⟨a, h1, h2⟩ => ⟨a, e.at_ h1, h2⟩
  | .dfn _, _, h => h
  | .fn _ _ _ _, _, ⟨h1, h2, h3⟩ => ⟨h1, fun p hp => e.exts _ _ (h2 p hp), h3.then e⟩
  | .dct _ _, _, ⟨a, vs, h1, h2, h3, h4, h5⟩ => ⟨a, vs, h1, (e.kp h3 h2 (fun _ z => by cases z)).2, (e.kp h3 h2 (fun _ z => by cases z)).1, h4, RelDs.extW e h5⟩
  | .exc _ _ none _ _, _, h => h
  | .exc _ _ (some _) _ _, _, ⟨h0, vs, h1, h2, h3, h4⟩ => ⟨h0, vs, (e.kp h1 h2 (fun _ z => by cases z)).1, (e.kp h1 h2 (fun _ z => by cases z)).2, h3, RelDs.extW e h4⟩
theorem RelDs.extW {K : Frag} {ι ι' : Ad} {H H' : Hp} (e : ExtW ι H ι' H') : ∀ {ds : List D} {vs : List V}, RelDs K ι H ds vs → RelDs K ι' H' ds vs
  | [], _, h => h
  | _ :: _, _, ⟨v, r, h1, h2, h3⟩ => ⟨v, r, h1, RelD.extW e h2, RelDs.extW e h3⟩
end
theorem RelS.extW {K : Frag} {ι ι' : Ad} {H H' : Hp} (e : ExtW ι H ι' H') {σ : LV} {σV : L2.St} (h : RelS K ι H σ σV) : RelS K ι' H' σ σV :=
  ⟨h.1, fun i d q => let ⟨v, h1, h2⟩ := h.2 i d q; ⟨v, h1, h2.extW e⟩⟩
theorem ExtW.refl (ι : Ad) (H : Hp) : ExtW ι H ι H := (Ext.refl ι H).w

/-! ### the lambda's own objects -/
def codeP (c : Addr) (q : Str) : Heap → Prop := match LamX.CodeO c q with
  | .ext φ => φ
  | _ => fun _ => True
theorem codeP_eq (c : Addr) (q : Str) : LamX.CodeO c q = .ext (codeP c q) := rfl

/-- the context of the lambda's body -/
abbrev lamCN (X : Cx) (A : Around) (outer : List Env) (s : Shared) (H : Hp) (E : XK) (scope : Scope) (f c' : Addr) : Cx :=
  (LamX.lamCx X A outer s H E scope f c').tr [] fun e s' => wpAny (model X.prog X.w) (A.deeper (LamX.lamEnv X scope s.heap.objs.size f c')) (leaving (LamX.lamEnv X scope s.heap.objs.size f c') e) (fun _ s'' => L2N.CX X.prog X.w outer H s E e s'') (fun e' s'' => L2N.CX X.prog X.w outer H s E e' s'') s'
section
variable {pins : List (Addr × Obj)} {σ : L2.St} {H HZ : Hp} {s s1 : Shared}
/-- x(), in the def that got the lambda (made at s, H in X's frame): Z is that def's context, entered at s -/
theorem pe_actW {CXg : CXT} {Eg : XK} {Ng : List Str} {qg : Str} {sg : Scope} {g f c' : Addr} {cdg pm ctv : Value} {params : Arguments} {body : Expr} {scope : Scope} {k i : Nat} {a : Str} {pn : List (Addr × Obj)} {xe : Value → Shared → Prop} {W : WX} {tb : XK → TE} {p1 p2 : Pos}
    (I : Inv X pins σ H s) (L : LamX.LamS X.env.scope scope) (hf : s.heap.get? f = some (PySem.W.kla_obj "<lambda>" (X.env.qual ++ "<lambda>") params body scope (cloFrom X.env.cells scope.names []) pm c' ctv)) (hfn : H f = none) (hfr : f ∉ frs X.stack)
    (hbind : bindArgs (PySem.W.kla_fn "<lambda>" (X.env.qual ++ "<lambda>") params body scope (cloFrom X.env.cells scope.names []) pm (.ref c') ctv) ⟨[], []⟩ = pure [])
    (tk : L2N.Takes ((cxOf CXg X.prog X.w X.K X.mg X.base Ng qg sg g cdg X.A X.stack s H Eg).tr pn xe) W) (hr : RoomG (k + 1) (X.A.deeper (envOfC qg sg s.heap.objs.size g cdg)))
    (hbody : ∀ (A : Around) (outer : List Env) (s : Shared) (H : Hp) (E : XK), RoomG k (A.deeper (LamX.lamEnv X scope s.heap.objs.size f c')) → PE (lamCN X A outer s H E scope f c') body (tb E))
    (hN : Ng[i]? = some a) (hv : Vis sg a) (hd : (a == ("__debug__" : Str)) = false) (hcd : (a == ("__classdict__" : Str)) = false) :
    PE ((cxOf CXg X.prog X.w X.K X.mg X.base Ng qg sg g cdg X.A X.stack s H Eg).tr pn xe) (.Call (.Name a p1) [] [] p2)
      (fun σZ HZ Q => σZ[i]? = some (some (.ref f)) ∧ HZ c' = some (LamX.CodeO c' (X.env.qual ++ "<lambda>")) ∧ tb (fun cls d H' => W cls d σZ H') σ HZ Q) := by
  refine ⟨fun pinsZ sZ σZ HZ Q IZ h => ?_⟩
  obtain ⟨hs, hc, ht⟩ := h
  refine wpAny_Call_Name_kw (thn ((pe_var (pos := p1) (i := i) hN hv hd hcd).run pinsZ sZ σZ HZ (fun v H1 => v = .ref f ∧ H1 = HZ) IZ ⟨.ref f, hs, rfl, rfl⟩) fun u s1 ⟨v, H1, I1, r1, q1⟩ => ?_)
  obtain ⟨ev, eH⟩ := q1
  subst ev
  rw [eH] at I1
  obtain rfl : u = Value.ref f := r1
  have of1 := I1.base.keep f _ hf hfn hfr (fun z => nomatch (show f ∈ ([] : List Addr) from z))
  refine PySem.W.callWith_F0 ⟨_, _, _, _, of1⟩ ?_
  have un : Un (frs X.stack) [] H HZ s.heap s1.heap := I1.base
  obtain ⟨⟨oc, vs, t, hoc, hdc, hvc⟩, _, _⟩ := I1.hok c' _ hc
  have hx := L2N.passAt tk σZ
  have rc : codeAny (model X.prog X.w) (X.A.deeper (envOfC qg sg s.heap.objs.size g cdg)) (.call (.ref f) ⟨[], []⟩) (CR (L2N.CX X.prog X.w) (envOfC qg sg s.heap.objs.size g cdg :: X.stack) X.prog X.w HZ s1 Q (fun cls d H' => W cls d σZ H')) s1 := by
    refine PySem.W.kla_callFunE hr.r.depth of1 rfl L.co L.gen rfl ⟨c', oc, vs, t, rfl, hoc, hdc, hvc⟩ ?_
    rw [hbind]
    refine wpAny_pure (wpAny_newFunctionEnv (fun y hy => (L.own y hy).2) (fun y hy => absurd hy (by simp)) (fun h₁ hns hsb => ⟨I1.nolimit.fresh _ hsb, ?_⟩) L.kind)
    show codeAny _ _ (.expr body (LamX.lamEnv X scope s1.heap.objs.size f c')) _ _
    have kp : ∀ b o, s1.heap.get? b = some o → h₁.get? b = some o := fun b o e => hsb.extBut b o (Nat.ne_of_lt (Heap.lt_size e)) (Heap.get?_push_of_some _ e)
    have J : Inv (lamCN X (X.A.deeper (envOfC qg sg s.heap.objs.size g cdg)) (envOfC qg sg s.heap.objs.size g cdg :: X.stack) s1 HZ (fun cls d H' => W cls d σZ H') scope f c') [] σ HZ { s1 with heap := h₁, toks := s1.toks + ([] : List (Str × Value)).length } :=
      (LamX.lam_start2 I L I1.env0 hr.r.hd un hns kp).toTry _
    refine PySem.W.kla_codeExpr (wpAny_mono ((hbody _ _ s1 HZ _ (hr.deeper _)).run [] _ _ HZ Q J ht) (fun v s' hq => ?_) fun e s' hq => hq)
    obtain ⟨w', H', J', rv, q⟩ := hq
    exact ⟨w', H', J'.os, J'.bare, J'.base, J'.hok, rv, q⟩
  exact wpAny_call (codeAny_mono rc fun r s' hq => ret_of hx I1 hq)
end

/-! ### in logical words -/
/-- what the lambda does when it is called -/
abbrev LAsk := LH → (D → LH → Prop) → XL → Prop
def MonoA (a : LAsk) : Prop := ∀ h (Q Q' : D → LH → Prop) (E E' : XL), (∀ d h, Q d h → Q' d h) → (∀ c fs h, E c fs h → E' c fs h) → a h Q E → a h Q' E'
def eAsk (i : Nat) (L : D) (ask : LAsk) : LE := fun σ h Q E => σ[i]? = some (some L) ∧ ask h Q E
/-- x(lambda: m), x's body b -/
def eLam (b : D → LAsk → LS) (N : List Str) (m : LE) : LE := fun σ h Q E => ∃ (Q0 : D → LH → Prop) (E0 : XL), (∀ d h, Q0 d h → Q d h) ∧ (∀ c fs h, E0 c fs h → E c fs h) ∧ ∀ L, b L (m σ) (startD N [L]) h (bodyK Q0 E0)
theorem je_lam {x a qg : Str} {g cl P : Addr} {k : Nat} {pg : Arguments} {bg : List Stmt} {sg : Scope} {fd : FuncData} {Ng : List Str} {params : Arguments} {body : Expr} {scope : Scope} {m : LE} {b : D → LAsk → LS} {p lpos pos : Pos}
    (F : FunD X.K x qg pg bg sg [] [] g fd) (Sg : FnScope Ng [a] sg) (hb : Binds X.K fd [a] []) (hNg : Ng[0]? = some a) (hva : Vis sg a) (hm : X.mg x = some (.ref g)) (tk : L2N.Takes X W) (hr : RoomG (k + 2) X.A)
    (LT : LamT X (tabsK X.K) cl P) (L : LamX.LamS X.env.scope scope) (hdef : defaultsOf params X.env = ([], []))
    (hbind : ∀ (q : Str) (cl : List (Str × Addr)) (pm cv ctv : Value), bindArgs (PySem.W.kla_fn "<lambda>" q params body scope cl pm cv ctv) ⟨[], []⟩ = pure [])
    (hbody : ∀ (A : Around) (outer : List Env) (s : Shared) (H : Hp) (E : XK) (f c' : Addr), RoomG k (A.deeper (LamX.lamEnv X scope s.heap.objs.size f c')) → JE (lamCN X A outer s H E scope f c') (fun cls d _ H => E cls d H) body m)
    (hJ : ∀ (cdv : Value) (A : Around) (outer : List Env) (s : Shared) (H : Hp) (E : XK) (L : D) (ask : LAsk), CodeAt X.K g cdv → RoomG (k + 1) (A.deeper (envOfC qg sg s.heap.objs.size g cdv)) → MonoA ask →
      (∀ (W' : WX) (pn : List (Addr × Obj)) (xe : Value → Shared → Prop) (p1 p2 : Pos), L2N.Takes ((cxOf (L2N.CX X.prog X.w) X.prog X.w X.K X.mg X.base Ng qg sg g cdv A outer s H E).tr pn xe) W' →
        JE ((cxOf (L2N.CX X.prog X.w) X.prog X.w X.K X.mg X.base Ng qg sg g cdv A outer s H E).tr pn xe) W' (.Call (.Name a p1) [] [] p2) (eAsk 0 L ask)) →
      JSs (cxOf (L2N.CX X.prog X.w) X.prog X.w X.K X.mg X.base Ng qg sg g cdv A outer s H E) (fun cls d _ H => E cls d H) bg (b L ask))
    (hg : Gl X x := by rfl) (hdb : (x == ("__debug__" : Str)) = false := by decide) (hd : (a == ("__debug__" : Str)) = false := by decide) (hcd : (a == ("__classdict__" : Str)) = false := by decide) :
    JE X W (.Call (.Name x p) [.Lambda params body scope lpos] [] pos) (eLam b Ng m) := by
  have hmm : Mono m := (hbody X.A [] X.s_0 X.H_0 (fun _ _ _ => False) 0 0 ((hr.mono (by omega : k + 1 ≤ k + 2)).deeper _)).mono
  have mA : ∀ σ, MonoA (m σ) := fun σ h Q Q' E E' hQ hE q => hmm σ h Q Q' E E' hQ hE q
  refine ⟨fun σ h Q Q' E E' hQ hE ⟨Q0, E0, a1, a2, q⟩ => ⟨Q0, E0, fun d h z => hQ _ _ (a1 d h z), fun c fs h z => hE _ _ _ (a2 c fs h z), q⟩, ⟨fun pins s σV H Q I h => ?_⟩⟩
  obtain ⟨ι, σ, h, hS, hH, Q0, E0, a1, a2, q⟩ := h
  obtain ⟨oc, od, dV, kV, doc, pm, an, cdv, ct, osl, rfl, lk, hcg, _, _⟩ := F.ex
  refine wpAny_Call_Name_kw (ld_glob I hg hm ?_ hdb)
  refine PySem.W.callWith_K (h₀ := X.base) I.ok.mod.kin F.kp ?_ (by rfl) (by rfl)
  show wpAny _ _ (spliced ((false, eval (.Lambda params body scope lpos) X.env) :: backTo pos (starEach [] X.env))) _ _ s
  refine Calls.spliced_cons (LamX.lam_make2 I LT.tb LT.code LT.mem LT.uni hH.tabs hdef (L.has I.ok) fun f c' pm' ctv H1 s' I1 eN T1 hf hfn hfr hco => ?_)
  have hH1 := hH.nt eN T1
  have e1 : Ext ι H ι H1 := Ext.nt (K := X.K) (h := h) eN
  have hS1 := hS.ext e1
  refine Calls.spliced_nil ⟨I1.kIn, ?_⟩
  have rc : codeAny (model X.prog X.w) X.A (.call (.ref g) ⟨[.ref f], []⟩) (CR (L2N.CX X.prog X.w) X.stack X.prog X.w H1 s' Q (WE W σV)) s' := by
    refine LamX.run_ofS (N := Ng) (ps := [a]) (us := [.ref f]) (vs := [.ref f]) (k := k + 1) lk hcg Sg hr.r I1.env0 (hb s' [.ref f] I1.kIn rfl) (.cons rfl .nil) rfl fun hr' => ?_
    have hr2 : RoomG (k + 1) (X.A.deeper (envOfC qg sg s'.heap.objs.size g cdv)) := ⟨hr', hr.g⟩
    have Lr : RelD X.K ι H1 (.fn f [(c', codeP c' (X.env.qual ++ "<lambda>"))] ι H1) (.ref f) := ⟨rfl, fun p hp => by
      obtain rfl := List.mem_singleton.mp hp
      exact hco, .refl _ _⟩
    have j := hJ cdv X.A X.stack s' H1 (WE W σV) (.fn f [(c', codeP c' (X.env.qual ++ "<lambda>"))] ι H1) (m σ) ⟨_, _, _, _, lk, rfl, _, hcg⟩ hr2 (mA σ) fun W' pn xe p1 p2 tk' => ⟨fun σZ hZ Q1 Q2 E1 E2 hQ hE ⟨z1, z2⟩ => ⟨z1, mA σ hZ _ _ _ _ hQ hE z2⟩, PE.weak
      (pe_actW (W := W') (tb := fun E => tE X.K (fun cls d _ H => E cls d H) m) I1 L hf hfn hfr (hbind _ _ _ _ _) tk' hr2 (fun A outer s H E hr3 => (hbody A outer s H E f c' hr3).run) hNg hva hd hcd) fun σZV HZ QZ hZ' => ?_⟩
    · refine ⟨_, j.run, ι, H1, ι, startD Ng [_], h, .refl _ _, rel_start (ds := [_]) (vs := [.ref f]) ⟨_, _, rfl, Lr, rfl⟩, hH1, ?_⟩
      refine j.mono _ _ _ _ ?_ (q _)
      exact ⟨fun σ' h' q' ι' σV' H' e' _ hH' => a1 _ _ q' ι' .non H' (e1.trans e') hH' rfl, fun d h' q' ι' v H' e' hH' r' => a1 _ _ q' ι' v H' (e1.trans e') hH' r', fun _ _ z => z.elim, fun _ _ z => z.elim, fun c fs σ' h' q' ι' dx σV' H' e' _ hH' r' => a2 _ _ _ q' ι' dx H' (e1.trans e') hH' r'⟩
    · obtain ⟨ιZ, σZ, hZ, hSZ, hHZ, z1, z2⟩ := hZ'
      obtain ⟨v, z3, z4⟩ := hSZ.2 0 _ z1
      obtain ⟨rfl, z5, z6⟩ := z4
      exact ⟨z3, z5 _ (List.mem_singleton.mpr rfl), ιZ, σ, hZ, hS1.extW z6, hHZ, z2⟩
  exact wpAny_call (codeAny_mono rc fun r s2 hq => ret_of (L2N.passAt tk σV) I1 hq)

/-! ### rules by which simp runs them -/
@[simp] theorem tyD_non {h : LH} : tyD .non h = some (.bt "NoneType") := (rfl)
@[simp] theorem tyD_bl {h : LH} {b : Bool} : tyD (.bl b) h = some (.bt "bool") := (rfl)
@[simp] theorem tyD_tup {h : LH} {ds : List D} : tyD (.tup ds) h = some (.bt "tuple") := (rfl)
@[simp] theorem tyD_lst {h : LH} {ds : List D} : tyD (.lst ds) h = some (.bt "list") := (rfl)
@[simp] theorem tyD_dct {h : LH} {ks : List L2.Key} {ds : List D} : tyD (.dct ks ds) h = some (.bt "dict") := (rfl)
section
variable {m : LE} {σ : LV} {h : LH} {Q : D → LH → Prop} {E : XL} {K : LK} {s : LS} {l : List LHd} {fs : List (Str × D)} {a : Addr} {d : Option Addr} {i : Nat} {C c f : Str} {x : D} {ask : LAsk}
@[simp] theorem sRaise0_run : sRaise0 C σ h K = K.ex C [] σ h := (rfl)
@[simp] theorem sRaise1_run : sRaise1 C f m σ h K = m σ h (fun d h1 => K.ex C [(f, d)] σ h1) (exOf K σ) := (rfl)
@[simp] theorem sTry_run : sTry s l σ h K = s σ h { K with ex := fun c fs σ' h' => hdsL l c fs σ' h' K } := (rfl)
@[simp] theorem hdsL_nil : hdsL [] c fs σ h K = K.ex c fs σ h := (rfl)
theorem hdsL_cons {q : LHd} {r : List LHd} : hdsL (q :: r) c fs σ h K = ∃ b, q.l.lookup c = some b ∧ (b = true → ∀ (a : Addr) (d : Option Addr), (d = none → fs = []) → suiteL q a c d fs σ h K) ∧ (b = false → hdsL r c fs σ h K) := (rfl)
theorem hdsL_yes {q : LHd} {r : List LHd} (e : q.l.lookup c = some true) (w : ∀ (a : Addr) (d : Option Addr), (d = none → fs = []) → suiteL q a c d fs σ h K) : hdsL (q :: r) c fs σ h K := ⟨true, e, fun _ => w, fun z => (nomatch z)⟩
theorem hdsL_no {q : LHd} {r : List LHd} (e : q.l.lookup c = some false) (w : hdsL r c fs σ h K) : hdsL (q :: r) c fs σ h K := ⟨false, e, (fun z => (nomatch z)), fun _ => w⟩
@[simp] theorem suiteL_none {ll : List (Str × Bool)} {sq : Addr → Str → Option Addr → LS} : suiteL ⟨ll, none, sq⟩ a c d fs σ h K = sq a c d σ h { nx := K.nx, rt := K.rt, bk := K.bk, ct := K.ct } := (rfl)
@[simp] theorem suiteL_some {ll : List (Str × Bool)} {sq : Addr → Str → Option Addr → LS} : suiteL ⟨ll, some i, sq⟩ a c d fs σ h K = sq a c d (σ.set i (some (.exc a c d (fs.map (·.1)) (fs.map (·.2))))) h (unsetK K i) := (rfl)
@[simp] theorem unsetK_nx : (unsetK K i).nx σ h = K.nx (σ.set i none) h := (rfl)
@[simp] theorem unsetK_rt {y : D} : (unsetK K i).rt y h = K.rt y h := (rfl)
@[simp] theorem eAsk_run : eAsk i x ask σ h Q E = (σ[i]? = some (some x) ∧ ask h Q E) := (rfl)
@[simp] theorem eXf_run : eXf C a c d f m σ h Q E = m σ h (fun x h1 => c = C ∧ ∃ dd ns ds y, d = some dd ∧ x = .exc a C d ns ds ∧ (ns.zip ds).lookup f = some y ∧ Q y h1) E := (rfl)
end
end LL
end

section
set_option Elab.async false
set_option linter.all false
set_option maxRecDepth 100000
set_option maxHeartbeats 2000000
/-! LLHot: x, y = a, b in an except suite. -/
namespace LL
open PySem PySem.Spec PyProof.Rows L2 HotX L2H
section
variable {prog : Program} {w : World} {A : Around} {E : Value → Shared → Prop} {s : Shared}
theorem next_tuple_end_hot {it t x1 : Addr} {i : Nat} {items : Array Value} {Q : Option Value → Shared → Prop} (hot : HotAt A x1 s.heap) (ne : x1 ≠ it)
    (hit : IsTupIter s.heap it t i) (ht : IsTup s.heap t items) (hx : items[i]? = none)
    (hQ : ∀ h', Heap.ExtBut it s.heap h' → Q none { s with heap := h' }) : wpAny (model prog w) A (pyNext (.ref it)) Q E s := by
  obtain ⟨o, ho, hc, hd⟩ := id hit
  obtain ⟨ol, hol, _, nl, hdl⟩ := ht
  obtain ⟨hh, o1, vs1, h1, d1, c1⟩ := hot
  unfold pyNext
  refine wpAny_bind (wpAny_attempt (wpAny_callSpecial?_slot (name := Str.ofString "__next__") hit.typeIs slot_tupleiter_next
    (wpAny_call_entry slot_tupleiter_next hit.typeIs entry_tupleiter_next ?_ (args_tupleiter_next _))))
  show wpAny _ _ (field (.ref it) 0 >>= _) _ _ s
  refine wpAny_bind (wpAny_field ho hd (x := .ref t) rfl ?_)
  show wpAny _ _ (if (Value.ref t == Value.none) = true then _ else _) _ _ s
  rw [if_neg (show ¬ ((Value.ref t == Value.none) = true) from Bool.false_ne_true)]
  show wpAny _ _ (field (.ref it) 1 >>= _) _ _ s
  refine wpAny_bind (wpAny_field ho hd (x := .int i 0) rfl ?_)
  show wpAny _ _ (seqItems? (.ref t) >>= _) _ _ s
  refine wpAny_bind (wpAny_seqItems hol hdl ?_)
  simp only [Int.toNat_natCast, hx]
  refine wpAny_bind (wpAny_rule (wpAny_bind (wpAny_setField ho hd (by simp) ?_)))
  have h2 : (s.heap.update it (Obj.mapFields (·.setIfInBounds 0 Value.none))).get? x1 = some o1 := (Heap.get?_update_other _ _ (Ne.symm ne)).trans h1
  show wpAny _ _ (newExc (.type "StopIteration") [] >>= _) _ _ _
  refine wpAny_bind ?_
  simp only [newExc, newTuple]
  refine wpAny_bind (wpAny_newObj_type ?_ (by size_fits))
  refine wpAny_bind (m := firstArgMember _ _) (wpAny_of_eq (a := Value.none) (by first | rfl | (simp only [firstArgMember]; rfl)) ?_)
  refine wpAny_newObj_type ?_ (by size_fits)
  refine raiseNew_hot ⟨hh, o1, vs1, Heap.get?_push_of_some _ (Heap.get?_push_of_some _ h2), d1, c1⟩ (Nat.ne_of_lt (Heap.lt_size (Heap.get?_push_of_some _ h2))) (Heap.get?_push_size _ rfl) rfl (by first | (simp; done) | (simp; omega)) ?_
  refine wpAny_bind (wpAny_isInstance (T := "StopIteration") (b := true) ⟨_, Heap.get?_update_self _ (Heap.get?_push_size _ rfl) rfl, rfl⟩ isSubtype_stop ?_)
  refine wpAny_pure (hQ _ fun b o' hb e => ?_)
  have e2 : (s.heap.update it (Obj.mapFields (·.setIfInBounds 0 Value.none))).get? b = some o' := (Heap.get?_update_other _ _ (Ne.symm hb)).trans e
  rw [Heap.get?_update_other _ _ (Nat.ne_of_gt (Heap.lt_size (Heap.get?_push_of_some _ e2)))]
  exact Heap.get?_push_of_some _ (Heap.get?_push_of_some _ e2)
theorem unpackItems_tuple_hot {t x1 : Addr} {items : Array Value} {Q : List Value → Shared → Prop} (hot : HotAt A x1 s.heap) (ht : IsTup s.heap t items)
    (hQ : ∀ h', Heap.ExtBut s.heap.objs.size s.heap h' → Q items.toList { s with heap := h' }) : wpAny (model prog w) A (unpackItems (.ref t) items.size none) Q E s := by
  have hlt : t ≠ s.heap.objs.size := by obtain ⟨o, ho, _⟩ := ht; exact Nat.ne_of_lt (Heap.lt_size ho)
  obtain ⟨hh, o1, vs1, h1, d1, c1⟩ := hot
  have hx1 : x1 ≠ s.heap.objs.size := Nat.ne_of_lt (Heap.lt_size h1)
  unfold unpackItems
  refine wpAny_bind ?_
  unfold notIterableAtAll
  refine wpAny_bind (wpAny_specialOf ht.typeIs slot_tuple_iter.lookup ?_)
  refine wpAny_pure ?_
  simp only [Bool.false_eq_true, if_false]
  refine wpAny_bind (wpAny_holding (iter_tuple ht ?_))
  refine wpAny_bind (wpAny_holding (draw_tuple hlt items.size 0 _ _ ⟨_, Heap.get?_push_size _ rfl, rfl, rfl⟩ (ht.push _) (by omega) fun h₁ hit₁ hs₁ => ?_))
  have hall : List.take items.size (List.drop 0 items.toList) = items.toList := by
    rw [List.drop_zero]; exact List.take_of_length_le (by simp)
  rw [hall]
  rw [if_neg (by simp)]
  have ht₁ : IsTup h₁ t items := (ht.push _).extBut hs₁.extBut hlt
  have hot₁ : HotAt A x1 h₁ := ⟨hh, o1, vs1, hs₁.extBut x1 o1 hx1 (Heap.get?_push_of_some _ h1), d1, c1⟩
  refine wpAny_bind (wpAny_holding (next_tuple_end_hot hot₁ hx1 hit₁ ht₁ (by simp) fun h₂ he₂ => ?_))
  simp only [Option.isSome_none, Bool.false_eq_true, if_false]
  exact wpAny_pure (hQ h₂ fun b o hb e => he₂ b o hb (hs₁.extBut b o hb (Heap.get?_push_of_some _ e)))
end
theorem hot_suite {X : Cx} {a : Addr} {oe : Obj} {cls : Value} {d : Option Addr} {pn : List (Addr × Obj)} (hz : L2N.Zn cls d oe) (hd : ∃ vs, oe.data = .fields vs) : HotC (X.suite a ((a, oe) :: pn)) := by
  obtain ⟨vs, hd⟩ := hd
  exact ⟨(a, oe), ⟨rfl, vs, hd, hz.2.2 vs hd⟩, List.mem_cons_self⟩
section
variable {X : Cx} {pos : Pos}
/-- x, y = a, b (stores crossed), while an exception is handled -/
theorem ps_parH {i j : Nat} {x y : Str} {a b : Expr} {ta : TA} {px py pt : Pos} {kt k2 pt2} (hc : HotC X) (hN : X.N.Nodup) (hi : X.N[i]? = some x) (hj : X.N[j]? = some y) (hij : i ≠ j)
    (hx : X.env.scope.names.lookup x = some .local) (hy : X.env.scope.names.lookup y = some .local) (ha : PA X [a, b] ta)
    (hw : swappedStores [.Tuple [.Name x px, .Name y py] kt pt] (.Tuple [a, b] k2 pt2) X.env = pure (some [x, y]))
    (hs : swapsWithSole [.Tuple [.Name x px, .Name y py] kt pt] (.Tuple [a, b] k2 pt2) pos.line X.env = pure false := by rfl) :
    PS X (.Assign [.Tuple [.Name x px, .Name y py] kt pt] (.Tuple [a, b] k2 pt2) pos) (tPar i j ta) := by
  refine ⟨fun pins s σ H D I h => ?_⟩
  rw [exec_Assign_arm]
  refine wpAny_bind (wpAny_standAt ?_)
  rw [hs]
  refine wpAny_bind (wpAny_pure ?_)
  rw [if_neg (by decide)]
  refine wpAny_bind (Tuple_ (thn (ha.run _ pins s σ H _ I h) fun us s1 ⟨vs, H1, I1, r1, q1⟩ => ?_))
  obtain ⟨v, w, e1, q1⟩ := q1
  subst e1
  obtain ⟨u1, u2, rfl, rv, rw'⟩ : ∃ u1 u2, us = [u1, u2] ∧ RelV v u1 ∧ RelV w u2 := by
    cases r1 with
    | cons p q =>
      cases q with
      | cons p' q' =>
        cases q'
        exact ⟨_, _, rfl, p, p'⟩
  refine wpAny_newObj_type ?_ (by show 2 ≤ sizeLine; decide)
  have I2 : Inv X pins σ H1 { s1 with heap := s1.heap.push { cls := .type "tuple", data := .seq [u1, u2].toArray } } := I1.kept (t' := s1.toks) fun b o e => Heap.get?_push_of_some _ e
  obtain ⟨x1, hot⟩ := hc.at I2
  rw [hw]
  refine wpAny_bind (wpAny_pure ?_)
  show wpAny (model X.prog X.w) X.A (do rule "assign.swapped-stores"; let items ← unpackItems (.ref s1.heap.objs.size) 2 none; assignInOrder [fun v => bindName X.env y v, fun v => bindName X.env x v] items.reverse; pure Flow.next) _ _ _
  refine wpAny_bind (wpAny_rule (wpAny_bind (unpackItems_tuple_hot (items := #[u1, u2]) hot (IsTup.new s1.heap _) fun h' hx' => ?_)))
  have I3 := I2.kept (h' := h') (t' := s1.toks) fun b o e => hx' b o (Nat.ne_of_lt (Heap.lt_size e)) e
  show wpAny _ _ (assignInOrder [fun v => bindName X.env y v, fun v => bindName X.env x v] [u2, u1] >>= fun _ => pure Flow.next) _ _ _
  refine wpAny_bind (assignInOrder_cons (wpAny_bindName (store_ok I3 hN hj (.inl hy) rw' (fun s2 I4 => ?_) (.inr hy))))
  refine assignInOrder_cons (wpAny_bindName (store_ok I4 hN hi (.inl hx) rv (fun s3 I5 => assignInOrder_nil (wpAny_pure ?_)) (.inr hx)))
  rw [List.set_comm _ _ (Ne.symm hij)] at I5
  exact ⟨_, H1, I5, q1⟩
end
end LL
end

section
set_option Elab.async false
set_option linter.all false
set_option maxRecDepth 100000
set_option maxHeartbeats 2000000
/-! LLExcA: raise of an own class below ArithmeticError whose own __init__ sets one field. -/
namespace PySem
namespace OEA
open PyProof.Rows Builtin Builtin.ObjectAttr
abbrev aeTail : List Value := [.type "ArithmeticError", .type "Exception", .type "BaseException", .type "object"]
theorem ae_pass0 (self : Value) : refuseLoop self "__setattr__" aeTail = pure () := by kernel_rfl
def refsAE : List Value → Bool
  | .ref _ :: r => refsAE r
  | l => l == aeTail
theorem refsAE_cases : ∀ l : List Value, refsAE l = true → (∃ c r, l = .ref c :: r ∧ refsAE r = true) ∨ l = aeTail
  | .ref c :: r, e => .inl ⟨c, r, rfl, e⟩
  | [], e => .inr (beq_iff_eq.mp e)
  | .none :: _, e => .inr (beq_iff_eq.mp e)
  | .ellipsis :: _, e => .inr (beq_iff_eq.mp e)
  | .notImplemented :: _, e => .inr (beq_iff_eq.mp e)
  | .bool _ :: _, e => .inr (beq_iff_eq.mp e)
  | .int _ _ :: _, e => .inr (beq_iff_eq.mp e)
  | .float _ _ :: _, e => .inr (beq_iff_eq.mp e)
  | .str _ _ :: _, e => .inr (beq_iff_eq.mp e)
  | .bytes _ _ :: _, e => .inr (beq_iff_eq.mp e)
  | .type _ :: _, e => .inr (beq_iff_eq.mp e)
  | .builtin _ :: _, e => .inr (beq_iff_eq.mp e)
theorem refsAE_pass (self : Value) (l : List Value) (e : refsAE l = true) : refuseLoop self "__setattr__" l = pure () := by
  induction l with
  | nil => exact absurd e (by decide)
  | cons a r ih =>
    rcases refsAE_cases _ e with ⟨c, r', q, h⟩ | q
    · cases q; rw [refuseLoop_ref]; exact ih h
    · rw [q]; exact ae_pass0 self
theorem refsAE_contains (Y : String) (l : List Value) (e : refsAE l = true) : l.contains (.type Y) = aeTail.contains (.type Y) := by
  induction l with
  | nil => exact absurd e (by decide)
  | cons a r ih =>
    rcases refsAE_cases _ e with ⟨c, r', q, h⟩ | q
    · cases q; rw [List.contains_cons, ih h]; rfl
    · rw [q]
section
variable {prog : Program} {w : World} {A : Around} {R : Result → Shared → Prop} {hp : Heap} {g : Array GenState} {d : Drawn} {t : Nat} {os : OsState}
/-- the first field of such an exception: its dict is laid -/
theorem osa_ae {K : W.Frag} {name : Str} {tk : Tok} {v : Value} {x C : Addr} {fv : Array Value} {cd : ClassData} (X : K.In hp) (hx : hp.get? x = some { cls := .ref C, data := .fields fv }) (hcd : W.clsIn K C = some cd) (hm : refsAE cd.mro = true) (hh : cd.hasDict = true)
    (ha : W.findIn K (.ref C) name = some none)
    (hq : ∀ h' tk' dx, (∀ b o, b ≠ x → hp.get? b = some o → h'.get? b = some o) → hp.objs.size ≤ dx → dx ≠ x → h'.get? x = some { cls := .ref C, dict := some dx, data := .fields fv } →
      h'.Ns1 dx (fun y => if y = name then some v else none) → R (.ok (.ret .none)) ⟨h', g, d, tk', os⟩) :
    codeAny (model prog w) A (.call (.builtin "object.__setattr__") ⟨[.ref x, .str name tk, v], []⟩) R ⟨hp, g, d, t, os⟩ := by
  have I : W.InstAt hp x { cls := .ref C, data := .fields fv } C none := ⟨hx, rfl, rfl, trivial⟩
  have SF := F.store_object
  have ne : cd.mro.isEmpty = false := by
    cases q : cd.mro with
    | nil => rw [q] at hm; exact absurd hm (by decide)
    | cons _ _ => rfl
  have hob : cd.mro.contains (.type "object") = true := (refsAE_contains "object" _ hm).trans (by decide +kernel)
  have hxs : x ≠ hp.objs.size := Nat.ne_of_lt (Heap.lt_size hx)
  have sub : W.Looks (model prog w) hp (isInstance (.ref x) (.type "object")) true := I.type.andThen (W.looks_mroIn X (by unfold W.mroIn; rw [hcd, Option.bind_some, if_neg (by rw [ne]; decide), hob]))
  refine codeAny_call_builtin SF.slot.plain SF.entry (@W.check_slot (model prog w) _ _ ⟨hp, g, d, t, os⟩ "object.__setattr__" "object" "__setattr__" (.ref x) [.str name tk, v] [] _ SF.kind SF.split sub (SF.args (.ref x) (.str name tk) v) ?_)
  have hmr : W.Looks (model prog w) hp (mroOf (.ref C)) cd.mro := (W.looks_clsIn X hcd).andThen .now
  have L3 : W.Looks (model prog w) hp (storeTaker? none) none := .now
  have hcls : W.Looks (model prog w) hp (classData C) cd := W.looks_clsIn X hcd
  rw [W.osa_eq, refuse_eq]
  refine wpAny_bind (wpAny_bind (I.type.at (wpAny_bind (hmr.at ?_))))
  rw [refsAE_pass _ _ hm]
  refine wpAny_pure (wpAny_bind (I.type.at (wpAny_bind ((W.looks_findIn X ha).at (wpAny_bind (L3.at ?_))))))
  show wpAny _ _ (storeInOwnDict (.ref x) (.ref C) (.str name tk) name v false) _ _ _
  obtain ⟨nm, bs, mro, ns, qn, hd, sn, sb, ab, col, del⟩ := cd
  dsimp only at hh
  subst hh
  unfold storeInOwnDict ownDictForStores
  repeat (first | with_reducible refine HandSPX.store_in_new ?_ ?_ | with_reducible refine wpAny_loadPart_at hx ?_ | with_reducible refine hcls.at ?_ | wp_step)
  · exact ⟨_, #[], _, (Heap.get?_update_ne _ _ _ _ hxs.symm).trans (Heap.get?_push_at rfl rfl), rfl, fun e he => absurd he (by simp), fun _ => rfl⟩
  · intro h' tk' hn' hs
    have hx₁ : (hp.push { cls := .type "dict", data := .dict #[] }).get? x = some { cls := .ref C, data := .fields fv } := Heap.get?_push_of_some _ hx
    refine hq h' tk' hp.objs.size (fun b o hb ho => ?_) (Nat.le_refl _) hxs.symm ?_ hn'
    · exact (hs.2 b (Nat.ne_of_lt (Heap.lt_size ho))).trans ((Heap.get?_update_ne _ _ _ _ hb).trans (Heap.get?_push_of_some _ ho))
    · exact (hs.2 x hxs).trans (Heap.get?_update_self _ hx₁ rfl)
end
end OEA
end PySem
namespace LL
open PySem PySem.Spec PyProof.Rows L2
structure OexAC (K : Frag) (C : Addr) : Prop where
  cls : ∃ nm q N bs bm sn sub ab col dd k0 k1 k2 k3 k5, K.lookup C = some (excClassObj nm q C N bs bm true sn sub ab col dd k0 k1 k2 k3 k5 "ArithmeticError.__new__") ∧ PySem.OEA.refsAE bm = true
  sa : PySem.W.findIn K (.ref C) "__setattr__" = some (some (.builtin "object.__setattr__"))
  exC : PySem.W.subIn K (.ref C) (.type "BaseException") = some true
  tyC : PySem.W.typeIn K (.ref C) = some (.type "type")
  kC : PySem.W.keepIn K (.ref C) = true
section
variable {X : Cx} {pins : List (Addr × Obj)} {σ : L2.St} {H : Hp} {s : Shared} {a C dx : Addr} {f : Str} {y : V} {u : Value} {fs : List (Str × V)} {E : Value → Shared → Prop} {A : Around}
theorem ostA_new {Q : Unit → Shared → Prop} (T : OexAC X.K C) (I : Inv X pins σ H s) (e : H a = some (exo a C none)) (hno : PySem.W.findIn X.K (.ref C) f = some none) (ry : RelV y u)
    (h : ∀ dx s', H dx = none → dx ≠ a → Inv X pins σ (upd (upd H dx (exd dx [(f, y)])) a (exo a C (some dx))) s' → Q () s') : wpAny (model X.prog X.w) A (setAttr (.ref a) f u) Q E s := by
  obtain ⟨nm, q, N, bs, bm, sn, sub, ab, col, dd, k0, k1, k2, k3, k5, hC, hbm⟩ := T.cls
  have hcl : PySem.W.clsIn X.K C = some { name := nm, bases := bs, mro := .ref C :: bm, ns := N, qualname := q, hasDict := true, slotNames := sn, subclasses := sub, abstract := ab, collection := col, hasDel := false } := by unfold PySem.W.clsIn; rw [hC] <;> rfl
  obtain ⟨t1, ho⟩ := exo_at I.hok e
  obtain ⟨hp, g, d, t, os⟩ := s
  refine PySem.W.set_plain I.kIn (ox := { cls := .ref C, dict := none, data := .fields #[.ref t1, .none, .none, .none, .bool false, .none] }) (od := none) ⟨ho, rfl, rfl, trivial⟩ T.sa ?_
  refine PySem.OEA.osa_ae I.kIn ho hcl (show PySem.OEA.refsAE (.ref C :: bm) = true from hbm) rfl hno (fun h' tk' dx k dn dne hx hn => ?_)
  have hnd : H dx = none := I.hok.fresh dn
  have nd : ∀ {b : Addr} {o : Obj}, hp.get? b = some o → b ≠ dx := fun {b o} q => Nat.ne_of_lt (Nat.lt_of_lt_of_le (Heap.lt_size q) dn)
  have na : ∀ {b : Addr}, H b = none → b ≠ a := fun {b} n z => by rw [z, e] at n; cases n
  have Un1 : Un X.fs [] H (upd (upd H dx (exd dx [(f, y)])) a (exo a C (some dx))) hp h' := {
    keep := fun b o q n _ _ => k b o (na n) q
    slot := fun b o q n _ _ => ⟨o.slots, k b o (na n) q⟩
    free := fun b o q n _ => by rw [upd_ne (na n), upd_ne (nd q)]; exact n
    there := fun b o q _ => by
      by_cases hb : b = a
      · exact ⟨_, by rw [hb]; exact hx⟩
      · exact ⟨o, k b o hb q⟩
    tups := fun b xs q => by rw [upd_ne (at_ne e q exo_tup), upd_ne (ne_of_none q hnd)]; exact q
    frzs := fun b o v q => by rw [upd_ne (at_ne e q exo_frz), upd_ne (ne_of_none q hnd)]; exact q
    tbls := fun b ps q => ⟨#[], by rw [upd_ne (at_ne e q exo_tbl), upd_ne (ne_of_none q hnd), q]; simp⟩ }
  refine h dx _ hnd dne (I.un (t' := tk') Un1 fun b o q => ?_)
  by_cases hb : b = a
  · subst hb
    rw [upd_same] at q; cases q
    exact exo_ok hx
  · rw [upd_ne hb] at q
    by_cases hd : b = dx
    · subst hd
      rw [upd_same] at q; cases q
      exact exd_ok hn (relO_put (fs := []) ry fun g => True.intro)
    · rw [upd_ne hd] at q
      exact (I.hok b o q).stay (fun c v hc z => k c v (by
          rcases hc with hc | hc
          · rw [hc]; exact hb
          · exact at_ne e hc exo_own) z)
        (fun c hc => by rw [upd_ne (at_ne e hc exo_own), upd_ne (ne_of_none hc hnd)]; exact hc) (fun c xs hc => by rw [upd_ne (at_ne e hc exo_tup), upd_ne (ne_of_none hc hnd)]; exact hc)
/-- self.f = e, the first field -/
def tOstA (K : Frag) (f : Str) (to te : TE) : TS := fun D σ H => te σ H fun y H1 => to σ H1 fun x H2 => ∃ a C : Addr, x = .ref a ∧ OexAC K C ∧ PySem.W.findIn K (.ref C) f = some none ∧
  H2 a = some (exo a C none) ∧ ∀ dx, H2 dx = none → dx ≠ a → D.nx σ (upd (upd H2 dx (exd dx [(f, y)])) a (exo a C (some dx)))
theorem ps_ostA {o e : Expr} {to te : TE} {p' pos : Pos} (ho : PE X o to) (he : PE X e te) (hs : swapsWith e (some (.Attribute o f p')) pos.line X.env = pure false := by rfl) : PS X (.Assign [.Attribute o f p'] e pos) (tOstA X.K f to te) := by
  refine ⟨fun pins s σ H D I h => ?_⟩
  refine plainObj_wpAny_Assign_Attribute (thn (he.run pins s σ H _ I h) fun v s1 ⟨y, H1, I1, r1, q1⟩ => thn (ho.run pins s1 σ H1 _ I1 q1) fun u s2 ⟨x, H2, I2, r2, a, C, ex, T, hno, ea, q⟩ => ?_) hs
  subst ex
  obtain rfl : u = Value.ref a := r2
  exact ostA_new T I2 ea hno r1 fun dx s' n ne J => ⟨σ, _, J, q dx n ne⟩
def spOexA (K : Frag) (f : Str) : Sp := fun vs H Q _ => ∃ a C v, vs = [.ref a, v] ∧ OexAC K C ∧ PySem.W.findIn K (.ref C) f = some none ∧ H a = some (exo a C none) ∧ ∀ dx, H dx = none → dx ≠ a → Q .non (upd (upd H dx (exd dx [(f, v)])) a (exo a C (some dx)))
theorem oexA_keeps {P : Program} {w : World} {K : Frag} {mg : Str → Option Value} {base : Heap} {qual : Str} {params : Arguments} {body : List Stmt} {scope : Scope} {f : Str} {fI : Addr} {fd : FuncData} {N : List Str} {p : Str}
    (F : FunD K "__init__" qual params body scope [] [] fI fd) (S : FnScope N ["self", p] scope) (hN : N = (["self", p] : List Str))
    (hbody : ∀ (cdv : Value) (A : Around) (outer : List Env) (s : Shared) (H : Hp) (E : XK), PSs (cxOf (L2N.CX P w) P w K mg base N qual scope fI cdv A outer s H E) body (tOstA K f (tVar 0) (tVar 1))) : FnOk P w K mg base (L2N.CX P w) 1 fI fd ["self", p] (spOexA K f) := by
  obtain ⟨oc, od, dV, kV, doc, pm, an, cdv, ct, osl, rfl, lk, hcd, _, _⟩ := F.ex
  refine fn_of lk hcd S (fun vs H Q E ⟨a, C, v, e, _⟩ => by rw [e]; rfl) fun A outer s H vs Q E _ hsp => ⟨_, hbody cdv A outer s H E, ?_⟩
  obtain ⟨a, C, v, rfl, T, hno, ha, q⟩ := hsp
  subst hN
  exact ⟨v, rfl, .ref a, rfl, a, C, rfl, T, hno, ha, fun dx n ne => q dx n ne⟩
end
structure OexAF (K : Frag) (x f : Str) : Prop where
  T : OexAC K (He.ga K x)
  hno : PySem.W.findIn K (.ref (He.ga K x)) f = some none
  iC : PySem.W.findIn K (.ref (He.ga K x)) "__init__" = some (some (.ref (He.ma K (He.ga K x) "__init__")))
  tI : PySem.W.typeIn K (.ref (He.ma K (He.ga K x) "__init__")) = some (.type "function")
structure OexAK (P : Program) (w : World) (K : Frag) (mg : Str → Option Value) (base : Heap) (fI : Addr) (f : Str) : Prop where
  ex : ∃ (fd : FuncData) (ps : List Str), FnOk P w K mg base (L2N.CX P w) 1 fI fd ps (spOexA K f) ∧ Binds K fd ps []
theorem js_raise1A {X : Cx} {W : WX} {x : Str} {p pos pos' : Pos} {f : Str} {e : Expr} {m : LE} (he : JE X W e m) (O : OexAF X.K x f) (hk : OexAK X.prog X.w X.K X.mg X.base (He.ma X.K (He.ga X.K x) "__init__") f) (hr : RoomG 2 X.A)
    (gC : X.mg x = some (.ref (He.ga X.K x))) (tk : L2N.Takes X W) (hc : X.calm = true := by rfl) (hg : Gl X x := by rfl) (hdb : (x == ("__debug__" : Str)) = false := by decide) (hs : starEach [e] X.env = (false, eval e X.env) :: starEach [] X.env := by rfl)
    (hpa : ∀ {t : TE}, PE X e t → PA X [e] (tCons t tNil) := by exact fun a => pa_cons a pa_nil) :
    JS X W (.Raise (some (.Call (.Name x p) [e] [] pos)) none pos') (sRaise1 x f m) := by
  have ha : PA X [e] (tCons (tE X.K W m) tNil) := hpa he.run
  obtain ⟨T, hno, iC, tI⟩ := O
  obtain ⟨fd, ps, F1, hb⟩ := hk.ex
  obtain ⟨nm, q, N, bs, bm, sn, sub, ab, col, dd, k0, k1, k2, k3, k5, hC, hbm⟩ := T.cls
  refine ⟨fun σ h A B l q => he.mono σ h _ _ _ _ (fun d h1 q1 => l.ex _ _ _ _ q1) (exOf.le l σ) q, PS.weak (L2N.ps_raise hc tk (pmkG F.excBase_ArithmeticError hC (fun Y => PySem.OEA.refsAE_contains Y _ hbm) T.kC (raises_own T.exC T.tyC) iC tI F1 hr.r hb (fun _ _ _ _ _ _ _ z => False.elim (let ⟨_, _, _, _, _, _, _, _, _, _, _, _, y⟩ := z; y)) hg gC ha hdb hs)) fun Dn σV H ⟨ι0, H0, ι, σ, h, e, hS, hH, q⟩ => ?_⟩
  refine tE.stm he.mono e hS hH q fun d h1 ι1 v H1 q1 e2 e1 hS1 hH1 rd => ?_
  refine ⟨by simp, fun a na => ⟨a, He.ga X.K x, v, rfl, T, hno, upd_same, fun dx nd ne => ⟨rfl, dx, [(f, v)], upd_same, ?_, ?_, ?_⟩⟩⟩
  · rw [upd_ne ne, upd_same]
  · rw [upd_ne ne] at nd; exact nd
  · rw [upd_ne ne] at nd
    rw [upd_eq_del na ne]
    have ex : Ext ι1 H1 ι1 (upd H1 dx (.xd [(f, v)])) := Ext.new nd
    exact q1 ι1 (some dx) σV _ (e1.trans ex) (hS1.ext ex) (hH1.new nd) ⟨_, upd_same, ⟨v, [], rfl, rd.ext ex, rfl⟩, hH1.notNew nd⟩
def oexAB (K : Frag) (x f : Str) : Bool := (match K.lookup (He.ga K x) with
  | some ⟨.type "type", _, .cls cd, sl⟩ => (match cd.mro, sl.toList with
    | .ref C' :: bm, [_, _, _, _, some (.builtin n), _] => C' == He.ga K x && (n == "ArithmeticError.__new__" && (!cd.hasDel && (cd.hasDict && PySem.OEA.refsAE bm)))
    | _, _ => false)
  | _ => false) && (decide (PySem.W.findIn K (.ref (He.ga K x)) "__setattr__" = some (some (.builtin "object.__setattr__"))) && (decide (PySem.W.subIn K (.ref (He.ga K x)) (.type "BaseException") = some true) && (decide (PySem.W.typeIn K (.ref (He.ga K x)) = some (.type "type")) && (PySem.W.keepIn K (.ref (He.ga K x)) &&
    (decide (PySem.W.findIn K (.ref (He.ga K x)) f = some none) && (decide (PySem.W.findIn K (.ref (He.ga K x)) "__init__" = some (some (.ref (He.ma K (He.ga K x) "__init__")))) && decide (PySem.W.typeIn K (.ref (He.ma K (He.ga K x) "__init__")) = some (.type "function"))))))))
theorem oexAB_ok {K : Frag} {x f : Str} (h : oexAB K x f = true) : OexAF K x f := by
  obtain ⟨h1, h⟩ := He.ba h
  obtain ⟨h2, h⟩ := He.ba h
  obtain ⟨h3, h⟩ := He.ba h
  obtain ⟨h4, h⟩ := He.ba h
  obtain ⟨h5, h⟩ := He.ba h
  obtain ⟨h6, h⟩ := He.ba h
  obtain ⟨h7, h8⟩ := He.ba h
  refine ⟨⟨?_, of_decide_eq_true h2, of_decide_eq_true h3, of_decide_eq_true h4, h5⟩, of_decide_eq_true h6, of_decide_eq_true h7, of_decide_eq_true h8⟩
  split at h1
  · rename_i dd cd sl ho
    split at h1
    · rename_i C' bm k0 k1 k2 k3 n k5 hm hs
      obtain ⟨g1, g⟩ := He.ba h1
      obtain ⟨g2, g⟩ := He.ba g
      obtain ⟨g3, g⟩ := He.ba g
      obtain ⟨g4, g5⟩ := He.ba g
      have e1 := beq_iff_eq.mp g1
      have e2 := beq_iff_eq.mp g2
      have e3 : cd.hasDel = false := by simpa using g3
      obtain ⟨nm, bs, mro, ns, qn, hd, sn, sub, ab, col, del⟩ := cd
      dsimp only at hm e3 g4
      subst hm e3 g4
      have hsl : sl = #[k0, k1, k2, k3, some (.builtin n), k5] := by
        obtain ⟨l⟩ := sl
        simp only at hs
        rw [hs]
      subst hsl e2
      rw [e1] at ho
      exact ⟨nm, qn, ns, bs, bm, sn, sub, ab, col, dd, k0, k1, k2, k3, k5, ho, g5⟩
    · cases h1
  · cases h1
end LL
end

section
set_option Elab.async false
set_option linter.all false
set_option maxRecDepth 100000
set_option maxHeartbeats 2000000
/-! LLFin: try: .. / finally: ..; what is never reached. -/
namespace LL
open PySem PySem.Spec PyProof.Rows L2
variable {X : Cx} {W : WX}
section
variable {body : List Stmt} {f₀ : Stmt} {fs : List Stmt} {pos : Pos} {tb : WX → TS} {tf tfs : TS} {Wout : WX}
/-- an exception of the body meets the finally: noted, the suite is run, on it goes -/
theorem fin_excN {pins : List (Addr × Obj)} {D : Ends} {u : Value} {s' : Shared} (hs : X.stack = X.env :: X.outer) (hf : X.env.frame = some X.env.locals) (hex : X.ex = []) (ok : X.Ok) (tk : L2N.Takes X Wout)
    (hsu : ∀ (a : Addr) (oe : Obj) (cls : Value) (d : Option Addr) (pn : List (Addr × Obj)), L2N.Zn cls d oe → (∃ vs, oe.data = .fields vs) → PSs (X.suite a ((a, oe) :: pn)) (f₀ :: fs) tfs)
    (xx : L2N.XE (X.tr (X.pn ++ pins) (fun x s₁ => wpAny (model X.prog X.w) X.A (noteFrame x X.env) (fun _ s₂ => FinallyRaised X.prog X.w X.A X.xe X.env (f₀ :: fs) (SP X pins D) x s₂) (FinallyRaised X.prog X.w X.A X.xe X.env (f₀ :: fs) (SP X pins D)) s₁)) (wFin tfs Wout) u s') :
    wpAny (model X.prog X.w) X.A (noteFrame u X.env) (fun _ s₂ => FinallyRaised X.prog X.w X.A X.xe X.env (f₀ :: fs) (SP X pins D) u s₂) (FinallyRaised X.prog X.w X.A X.xe X.env (f₀ :: fs) (SP X pins D)) s' := by
  have hfr : X.A.frames = some (X.env :: X.outer) := by rw [ok.frames, hs]
  obtain ⟨a, B, sI, pins', σ', H', cls, d, rfl, J', nb, up, sky, na, os, ag, hw⟩ := xx
  have J : Inv X pins σ' H' sI := J'.ofTry ok
  have sky' : Sky B (X.env :: X.outer) a (L2N.Zn cls d) X.env.locals s'.heap := by rw [← hs]; exact sky
  have fin : ∀ h1, HandSPX.HeldZ B (X.env :: X.outer) a (L2N.Zn cls d) X.env.locals h1 → s'.heap.UpToSlots h1 → FinallyRaised X.prog X.w X.A X.xe X.env (f₀ :: fs) (SP X pins D) (.ref a) { s' with heap := h1 } := fun h1 hh1 up1 => by
    refine ⟨ref_ne_byPass a, HandSPX.againZ hf hh1.2.2.2 (HandSPX.landsZ hh1 fun h3 fl3 up3 => ?_)⟩
    have J3 : Inv X pins σ' H' { s' with heap := h3 } := J.landed nb fl3.1 ((up.trans up1).trans up3) os ag
    obtain ⟨k1, k2, k3, oe, vs, T, oT, ts, he3, hz, hd, hv1, hnT, hTe, hT, hdT, ht3⟩ := id fl3
    have nT : H' T = none := (J.inGround nb).gone hnT
    have notFr : ∀ (b : Addr) (o : Obj) (fv : Array Value), h3.get? b = some o → o.data = .fields fv → b ∉ frs (X.env :: X.outer) := fun b o fv e dd hm => by
      obtain ⟨_, o', e', hnf⟩ := k3.mem hm
      have eo : o = o' := Option.some.inj (e.symm.trans e')
      rw [← eo] at hnf
      exact hnf _ dd
    have locF : X.env.locals ∈ frs (X.env :: X.outer) := List.mem_filterMap.mpr ⟨X.env, List.mem_cons_self, hf⟩
    have fsF : ∀ b, b ∈ X.fs → b ∈ frs (X.env :: X.outer) := fun b hm => by
      obtain ⟨e, he, q⟩ := List.mem_filterMap.mp hm
      exact List.mem_filterMap.mpr ⟨e, List.mem_cons_of_mem _ he, q⟩
    have fa := notFr a oe vs he3 hd
    have fT := notFr T oT ts hT hdT
    have S3 : Inv (X.suite a ((a, oe) :: (T, oT) :: (X.pn ++ pins))) [] σ' H' { s' with heap := h3 } :=
      ⟨J3.ok.suite _ _, J3.os, J3.bare, J3.base, J3.loc, J3.cell, J3.free, J3.freeC, fun p hp => by
        rw [List.append_nil] at hp
        rcases List.mem_cons.mp hp with z | hp
        · rw [z]
          exact ⟨he3, na, fun z2 => fa (by rw [show a = X.env.locals from z2]; exact locF), fun z2 => fa (fsF _ z2), fun v z2 => by
            have z3 : oe.data = .cell v := z2
            rw [hd] at z3
            cases z3⟩
        · rcases List.mem_cons.mp hp with z | hp
          · rw [z]
            exact ⟨hT, nT, fun z2 => fT (by rw [show T = X.env.locals from z2]; exact locF), fun z2 => fT (fsF _ z2), fun v z2 => by
              have z3 : oT.data = .cell v := z2
              rw [hdT] at z3
              cases z3⟩
          · exact J3.pin p hp, J3.hok, J3.len⟩
    refine wpAny_mono ((hsu a oe cls d ((T, oT) :: (X.pn ++ pins)) hz ⟨_, hd⟩).run [] { s' with heap := h3 } σ' H' { nx := fun σ2 H2 => Wout cls d σ2 H2, rt := fun _ _ => False } S3 hw) (fun g s6 hsp => ?_) fun _ _ z => False.elim z
    cases g with
    | ret u =>
      obtain ⟨_, _, _, _, _, q⟩ := hsp
      exact False.elim q
    | brk =>
      obtain ⟨_, _, _, q⟩ := hsp
      exact False.elim q
    | cont =>
      obtain ⟨_, _, _, q⟩ := hsp
      exact False.elim q
    | next =>
      obtain ⟨σ6, H6, S6, q6⟩ := hsp
      have J6 : Inv X pins σ6 H6 s6 := ⟨ok, S6.os, S6.bare, S6.base, S6.loc, S6.cell, S6.free, S6.freeC, fun p hp => S6.pin p (List.mem_append_left _ (List.mem_cons_of_mem _ (List.mem_cons_of_mem _ hp))), S6.hok, S6.len⟩
      have pa := S6.pin (a, oe) (List.mem_append_left _ List.mem_cons_self)
      have pT := S6.pin (T, oT) (List.mem_append_left _ (List.mem_cons_of_mem _ List.mem_cons_self))
      have ga : s6.heap.get? a = some oe := pa.1
      have gT : s6.heap.get? T = some oT := pT.1
      have na6 : H6 a = none := pa.2.1
      have nT6 : H6 T = none := pT.2.1
      have far : ∀ b o, sI.heap.get? b = some o → b ≠ a ∧ b ≠ T := fun b o e => by
        by_cases hb : b ∈ frs X.stack
        · rw [hs] at hb
          exact ⟨fun z => fa (by rw [← z]; exact hb), fun z => fT (by rw [← z]; exact hb)⟩
        · have q := nb b o e hb
          exact ⟨fun z => by
            rw [z, k2] at q
            exact (nomatch q), fun z => by
            rw [z, hnT] at q
            cases q⟩
      have far0 : ∀ b o, X.s_0.heap.get? b = some o → b ≠ a ∧ b ≠ T := fun b o e => by
        obtain ⟨o', q⟩ := J.base.there b o e (by rw [hex]; simp)
        exact far b o' q
      have farP : ∀ p ∈ X.pn ++ pins, p.1 ≠ a ∧ p.1 ≠ T := fun p hp => far p.1 p.2 (J.pin p hp).1
      obtain ⟨G, g1, g2⟩ := restrict s6.heap fun b => !(decide (b = a) || decide (b = T))
      have gIn : ∀ b o, G.get? b = some o → s6.heap.get? b = some o ∧ b ≠ a ∧ b ≠ T := fun b o e => by
        cases q : (!(decide (b = a) || decide (b = T))) with
        | false =>
          rw [g2 b q] at e
          cases e
        | true =>
          rw [g1 b q] at e
          simp only [Bool.not_eq_true', Bool.or_eq_false_iff, decide_eq_false_iff_not] at q
          exact ⟨e, q.1, q.2⟩
      have gOf : ∀ b o, b ≠ a → b ≠ T → s6.heap.get? b = some o → G.get? b = some o := fun b o h1 h2 e => by
        rw [g1 b (by simp [h1, h2])]
        exact e
      have I6 : Inv X pins σ6 H6 { s6 with heap := G } := J6.less (fun b o e => (gIn b o e).1) gOf ⟨oe, vs, ga, hd⟩ ⟨oT, ts, gT, hdT⟩ na6 nT6 far0 farP
      have B6in : ∀ b o, (PySem.W.hideAll G (frs X.stack)).get? b = some o → s6.heap.get? b = some o := fun b o e => (gIn b o (PySem.W.of_hideAll _ e)).1
      have Bno : ∀ b, (b = a ∨ b = T) → (PySem.W.hideAll G (frs X.stack)).get? b = none := fun b hb => by
        cases q : (PySem.W.hideAll G (frs X.stack)).get? b with
        | none => rfl
        | some o =>
          obtain ⟨_, n1, n2⟩ := gIn b o (PySem.W.of_hideAll _ q)
          rcases hb with z | z
          · exact absurd z n1
          · exact absurd z n2
      have fl6 : HandSPX.FlyingZ (PySem.W.hideAll G (frs X.stack)) (X.env :: X.outer) a (L2N.Zn cls d) s6.heap := by
        refine ⟨B6in, Bno a (.inl rfl), ?_, oe, vs, T, oT, ts, ga, hz, hd, hv1, Bno T (.inr rfl), hTe, gT, hdT, ht3⟩
        have ff := funFrames_none (B := PySem.W.hideAll G (frs X.stack)) J6.stack fun b hb => PySem.W.hideAll_none _ hb
        rw [← hs]
        exact ff
      show wpAny (model X.prog X.w) X.A (PySem.passOn "try.finally" (.ref a) X.env) (SP X pins D) X.xe s6
      unfold PySem.passOn
      refine wpAny_bind (wpAny_field ga hd hv1 ?_)
      rw [if_neg (show ¬ ((Value.ref T == Value.none) = true) from by simp)]
      have goOn : wpAny (model X.prog X.w) X.A (setFlight (.ref a) X.env.frame) (fun _ s7 => wpAny (model X.prog X.w) X.A (throw (.ref a) : Sem Flow) (SP X pins D) X.xe s7) X.xe s6 := by
        rw [hf]
        refine HandSPX.setFlight_upZ fl6 fun h7 hh7 up7 => wpAny_throw (tk _ _ ?_)
        refine ⟨a, PySem.W.hideAll G (frs X.stack), { s6 with heap := G }, pins, σ6, H6, cls, d, rfl, I6, fun b o e hb => PySem.W.hideAll_get _ e hb, ?_, .inr (.inr (by rw [← hs] at hh7; exact hh7)), na6, rfl, J6.bare, q6⟩
        exact Heap.UpToSlots.trans (Heap.UpToSlots.of_keeps fun b o e => (gIn b o e).1) up7
      first
        | exact wpAny_bind (wpAny_pure (wpAny_bind goOn))
        | exact wpAny_bind goOn
  show wpAny (model X.prog X.w) X.A (noteFrame (.ref a) X.env) _ _ _
  rcases sky' with ⟨hB, hn, hl, oe, vs, he0, hz, hd, hv1⟩ | fl | hh
  · exact PXN.look_newZ L2N.Zn.steady hfr hl hf he0 hB hn hd hv1 hz fin
  · exact PXN.looks_onZ L2N.Zn.steady hfr hf fl fin
  · exact HandSPX.againZ hf hh.2.2.2 (fin s'.heap hh (Heap.UpToSlots.refl _))
theorem ps_tryFin (hs : X.stack = X.env :: X.outer) (hf : X.env.frame = some X.env.locals) (hex : X.ex = []) (tk : L2N.Takes X Wout)
    (hb : ∀ (W : WX) (pn : List (Addr × Obj)) (xe : Value → Shared → Prop), L2N.Takes (X.tr pn xe) W → PassesOwn (model X.prog X.w) X.A X.env xe → PSs (X.tr pn xe) body (tb W))
    (hfin : PSs X.nox (f₀ :: fs) tf) (hsu : ∀ (a : Addr) (oe : Obj) (cls : Value) (d : Option Addr) (pn : List (Addr × Obj)), L2N.Zn cls d oe → (∃ vs, oe.data = .fields vs) → PSs (X.suite a ((a, oe) :: pn)) (f₀ :: fs) tfs) :
    PS X (.Try body [] [] (f₀ :: fs) pos) (fun D σ H => tb (wFin tfs Wout) { nx := fun σ1 H1 => tf D σ1 H1, rt := fun _ _ => False } σ H) := by
  refine ⟨fun pins s σ H D I h => ?_⟩
  have ok := I.ok
  have hfr : X.A.frames = some (X.env :: X.outer) := by rw [ok.frames, hs]
  refine wpAny_Try_finally ?_
  refine wpAny_mono ((hb (wFin tfs Wout) (X.pn ++ pins) (fun x s₁ => wpAny (model X.prog X.w) X.A (noteFrame x X.env) (fun _ s₂ => FinallyRaised X.prog X.w X.A X.xe X.env (f₀ :: fs) (SP X pins D) x s₂) (FinallyRaised X.prog X.w X.A X.xe X.env (f₀ :: fs) (SP X pins D)) s₁)
    (fun u s' xx => ?_) PassesOwn.looking).run [] s σ H { nx := fun σ1 H1 => tf D σ1 H1, rt := fun _ _ => False } (I.toTry _) h) (fun f s1 hsp => ?_) (fun x s1 hx => hx)
  · exact fin_excN hs hf hex ok tk hsu xx
  · cases f with
    | next =>
      obtain ⟨σ1, H1, J, q⟩ := hsp
      refine wpAny_execs_nil ?_
      refine wpAny_mono (hfin.run pins s1 σ1 H1 D ((J.ofTry ok).wish _) q) (fun g s2 q2 => ?_) fun _ _ z => False.elim z
      have q' : SP X pins D g s2 := q2.unwish
      cases g with
      | next => exact q'
      | ret w2 => exact q'
      | brk => exact q'
      | cont => exact q'
    | ret u => obtain ⟨_, _, _, _, _, q⟩ := hsp; exact False.elim q
    | brk => obtain ⟨_, _, _, q⟩ := hsp; exact False.elim q
    | cont => obtain ⟨_, _, _, q⟩ := hsp; exact False.elim q
end
theorem RelX.ext {K : Frag} {ι ι' : Ad} {H H' : Hp} {fs : List (Str × D)} {dx : Option Addr} (r : RelX K ι H fs dx) (e : Ext ι H ι' H') : RelX K ι' H' fs dx := by
  cases dx with
  | none => exact r
  | some d =>
    obtain ⟨vs, h1, h2, h3⟩ := r
    exact ⟨vs, e.keep _ _ h1 h3.1 (fun _ z => by cases z), RelFs.ext e h2, e.ne ⟨_, h1, fun _ z => by cases z⟩ h3⟩
/-- try: body / finally: suite; N: the suite behind the body's end, F: while an exception flies -/
def finK (N F : LS) (K : LK) : LK := { nx := fun σ1 h1 => N σ1 h1 { nx := K.nx, rt := K.rt, bk := K.bk, ct := K.ct }, rt := fun _ _ => False, ex := fun c fs σ1 h1 => F σ1 h1 { nx := fun σ2 h2 => K.ex c fs σ2 h2, rt := fun _ _ => False } }
def sFin (B N F : LS) : LS := fun σ h K => B σ h (finK N F K)
theorem mono_fin {B N F : LS} (hB : MonoS B) (hN : MonoS N) (hF : MonoS F) : MonoS (sFin B N F) := by
  intro σ h A A' le q
  refine hB σ h (finK N F A) (finK N F A') ⟨fun σ1 h1 z => ?_, fun _ _ z => z, fun _ _ z => z, fun _ _ z => z, fun c fs σ1 h1 z => ?_⟩ q
  · exact hN σ1 h1 { nx := A.nx, rt := A.rt, bk := A.bk, ct := A.ct } { nx := A'.nx, rt := A'.rt, bk := A'.bk, ct := A'.ct } ⟨le.nx, le.rt, le.bk, le.ct, fun _ _ _ _ z => z⟩ z
  · exact hF σ1 h1 { nx := fun σ2 h2 => A.ex c fs σ2 h2, rt := fun _ _ => False } { nx := fun σ2 h2 => A'.ex c fs σ2 h2, rt := fun _ _ => False } ⟨fun _ _ z => le.ex _ _ _ _ z, fun _ _ z => z, fun _ _ z => z, fun _ _ z => z, fun _ _ _ _ z => z⟩ z
theorem js_fin {body : List Stmt} {B N F : LS} {f₀ : Stmt} {fs : List Stmt} {pos : Pos} (tk : L2N.Takes X W)
    (hb : ∀ (W' : WX) (pn : List (Addr × Obj)) (xe : Value → Shared → Prop), L2N.Takes (X.tr pn xe) W' → PassesOwn (model X.prog X.w) X.A X.env xe → JSs (X.tr pn xe) W' body B)
    (hn : JSs X.nox NoX (f₀ :: fs) N) (hx : ∀ (a : Addr) (oe : Obj) (cls : Value) (d : Option Addr) (pn : List (Addr × Obj)), L2N.Zn cls d oe → (∃ vs, oe.data = .fields vs) → JSs (X.suite a ((a, oe) :: pn)) NoX (f₀ :: fs) F)
    (hs : X.stack = X.env :: X.outer := by rfl) (hf : X.env.frame = some X.env.locals := by rfl) (hex : X.ex = [] := by rfl) : JS X W (.Try body [] [] (f₀ :: fs) pos) (sFin B N F) := by
  have monoB : MonoS B := (hb NoX [] (fun _ _ => False) (fun _ _ z => by
    obtain ⟨_, _, _, _, _, _, _, _, _, _, _, _, _, _, _, _, y⟩ := z
    exact y.elim) PassesOwn.never).mono
  have monoF : MonoS F := (hx 0 ⟨.none, none, .fields #[.none, .none, .none], #[]⟩ .none none [] ⟨rfl, rfl, fun vs e => by cases e; rfl⟩ ⟨_, rfl⟩).mono
  have mono : MonoS (sFin B N F) := mono_fin monoB hn.mono monoF
  refine ⟨mono, PS.weak (ps_tryFin (tb := fun W' => tS X.K W' B) (tf := tS X.K NoX N) (tfs := tS X.K NoX F) hs hf hex tk (fun W' pn xe t p => (hb W' pn xe t p).run) hn.run (fun a oe cls d pn hz hd => (hx a oe cls d pn hz hd).run)) fun Dn σV H ⟨ι0, H0, ι, σ, h, e, hS, hH, q⟩ => ?_⟩
  refine ⟨ι0, H0, ι, σ, h, e, hS, hH, monoB _ _ (finK N F _) _ ⟨fun σ1 h1 z ι' σV' H' e' hS' hH' => ?_, fun _ _ z => False.elim z, fun _ _ z => False.elim z, fun _ _ z => False.elim z, fun c fs σ1 h1 z ι' dx σV' H' e' hS' hH' rx => ?_⟩ q⟩
  · refine ⟨ι0, H0, ι', σ1, h1, e', hS', hH', hn.mono _ _ _ _ ?_ z⟩
    exact ⟨fun _ _ z => z, fun _ _ z => z, fun _ _ z => z, fun _ _ z => z, fun _ _ _ _ z => False.elim z⟩
  · refine ⟨ι', H', ι', σ1, h1, .refl _ _, hS', hH', monoF _ _ _ _ ?_ z⟩
    exact ⟨fun σ2 h2 z ι2 σV2 H2 e2 hS2 hH2 => z ι2 dx σV2 H2 (e'.trans e2) hS2 hH2 (RelX.ext rx e2), fun _ _ z => False.elim z, fun _ _ z => False.elim z, fun _ _ z => False.elim z, fun _ _ _ _ z => False.elim z⟩
end LL
end

section
set_option Elab.async false
set_option linter.all false
set_option maxRecDepth 100000
set_option maxHeartbeats 2000000
/-! LLRest: methods m(self, *rest, kw=None). -/
namespace LL
open PySem PySem.Spec PyProof.Rows L2
variable {X : Cx} {W : WX}
abbrev tupO (ts : List Value) : Obj := { cls := .type "tuple", data := .seq ts.toArray }
abbrev withTup (s : Shared) (ts : List Value) : Shared := { s with heap := s.heap.push (tupO ts) }
/-- how such a call is bound: the fixed ones, then a new tuple of the rest -/
def BindsR (K : Frag) (fd : FuncData) (ps : List Str) (args : Args) (us ts : List Value) : Prop :=
  ∀ (M : Model) (A : Around) (s : Shared) (E : Value → Shared → Prop) (Q : List (Str × Value) → Shared → Prop), K.In s.heap → ts.length ≤ sizeLine → Q (ps.zip (us ++ [.ref s.heap.objs.size])) (withTup s ts) → wpAny M A (bindArgs fd args) Q E s
/-- .. by position, and with the keyword kw -/
structure RBinds (K : Frag) (fd : FuncData) (ps : List Str) (kw : Str) : Prop where
  d : ∀ (u : Value) (us : List Value), BindsR K fd ps ⟨u :: us, []⟩ [u, .none] us
  k : ∀ (u : Value) (us : List Value) (w : Value), BindsR K fd ps ⟨u :: us, [(kw, w)]⟩ [u, w] us
theorem run_ofR {CX : CXT} {P : Program} {w : World} {K : PySem.W.Frag} {mg : Str → Option Value} {base : Heap} {k : Nat} {f : Addr} {name qual : Str} {params : Arguments} {body : List Stmt} {scope : Scope} {dV kV doc pm cdv ct oc : Value} {an od : Option Addr}
    {osl : Array (Option Value)} {N ps : List Str} (lk : K.lookup f = some ⟨oc, od, .func (PySem.W.fnOf name qual params body scope dV kV doc pm an cdv ct), osl⟩) (hcd : PySem.W.codeIn K cdv qual = true) (S : FnScope N ps scope)
    {A : Around} {outer : List Env} {s : Shared} {H : Hp} {args : Args} {us ts : List Value} {vs : List V} {Q : VK} {E : XK} (hr : Room (k + 1) A) (KX : K.In s.heap) (lt : ts.length ≤ sizeLine) (e0 : Env0 P w K mg base A outer (withTup s ts) H) (hb : BindsR K (PySem.W.fnOf name qual params body scope dV kV doc pm an cdv ct) ps args us ts)
    (r : Vals vs (us ++ [.ref s.heap.objs.size])) (hl : vs.length = ps.length)
    (hbody : Room k (A.deeper (envOfC qual scope (withTup s ts).heap.objs.size f cdv)) → ∃ t, PSs (cxOf CX P w K mg base N qual scope f cdv A outer (withTup s ts) H E) body t ∧ t { nx := fun _ H' => Q .non H', rt := Q } (L2.start N vs) H) :
    codeAny (model P w) A (.call (.ref f) args) (CR CX outer P w H (withTup s ts) Q E) s := by
  have lim : (withTup s ts).heap.NoLimit := e0.mod.nolimit.keeps fun b o e => (e0.bs b o e).1
  have hkind : ∀ y ∈ ps.zip (us ++ [.ref s.heap.objs.size]), scope.names.lookup y.1 = some .local ∨ (scope.names.lookup y.1 = some .cell ∧ ((cellsFrom ((withTup s ts).heap.objs.size + 1) scope.names []).lookup y.1).isSome = true) := fun ⟨n, v⟩ hy => by
    rcases S.par n (List.of_mem_zip hy).1 with q | q
    · exact .inl q
    · exact .inr ⟨q, PySem.W.cellsFrom_some _ _ _ (.inl q)⟩
  refine codeAny_call_function hr.depth (KX _ _ lk) rfl S.co S.gen rfl (PySem.W.codeRec_of KX hcd) (hb _ _ s _ _ KX lt ?_)
  refine wpAny_newFunctionEnv_cells S.kind hkind fun env he s1 x => ?_
  subst he
  refine ⟨lim.keeps x.toInCall.keep, codeAny_func ?_⟩
  obtain ⟨t, ht, hq⟩ := hbody (hr.deeper _)
  have I : Inv (cxOf CX P w K mg base N qual scope f cdv A outer (withTup s ts) H E) [] (L2.start N vs) H s1 := inv_start S hr.hd e0 hl r x
  refine wpAny_mono (ht.run [] s1 (L2.start N vs) H _ I hq) (fun fl s' hs => ?_) fun e s' hs => hs
  have fin : ∀ {σ' : L2.St} {H' : Hp} {v : V} {u : Value}, Inv (cxOf CX P w K mg base N qual scope f cdv A outer (withTup s ts) H E) [] σ' H' s' → L2.RelV v u → Q v H' → CE outer P w H (withTup s ts) Q u s' :=
    fun {σ' H' v u} J rv q => ⟨v, H', J.os, J.bare, J.base, J.hok, rv, q⟩
  cases fl with
  | ret u =>
    obtain ⟨v, σ', H', J, rv, q⟩ := hs
    exact fin J rv q
  | next =>
    obtain ⟨σ', H', J, q⟩ := hs
    exact fin (v := V.non) (u := Value.none) J rfl q
  | brk =>
    obtain ⟨_, _, _, q⟩ := hs
    exact False.elim q
  | cont =>
    obtain ⟨_, _, _, q⟩ := hs
    exact False.elim q
/-- what such a def does when it is called -/
structure FnR (P : Program) (w : World) (K : Frag) (mg : Str → Option Value) (base : Heap) (k : Nat) (f : Addr) (fd : FuncData) (ps : List Str) (sp : Sp) : Prop where
  len : ∀ vs H Q E, sp vs H Q E → vs.length = ps.length
  run : ∀ (A : Around) (outer : List Env) (s : Shared) (H : Hp) (args : Args) (us ts : List Value) (vs : List V) (Q : VK) (E : XK), RoomG k A → K.In s.heap → ts.length ≤ sizeLine → Env0 P w K mg base A outer (withTup s ts) H → BindsR K fd ps args us ts → Vals vs (us ++ [.ref s.heap.objs.size]) → sp vs H Q E →
    codeAny (model P w) A (.call (.ref f) args) (CR (L2N.CX P w) outer P w H (withTup s ts) Q E) s
structure KeepsR (P : Program) (w : World) (K : Frag) (mg : Str → Option Value) (base : Heap) (k : Nat) (f : Addr) (kw : Str) (G : LSp) : Prop where
  mono : MonoP G
  ok : ∃ (fd : FuncData) (ps : List Str), ps.length = 3 ∧ FnR P w K mg base k f fd ps (spV K 3 G) ∧ RBinds K fd ps kw
theorem FnR.mono {P : Program} {w : World} {K : Frag} {mg : Str → Option Value} {base : Heap} {j k : Nat} {f : Addr} {fd : FuncData} {ps : List Str} {sp : Sp} (F : FnR P w K mg base j f fd ps sp) (h : j ≤ k) : FnR P w K mg base k f fd ps sp :=
  ⟨F.len, fun A outer s H args us ts vs Q E hr => F.run A outer s H args us ts vs Q E (hr.mono h)⟩
theorem KeepsR.up {P : Program} {w : World} {K : Frag} {mg : Str → Option Value} {base : Heap} {j k : Nat} {f : Addr} {kw : Str} {G : LSp} (h : KeepsR P w K mg base j f kw G) (l : j ≤ k) : KeepsR P w K mg base k f kw G :=
  ⟨h.mono, let ⟨fd, ps, e, F, b⟩ := h.ok; ⟨fd, ps, e, F.mono l, b⟩⟩
theorem keepsR_of {P : Program} {w : World} {K : Frag} {mg : Str → Option Value} {base : Heap} {x qual kw : Str} {params : Arguments} {body : List Stmt} {scope : Scope} {dvs : List V} {kws : List (Str × V)} {f : Addr} {fd : FuncData} {N ps : List Str} {k : Nat} {G : LSp} {b : LS}
    (F : FunD K x qual params body scope dvs kws f fd) (S : FnScope N ps scope) (hn : ps.length = 3) (hb : RBinds K fd ps kw) (hG : MonoP G)
    (hbody : ∀ (cdv : Value) (A : Around) (outer : List Env) (s : Shared) (H : Hp) (E : XK), CodeAt K f cdv → RoomG k (A.deeper (envOfC qual scope s.heap.objs.size f cdv)) →
      JSs (cxOf (L2N.CX P w) P w K mg base N qual scope f cdv A outer s H E) (fun cls d _ H => E cls d H) body b)
    (hv : ∀ ds h Q E, ds.length = 3 → G ds h Q E → b (startD N ds) h (bodyK Q E)) : KeepsR P w K mg base (k + 1) f kw G := by
  obtain ⟨oc, od, dV, kV, doc, pm, an, cdv, ct, osl, rfl, lk, hcd, _, _⟩ := F.ex
  have len : ∀ vs H Q E, spV K 3 G vs H Q E → vs.length = ps.length := fun vs H Q E ⟨ι, ds, h, _, r, l, _⟩ => by rw [← r.length, l, hn]
  refine ⟨hG, _, ps, hn, ⟨len, fun A outer s H args us ts vs Q E hr KX lt e0 hbt hv' hsp => ?_⟩, hb⟩
  refine run_ofR (k := k) lk hcd S hr.r KX lt e0 hbt hv' (len vs H Q E hsp) fun hr' => ?_
  obtain ⟨ι, ds, h, hH, r, l, q⟩ := hsp
  have j := hbody cdv A outer (withTup s ts) H E ⟨_, _, _, _, lk, rfl, _, hcd⟩ ⟨hr', hr.g⟩
  refine ⟨_, j.run, ι, H, ι, startD N ds, h, .refl _ _, rel_start r, hH, ?_⟩
  refine j.mono _ _ _ _ ?_ (hv ds h _ _ l q)
  exact ⟨fun σ' h' q' ι' σV' H' e' _ hH' => q' ι' .non H' e' hH' rfl, fun d h' q' ι' v H' e' hH' r' => q' ι' v H' e' hH' r', fun _ _ z => z.elim, fun _ _ z => z.elim, fun c fs σ' h' q' ι' dx σV' H' e' _ hH' r' => q' ι' dx H' e' hH' r'⟩

/-! ### the call -/
def eMethR (C m : Str) (G : LSp) (o : LE) (A : LX (List D)) (kw : LE) : LE := fun σ h Q E => o σ h (fun x h1 => isIns C m x h1 ∧ A σ h1 (fun ds h2 => kw σ h2 (fun d h3 => ds.length ≤ sizeLine ∧ G [x, d, .tup ds] h3 Q E) E) E) E
theorem mono_methR {C m : Str} {G : LSp} {o : LE} {A : LX (List D)} {kw : LE} (hG : MonoP G) (ho : Mono o) (hA : Mono A) (hk : Mono kw) : Mono (eMethR C m G o A kw) := fun σ h Q Q' E E' hQ hE q =>
  ho σ h _ _ _ _ (fun x h1 ⟨i, q1⟩ => ⟨i, hA σ h1 _ _ _ _ (fun ds h2 q2 => hk σ h2 _ _ _ _ (fun d h3 ⟨l, q3⟩ => ⟨l, hG _ _ _ _ _ _ hQ hE q3⟩) hE q2) hE q1⟩) hE q
/-- the new tuple -/
theorem tup_laid {pins : List (Addr × Obj)} {σ : L2.St} {H : Hp} {s : Shared} {vs : List V} {ts : List Value} (I : Inv X pins σ H s) (r : Vals vs ts) (l : ts.length ≤ sizeLine) : Inv X pins σ (upd H s.heap.objs.size (.tup vs)) (withTup s ts) :=
  I.laid (t' := s.toks) (fun b o e => Heap.get?_push_of_some _ e) (Nat.le_refl _) ⟨by rw [r.length]; exact l, ts, r, IsTup.new s.heap _⟩
section
variable {k : Nat} {f C : Addr} {fd : FuncData} {ps : List Str} {G : LSp} {kw : Str}
/-- the callee runs: what is asked of the LL side -/
theorem run_fnR {pins : List (Addr × Obj)} {σV : L2.St} {H : Hp} {s : Shared} {Q : VK} {E : L2.St → XK} {args : Args} {us ts : List Value} {vx vd : V} {vs : List V} {ι : Ad} {h : LH} {x d : D} {ds : List D}
    (hG : MonoP G) (hn : ps.length = 3) (F : FnR X.prog X.w X.K X.mg X.base k f fd ps (spV X.K 3 G)) (hr : RoomG k X.A) (hx : PassesAt (L2N.CX X.prog X.w) X σV (E σV)) (I : Inv X pins σV H s) (hus : Vals [vx, vd] us) (hts : Vals vs ts) (hb : BindsR X.K fd ps args us ts)
    (hH : RelH X.K ι H h) (rx : RelD X.K ι H x vx) (rd : RelD X.K ι H d vd) (rs : RelDs X.K ι H ds vs) (l : ds.length ≤ sizeLine)
    (q : G [x, d, .tup ds] h (fun d h' => ∀ ι' v H', Ext ι H ι' H' → RelH X.K ι' H' h' → RelD X.K ι' H' d v → Q v H') (fun c fs h' => ∀ ι' dx H', Ext ι H ι' H' → RelH X.K ι' H' h' → RelX X.K ι' H' fs dx → E σV (.ref (He.ga X.K c)) dx H')) :
    wpAny (model X.prog X.w) X.A (call (.ref f) args.pos args.kw) (EP X pins σV Q) X.xe s := by
  have lt : ts.length ≤ sizeLine := by rw [← hts.length, ← rs.length]; exact l
  have I2 := tup_laid I hts lt
  have na : H s.heap.objs.size = none := I.hok.fresh (Nat.le_refl _)
  have ex : Ext ι H ι (upd H s.heap.objs.size (.tup vs)) := Ext.new na
  refine wpAny_call (codeAny_mono (F.run X.A X.stack s (upd H s.heap.objs.size (.tup vs)) args us ts [vx, vd, .ref s.heap.objs.size] Q (E σV) hr I.kIn lt I2.env0 hb (hus.append (.cons rfl .nil)) ?_) fun r s' hq => ret_of hx I2 hq)
  refine ⟨ι, [x, d, .tup ds], h, hH.new na, ⟨vx, _, rfl, rx.ext ex, vd, _, rfl, rd.ext ex, .ref s.heap.objs.size, _, rfl, ⟨_, vs, rfl, .inl (.inl upd_same), RelDs.ext ex rs⟩, rfl⟩, rfl, ?_⟩
  exact hG _ _ _ _ _ _ (fun d h' q' ι' v H' e' => q' ι' v H' (ex.trans e')) (fun c fs h' q' ι' dx H' e' => q' ι' dx H' (ex.trans e')) q
end
/-- what is asked at the call's moment -/
def spR (K : Frag) (W : WX) (G : LSp) (σV : L2.St) (vx vd : V) (vs : List V) (H : Hp) (Q : VK) : Prop := ∃ ι h x d ds, RelH K ι H h ∧ RelD K ι H x vx ∧ RelD K ι H d vd ∧ RelDs K ι H ds vs ∧ ds.length ≤ sizeLine ∧
  G [x, d, .tup ds] h (fun d h' => ∀ ι' v H', Ext ι H ι' H' → RelH K ι' H' h' → RelD K ι' H' d v → Q v H') (fun c fs h' => ∀ ι' dx H', Ext ι H ι' H' → RelH K ι' H' h' → RelX K ι' H' fs dx → W (.ref (He.ga K c)) dx σV H')
def tMethR (K : Frag) (W : WX) (C m : Str) (G : LSp) (ta : TE) (t : TA) (tk : TE) : TE := fun σV H Q => ta σV H fun vx H1 => ∃ a dx fs, vx = V.ref a ∧ H1 a = some (.ins (He.ga K C) dx fs) ∧ fs.lookup m = none ∧ t σV H1 fun vs H2 => tk σV H2 fun vd H3 => spR K W G σV (.ref a) vd vs H3 Q
theorem methR_run {K : Frag} {C m : Str} {G : LSp} {o : LE} {A : LX (List D)} {kw : LE} (hG : MonoP G) (ho : Mono o) (hA : Mono A) (hk : Mono kw) {σV : L2.St} {H : Hp} {Q : VK} (q : tE K W (eMethR C m G o A kw) σV H Q) :
    tMethR K W C m G (tE K W o) (tA K W A) (tE K W kw) σV H Q := by
  obtain ⟨ι, σ, h, hS, hH, q⟩ := q
  refine tX.into ho hS hH q (fun x h1 ι1 vx H1 q1 e1 hH1 rx => ?_) (fun c fs h1 ι1 dx H1 q1 => q1 ι1 dx H1)
  obtain ⟨a, dx, fs, z1, z2, z3⟩ := isIns_run hH1 rx q1.1
  subst z1
  refine ⟨a, dx, fs, rfl, z2, z3, ?_⟩
  refine tX.into hA (hS.ext e1) hH1 q1.2 (fun ds h2 ι2 vs H2 q2 e2 hH2 r => ?_) (fun c fs h2 ι2 dx H2 q2 e2 => q2 ι2 dx H2 (e1.trans e2))
  refine tX.into hk (hS.ext (e1.trans e2)) hH2 q2 (fun d h3 ι3 vd H3 q3 e3 hH3 rd => ?_) (fun c fs h3 ι3 dx H3 q3 e3 => q3 ι3 dx H3 (e1.trans (e2.trans e3)))
  exact ⟨ι3, h3, x, d, ds, hH3, rx.ext (e2.trans e3), rd, RelDs.ext e3 r, q3.1, hG _ _ _ _ _ _ (fun d h' q' ι' v H' e' => q' ι' v H' (e1.trans (e2.trans (e3.trans e')))) (fun c fs h' q' ι' dx H' e' => q' ι' dx H' (e1.trans (e2.trans (e3.trans e')))) q3.2⟩
theorem nokw {K : Frag} {σV : L2.St} {H : Hp} {Q : VK} (q : tE K W (eC .non) σV H Q) : Q .non H := by
  obtain ⟨ι, σ, h, hS, hH, q⟩ := q
  exact q ι .non H (.refl _ _) hH rfl
theorem noarg {K : Frag} {σV : L2.St} {H : Hp} {Q : List V → Hp → Prop} (q : tA K W eNil σV H Q) : Q [] H := by
  obtain ⟨ι, σ, h, hS, hH, q⟩ := q
  exact q ι [] H (.refl _ _) hH rfl
section
variable {k : Nat} {f : Addr} {G : LSp} {C m kw : Str} {o e ew : Expr} {es : List Expr} {O KW : LE} {A : LX (List D)} {apos pos kpos : Pos}
/-- the callee runs -/
theorem spR_run {pins : List (Addr × Obj)} {σV : L2.St} {H : Hp} {s : Shared} {Q : VK} {args : Args} {us ts : List Value} {vx vd : V} {vs : List V} {fd : FuncData} {ps : List Str} (hG : MonoP G) (hn : ps.length = 3) (F : FnR X.prog X.w X.K X.mg X.base k f fd ps (spV X.K 3 G)) (hr : RoomG k X.A) (tk : L2N.Takes X W)
    (I : Inv X pins σV H s) (hus : Vals [vx, vd] us) (hts : Vals vs ts) (hb : BindsR X.K fd ps args us ts) (q : spR X.K W G σV vx vd vs H Q) : wpAny (model X.prog X.w) X.A (call (.ref f) args.pos args.kw) (EP X pins σV Q) X.xe s := by
  obtain ⟨ι, h, x, d, ds, hH, rx, rd, rs, l, q⟩ := q
  exact run_fnR (E := fun σ => WE W σ) hG hn F hr (L2N.passAt tk σV) I hus hts hb hH rx rd rs l q
/-- o.m(e, ..) -/
theorem je_methR {pl : Sem Bool} (ho : JE X W o O) (c : Cls X.K (He.ga X.K C)) (hm : Meth X.K (He.ga X.K C) m f) (F : KeepsR X.prog X.w X.K X.mg X.base k f kw G) (hr : RoomG k X.A) (tk : L2N.Takes X W) (ha : JA X W (e :: es) A)
    (hst : starEach (e :: es) X.env = (false, eval e X.env) :: starEach es X.env := by rfl) (hpl : (backTo pos (starEach es X.env)).any (·.1) = false := by rfl)
    (ht : eval (.Call (.Attribute o m apos) (e :: es) [] pos) X.env = (do
      let ov ← eval o X.env
      standAt apos.atName
      let (f, first) ← holding [ov] (getMethod ov m pl)
      callWith pos f first (backTo pos (starEach (e :: es) X.env)) (backToKw pos (keywordEach [] X.env))) := by rfl) : JE X W (.Call (.Attribute o m apos) (e :: es) [] pos) (eMethR C m G O A (eC .non)) := by
  obtain ⟨hG, fd, ps, hn, F, b⟩ := F
  refine ⟨mono_methR hG ho.mono ha.mono mono_c, ⟨fun pins s σV H Q I q => ?_⟩⟩
  have q := methR_run hG ho.mono ha.mono mono_c q
  refine PySem.W.methodCall_KW (pl := pl) (thn (ho.run.run pins s σV H _ I q) fun u s1 ⟨x, H1, I1, rx, a, dx, fs, ex, ea, l, q⟩ => ?_) ht
  subst ex
  obtain rfl : u = Value.ref a := rx
  refine getmeth_ok I1 ea c hm l ?_
  refine PySem.W.callWith_K (h₀ := X.base) (first := [.ref a]) I1.ok.mod.kin hm.kp (thn (ha.run.run pos pins s1 σV H1 _ I1 q) fun us s2 ⟨vs, H2, I2, r, q2⟩ => ⟨I2.kIn, ?_⟩) hst hpl
  exact spR_run (args := ⟨.ref a :: us, []⟩) (us := [.ref a, .none]) (vx := .ref a) (vd := .non) hG hn F hr tk I2 (.cons rfl (.cons rfl .nil)) r (b.d _ _) (nokw q2)
/-- o.m() -/
theorem je_methR0 {pl : Sem Bool} (ho : JE X W o O) (c : Cls X.K (He.ga X.K C)) (hm : Meth X.K (He.ga X.K C) m f) (F : KeepsR X.prog X.w X.K X.mg X.base k f kw G) (hr : RoomG k X.A) (tk : L2N.Takes X W)
    (ht : eval (.Call (.Attribute o m apos) [] [] pos) X.env = (do
      let ov ← eval o X.env
      standAt apos.atName
      let (f, first) ← holding [ov] (getMethod ov m pl)
      callWith pos f first (backTo pos (starEach [] X.env)) (backToKw pos (keywordEach [] X.env))) := by rfl) : JE X W (.Call (.Attribute o m apos) [] [] pos) (eMethR C m G O eNil (eC .non)) := by
  obtain ⟨hG, fd, ps, hn, F, b⟩ := F
  refine ⟨mono_methR hG ho.mono (ja_nil (X := X) (W := W)).mono mono_c, ⟨fun pins s σV H Q I q => ?_⟩⟩
  have q := methR_run hG ho.mono (ja_nil (X := X) (W := W)).mono mono_c q
  refine PySem.W.methodCall_KW (pl := pl) (thn (ho.run.run pins s σV H _ I q) fun u s1 ⟨x, H1, I1, rx, a, dx, fs, ex, ea, l, q⟩ => ?_) ht
  subst ex
  obtain rfl : u = Value.ref a := rx
  refine getmeth_ok I1 ea c hm l ?_
  refine PySem.W.callWith_K0 (first := [.ref a]) I1.kIn hm.kp ?_
  exact spR_run (args := ⟨[.ref a], []⟩) (us := [.ref a, .none]) (vx := .ref a) (vd := .non) (vs := []) hG hn F hr tk I1 (.cons rfl (.cons rfl .nil)) .nil (b.d _ _) (nokw (noarg q))
/-- o.m(e, .., kw=w) -/
theorem je_methRK {pl : Sem Bool} (ho : JE X W o O) (c : Cls X.K (He.ga X.K C)) (hm : Meth X.K (He.ga X.K C) m f) (F : KeepsR X.prog X.w X.K X.mg X.base k f kw G) (hr : RoomG k X.A) (tk : L2N.Takes X W) (ha : JA X W (e :: es) A) (hk : JE X W ew KW)
    (hall : (backToKw pos (keywordEach [⟨some kw, ew, kpos⟩] X.env)).all (·.1.isSome) = true := by rfl) (hks : (backToKw pos (keywordEach [⟨some kw, ew, kpos⟩] X.env)).filterMap (·.1) = [kw] := by rfl)
    (hst : starEach (e :: es) X.env = (false, eval e X.env) :: starEach es X.env := by rfl) (hpl : ((backTo pos (starEach (e :: es) X.env)).any (·.1) || (backToKw pos (keywordEach [⟨some kw, ew, kpos⟩] X.env)).any (·.1.isNone)) = false := by rfl)
    (ht : eval (.Call (.Attribute o m apos) (e :: es) [⟨some kw, ew, kpos⟩] pos) X.env = (do
      let ov ← eval o X.env
      standAt apos.atName
      let (f, first) ← holding [ov] (getMethod ov m pl)
      callWith pos f first (backTo pos (starEach (e :: es) X.env)) (backToKw pos (keywordEach [⟨some kw, ew, kpos⟩] X.env))) := by rfl) : JE X W (.Call (.Attribute o m apos) (e :: es) [⟨some kw, ew, kpos⟩] pos) (eMethR C m G O A KW) := by
  obtain ⟨hG, fd, ps, hn, F, b⟩ := F
  refine ⟨mono_methR hG ho.mono ha.mono hk.mono, ⟨fun pins s σV H Q I q => ?_⟩⟩
  have q := methR_run hG ho.mono ha.mono hk.mono q
  refine PySem.W.methodCall_KW (pl := pl) (thn (ho.run.run pins s σV H _ I q) fun u s1 ⟨x, H1, I1, rx, a, dx, fs, ex, ea, l, q⟩ => ?_) ht
  subst ex
  obtain rfl : u = Value.ref a := rx
  refine getmeth_ok I1 ea c hm l ?_
  refine PySem.W.callWith_KW (h₀ := X.base) (first := [.ref a]) I1.ok.mod.kin hm.kp hall (thn (ha.run.run pos pins s1 σV H1 _ I1 q) fun us s2 ⟨vs, H2, I2, r, q2⟩ => ?_) hpl hst
  refine thn ((pk_cons (nm := some kw) (kpos := kpos) hk.run pk_nil).run pos pins s2 σV H2 (fun zs H3 => ∃ vd, zs = [vd] ∧ spR X.K W G σV (.ref a) vd vs H3 Q) I2 ?_) fun ws s3 ⟨zs, H3, I3, rz, vd, ez, q3⟩ => ⟨I3.kIn, ?_⟩
  · obtain ⟨ι2, σ2, h2, hS2, hH2, q2⟩ := q2
    exact ⟨ι2, σ2, h2, hS2, hH2, hk.mono _ _ _ _ _ _ (fun d h' z ι' v H' e' hH' rd => ⟨v, rfl, z ι' v H' e' hH' rd⟩) (fun _ _ _ z => z) q2⟩
  · subst ez
    rw [hks]
    cases rz with
    | cons p z =>
      cases z
      exact spR_run (args := ⟨.ref a :: us, [(kw, _)]⟩) (us := [.ref a, _]) (vx := .ref a) hG hn F hr tk I3 (.cons rfl (.cons p .nil)) r (b.k _ _ _) q3
/-- o.m(kw=w) -/
theorem je_methRK0 {pl : Sem Bool} (ho : JE X W o O) (c : Cls X.K (He.ga X.K C)) (hm : Meth X.K (He.ga X.K C) m f) (F : KeepsR X.prog X.w X.K X.mg X.base k f kw G) (hr : RoomG k X.A) (tk : L2N.Takes X W) (hk : JE X W ew KW)
    (hall : (backToKw pos (keywordEach [⟨some kw, ew, kpos⟩] X.env)).all (·.1.isSome) = true := by rfl) (hks : (backToKw pos (keywordEach [⟨some kw, ew, kpos⟩] X.env)).filterMap (·.1) = [kw] := by rfl)
    (hpl : ((backTo pos (starEach [] X.env)).any (·.1) || (backToKw pos (keywordEach [⟨some kw, ew, kpos⟩] X.env)).any (·.1.isNone)) = false := by rfl)
    (ht : eval (.Call (.Attribute o m apos) [] [⟨some kw, ew, kpos⟩] pos) X.env = (do
      let ov ← eval o X.env
      standAt apos.atName
      let (f, first) ← holding [ov] (getMethod ov m pl)
      callWith pos f first (backTo pos (starEach [] X.env)) (backToKw pos (keywordEach [⟨some kw, ew, kpos⟩] X.env))) := by rfl) : JE X W (.Call (.Attribute o m apos) [] [⟨some kw, ew, kpos⟩] pos) (eMethR C m G O eNil KW) := by
  obtain ⟨hG, fd, ps, hn, F, b⟩ := F
  refine ⟨mono_methR hG ho.mono (ja_nil (X := X) (W := W)).mono hk.mono, ⟨fun pins s σV H Q I q => ?_⟩⟩
  have q := methR_run hG ho.mono (ja_nil (X := X) (W := W)).mono hk.mono q
  refine PySem.W.methodCall_KW (pl := pl) (thn (ho.run.run pins s σV H _ I q) fun u s1 ⟨x, H1, I1, rx, a, dx, fs, ex, ea, l, q⟩ => ?_) ht
  subst ex
  obtain rfl : u = Value.ref a := rx
  refine getmeth_ok I1 ea c hm l ?_
  have q2 := noarg q
  refine PySem.W.callWith_KW0 (h₀ := X.base) (first := [.ref a]) I1.ok.mod.kin hm.kp hall ?_ hpl
  refine thn ((pk_cons (nm := some kw) (kpos := kpos) hk.run pk_nil).run pos pins s1 σV H1 (fun zs H3 => ∃ vd, zs = [vd] ∧ spR X.K W G σV (.ref a) vd [] H3 Q) I1 ?_) fun ws s3 ⟨zs, H3, I3, rz, vd, ez, q3⟩ => ⟨I3.kIn, ?_⟩
  · obtain ⟨ι2, σ2, h2, hS2, hH2, q2⟩ := q2
    exact ⟨ι2, σ2, h2, hS2, hH2, hk.mono _ _ _ _ _ _ (fun d h' z ι' v H' e' hH' rd => ⟨v, rfl, z ι' v H' e' hH' rd⟩) (fun _ _ _ z => z) q2⟩
  · subst ez
    rw [hks]
    cases rz with
    | cons p z =>
      cases z
      exact spR_run (args := ⟨[.ref a], [(kw, _)]⟩) (us := [.ref a, _]) (vx := .ref a) (vs := []) hG hn F hr tk I3 (.cons rfl (.cons p .nil)) .nil (b.k _ _ _) q3
end
/-- what the written part says of m(self, *rest, kw=None) -/
theorem rbinds {K : Frag} {x qual kw : Str} {params : Arguments} {body : List Stmt} {scope : Scope} {f : Addr} {fd : FuncData} {ps : List Str} (F : FunD K x qual params body scope [] [(kw, V.non)] f fd)
    (hd : ∀ (D : Addr) (doc pm : Value) (an : Option Addr) (cdv ct u v : Value) (us : List Value), ∃ (β γ : Type) (k1 : Option Value → Sem β) (k2 : β → Sem γ) (k3 : γ → Sem (List (Str × Value))) (a : β),
      bindArgs (PySem.W.fnOf x qual params body scope .none (.ref D) doc pm an cdv ct) ⟨u :: us, []⟩ = ((nsGet D kw >>= k1) >>= k2) >>= k3 ∧ k1 (some v) = pure a ∧ (k2 a >>= k3) = newTuple us >>= fun t => pure (ps.zip [u, v, t]))
    (hk : ∀ (D : Addr) (doc pm : Value) (an : Option Addr) (cdv ct u v : Value) (us : List Value), bindArgs (PySem.W.fnOf x qual params body scope .none (.ref D) doc pm an cdv ct) ⟨u :: us, [(kw, v)]⟩ = newTuple us >>= fun t => pure (ps.zip [u, v, t])) : RBinds K fd ps kw := by
  obtain ⟨oc, od, dV, kV, doc, pm, an, cdv, ct, osl, rfl, lk, hcd, hD, hK⟩ := F.ex
  have eD : dV = .none := by
    rcases hD with ⟨_, e⟩ | ⟨e, _⟩
    · exact e
    · exact absurd rfl e
  subst eD
  rcases hK with e | ⟨D, rfl, hq⟩
  · cases e
  obtain ⟨w, hw, rw'⟩ := hq _ (List.mem_cons_self ..)
  obtain rfl : w = .none := rw'
  have tup : ∀ {M : Model} {A : Around} {s : Shared} {E : Value → Shared → Prop} {Q : List (Str × Value) → Shared → Prop} {u v : Value} {us : List Value}, us.length ≤ sizeLine → Q (ps.zip ([u, v] ++ [.ref s.heap.objs.size])) (withTup s us) → wpAny M A (newTuple us >>= fun t => pure (ps.zip [u, v, t])) Q E s := fun {M A s E Q u v us} l q => by
    unfold newTuple
    exact wpAny_bind (wpAny_newObj_type (wpAny_pure q) (by simpa [sizeOk] using l))
  refine ⟨fun u us M A s E Q X l q => ?_, fun u us w M A s E Q X l q => ?_⟩
  · obtain ⟨β, γ, k1, k2, k3, a, e1, e2, e3⟩ := hd D doc pm an cdv ct u .none us
    rw [e1, bind_assoc, bind_assoc]
    refine wpAny_bind ((PySem.W.looks_nsIn X hw).here ?_)
    show wpAny M A (k1 (some .none) >>= fun y => k2 y >>= k3) Q E s
    rw [e2, pure_bind, e3]
    exact tup l q
  · rw [hk]
    exact tup l q
end LL
end

section
set_option Elab.async false
set_option linter.all false
set_option maxRecDepth 100000
set_option maxHeartbeats 2000000
/-! LLEnumT: enumerate(tuple); a, b = .. while an exception is handled; TABLE.get(text). -/
namespace LL
open PySem PySem.Spec PyProof.Rows L2
open Sem (wp)
/-- the tuple at a at each turn, each item in a new pair -/
def IteT (K : PySem.W.Frag) (a : Addr) : It :=
  ⟨fun i H => ∃ (xs : List V) (x : V), SqT K H a xs ∧ xs[i]? = some x, fun i H v H' => ∃ T x, v = .ref T ∧ H T = none ∧ H' = upd H T (.tup [.int (i : Nat), x]) ∧ ∀ xs, SqT K H a xs → xs[i]? = some x, fun i H => ∃ xs : List V, SqT K H a xs ∧ xs.length ≤ i⟩
theorem turn_enumT {P : Program} {w : World} {K : PySem.W.Frag} {elts : List Expr} {kk : Nat} {tpos : Pos} (a e it : Addr) :
    Turn P w K (.Tuple elts kk tpos) (IteT K a) [e, it] e (fun i h => (∃ old, IsEnum h e it ((i : Nat) : Int) old) ∧ h.IsTupleIter it a i ∧ e ≠ it ∧ a ≠ it ∧ a ≠ e) where
  mem := by simp
  obj := fun i h st b hb => by
    obtain ⟨⟨old, he⟩, ⟨o, ho, hc, hd⟩, _⟩ := st
    have e' : b = e ∨ b = it := by simpa using hb
    rcases e' with z | z
    · rw [z]; exact ⟨_, he, fun v q => nomatch q⟩
    · rw [z]; exact ⟨o, ho, fun v q => by rw [hd] at q; cases q⟩
  keep := fun i h h' st k => let ⟨⟨old, he⟩, hi, hne⟩ := st; ⟨⟨old, k e (by simp) _ he⟩, hi.at fun o q => k it (by simp) o q, hne⟩
  item := by
    intro X hP hw hK hc i pins s σ H E I hf st hg
    subst hP hw hK
    obtain ⟨⟨old, he⟩, hit, hne, hai, hae⟩ := st
    obtain ⟨xs, x, hq, hx⟩ := hg
    obtain ⟨its, rv, p, hz⟩ := I.tuple hq
    obtain ⟨u, hu, ru⟩ := rv.get hx
    have hel : e < s.heap.objs.size := Heap.lt_size he
    have hil : it < s.heap.objs.size := by obtain ⟨_, q, _⟩ := hit; exact Heap.lt_size q
    have hlt : i < its.toArray.size := by simpa using (List.getElem?_eq_some_iff.mp hu).1
    refine wpAny_pyNext_enum_itemD (Draws.tuple (A := X.A.in1) (I.ok.hd hc) it a hai its.toArray) he ⟨hit, p⟩ hlt hne (by simp [hne, Ne.symm hae]) fun x' h' tk hP ho hs' hT hsz hk => ?_
    obtain rfl : x' = u := by
      have : its[i]? = some x' := by simpa using hP
      rw [hu] at this
      exact (Option.some.inj this).symm
    refine ⟨_, rfl, wpAny_letOwnedTupleGo_enum (s := { s with heap := h', toks := tk + 1 }) ho fun h'' he' sb => ?_⟩
    have hT2 : h''.get? s.heap.objs.size = some { cls := .type "tuple", data := .seq #[.int i tk, x'] } := (sb.2 _ (Nat.ne_of_gt hel)).trans hT
    have new : ObjOk X.prog X.w (upd H s.heap.objs.size (.tup [.int (i : Nat), x])) h'' s.heap.objs.size (.tup [.int (i : Nat), x]) :=
      ⟨by show 2 ≤ sizeLine; decide, [.int i tk, x'], .cons ⟨_, rfl⟩ (.cons ru .nil), ⟨_, hT2, rfl, _, rfl⟩⟩
    have I1 : Inv X pins σ (upd H s.heap.objs.size (.tup [.int (i : Nat), x])) { s with heap := h'', toks := tk + 1 } :=
      I.turnedNew (ch := [e, it]) (fun b ob hb q => (sb.2 b (fun z => hb (by simp [z]))).trans (hk b ob (fun z => hb (by simp [z])) (fun z => hb (by simp [z])) q)) hf (Nat.le_refl _) new
    refine ⟨.ref s.heap.objs.size, _, I1, rfl, ⟨_, x, rfl, I.hok.fresh (Nat.le_refl _), rfl, fun ys hy => by rw [I.tuple_inj hy hq]; exact hx⟩, ⟨⟨x', ?_⟩, hs'.1.at fun o q => (sb.2 it (Ne.symm hne)).trans q, hne, hai, hae⟩, fun b hb => ?_⟩
    · have e1 : ((i + 1 : Nat) : Int) = (i : Int) + 1 := by omega
      rw [e1]; exact he'
    · have hb' : b < s.heap.objs.size := by
        have e' : b = e ∨ b = it := by simpa using hb
        rcases e' with z | z
        · rw [z]; exact hel
        · rw [z]; exact hil
      rw [upd_ne (Nat.ne_of_lt hb')]
      exact (hf b hb).1
  done := by
    intro X hP hw hK hc i pins s σ H E I hf st hg
    subst hP hw hK
    obtain ⟨⟨old, he⟩, hit, hne, hai, hae⟩ := st
    obtain ⟨xs, hq, hx⟩ := hg
    obtain ⟨its, rv, p, hz⟩ := I.tuple hq
    obtain ⟨f0, f1, f2, f3, f4, f5⟩ := hf it (by simp)
    have hl := rv.length
    have D : Draws X.prog X.w X.A.in1 it [it, a] 0 (fun _ _ => False) (fun _ h => h.IsTupleIter it a i ∧ h.IsTuple a its.toArray) :=
      ⟨fun _ _ st => let ⟨o, ho, _⟩ := st.1; ⟨o, ho⟩, fun _ _ _ st hk => ⟨st.1.at fun o e => hk it (by simp) o e, st.2.at fun o e => hk a (by simp) o e⟩, fun j s Q E hj => absurd hj (Nat.not_lt_zero j),
        fun s Q E st hE => wpAny_nextOf_tuple_end (I.ok.hd hc) st.1 st.2 (by simp; omega) hE⟩
    exact wpAny_pyNext_enum_endD D he ⟨hit, p⟩ fun h' eb => ⟨rfl, I.turned (t' := s.toks) (fun b o hb q => eb b o hb q) f0 f1 f3 f4 f5⟩
  self := fun A i s Q E st h => let ⟨⟨_, he⟩, _⟩ := st; wpAny_pyIter_enum he h
set_option maxHeartbeats 4000000 in
theorem meets_enumerate_newT (l : Addr) (items : Array Value) :
    Meets (Builtin.«enumerate.__new__» ⟨[.type "enumerate", .ref l], []⟩) (fun _ R s => s.heap.IsTuple l items ∧
      R (.ok (.ret (.ref (s.heap.push { cls := .type "tuple_iterator", data := .fields #[.ref l, .int 0 0] }).objs.size)))
        { s with heap := (s.heap.push { cls := .type "tuple_iterator", data := .fields #[.ref l, .int 0 0] }).push { cls := .type "enumerate", data := .fields #[.none, .bool false, .ref s.heap.objs.size, rawInt 0, .none, .none] } }) :=
  .of_wp fun prog w A R s h => by
    obtain ⟨hp, g, d, tk, os⟩ := s; obtain ⟨hl, h⟩ := h
    have hsub := sub_enumerate
    have q1 : ∀ {A' : Around} {E : Value → Shared → Prop} {Q : Value → Shared → Prop}, Q (.ref hp.objs.size) ⟨hp.push { cls := .type "tuple_iterator", data := .fields #[.ref l, .int 0 0] }, g, d, tk, os⟩ → wpAny (model prog w) A' (pyIter (.ref l)) Q E ⟨hp, g, d, tk, os⟩ :=
      fun q => wpAny_pyIter_tuple (s := ⟨hp, g, d, tk, os⟩) hl q
    wp_walk using q1
    refine wpAny_stack_any fun st => wpAny_pure ?_
    split
    · rename_i c _ _ _ _ _
      cases (c == Value.type "enumerate")
      · wp_walk using q1
        exact ⟨_, rfl, h⟩
      · wp_walk using q1
        exact ⟨_, rfl, h⟩
    · wp_walk using q1
      exact ⟨_, rfl, h⟩
theorem call_enumerate_tuple {prog : Program} {w : World} {A : Around} {E : Value → Shared → Prop} {s : Shared} {l : Addr} {items : Array Value} {Q : Value → Shared → Prop} (hL : s.heap.IsTuple l items)
    (h : ∀ h', IsEnum h' (s.heap.objs.size + 1) s.heap.objs.size 0 .none → h'.IsTupleIter s.heap.objs.size l 0 → h'.objs.size = s.heap.objs.size + 2 →
      (∀ b o, s.heap.get? b = some o → h'.get? b = some o) → Q (.ref (s.heap.objs.size + 1)) { s with heap := h' }) :
    wpAny (model prog w) A (call (.type "enumerate") [.ref l]) Q E s := by
  refine callType_new F.called_enumerate (by decide) (F.typeCall_enumerate_1 _) (F.newCall_enumerate_1 _) (fun obj => F.args_object_init_2 obj _) F.entry_enumerate_new
    (meets_enumerate_newT l items) ⟨hL, ?_⟩
  have hz : (s.heap.push { cls := .type "tuple_iterator", data := .fields #[.ref l, .int 0 0] }).objs.size = s.heap.objs.size + 1 := Heap.size_push ..
  show _ ∧ _
  rw [hz]
  have he : IsEnum ((s.heap.push { cls := .type "tuple_iterator", data := .fields #[.ref l, .int 0 0] }).push
      { cls := .type "enumerate", data := .fields #[.none, .bool false, .ref s.heap.objs.size, rawInt 0, .none, .none] }) (s.heap.objs.size + 1) s.heap.objs.size 0 .none := by
    have := Heap.get?_push_size (s.heap.push { cls := .type "tuple_iterator", data := .fields #[.ref l, .int 0 0] })
      (o := { cls := .type "enumerate", data := .fields #[.none, .bool false, .ref s.heap.objs.size, rawInt 0, .none, .none] }) rfl
    rw [hz] at this; exact this
  exact ⟨⟨_, he, rfl⟩, h _ he ⟨_, Heap.get?_push_of_some _ (Heap.get?_push_size _ rfl), rfl, rfl⟩ (by rw [Heap.size_push, hz]) fun b o x => Heap.get?_push_of_some _ (Heap.get?_push_of_some _ x)⟩
def iEnumTV (K : PySem.W.Frag) (ta : TA) : TI := fun σ H R => ta σ H fun vs H1 => ∃ a xs, vs = [.ref a] ∧ SqT K H1 a xs ∧ R (IteT K a) H1
theorem pi_enumT {X : Cx} {e : Expr} {ta : TA} {p pos tpos : Pos} {elts : List Expr} {kk : Nat} (hg : Gl X "enumerate") (hm : X.mg "enumerate" = none) (ha : PA X [e] ta) (hs : starEach [e] X.env = [(false, eval e X.env)] := by rfl) :
    PI X (.Tuple elts kk tpos) (.Call (.Name "enumerate" p) [e] [] pos) (iEnumTV X.K ta) := by
  refine ⟨fun pins s σ H R I h => ?_⟩
  refine Call_ (ld_blt I hg hm boot_enumerate (PyProof.Rows.callWith_type1 (thn (ha.run pos pins s σ H _ I h) fun us s1 ⟨vs, H1, I1, r1, q1⟩ => ?_) hs rfl))
  obtain ⟨a, xs, ex, hq, q⟩ := q1
  subst ex
  cases r1 with
  | cons r rr =>
    cases rr
    cases r
    obtain ⟨its, rv, p', hz⟩ := I1.tuple hq
    have al : a < s1.heap.objs.size := by obtain ⟨o, ho, _⟩ := p'; exact Heap.lt_size ho
    refine call_enumerate_tuple p' fun h' he hit hsz hk => wpAny_pyIter_enum he ?_
    have I2 : Inv X pins σ H1 { s1 with heap := h' } := I1.kept (t' := s1.toks) hk
    refine ⟨s1.heap.objs.size + 1, [s1.heap.objs.size + 1, s1.heap.objs.size], _, _, H1, rfl, I2, turn_enumT a (s1.heap.objs.size + 1) s1.heap.objs.size, ⟨⟨.none, he⟩, hit, Nat.succ_ne_self _, Nat.ne_of_lt al, Nat.ne_of_lt (Nat.lt_succ_of_lt al)⟩, fun b hb => ?_, q⟩
    have e' : b = s1.heap.objs.size + 1 ∨ b = s1.heap.objs.size := by simpa using hb
    have hle : s1.heap.objs.size ≤ b := by
      rcases e' with z | z
      · rw [z]; exact Nat.le_add_right _ _
      · rw [z]; exact Nat.le_refl _
    exact I1.fpOk hle (I1.hok.fresh hle)
/-- enumerate(t), t a tuple of data -/
def iEnumT (A : LX (List D)) : LI := fun σ h Q E => A σ h (fun ds h1 => match ds with | [.tup xs] => Q ⟨enumD xs, fun _ => True⟩ h1 | _ => False) E
theorem it_enumT {K : Frag} {ι1 : Ad} {H1 : Hp} {xs : List D} {a : Addr} {vs : List V} (hq : SqT K H1 a vs) (rs : RelDs K ι1 H1 xs vs) : ItRel K ι1 H1 ⟨enumD xs, fun _ => True⟩ (IteT K a) := by
  refine ⟨fun ι H h e hH ok => ?_, fun i x ι H h hx e hH ok => ?_⟩
  · exact ⟨vs, e.sqT hq, by rw [← rs.length]; exact Nat.le_of_eq (enumD_len xs).symm⟩
  · obtain ⟨d, hd, rfl⟩ := enumD_get hx
    have rs2 := RelDs.ext e rs
    obtain ⟨v, hv, r⟩ := rs2.get hd
    refine ⟨⟨vs, v, e.sqT hq, hv⟩, fun u H' y => ?_⟩
    obtain ⟨T, z, rfl, hT, rfl, y⟩ := y
    have := y vs (e.sqT hq)
    rw [hv] at this
    cases this
    have ex : Ext ι H ι (upd H T (.tup [.int (i : Nat), v])) := Ext.new hT
    exact ⟨ex, hH.new hT, T, _, rfl, SqT.of upd_same, ⟨_, _, rfl, rfl, _, _, rfl, r.ext ex, rfl⟩⟩
section
variable {X : Cx} {W : WX}
theorem ji_enumT {a : Expr} {A : LX (List D)} {p pos tpos : Pos} {elts : List Expr} {kk : Nat} (hm : X.mg "enumerate" = none) (ha : JA X W [a] A) (hg : Gl X "enumerate" := by rfl) (hs : starEach [a] X.env = [(false, eval a X.env)] := by rfl) :
    JI X W (.Tuple elts kk tpos) (.Call (.Name "enumerate" p) [a] [] pos) (iEnumT A) := by
  refine ⟨fun σ h Q Q' E E' hQ hE q => ha.mono σ h _ _ _ _ (fun ds h1 q1 => ?_) hE q, PI.weak (pi_enumT hg hm ha.run hs) fun σV H Q ⟨ι, σ, h, hS, hH, q⟩ => ?_⟩
  · split at q1
    · exact hQ _ _ q1
    · exact q1.elim
  · refine tX.into ha.mono hS hH q (fun d h1 ι1 v H1 q1 e1 hH1 r => ?_) (fun c fs h1 ι1 dx H1 q1 => q1 ι1 dx H1)
    split at q1
    · obtain ⟨v, rfl, r'⟩ := r.one
      obtain ⟨a, vs, rfl, hq, rs⟩ := r'
      exact ⟨a, vs, rfl, hq, q1 ι1 _ H1 e1 hH1 (it_enumT hq rs)⟩
    · exact q1.elim
end
end LL
end

section
set_option Elab.async false
set_option linter.all false
set_option maxRecDepth 100000
set_option maxHeartbeats 2000000
/-! LLTab: a, b = .. into any targets while an exception is handled; TABLE.get(text). -/
namespace LL
open PySem PySem.Spec PyProof.Rows L2 HotX L2H
variable {X : Cx} {W : WX}
theorem pg_tupH {es : List Expr} {k : Nat} {t : TGs} {n : Nat} {pos : Pos} (hc : HotC X) (h : PGs X es t)
    (hn : (assignEach es X.env).length = n := by rfl) (hst : (assignEach es X.env).findIdx? (·.1) = none := by rfl) : PG X (.Tuple es k pos) (gTup X.K n t) := by
  refine ⟨fun pins s σ H v u Q I r hw => ?_⟩
  obtain ⟨a, xs, e1, hq, hl, hw⟩ := hw
  subst e1
  cases r
  obtain ⟨its, rv, ht, hz⟩ := I.tuple hq
  obtain ⟨x1, hot⟩ := hc.at I
  rw [arm_assign_Tuple]
  refine wpAny_bind (wpAny_standAt ?_)
  unfold unpack
  rw [hst]
  have hz2 : (assignEach es X.env).length = its.toArray.size := by simp [hn, ← hl, rv.length]
  rw [hz2]
  refine wpAny_bind (wpAny_holding (unpackItems_tuple_hot hot ht fun h' hx => ?_))
  have I1 : Inv X pins σ H { s with heap := h' } := I.kept (t' := s.toks) fun b o e => hx b o (Nat.ne_of_lt (Heap.lt_size e)) e
  exact h.run pins _ σ H xs _ Q I1 (by simpa using rv) hw
theorem jg_tupH {es : List Expr} {k n : Nat} {r : LGs} {pos : Pos} (hc : HotC X) (h : JGs X es r) (hn : (assignEach es X.env).length = n := by rfl) (hst : (assignEach es X.env).findIdx? (·.1) = none := by rfl) :
    JG X W (.Tuple es k pos) (gTp n r) := by
  refine ⟨fun d σ h' Q Q' E E' hQ hE q => ?_, PG.weak (pg_tupH hc h.run hn hst) fun v σV H Q ⟨ι, σ, h', d, hS, hH, rd, q⟩ => ?_⟩
  · unfold gTp at *
    split at q
    · exact ⟨q.1, h.mono _ _ _ _ _ _ _ hQ (fun _ _ _ q => q) q.2⟩
    · exact q.elim
  · unfold gTp at q
    split at q
    · rename_i ds
      obtain ⟨a, vs, rfl, ht, rs⟩ := rd
      exact ⟨a, vs, rfl, ht, by rw [← rs.length]; exact q.1, ι, σ, h', ds, hS, hH, rs, q.2⟩
    · exact q.elim
/-- what the written part says of a table: its values by key -/
def tabV (K : Frag) (a : Addr) (l : List (Str × D)) : Prop := ∀ z : Str, ∃ r, PySem.W.nsIn K a z = some r ∧ match l.lookup z with
  | some d => ∃ u v, r = some u ∧ RelV v u ∧ ∀ ι H, RelD K ι H d v
  | none => r = none
/-- TABLE.get(e) -/
def eGetT (l : List (Str × D)) (m : LE) : LE := fun σ h Q E => m σ h (fun d h1 => match d with | .str z => Q ((l.lookup z).getD .non) h1 | _ => False) E
theorem je_getT {x : Str} {l : List (Str × D)} {a : Addr} {e : Expr} {m : LE} {apos cpos npos : Pos} (hT : ∃ es n, KDict X.K X.w a es n) (hV : tabV X.K a l) (hm : X.mg x = some (.ref a)) (he : JE X W e m) (M : M1 X (.Name x npos) "get" apos e cpos) (hg : Gl X x := by rfl)
    (hd : (x == ("__debug__" : Str)) = false := by decide) : JE X W (.Call (.Attribute (.Name x npos) "get" apos) [e] [] cpos) (eGetT l m) := by
  obtain ⟨es, n, D⟩ := hT
  refine ⟨fun σ h Q Q' E E' hQ hE q => he.mono σ h _ _ _ _ (fun d h1 q1 => ?_) hE q, ⟨fun pins s σV H Q I q => ?_⟩⟩
  · split at q1
    · exact hQ _ _ q1
    · exact q1.elim
  have q : tE X.K W m σV H (fun y H1 => ∃ z v, y = .str z ∧ (∃ u0, PySem.W.nsIn X.K a z = some u0 ∧ RelV v (u0.getD .none)) ∧ Q v H1) := by
    obtain ⟨ι, σ, h, hS, hH, q⟩ := q
    refine tX.into he.mono hS hH q (fun d h1 ι1 v H1 q1 e1 hH1 r => ?_) (fun c fs h1 ι1 dx H1 q1 => q1 ι1 dx H1)
    split at q1
    · rename_i z
      obtain rfl : v = .str z := r
      obtain ⟨r, h1, h2⟩ := hV z
      split at h2
      · rename_i d hl
        obtain ⟨u, v, rfl, rv, rd⟩ := h2
        rw [hl] at q1
        exact ⟨z, v, rfl, ⟨_, h1, rv⟩, q1 ι1 v H1 e1 hH1 (rd ι1 H1)⟩
      · rename_i hl
        subst h2
        rw [hl] at q1
        exact ⟨z, .non, rfl, ⟨_, h1, rfl⟩, q1 ι1 .non H1 e1 hH1 rfl⟩
    · exact q1.elim
  refine wpAny_Call_method M.base M.few M.line PySem.F.plainAttrs_dict PySem.F.slot_dict_get PySem.F.type_dict_get (ld_glob I hg hm ?_ hd)
  have hmo := PySem.W.mapOf_K (prog := X.prog) (w := X.w) I.kIn D.at_ D.lit
  refine ⟨hmo.typeIs, fun b q => ?_, ?_⟩
  · cases q
    exact ⟨_, I.kIn _ _ D.at_, rfl⟩
  rw [M.trees]
  refine Calls.callWith_builtin rfl (Calls.evalArgs_plain (Calls.spliced_cons (thn (he.run.run pins s σV H _ I q) fun iv s2 ⟨y, H2, I2, ry, z, v, ey, ⟨u0, hn, rv⟩, q2⟩ => Calls.spliced_nil ?_)))
  subst ey
  obtain ⟨t, rfl⟩ := ry
  have hmo2 := PySem.W.mapOf_K (prog := X.prog) (w := X.w) I2.kIn D.at_ D.lit
  refine call_meetsIn PySem.F.slot_dict_get hmo2.typeIs PySem.F.entry_dict_get (PySem.F.args_dict_get_2 _ _) (meets_dict_get (strKind X.prog X.w) a (PySem.strKind_is X.prog X.w z t) D.low) ⟨_, hmo2, v, H2, I2.tok _, ?_, q2⟩
  rw [PySem.W.find_K D.at_ hn]
  exact rv
/-- the table at a holds just these ints, by key -/
def tabL : List DictEntry → List (Str × Int) → Bool
  | [], [] => true
  | e :: es, (k, i) :: l => (match e.key, e.val with | .str x _, .int j _ => x == k && j == i | _, _ => false) && tabL es l
  | _, _ => false
def tabIB (K : Frag) (a : Addr) (l : List (Str × Int)) : Bool := match K.lookup a with
  | some ⟨_, _, .dict es _, _⟩ => tabL es.toList l
  | _ => false
def intT (l : List (Str × Int)) : List (Str × D) := l.map fun p => (p.1, D.int p.2)
theorem tabL_ok : ∀ {es : List DictEntry} {l : List (Str × Int)}, tabL es l = true → ∀ z : Str, match (intT l).lookup z with
    | some d => ∃ e i t, es.find? (·.key.isStr z) = some e ∧ d = .int i ∧ e.val = .int i t
    | none => es.find? (·.key.isStr z) = none ∧ es.any (·.refKey) = false
  | [], [], _, z => ⟨rfl, rfl⟩
  | [], _ :: _, h, _ => by cases h
  | _ :: _, [], h, _ => by cases h
  | e :: es, (k, i) :: l, h, z => by
    obtain ⟨h1, h2⟩ := He.ba h
    have ih := tabL_ok h2 z
    obtain ⟨hs, ky, vl⟩ := e
    cases ky <;> cases vl <;> first | cases h1 | skip
    rename_i x t j u
    obtain ⟨h3, h4⟩ := He.ba h1
    have e3 := beq_iff_eq.mp h3
    have e4 := beq_iff_eq.mp h4
    subst e3 e4
    show match (List.lookup z ((x, D.int j) :: intT l)) with | some d => _ | none => _
    rw [List.lookup_cons, List.find?_cons]
    cases q : (z == x) with
    | true =>
      have e5 := beq_iff_eq.mp q
      subst e5
      have : (Value.str z t).isStr z = true := by simp [Value.isStr]
      simp only [this]
      exact ⟨_, _, _, rfl, rfl, rfl⟩
    | false =>
      have : (Value.str x t).isStr z = false := by
        show (x == z) = false
        rw [Bool.eq_false_iff] at *
        exact fun y => q (beq_iff_eq.mpr (beq_iff_eq.mp y).symm)
      simp only [this]
      cases ql : (intT l).lookup z with
      | some d => rw [ql] at ih; exact ih
      | none =>
        rw [ql] at ih
        refine ⟨ih.1, ?_⟩
        rw [List.any_cons, ih.2]
        rfl
theorem tabIB_ok {K : Frag} {a : Addr} {l : List (Str × Int)} (h : tabIB K a l = true) : tabV K a (intT l) := by
  intro z
  unfold tabIB at h
  unfold PySem.W.nsIn
  split at h
  · rename_i o1 o2 es n o3 hl
    rw [hl]
    have := tabL_ok h z
    cases ql : (intT l).lookup z with
    | some d =>
      rw [ql] at this
      obtain ⟨e, i, t, h1, rfl, h3⟩ := this
      exact ⟨some e.val, by simp only [h1], _, .int i, rfl, ⟨t, h3⟩, fun _ _ => rfl⟩
    | none =>
      rw [ql] at this
      exact ⟨none, by simp only [this.1, this.2]; rfl, rfl⟩
  · cases h
/-! ### list + list, a new list that is changed later -/
def oPlusM : LOp := fun x y h Q => seqL x h fun xs => seqL y h fun ys => xs.length + ys.length ≤ sizeLine ∧ Q (.ref h.length) (h ++ [.lst (xs ++ ys)])
theorem opsPlusM {K : Frag} : OpS K (rPlus K) oPlusM := by
  refine ⟨fun x y h Q Q' hQ q => ?_, fun ι H h x y vx vy Q Qv hH rx ry q k => ?_⟩
  · unfold oPlusM at *
    exact seqL_mono (fun xs q => seqL_mono (fun ys q => ⟨q.1, hQ _ _ q.2⟩) q) q
  · unfold oPlusM at q
    obtain ⟨a, us, xs, rfl, h1, rs, q⟩ := seqX_run hH rx q
    obtain ⟨b, ws, ys, rfl, h2, rs2, q⟩ := seqX_run hH ry q
    have l1 := rs.length
    have l2 := rs2.length
    refine .inr (.inr (.inr ⟨a, b, us, ws, rfl, rfl, h1, h2, by omega, fun p hp => ?_⟩))
    have ex : Ext ι H (ι.push p) (upd H p (.lst (us ++ ws))) := Ext.push hp
    have hx : (ι.push p).ix[h.length]? = some (some p) := by rw [← hH.len, List.getElem?_append_right (Nat.le_refl _), Nat.sub_self]; rfl
    exact k (.ref h.length) (h ++ [.lst (xs ++ ys)]) (ι.push p) (.ref p) _ q.2 ex (hH.push (o := .lst (xs ++ ys)) hp (fun _ z => by cases z) ⟨_, upd_same, (rs.ext ex).append (rs2.ext ex)⟩) ⟨p, hx, rfl⟩
theorem je_plusM {a b : Expr} {A B : LE} {pos : Pos} (ha : JE X W a A) (hb : JE X W b B) : JE X W (.BinOp a .Add b pos) (eOp oPlusM A B) := je_op op_plus opsPlusM ha hb
@[simp] theorem oPlusM_run {x y : D} {h : LH} {Q : D → LH → Prop} : oPlusM x y h Q = seqL x h fun xs => seqL y h fun ys => xs.length + ys.length ≤ sizeLine ∧ Q (.ref h.length) (h ++ [.lst (xs ++ ys)]) := (rfl)
/-! ### rules for simp -/
section
variable {m o kw : LE} {A : LX (List D)} {B N F : LS} {σ : LV} {h : LH} {Q : D → LH → Prop} {QI : LIt → LH → Prop} {E : XL} {K : LK} {C f : Str}
@[simp] theorem eMethR_run {G : LSp} : eMethR C f G o A kw σ h Q E = o σ h (fun x h1 => isIns C f x h1 ∧ A σ h1 (fun ds h2 => kw σ h2 (fun d h3 => ds.length ≤ sizeLine ∧ G [x, d, .tup ds] h3 Q E) E) E) E := (rfl)
@[simp] theorem sFin_run : sFin B N F σ h K = B σ h (finK N F K) := (rfl)
@[simp] theorem finK_nx : (finK N F K).nx σ h = N σ h { nx := K.nx, rt := K.rt, bk := K.bk, ct := K.ct } := (rfl)
@[simp] theorem finK_ex {c : Str} {fs : List (Str × D)} : (finK N F K).ex c fs σ h = F σ h { nx := fun σ2 h2 => K.ex c fs σ2 h2, rt := fun _ _ => False } := (rfl)
@[simp] theorem eDct0_run : eDct0 σ h Q E = Q (.dct [] []) h := (rfl)
def getTd (l : List (Str × D)) (d : D) (h : LH) (Q : D → LH → Prop) : Prop := match d with | .str z => Q ((l.lookup z).getD .non) h | _ => False
@[simp] theorem getTd_str {l : List (Str × D)} {z : Str} : getTd l (.str z) h Q = Q ((l.lookup z).getD .non) h := (rfl)
@[simp] theorem eGetT_run {l : List (Str × D)} : eGetT l m σ h Q E = m σ h (fun d h1 => getTd l d h1 Q) E := (rfl)
def enumT1 (ds : List D) (h : LH) (Q : LIt → LH → Prop) : Prop := match ds with | [.tup xs] => Q ⟨enumD xs, fun _ => True⟩ h | _ => False
@[simp] theorem enumT1_one {xs : List D} : enumT1 [.tup xs] h QI = QI ⟨enumD xs, fun _ => True⟩ h := (rfl)
@[simp] theorem iEnumT_run : iEnumT A σ h QI E = A σ h (fun ds h1 => enumT1 ds h1 QI) E := (rfl)
end
end LL
end

section
set_option Elab.async false
set_option linter.all false
set_option maxRecDepth 100000
set_option maxHeartbeats 2000000
/-! LLKw: calls with keywords. -/
namespace LL
open PySem PySem.Spec PyProof.Rows L2
variable {X : Cx} {W : WX}
/-- the items at these places -/
def pick {α : Type} (is : List Nat) (l : List α) : List α := is.filterMap (l[·]?)
theorem pick_cons {α : Type} {i : Nat} {is : List Nat} {l : List α} : pick (i :: is) l = match l[i]? with | some x => x :: pick is l | none => pick is l := by
  unfold pick
  rw [List.filterMap_cons]
  cases l[i]? <;> rfl
theorem pick_vals {vs : List V} {us : List Value} (r : Vals vs us) (is : List Nat) : Vals (pick is vs) (pick is us) := by
  induction is with
  | nil => exact .nil
  | cons i is ih =>
    rw [pick_cons, pick_cons]
    cases q : vs[i]? with
    | none =>
      have : us[i]? = none := by rw [List.getElem?_eq_none_iff] at q ⊢; rw [← r.length]; exact q
      rw [this]; exact ih
    | some v =>
      obtain ⟨u, hu, ru⟩ := r.get q
      rw [hu]; exact .cons ru ih
theorem RelDs.pick {K : Frag} {ι : Ad} {H : Hp} {ds : List D} {vs : List V} (r : RelDs K ι H ds vs) (is : List Nat) : RelDs K ι H (LL.pick is ds) (LL.pick is vs) := by
  induction is with
  | nil => rfl
  | cons i is ih =>
    rw [pick_cons, pick_cons]
    cases q : ds[i]? with
    | none =>
      have : vs[i]? = none := by rw [List.getElem?_eq_none_iff] at q ⊢; rw [← r.length]; exact q
      rw [this]; exact ih
    | some v =>
      obtain ⟨u, hu, ru⟩ := r.get q
      rw [hu]; exact ⟨_, _, rfl, ru, ih⟩
/-- m values by position, then keywords named ks; is: where each further parameter's value stands among the keywords' -/
def KwB (K : Frag) (fd : FuncData) (ps : List Str) (m : Nat) (ks : List Str) (is : List Nat) : Prop := ∀ (s : Shared) (us ws : List Value), K.In s.heap → us.length = m → ws.length = ks.length → BindsTo s fd ⟨us, ks.zip ws⟩ (ps.zip (us ++ pick is ws))
theorem kwB_of {K : Frag} {x qual : Str} {params : Arguments} {body : List Stmt} {scope : Scope} {f : Addr} {fd : FuncData} {ps : List Str} {m : Nat} {ks : List Str} {is : List Nat} (F : FunD K x qual params body scope [] [] f fd)
    (h : ∀ (kV doc pm : Value) (an : Option Addr) (cdv ct : Value) (us ws : List Value), us.length = m → ws.length = ks.length → bindArgs (PySem.W.fnOf x qual params body scope .none kV doc pm an cdv ct) ⟨us, ks.zip ws⟩ = pure (ps.zip (us ++ pick is ws))) : KwB K fd ps m ks is := by
  obtain ⟨oc, od, dV, kV, doc, pm, an, cdv, ct, osl, rfl, lk, hcd, hD, hK⟩ := F.ex
  rcases hD with ⟨_, rfl⟩ | ⟨e, _⟩
  · exact fun s us ws X l1 l2 => .of_eq (h kV doc pm an cdv ct us ws l1 l2)
  · exact absurd rfl e
structure KeepsKw (P : Program) (w : World) (K : Frag) (mg : Str → Option Value) (base : Heap) (k : Nat) (f : Addr) (n m : Nat) (ks : List Str) (is : List Nat) (G : LSp) : Prop where
  mono : MonoP G
  ok : ∃ (fd : FuncData) (ps : List Str), ps.length = n ∧ FnG P w K mg base k f fd ps (spV K n G) ∧ KwB K fd ps m ks is
theorem keepsKw_of {P : Program} {w : World} {K : Frag} {mg : Str → Option Value} {base : Heap} {x qual : Str} {params : Arguments} {body : List Stmt} {scope : Scope} {dvs : List V} {kws : List (Str × V)} {f : Addr} {fd : FuncData} {N ps : List Str} {k n m : Nat} {ks : List Str} {is : List Nat} {G : LSp} {b : LS}
    (F : FunD K x qual params body scope dvs kws f fd) (S : FnScope N ps scope) (hn : ps.length = n) (hb : KwB K fd ps m ks is) (hG : MonoP G)
    (hbody : ∀ (cdv : Value) (A : Around) (outer : List Env) (s : Shared) (H : Hp) (E : XK), CodeAt K f cdv → RoomG k (A.deeper (envOfC qual scope s.heap.objs.size f cdv)) →
      JSs (cxOf (L2N.CX P w) P w K mg base N qual scope f cdv A outer s H E) (fun cls d _ H => E cls d H) body b)
    (hv : ∀ ds h Q E, ds.length = n → G ds h Q E → b (startD N ds) h (bodyK Q E)) : KeepsKw P w K mg base (k + 1) f n m ks is G := by
  obtain ⟨oc, od, dV, kV, doc, pm, an, cdv, ct, osl, rfl, lk, hcd, _, _⟩ := F.ex
  have len : ∀ vs H Q E, spV K n G vs H Q E → vs.length = ps.length := fun vs H Q E ⟨ι, ds, h, _, r, l, _⟩ => by rw [← r.length, l, hn]
  refine ⟨hG, _, ps, hn, ⟨len, fun A outer s H args us vs Q E hr e0 hbt hv' hsp => ?_⟩, hb⟩
  refine LamX.run_ofS (k := k) lk hcd S hr.r e0 hbt hv' (len vs H Q E hsp) fun hr' => ?_
  obtain ⟨ι, ds, h, hH, r, l, q⟩ := hsp
  have j := hbody cdv A outer s H E ⟨_, _, _, _, lk, rfl, _, hcd⟩ ⟨hr', hr.g⟩
  refine ⟨_, j.run, ι, H, ι, startD N ds, h, .refl _ _, rel_start r, hH, ?_⟩
  refine j.mono _ _ _ _ ?_ (hv ds h _ _ l q)
  exact ⟨fun σ' h' q' ι' σV' H' e' _ hH' => q' ι' .non H' e' hH' rfl, fun d h' q' ι' v H' e' hH' r' => q' ι' v H' e' hH' r', fun _ _ z => z.elim, fun _ _ z => z.elim, fun c fs σ' h' q' ι' dx σV' H' e' _ hH' r' => q' ι' dx H' e' hH' r'⟩
/-! ### keywords -/
structure JK (X : Cx) (W : WX) (kws : List Keyword) (A : LX (List D)) : Prop where
  mono : Mono A
  run : PK X kws (tA X.K W A)
theorem jk_nil : JK X W [] eNil := ⟨fun _ _ _ _ _ _ hQ _ q => hQ _ _ q, ⟨fun pos pins s σV H Q I ⟨ι, σ, h, hS, hH, q⟩ => pk_nil.run pos pins s σV H Q I (q ι [] H (.refl _ _) hH rfl)⟩⟩
theorem jk_cons {e : Expr} {A : LE} {R : LX (List D)} {nm : Option Str} {kpos : Pos} {kws : List Keyword} (ha : JE X W e A) (hr : JK X W kws R) : JK X W (⟨nm, e, kpos⟩ :: kws) (eCons A R) := by
  refine ⟨fun σ h Q Q' E E' hQ hE q => ha.mono σ h _ _ _ _ (fun d h1 q1 => hr.mono σ h1 _ _ _ _ (fun _ _ q2 => hQ _ _ q2) hE q1) hE q, ⟨fun pos pins s σV H Q I q => (pk_cons ha.run hr.run).run pos pins s σV H Q I ?_⟩⟩
  obtain ⟨ι, σ, h, hS, hH, q⟩ := q
  refine tX.into ha.mono hS hH q (fun x h1 ι1 vx H1 q1 e1 hH1 rx => ?_) (fun c fs h1 ι1 dx H1 q1 => q1 ι1 dx H1)
  refine tX.into hr.mono (hS.ext e1) hH1 q1 (fun xs h2 ι2 vs H2 q2 e2 hH2 rs => ?_) fun c fs h2 ι2 dx H2 q2 e2 => q2 ι2 dx H2 (e1.trans e2)
  exact q2 ι2 (vx :: vs) H2 (e1.trans e2) hH2 ⟨vx, vs, rfl, rx.ext e2, rs⟩
theorem run_fnKw {k m : Nat} {f : Addr} {fd : FuncData} {ps : List Str} {sp : Sp} {ks : List Str} {is : List Nat} {E : XK} {pins : List (Addr × Obj)} {σ : L2.St} {H : Hp} {s : Shared} {Q : VK} {us ws : List Value} {vs zs : List V} (F : FnG X.prog X.w X.K X.mg X.base k f fd ps sp) (hr : RoomG k X.A) (hb : KwB X.K fd ps m ks is) (hx : PassesAt (L2N.CX X.prog X.w) X σ E)
    (I : Inv X pins σ H s) (r : Vals vs us) (rz : Vals zs ws) (l1 : vs.length = m) (l2 : zs.length = ks.length) (h : sp (vs ++ pick is zs) H Q E) : wpAny (model X.prog X.w) X.A (call (.ref f) us (ks.zip ws)) (EP X pins σ Q) X.xe s :=
  wpAny_call (codeAny_mono (F.run X.A X.stack s H ⟨us, ks.zip ws⟩ (us ++ pick is ws) (vs ++ pick is zs) Q E hr I.env0 (hb s us ws I.kIn (by rw [← r.length, l1]) (by rw [← rz.length, l2])) (r.append (pick_vals rz is)) h) fun r s' hq => ret_of hx I hq)
/-- o.m(k = v, ..) -/
def eMethKw (C m : Str) (G : LSp) (n l : Nat) (is : List Nat) (o : LE) (A : LX (List D)) : LE := fun σ h Q E => o σ h (fun x h1 => isIns C m x h1 ∧ A σ h1 (fun ds h2 => ds.length = l ∧ (pick is ds).length + 1 = n ∧ G (x :: pick is ds) h2 Q E) E) E
theorem mono_methKw {C m : Str} {G : LSp} {n l : Nat} {is : List Nat} {o : LE} {A : LX (List D)} (hG : MonoP G) (ho : Mono o) (hA : Mono A) : Mono (eMethKw C m G n l is o A) := fun σ h Q Q' E E' hQ hE q =>
  ho σ h _ _ _ _ (fun x h1 ⟨i, q1⟩ => ⟨i, hA σ h1 _ _ _ _ (fun ds h2 ⟨l0, l, q2⟩ => ⟨l0, l, hG _ _ _ _ _ _ hQ hE q2⟩) hE q1⟩) hE q
theorem je_methKw {pl : Sem Bool} {k n nk : Nat} {f : Addr} {G : LSp} {C m : Str} {ks : List Str} {is : List Nat} {o : Expr} {O : LE} {A : LX (List D)} {kws : List Keyword} {apos pos : Pos} (ho : JE X W o O) (c : Cls X.K (He.ga X.K C)) (hm : Meth X.K (He.ga X.K C) m f) (F : KeepsKw X.prog X.w X.K X.mg X.base k f n 1 ks is G) (hr : RoomG k X.A) (tk : L2N.Takes X W) (hk : JK X W kws A)
    (hall : (backToKw pos (keywordEach kws X.env)).all (·.1.isSome) = true := by rfl) (hks : (backToKw pos (keywordEach kws X.env)).filterMap (·.1) = ks := by rfl)
    (hpl : ((backTo pos (starEach [] X.env)).any (·.1) || (backToKw pos (keywordEach kws X.env)).any (·.1.isNone)) = false := by rfl)
    (ht : eval (.Call (.Attribute o m apos) [] kws pos) X.env = (do
      let ov ← eval o X.env
      standAt apos.atName
      let (f, first) ← holding [ov] (getMethod ov m pl)
      callWith pos f first (backTo pos (starEach [] X.env)) (backToKw pos (keywordEach kws X.env))) := by rfl) (hnk : ks.length = nk := by rfl) : JE X W (.Call (.Attribute o m apos) [] kws pos) (eMethKw C m G n nk is O A) := by
  subst hnk
  obtain ⟨hG, fd, ps, hn, F, b⟩ := F
  refine ⟨fun σ h Q Q' E E' hQ hE q => ho.mono σ h _ _ _ _ (fun x h1 ⟨i, q1⟩ => ⟨i, hk.mono σ h1 _ _ _ _ (fun ds h2 ⟨l0, l, q2⟩ => ⟨l0, l, hG _ _ _ _ _ _ hQ hE q2⟩) hE q1⟩) hE q, ⟨fun pins s σV H Q I q => ?_⟩⟩
  obtain ⟨ι, σ, h, hS, hH, q⟩ := q
  have q := tX.into (R := RelD X.K) ho.mono (Q := fun vx H1 => ∃ a dx fs, vx = V.ref a ∧ H1 a = some (.ins (He.ga X.K C) dx fs) ∧ fs.lookup m = none ∧ tA X.K W A σV H1 fun zs H2 => zs.length = ks.length ∧ spV X.K n G ([V.ref a] ++ pick is zs) H2 Q (WE W σV)) hS hH q (fun x h1 ι1 vx H1 q1 e1 hH1 rx => ?_) (fun c fs h1 ι1 dx H1 q1 => q1 ι1 dx H1)
  · refine PySem.W.methodCall_KW (pl := pl) (thn (ho.run.run pins s σV H _ I q) fun u s1 ⟨x, H1, I1, rx, a, dx, fs, ex, ea, l, q⟩ => ?_) ht
    subst ex
    obtain rfl : u = Value.ref a := rx
    refine getmeth_ok I1 ea c hm l ?_
    refine PySem.W.callWith_KW0 (h₀ := X.base) (first := [.ref a]) I1.ok.mod.kin hm.kp hall ?_ hpl
    refine thn (hk.run.run pos pins s1 σV H1 _ I1 q) fun ws s3 ⟨zs, H3, I3, rz, lz, q3⟩ => ⟨I3.kIn, ?_⟩
    rw [hks]
    exact run_fnKw (us := [.ref a]) (vs := [.ref a]) F hr b (L2N.passAt tk σV) I3 (.cons rfl .nil) rz rfl lz q3
  · obtain ⟨a, dx, fs, z1, z2, z3⟩ := isIns_run hH1 rx q1.1
    subst z1
    refine ⟨a, dx, fs, rfl, z2, z3, ?_⟩
    refine tX.into hk.mono (hS.ext e1) hH1 q1.2 (fun ds h2 ι2 vs H2 q2 e2 hH2 r => ?_) (fun c fs h2 ι2 dx H2 q2 e2 => q2 ι2 dx H2 (e1.trans e2))
    exact ⟨by rw [← r.length]; exact q2.1, ι2, x :: pick is ds, h2, hH2, ⟨_, _, rfl, rx.ext e2, r.pick is⟩, q2.2.1, hG _ _ _ _ _ _ (fun d h' q' ι' v H' e' => q' ι' v H' (e1.trans (e2.trans e'))) (fun c fs h' q' ι' dx H' e' => q' ι' dx H' (e1.trans (e2.trans e'))) q2.2.2⟩
/-- C(k = v, ..) -/
def eMakeKw (C : Str) (G : LSp) (n l : Nat) (is : List Nat) (A : LX (List D)) : LE := fun σ h Q E => A σ h (fun ds h1 => ds.length = l ∧ (pick is ds).length + 1 = n ∧ G (.ref h1.length :: pick is ds) (h1 ++ [.ins C []]) (fun d h2 => d = .non ∧ Q (.ref h1.length) h2) E) E
theorem je_makeKw {k n nk : Nat} {f : Addr} {G : LSp} {C : Str} {ks : List Str} {is : List Nat} {A : LX (List D)} {kws : List Keyword} {p pos : Pos} (M : Mk X.K (He.ga X.K C) f) (F : KeepsKw X.prog X.w X.K X.mg X.base k f n 1 ks is G) (hr : RoomG (k + 1) X.A) (hm : X.mg C = some (.ref (He.ga X.K C))) (tk : L2N.Takes X W) (hk : JK X W kws A) (hg : Gl X C := by rfl)
    (hall : (backToKw pos (keywordEach kws X.env)).all (·.1.isSome) = true := by rfl) (hks : (backToKw pos (keywordEach kws X.env)).filterMap (·.1) = ks := by rfl) (hdb : (C == ("__debug__" : Str)) = false := by decide)
    (hpl : ((backTo pos (starEach [] X.env)).any (·.1) || (backToKw pos (keywordEach kws X.env)).any (·.1.isNone)) = false := by rfl) (hnk : ks.length = nk := by rfl) : JE X W (.Call (.Name C p) [] kws pos) (eMakeKw C G n nk is A) := by
  subst hnk
  obtain ⟨hG, fd, ps, hn, F, b⟩ := F
  refine ⟨fun σ h Q Q' E E' hQ hE q => hk.mono σ h _ _ _ _ (fun ds h1 ⟨l0, l, q1⟩ => ⟨l0, l, hG _ _ _ _ _ _ (fun d h2 ⟨z, q2⟩ => ⟨z, hQ _ _ q2⟩) hE q1⟩) hE q, ⟨fun pins s σV H Q I q => ?_⟩⟩
  have q : tA X.K W A σV H fun zs H1 => zs.length = ks.length ∧ ∀ x dx, H1 x = none → H1 dx = none → dx ≠ x → spV X.K n G ([V.ref x] ++ pick is zs) (upd (upd H1 dx (.own x)) x (.ins (He.ga X.K C) dx [])) (fun v H2 => v = .non ∧ Q (.ref x) H2) (WE W σV) := by
    obtain ⟨ι, σ, h, hS, hH, q⟩ := q
    refine tX.into hk.mono hS hH q (fun ds h1 ι1 vs H1 q1 e1 hH1 r => ⟨by rw [← r.length]; exact q1.1, fun x dx nx nd ne => ?_⟩) (fun c fs h1 ι1 dx H1 q1 => q1 ι1 dx H1)
    have ex : Ext ι1 H1 (ι1.push x) (upd (upd H1 dx (.own x)) x (.ins (He.ga X.K C) dx [])) := made_ext nx nd ne
    have hx : (ι1.push x).ix[h1.length]? = some (some x) := by rw [← hH1.len, List.getElem?_append_right (Nat.le_refl _), Nat.sub_self]; rfl
    refine ⟨_, .ref h1.length :: pick is ds, _, made_rel hH1 nx nd ne, ⟨.ref x, _, rfl, ⟨x, hx, rfl⟩, (r.ext ex).pick is⟩, q1.2.1, hG _ _ _ _ _ _ ?_ ?_ q1.2.2⟩
    · intro d h' ⟨z, q'⟩ ι' v H' e' hH' rd
      subst z
      exact ⟨rd, q' ι' (.ref x) H' (e1.trans (ex.trans e')) hH' ⟨x, e'.at_ hx, rfl⟩⟩
    · intro c fs h' q' ι' dx' H' e'
      exact q' ι' dx' H' (e1.trans (ex.trans e'))
  refine wpAny_Call_Name_kw (ld_glob I hg hm ?_ hdb)
  refine PySem.W.callWith_KW0 (h₀ := X.base) I.ok.mod.kin M.kp hall ?_ hpl
  refine thn (hk.run.run pos pins s σV H _ I q) fun ws s2 ⟨zs, H2, I2, rz, lz, q2⟩ => ⟨I2.kIn, ?_⟩
  rw [hks]
  have hq := q2 (s2.heap.objs.size + 1) s2.heap.objs.size (I2.hok.fresh (Nat.le_succ _)) (I2.hok.fresh (Nat.le_refl _)) (Nat.ne_of_lt (Nat.lt_succ_self _))
  have I3 := Inv.made (C := He.ga X.K C) I2
  have r1 : Vals [V.ref (s2.heap.objs.size + 1)] [Value.ref (s2.heap.objs.size + 1)] := .cons rfl .nil
  have r2 : Vals ([V.ref (s2.heap.objs.size + 1)] ++ pick is zs) ([Value.ref (s2.heap.objs.size + 1)] ++ pick is ws) := r1.append (pick_vals rz is)
  refine wpAny_call (make_map (f := f) I2.kIn M.makes M.init (beq_iff_eq.mp M.fn) (codeAny_mono (F.run _ X.stack _ _ ⟨[Value.ref (s2.heap.objs.size + 1)], ks.zip ws⟩ ([Value.ref (s2.heap.objs.size + 1)] ++ pick is ws) _ _ (WE W σV) (hr.make _ [] (ks.zip ws))
    (I3.env0.make _ [] (ks.zip ws)) (b _ _ _ I3.kIn rfl (by rw [← rz.length, lz])) r2 hq) fun r s' hq' => ?_))
  cases r with
  | error e => exact L2N.passAt tk σV pins _ _ e s' I3 hq'
  | ok fl =>
    cases fl with
    | ret u =>
      obtain ⟨v, H', I4, rv, ev, q3⟩ := I3.after hq'
      subst ev
      exact ⟨rv, ⟨V.ref (s2.heap.objs.size + 1), H', I4, rfl, q3⟩⟩
    | next => exact False.elim hq'
    | brk => exact False.elim hq'
    | cont => exact False.elim hq'
section
variable {o : LE} {A : LX (List D)} {σ : LV} {h : LH} {Q : D → LH → Prop} {E : XL} {C f : Str} {is : List Nat} {n l : Nat}
@[simp] theorem eMethKw_run {G : LSp} : eMethKw C f G n l is o A σ h Q E = o σ h (fun x h1 => isIns C f x h1 ∧ A σ h1 (fun ds h2 => ds.length = l ∧ (pick is ds).length + 1 = n ∧ G (x :: pick is ds) h2 Q E) E) E := (rfl)
@[simp] theorem eMakeKw_run {G : LSp} : eMakeKw C G n l is A σ h Q E = A σ h (fun ds h1 => ds.length = l ∧ (pick is ds).length + 1 = n ∧ G (.ref h1.length :: pick is ds) (h1 ++ [.ins C []]) (fun d h2 => d = .non ∧ Q (.ref h1.length) h2) E) E := (rfl)
@[simp] theorem pick_zero {α : Type} {l : List α} : pick [] l = [] := (rfl)
@[simp] theorem pick_run {α : Type} {i : Nat} {l : List α} {x : α} (e : l[i]? = some x) : pick (i :: is) l = x :: pick is l := by rw [pick_cons, e]
end
end LL
end

section
set_option Elab.async false
set_option linter.all false
set_option maxRecDepth 100000
set_option maxHeartbeats 2000000
/-! LLFn: functions made within a def: values that are handed on and called. -/
namespace LL
open PySem PySem.Spec PyProof.Rows L2
variable {X : Cx} {W : WX}
/-! ### cells that nobody writes to -/
structure Still (H H' : Hp) (h h' : Heap) : Prop where
  cell : ∀ (c : Addr) (v : Option Value), H c = none → h.IsCell c v → H' c = none ∧ h'.IsCell c v
theorem Still.refl (H : Hp) (h : Heap) : Still H H h h := ⟨fun _ _ n c => ⟨n, c⟩⟩
theorem Still.trans {H H1 H2 : Hp} {h h1 h2 : Heap} (a : Still H H1 h h1) (b : Still H1 H2 h1 h2) : Still H H2 h h2 := ⟨fun c v n i => let ⟨n1, i1⟩ := a.cell c v n i; b.cell c v n1 i1⟩
theorem Still.of_un {fs : List Addr} {H H' : Hp} {h h' : Heap} (u : Un fs [] H H' h h') : Still H H' h h' := ⟨fun c v n ⟨o, h1, h2⟩ => by
  refine ⟨u.free c o h1 n (by simp), ?_⟩
  by_cases hc : c ∈ fs
  · obtain ⟨sl, e⟩ := u.slot c o h1 n hc (by simp)
    exact ⟨_, e, h2⟩
  · exact ⟨o, u.keep c o h1 n hc (by simp), h2⟩⟩
theorem Still.inv {pins : List (Addr × Obj)} {σ : L2.St} {H : Hp} {s : Shared} (hex : X.ex = []) (I : Inv X pins σ H s) : Still X.H_0 H X.s_0.heap s.heap := by
  have b := I.base
  rw [hex] at b
  exact .of_un b
theorem cells_still {cl : List (Str × Addr)} {fr : List Str} {ws : List (Option V)} {H H' : Hp} {h h' : Heap} (C : NdefX.CellsAt cl fr ws h H) (t : Still H H' h h') : NdefX.CellsAt cl fr ws h' H' := by
  refine ⟨C.len, fun y c e => ?_, C.inj, fun i y e => ?_⟩
  · obtain ⟨n, v, i⟩ := C.all y c e
    obtain ⟨n', i'⟩ := t.cell c v n i
    exact ⟨n', v, i'⟩
  · obtain ⟨c, hc, hv⟩ := C.has i y e
    exact ⟨c, hc, fun v ev => let ⟨u, r, z⟩ := hv v ev; ⟨u, r, (t.cell c _ (C.all y c hc).1 z).2⟩⟩
/-! ### what a function value does when it is called -/
structure FnAt (P : Program) (w : World) (K : Frag) (mg : Str → Option Value) (base : Heap) (k n : Nat) (L : D) (ask : LSp) (s : Shared) (H : Hp) : Prop where
  is_ : ∀ (s1 : Shared) (H1 : Hp) (ι : Ad) (v : V) (u : Value), HOk P w H1 s1.heap → RelD K ι H1 L v → L2.RelV v u → ∃ f, u = .ref f ∧ PySem.W.FnAt f s1.heap
  run : ∀ (A : Around) (outer : List Env) (s1 : Shared) (H1 : Hp) (us : List Value) (vs : List V) (v : V) (u : Value) (ι : Ad) (ds : List D) (h : LH) (Q : VK) (E : XK),
    RoomG k A → Env0 P w K mg base A outer s1 H1 → Still H H1 s.heap s1.heap → Vals vs us → RelH K ι H1 h → RelD K ι H1 L v → L2.RelV v u → RelDs K ι H1 ds vs → ds.length = n →
    ask ds h (fun d h' => ∀ ι' v H', Ext ι H1 ι' H' → RelH K ι' H' h' → RelD K ι' H' d v → Q v H') (fun c fs h' => ∀ ι' dx H', Ext ι H1 ι' H' → RelH K ι' H' h' → RelX K ι' H' fs dx → E (.ref (He.ga K c)) dx H') →
    codeAny (model P w) A (.call u ⟨us, []⟩) (CR (L2N.CX P w) outer P w H1 s1 Q E) s1
theorem FnAt.later {P : Program} {w : World} {K : Frag} {mg : Str → Option Value} {base : Heap} {k n : Nat} {L : D} {ask : LSp} {s s' : Shared} {H H' : Hp} (F : FnAt P w K mg base k n L ask s H) (t : Still H H' s.heap s'.heap) : FnAt P w K mg base k n L ask s' H' :=
  ⟨F.is_, fun A outer s1 H1 us vs v u ι ds h Q E hr e0 t1 => F.run A outer s1 H1 us vs v u ι ds h Q E hr e0 (t.trans t1)⟩
theorem FnAt.up {P : Program} {w : World} {K : Frag} {mg : Str → Option Value} {base : Heap} {j k n : Nat} {L : D} {ask : LSp} {s : Shared} {H : Hp} (F : FnAt P w K mg base j n L ask s H) (l : j ≤ k) : FnAt P w K mg base k n L ask s H :=
  ⟨F.is_, fun A outer s1 H1 us vs v u ι ds h Q E hr => F.run A outer s1 H1 us vs v u ι ds h Q E (hr.mono l)⟩

/-! ### the call of such a value that a local name holds -/
def eAskN (i n : Nat) (L : D) (ask : LSp) (A : LX (List D)) : LE := fun σ h Q E => σ[i]? = some (some L) ∧ A σ h (fun ds h1 => ds.length = n ∧ ask ds h1 Q E) E
theorem je_askN {k n i : Nat} {L : D} {ask : LSp} {x : Str} {e : Expr} {es : List Expr} {A : LX (List D)} {p pos : Pos} (Fn : FnAt X.prog X.w X.K X.mg X.base k n L ask X.s_0 X.H_0) (mA : MonoP ask) (hr : RoomG k X.A) (tk : L2N.Takes X W) (hN : X.N[i]? = some x) (hv : Vis X.env.scope x) (ha : JA X W (e :: es) A) (hex : X.ex = [] := by rfl)
    (hd : (x == ("__debug__" : Str)) = false := by decide) (hcd : (x == ("__classdict__" : Str)) = false := by decide) (he : starEach (e :: es) X.env = (false, eval e X.env) :: starEach es X.env := by rfl) (hpl : (backTo pos (starEach es X.env)).any (·.1) = false := by rfl) :
    JE X W (.Call (.Name x p) (e :: es) [] pos) (eAskN i n L ask A) := by
  refine ⟨fun σ h Q Q' E E' hQ hE ⟨z, q⟩ => ⟨z, ha.mono σ h _ _ _ _ (fun ds h1 ⟨l, q1⟩ => ⟨l, mA _ _ _ _ _ _ hQ hE q1⟩) hE q⟩, ⟨fun pins s σV H Q I q => ?_⟩⟩
  obtain ⟨ι, σ, h, hS, hH, hs, q⟩ := q
  obtain ⟨vL, eL, rL⟩ := hS.2 i L hs
  refine wpAny_Call_Name_kw (thn ((pe_var (pos := p) (i := i) hN hv hd hcd).run pins s σV H (fun v H1 => v = vL ∧ H1 = H) I ⟨vL, eL, rfl, rfl⟩) fun u s1 ⟨v, H1, I1, r1, q1⟩ => ?_)
  obtain ⟨rfl, rfl⟩ := q1
  obtain ⟨f, rfl, fa⟩ := Fn.is_ s1 H1 ι v u I1.hok rL r1
  have q := tX.into (R := RelDs X.K) (Q := fun vs H2 => ∃ ι2 ds h2, Ext ι H1 ι2 H2 ∧ RelH X.K ι2 H2 h2 ∧ RelDs X.K ι2 H2 ds vs ∧ ds.length = n ∧ ask ds h2 (fun d h' => ∀ ι' v H', Ext ι2 H2 ι' H' → RelH X.K ι' H' h' → RelD X.K ι' H' d v → Q v H') (fun c fs h' => ∀ ι' dx H', Ext ι2 H2 ι' H' → RelH X.K ι' H' h' → RelX X.K ι' H' fs dx → WE W σV (.ref (He.ga X.K c)) dx H')) ha.mono hS hH q (fun ds h2 ι2 vs H2 q2 e2 hH2 r2 => ⟨ι2, ds, h2, e2, hH2, r2, q2.1, mA _ _ _ _ _ _ (fun d h' q' ι' v H' e' => q' ι' v H' (e2.trans e')) (fun c fs h' q' ι' dx H' e' => q' ι' dx H' (e2.trans e')) q2.2⟩) (fun c fs h2 ι2 dx H2 q2 => q2 ι2 dx H2)
  refine PySem.W.callWith_F fa (thn (ha.run.run pos pins s1 σV H1 _ I1 q) fun us s2 ⟨vs, H2, I2, r, ι2, ds, h2, e2, hH2, r2, l, q2⟩ => ?_) he hpl
  have rL2 := rL.ext e2
  obtain ⟨f', ef, fa2⟩ := Fn.is_ s2 H2 ι2 v _ I2.hok rL2 r1
  cases ef
  refine ⟨fa2, wpAny_call (codeAny_mono (Fn.run X.A X.stack s2 H2 us vs v _ ι2 ds h2 Q (WE W σV) hr I2.env0 (.inv hex I2) r hH2 rL2 r1 r2 l q2) fun r s' hq => ret_of (L2N.passAt tk σV) I2 hq)⟩
/-! ### a lambda as a value -/
def lamP (f : Addr) (q : Str) (params : Arguments) (body : Expr) (scope : Scope) (cl : List (Str × Addr)) (c' : Addr) : Heap → Prop := fun h =>
  ∃ od sl pm ctv, h.get? f = some ⟨.type "function", od, .func (PySem.W.kla_fn "<lambda>" q params body scope cl pm (.ref c') ctv), sl⟩
theorem inv_lam {pins : List (Addr × Obj)} {σ : L2.St} {H : Hp} {s : Shared} {q : Str} {params : Arguments} {body : Expr} {scope : Scope} {cl : List (Str × Addr)} {c' : Addr} {pm ctv : Value} {t' : Nat} (I : Inv X pins σ H s) :
    Inv X pins σ (upd H s.heap.objs.size (.ext (lamP s.heap.objs.size q params body scope cl c'))) { s with heap := s.heap.push (PySem.W.kla_obj "<lambda>" q params body scope cl pm c' ctv), toks := t' } := by
  have e : (s.heap.push (PySem.W.kla_obj "<lambda>" q params body scope cl pm c' ctv)).get? s.heap.objs.size = some (PySem.W.kla_obj "<lambda>" q params body scope cl pm c' ctv) := Heap.get?_push_size s.heap rfl
  exact I.laid (fun b u e => Heap.get?_push_of_some _ e) (Nat.le_refl _) ⟨⟨_, _, pm, ctv, e⟩, ⟨_, e⟩, fun h1 h2 ⟨od, sl, p, t, z⟩ st => ⟨od, sl, p, t, st _ z⟩⟩
theorem among_app {pos' : Pos} {a b : Int} {c v : Value} : ∀ (l : List Value), TriplesOk l → codeAmong pos' (l ++ [rawInt a, rawInt b, c]) = some v → codeAmong pos' l = some v ∨ v = c := by
  intro l
  fun_induction PySem.TriplesOk l with
  | case1 =>
    intro _ h
    rw [List.nil_append] at h
    unfold rawInt at h
    rw [codeAmong.eq_1] at h
    split at h
    · cases h; exact .inr rfl
    · rw [codeAmong.eq_2 _ _ (fun _ _ _ _ _ _ z => by cases z)] at h; cases h
  | case2 i tok j tok' d rest ih =>
    intro ht h
    rw [List.cons_append, List.cons_append, List.cons_append, codeAmong.eq_1] at h
    rw [codeAmong.eq_1]
    split at h
    · rename_i z; rw [if_pos z]; exact .inl h
    · rename_i z; rw [if_neg z]; exact ih ht h
  | case3 => exact fun z => z.elim
theorem tabs_lam {T : List (Addr × Str)} {H : Hp} {P c' f : Addr} {q : Str} {ps : Array Value} {o : HO} {a b : Int} (hT : LamX.Tabs T H) (hP : H P = some (.tbl ps)) (hu : ∀ p ∈ T, p.1 = P → p.2 = q) (ht : TriplesOk ps.toList) (nc : H c' = none) (nf : upd (upd H P (.tbl (ps ++ #[rawInt a, rawInt b, .ref c']))) c' (LamX.CodeO c' q) f = none) :
    LamX.Tabs T (upd (upd (upd H P (.tbl (ps ++ #[rawInt a, rawInt b, .ref c']))) c' (LamX.CodeO c' q)) f o) := by
  have pc : P ≠ c' := ne_of_none hP nc
  have fc : c' ≠ f := by rintro rfl; rw [upd_same] at nf; cases nf
  have pf : P ≠ f := by rintro rfl; rw [upd_ne pc, upd_same] at nf; cases nf
  have old : ∀ x u, H x = some u → x ≠ P → upd (upd (upd H P (.tbl (ps ++ #[rawInt a, rawInt b, .ref c']))) c' (LamX.CodeO c' q)) f o x = some u := fun x u hx xP => by
    have xc : x ≠ c' := ne_of_none hx nc
    have xf : x ≠ f := by
      rintro rfl
      rw [upd_ne xc, upd_ne xP, hx] at nf
      cases nf
    rw [upd_ne xf, upd_ne xc, upd_ne xP]; exact hx
  have code : ∀ (c : Addr) (q' : Str), H c = some (LamX.CodeO c q') → upd (upd (upd H P (.tbl (ps ++ #[rawInt a, rawInt b, .ref c']))) c' (LamX.CodeO c' q)) f o c = some (LamX.CodeO c q') := fun c q' hc => old c _ hc (by rintro rfl; rw [hP] at hc; cases hc)
  intro p hp
  obtain ⟨ps', h1, h2, h3⟩ := hT p hp
  by_cases e : p.1 = P
  · have eq := hu p hp e
    rw [e, hP] at h1
    cases h1
    refine ⟨ps ++ #[rawInt a, rawInt b, .ref c'], by rw [e, upd_ne pf, upd_ne pc, upd_same], ?_, fun pos cv hc => ?_⟩
    · rw [Array.toList_append]; exact TriplesOk_snoc a b _ _ ht
    · rw [Array.toList_append] at hc
      rcases among_app _ ht hc with hc | rfl
      · obtain ⟨c, e1, e2⟩ := h3 pos cv hc
        exact ⟨c, e1, code c _ e2⟩
      · exact ⟨c', rfl, by rw [upd_ne fc, upd_same, eq]⟩
  · refine ⟨ps', old _ _ h1 e, h2, fun pos cv hc => ?_⟩
    obtain ⟨c, e1, e2⟩ := h3 pos cv hc
    exact ⟨c, e1, code c _ e2⟩
theorem lam_make3 {pins : List (Addr × Obj)} {σ : L2.St} {H : Hp} {s : Shared} {T : List (Addr × Str)} {c P : Addr} {params : Arguments} {body : Expr} {scope : Scope} {pos : Pos} {E Q : Value → Shared → Prop} (I : Inv X pins σ H s) (TB : LamX.TabB X.base X.mg c P) (hcode : X.env.code = .ref c)
    (hm : (P, X.env.qual ++ "<lambda>") ∈ T) (hu : ∀ p ∈ T, p.1 = P → p.2 = X.env.qual ++ "<lambda>") (hT : LamX.Tabs T H) (hdef : defaultsOf params X.env = ([], [])) (hfree : ∀ y ∈ scope.names, y.2 = .free → ∃ c, X.env.cells.lookup y.1 = some c)
    (h : ∀ (f c' : Addr) (H1 : Hp) (s' : Shared), Inv X pins σ H1 s' → LamX.ExtN H H1 → LamX.Tabs T H1 → H f = none → H1 f = some (.ext (lamP f (X.env.qual ++ "<lambda>") params body scope (cloFrom X.env.cells scope.names []) c')) → H1 c' = some (LamX.CodeO c' (X.env.qual ++ "<lambda>")) → Q (.ref f) s') :
    wpAny (model X.prog X.w) X.A (eval (.Lambda params body scope pos) X.env) Q E s := by
  obtain ⟨ps, hP, ht, ha⟩ := hT _ hm
  have bP := TB.bm.keeps I.bk
  have hP' := I.hok P _ hP
  refine PySem.W.kla_eval hdef ?_
  cases hc : codeAmong pos ps.toList with
  | none =>
    refine PySem.W.kla_makeFunction (closure_ok hfree) I.ok.glob (I.mod.glob.keeps I.bk) hcode (TB.code.keeps I.bk) hP' ht hc TB.gP bP fun c' ctv h' tk hx hge hlt hrec htb => ?_
    obtain ⟨c2, oc, vs, t, e2, hoc, hd, hv⟩ := hrec
    cases e2
    have nC : H c' = none := I.hok.fresh hge
    have I1 := LamX.inv_table (t' := tk) I hP hx htb hge ⟨oc, vs, t, hoc, hd, hv⟩
    have nF : upd (upd H P (.tbl (ps ++ #[rawInt pos.line, rawInt pos.col, .ref c']))) c' (LamX.CodeO c' (X.env.qual ++ "<lambda>")) h'.objs.size = none := I1.hok.fresh (Nat.le_refl _)
    have pc : P ≠ c' := ne_of_none hP nC
    have I2 := inv_lam (q := X.env.qual ++ "<lambda>") (params := params) (body := body) (scope := scope) (cl := cloFrom X.env.cells scope.names []) (c' := c') (pm := (X.mg "__name__").getD Value.none) (ctv := ctv) (t' := tk) I1
    have fP : h'.objs.size ≠ P := by rintro e; rw [e, upd_ne pc, upd_same] at nF; cases nF
    have fc : h'.objs.size ≠ c' := by rintro e; rw [e, upd_same] at nF; cases nF
    have nf : H h'.objs.size = none := by rw [upd_ne fc, upd_ne fP] at nF; exact nF
    refine h _ c' _ _ I2 (fun b o hb no => ?_) (tabs_lam hT hP hu ht nC nF) nf upd_same (by rw [upd_ne (Ne.symm fc), upd_same])
    have bP : b ≠ P := by rintro rfl; rw [hP] at hb; cases hb; exact no ps rfl
    rw [upd_ne (ne_of_none hb nf), upd_ne (ne_of_none hb nC), upd_ne bP]
    exact hb
  | some cv =>
    obtain ⟨c', rfl, hco⟩ := ha pos cv hc
    refine PySem.W.kla_makeFunctionHit (closure_ok hfree) I.ok.glob (I.mod.glob.keeps I.bk) hcode (TB.code.keeps I.bk) hP' ht hc bP fun ctv h' tk hx hsz => ?_
    have I1 := I.kept (t' := tk) hx
    have I2 := inv_lam (q := X.env.qual ++ "<lambda>") (params := params) (body := body) (scope := scope) (cl := cloFrom X.env.cells scope.names []) (c' := c') (pm := (X.mg "__name__").getD Value.none) (ctv := ctv) (t' := tk) I1
    have nf : H h'.objs.size = none := I.hok.fresh hsz
    refine h _ c' _ _ I2 (fun b o hb _ => by rw [upd_ne (ne_of_none hb nf)]; exact hb) (fun p hp => (hT p hp).ext fun b o hb => by rw [upd_ne (ne_of_none hb nf)]; exact hb) nf upd_same ?_
    rw [upd_ne (ne_of_none hco nf)]
    exact hco

/-! ### a lambda with parameters is called -/
/-- the frame of such a call -/
abbrev lamF (q : Str) (params : Arguments) (scope : Scope) (cl : List (Str × Addr)) (c' : Addr) : NdefX.NF := ⟨"<lambda>", q, params, [], scope, cl, c'⟩
theorem call_lam {CX : CXT} {P : Program} {w : World} {K : Frag} {mg : Str → Option Value} {base : Heap} {N ps fr : List Str} {q : Str} {params : Arguments} {body : Expr} {scope : Scope} {cl : List (Str × Addr)} {c' f : Addr} {od : Option Addr} {pm ctv : Value} {sl : Array (Option Value)} {k : Nat}
    {A : Around} {outer : List Env} {s : Shared} {H : Hp} {us : List Value} {vs : List V} {ws : List (Option V)} {Q : VK} {E : XK} {t : TE} (S : NdefX.NScope N ps fr scope) (hb : bindArgs (PySem.W.kla_fn "<lambda>" q params body scope cl pm (.ref c') ctv) ⟨us, []⟩ = pure (ps.zip us)) (hr : RoomG (k + 1) A) (e0 : Env0 P w K mg base A outer s H)
    (ho : s.heap.get? f = some ⟨.type "function", od, .func (PySem.W.kla_fn "<lambda>" q params body scope cl pm (.ref c') ctv), sl⟩) (hc : s.heap.CodeRec (.ref c') q) (C : NdefX.CellsAt cl fr ws s.heap H) (r : Vals vs us) (hl : vs.length = ps.length)
    (ht : PE (NdefX.ncx CX P w K mg base N (lamF q params scope cl c') f A outer s H E) body t) (hq : t (NdefX.startF N vs ws) H Q) : codeAny (model P w) A (.call (.ref f) ⟨us, []⟩) (CR CX outer P w H s Q E) s := by
  have lim : s.heap.NoLimit := e0.mod.nolimit.keeps fun b o e => (e0.bs b o e).1
  refine PySem.W.kla_callFunE hr.r.depth ho rfl S.co S.gen rfl hc ?_
  rw [hb]
  refine wpAny_pure (wpAny_newFunctionEnv S.nocell (fun ⟨n, v⟩ hy => S.par n (List.of_mem_zip hy).1) (fun h₁ hns hsb => ⟨lim.fresh _ hsb, ?_⟩) S.kind)
  show codeAny _ _ (.expr body (NdefX.envF (lamF q params scope cl c') f s.heap.objs.size)) _ _
  have kp : ∀ b o, s.heap.get? b = some o → h₁.get? b = some o := fun b o e => hsb.extBut b o (Nat.ne_of_lt (Heap.lt_size e)) (Heap.get?_push_of_some _ e)
  have J : Inv (NdefX.ncx CX P w K mg base N (lamF q params scope cl c') f A outer s H E) [] (NdefX.startF N vs ws) H { s with heap := h₁, toks := s.toks + (ps.zip us).length } := NdefX.inv_startN S hr.r.hd e0 hl r C hns kp
  refine PySem.W.kla_codeExpr (wpAny_mono (ht.run [] _ _ H Q J hq) (fun v s' hq => ?_) fun e s' hq => hq)
  obtain ⟨w', H', J', rv, q⟩ := hq
  exact ⟨w', H', J'.os, J'.bare, J'.base, J'.hok, rv, q⟩
def slotD (σ : LV) (j : Nat) : Option D := (σ[j]?).join
def startL (N : List Str) (ds : List D) (ws : List (Option D)) : LV := ds.map some ++ (ws ++ List.replicate (N.length - ds.length - ws.length) none)
theorem relS_startL {K : Frag} {ι ι1 : Ad} {H H1 : Hp} {N : List Str} {ds : List D} {vs : List V} {σ : LV} {σV : L2.St} {js : List Nat} (r : RelDs K ι1 H1 ds vs) (hS : RelS K ι H σ σV) (e : ExtW ι H ι1 H1) : RelS K ι1 H1 (startL N ds (js.map (slotD σ))) (NdefX.startF N vs (js.map (NdefX.slotAt σV))) := by
  have l := r.length
  have hS1 := hS.extW e
  refine ⟨by simp [startL, NdefX.startF, l], fun i d q => ?_⟩
  unfold startL at q
  unfold NdefX.startF
  by_cases hi : i < ds.length
  · rw [List.getElem?_append_left (by simpa using hi), List.getElem?_map] at q
    cases z : ds[i]? with
    | none => rw [z] at q; cases q
    | some d' =>
      rw [z] at q
      have e2 : d' = d := by simpa using q
      subst e2
      obtain ⟨v, h1, h2⟩ := r.get z
      exact ⟨v, by rw [List.getElem?_append_left (by simpa using (l ▸ hi)), List.getElem?_map, h1]; rfl, h2⟩
  · rw [List.getElem?_append_right (by simp; omega)] at q
    rw [List.getElem?_append_right (by simp; omega)]
    simp only [List.length_map] at q ⊢
    rw [← l]
    by_cases hj : i - ds.length < js.length
    · rw [List.getElem?_append_left (by simpa using hj), List.getElem?_map] at q
      rw [List.getElem?_append_left (by simpa using hj), List.getElem?_map]
      obtain ⟨j, hj'⟩ : ∃ j, js[i - ds.length]? = some j := ⟨_, List.getElem?_eq_getElem hj⟩
      rw [hj'] at q ⊢
      have q : slotD σ j = some d := by simpa using q
      unfold slotD at q
      cases z : σ[j]? with
      | none => rw [z] at q; cases q
      | some o =>
        rw [z] at q
        have q : o = some d := q
        subst q
        obtain ⟨v, h1, h2⟩ := hS1.2 j d z
        refine ⟨v, ?_, h2⟩
        show some (NdefX.slotAt σV j) = _
        unfold NdefX.slotAt
        rw [h1]
    · rw [List.getElem?_append_right (by simpa using hj)] at q
      have m := List.mem_of_getElem? q
      have := List.eq_of_mem_replicate m
      cases this
/-- a lambda that was made here -/
def siteL (X : Cx) (params : Arguments) (body : Expr) (scope : Scope) (L : D) : Prop := ∃ f c' ι H, L = .fn f [(f, lamP f (X.env.qual ++ "<lambda>") params body scope (cloFrom X.env.cells scope.names []) c'), (c', codeP c' (X.env.qual ++ "<lambda>"))] ι H
def askL (N : List Str) (js : List Nat) (m : LE) (σ : LV) : LSp := fun ds h Q E => m (startL N ds (js.map (slotD σ))) h Q E
theorem fnAt_lam {N ps fr : List Str} {js : List Nat} {params : Arguments} {body : Expr} {scope : Scope} {k : Nat} {m : LE} {pins : List (Addr × Obj)} {σV : L2.St} {H : Hp} {s : Shared} {ι : Ad} {σ : LV} {f c' : Addr} (I : Inv X pins σV H s) (hS : RelS X.K ι H σ σV) (caps : NdefX.Caps X (cloFrom X.env.cells scope.names []) fr js) (S : NdefX.NScope N ps fr scope)
    (hb : ∀ (q : Str) (cl : List (Str × Addr)) (pm cv ctv : Value) (us : List Value), us.length = ps.length → bindArgs (PySem.W.kla_fn "<lambda>" q params body scope cl pm cv ctv) ⟨us, []⟩ = pure (ps.zip us))
    (hbody : ∀ (f c' : Addr) (A : Around) (outer : List Env) (s : Shared) (H : Hp) (E : XK), RoomG k (A.deeper (NdefX.envF (lamF (X.env.qual ++ "<lambda>") params scope (cloFrom X.env.cells scope.names []) c') f s.heap.objs.size)) →
      JE (NdefX.ncx (L2N.CX X.prog X.w) X.prog X.w X.K X.mg X.base N (lamF (X.env.qual ++ "<lambda>") params scope (cloFrom X.env.cells scope.names []) c') f A outer s H E) (fun cls d _ H => E cls d H) body m) :
    FnAt X.prog X.w X.K X.mg X.base (k + 1) ps.length (.fn f [(f, lamP f (X.env.qual ++ "<lambda>") params body scope (cloFrom X.env.cells scope.names []) c'), (c', codeP c' (X.env.qual ++ "<lambda>"))] ι H) (askL N js m σ) s H := by
  refine ⟨fun s1 H1 ι1 v u ok rL rv => ?_, fun A outer s1 H1 us vs v u ι1 ds h Q E hr e0 st r hH rL rv rs l q => ?_⟩
  · obtain ⟨rfl, hp, _⟩ := rL
    obtain rfl : u = Value.ref f := rv
    have hf := hp _ (List.mem_cons_self ..)
    obtain ⟨⟨od, sl, pm, ctv, ho⟩, _⟩ := ok f _ hf
    exact ⟨f, rfl, _, _, _, _, ho⟩
  · obtain ⟨rfl, hp, ew⟩ := rL
    obtain rfl : u = Value.ref f := rv
    have hf := hp _ (List.mem_cons_self ..)
    have hc : H1 c' = some (LamX.CodeO c' (X.env.qual ++ "<lambda>")) := hp _ (List.mem_cons_of_mem _ (List.mem_cons_self ..))
    obtain ⟨⟨od, sl, pm, ctv, ho⟩, _⟩ := e0.hok f _ hf
    have C := cells_still (NdefX.cells_of I caps) st
    have lu : us.length = ps.length := by rw [← r.length, ← rs.length, l]
    have j := hbody f c' A outer s1 H1 E (hr.deeper _)
    refine call_lam S (hb _ _ _ _ _ us lu) hr e0 ho (NdefX.codeO_at e0.hok hc) C r (by rw [← rs.length, l]) j.run ?_
    exact ⟨ι1, _, h, relS_startL rs hS ew, hH, q⟩

/-! ### made, known, handed on -/
theorem free_has {scope : Scope} (o : X.Ok) (hfree : ∀ y ∈ scope.names, y.2 = .free → X.env.scope.names.lookup y.1 = some .cell ∨ X.env.scope.names.lookup y.1 = some .free) : ∀ y ∈ scope.names, y.2 = .free → ∃ c, X.env.cells.lookup y.1 = some c := fun y hy e => o.has y.1 (hfree y hy e)
def eFnV (Site : D → Prop) : LE := fun _ h Q _ => ∀ L, Site L → Q L h
theorem je_lamv {cl P : Addr} {params : Arguments} {body : Expr} {scope : Scope} {lpos : Pos} (LT : LamT X (tabsK X.K) cl P) (hfree : ∀ y ∈ scope.names, y.2 = .free → X.env.scope.names.lookup y.1 = some .cell ∨ X.env.scope.names.lookup y.1 = some .free) (hdef : defaultsOf params X.env = ([], []) := by rfl) :
    JE X W (.Lambda params body scope lpos) (eFnV (siteL X params body scope)) := by
  refine ⟨fun σ h Q Q' E E' hQ _ q L s => hQ _ _ (q L s), ⟨fun pins s σV H Q I q => ?_⟩⟩
  obtain ⟨ι, σ, h, hS, hH, q⟩ := q
  refine lam_make3 I LT.tb LT.code LT.mem LT.uni hH.tabs hdef (free_has I.ok hfree) fun f c' H1 s' I1 eN T1 nf hf hc => ?_
  refine ⟨.ref f, H1, I1, rfl, q _ ⟨f, c', ι, H1, rfl⟩ ι (.ref f) H1 (Ext.nt (K := X.K) (h := h) eN) (hH.nt eN T1) ⟨rfl, fun p hp => ?_, .refl _ _⟩⟩
  simp only [List.mem_cons, List.not_mem_nil, or_false] at hp
  rcases hp with rfl | rfl
  · exact hf
  · exact hc
abbrev Src := LV → D → (D → LSp → Prop) → Prop
structure Knows (X : Cx) (k n : Nat) (src : Src) : Prop where
  mono : ∀ σ L (R R' : D → LSp → Prop), (∀ L ask, MonoP ask → R L ask → R' L ask) → src σ L R → src σ L R'
  run : ∀ pins σV H s ι σ L v R, Inv X pins σV H s → RelS X.K ι H σ σV → RelD X.K ι H L v → src σ L R → ∃ L' ask, R L' ask ∧ RelD X.K ι H L' v ∧ MonoP ask ∧ FnAt X.prog X.w X.K X.mg X.base k n L' ask s H
/-- the one that the def was called with -/
def srcV (L0 : D) (ask0 : LSp) : Src := fun _ L R => L = L0 ∧ R L0 ask0
theorem knows_v {k n : Nat} {L : D} {ask : LSp} (Fn : FnAt X.prog X.w X.K X.mg X.base k n L ask X.s_0 X.H_0) (mA : MonoP ask) (hex : X.ex = [] := by rfl) : Knows X k n (srcV L ask) :=
  ⟨fun σ L' R R' h ⟨e, r⟩ => ⟨e, h _ _ mA r⟩, fun pins σV H s ι σ L' v R I hS rL ⟨e, r⟩ => ⟨L, ask, r, e ▸ rL, mA, Fn.later (.inv hex I)⟩⟩
/-- a lambda made here -/
def srcL (Site : D → Prop) (N : List Str) (js : List Nat) (m : LE) : Src := fun σ L R => Site L ∧ ∀ L', L'.isNon = false → R L' (askL N js m σ)
theorem knows_lam {N ps fr : List Str} {js : List Nat} {params : Arguments} {body : Expr} {scope : Scope} {k : Nat} {m : LE} (hr : RoomG (k + 1) X.A) (hfree : ∀ y ∈ scope.names, y.2 = .free → X.env.scope.names.lookup y.1 = some .cell ∨ X.env.scope.names.lookup y.1 = some .free) (hfr : ∀ y ∈ fr, (y, NameKind.free) ∈ scope.names) (hjs : js.map (fun j => X.N[j]?) = fr.map some)
    (S : NdefX.NScope N ps fr scope) (hb : ∀ (q : Str) (cl : List (Str × Addr)) (pm cv ctv : Value) (us : List Value), us.length = ps.length → bindArgs (PySem.W.kla_fn "<lambda>" q params body scope cl pm cv ctv) ⟨us, []⟩ = pure (ps.zip us))
    (hbody : ∀ (f c' : Addr) (A : Around) (outer : List Env) (s : Shared) (H : Hp) (E : XK), RoomG k (A.deeper (NdefX.envF (lamF (X.env.qual ++ "<lambda>") params scope (cloFrom X.env.cells scope.names []) c') f s.heap.objs.size)) →
      JE (NdefX.ncx (L2N.CX X.prog X.w) X.prog X.w X.K X.mg X.base N (lamF (X.env.qual ++ "<lambda>") params scope (cloFrom X.env.cells scope.names []) c') f A outer s H E) (fun cls d _ H => E cls d H) body m) :
    Knows X (k + 1) ps.length (srcL (siteL X params body scope) N js m) := by
  have hm : Mono m := (hbody 0 0 X.A [] X.s_0 X.H_0 (fun _ _ _ => False) (hr.deeper _)).mono
  have mA : ∀ σ, MonoP (askL N js m σ) := fun σ ds h Q Q' E E' hQ hE q => hm _ h Q Q' E E' hQ hE q
  refine ⟨fun σ L R R' h ⟨e, r⟩ => ⟨e, fun L' z => h _ _ (mA σ) (r L' z)⟩, fun pins σV H s ι σ L v R I hS rL ⟨⟨f, c', ι0, H0, e⟩, r⟩ => ?_⟩
  subst e
  obtain ⟨e1, e2, _⟩ := rL
  have rL' : RelD X.K ι H (.fn f [(f, lamP f (X.env.qual ++ "<lambda>") params body scope (cloFrom X.env.cells scope.names []) c'), (c', codeP c' (X.env.qual ++ "<lambda>"))] ι H) v := ⟨e1, e2, .refl _ _⟩
  exact ⟨_, _, r _ rfl, rL', mA σ, fnAt_lam I hS (NdefX.Caps.made I.ok hfree hfr hjs) S hb hbody⟩

/-! ### a def that is handed a function -/
structure KeepsF (P : Program) (w : World) (K : Frag) (mg : Str → Option Value) (base : Heap) (k : Nat) (f : Addr) (n i kf nf : Nat) (G : D → LSp → LSp) : Prop where
  mono : ∀ L ask, MonoP ask → MonoP (G L ask)
  ok : ∃ (fd : FuncData) (ps : List Str), ps.length = n ∧ Binds K fd ps [] ∧ ∀ (A : Around) (outer : List Env) (s : Shared) (H : Hp) (args : Args) (us : List Value) (vs : List V) (Q : VK) (E : XK) (ι : Ad) (ds : List D) (h : LH) (L : D) (ask : LSp),
    RoomG k A → Env0 P w K mg base A outer s H → BindsTo s fd args (ps.zip us) → Vals vs us → RelH K ι H h → RelDs K ι H ds vs → ds.length = n → ds[i]? = some L → MonoP ask → FnAt P w K mg base kf nf L ask s H →
    G L ask ds h (fun d h' => ∀ ι' v H', Ext ι H ι' H' → RelH K ι' H' h' → RelD K ι' H' d v → Q v H') (fun c fs h' => ∀ ι' dx H', Ext ι H ι' H' → RelH K ι' H' h' → RelX K ι' H' fs dx → E (.ref (He.ga K c)) dx H') →
    codeAny (model P w) A (.call (.ref f) args) (CR (L2N.CX P w) outer P w H s Q E) s
theorem KeepsF.up {P : Program} {w : World} {K : Frag} {mg : Str → Option Value} {base : Heap} {j k : Nat} {f : Addr} {n i kf nf : Nat} {G : D → LSp → LSp} (h : KeepsF P w K mg base j f n i kf nf G) (l : j ≤ k) : KeepsF P w K mg base k f n i kf nf G :=
  ⟨h.mono, let ⟨fd, ps, e, b, r⟩ := h.ok; ⟨fd, ps, e, b, fun A outer s H args us vs Q E ι ds hh L ask hr => r A outer s H args us vs Q E ι ds hh L ask (hr.mono l)⟩⟩
theorem keepsF_of {P : Program} {w : World} {K : Frag} {mg : Str → Option Value} {base : Heap} {x qual : Str} {params : Arguments} {body : List Stmt} {scope : Scope} {dvs : List V} {kws : List (Str × V)} {f : Addr} {fd : FuncData} {N ps : List Str} {k n i kf nf : Nat} {G : D → LSp → LSp} {b : D → LSp → LS}
    (F : FunD K x qual params body scope dvs kws f fd) (S : FnScope N ps scope) (hn : ps.length = n) (hb : Binds K fd ps []) (hG : ∀ L ask, MonoP ask → MonoP (G L ask))
    (hbody : ∀ (L : D) (ask : LSp) (cdv : Value) (A : Around) (outer : List Env) (s : Shared) (H : Hp) (E : XK), MonoP ask → FnAt P w K mg base kf nf L ask s H → CodeAt K f cdv → RoomG k (A.deeper (envOfC qual scope s.heap.objs.size f cdv)) →
      JSs (cxOf (L2N.CX P w) P w K mg base N qual scope f cdv A outer s H E) (fun cls d _ H => E cls d H) body (b L ask))
    (hv : ∀ L ask ds h Q E, MonoP ask → ds.length = n → ds[i]? = some L → G L ask ds h Q E → b L ask (startD N ds) h (bodyK Q E)) : KeepsF P w K mg base (k + 1) f n i kf nf G := by
  obtain ⟨oc, od, dV, kV, doc, pm, an, cdv, ct, osl, rfl, lk, hcd, _, _⟩ := F.ex
  refine ⟨hG, _, ps, hn, hb, fun A outer s H args us vs Q E ι ds h L ask hr e0 hbt hv' hH r l hi mA fa q => ?_⟩
  refine LamX.run_ofS (k := k) lk hcd S hr.r e0 hbt hv' (by rw [← r.length, l, hn]) fun hr' => ?_
  have j := hbody L ask cdv A outer s H E mA fa ⟨_, _, _, _, lk, rfl, _, hcd⟩ ⟨hr', hr.g⟩
  refine ⟨_, j.run, ι, H, ι, startD N ds, h, .refl _ _, rel_start r, hH, ?_⟩
  refine j.mono _ _ _ _ ?_ (hv L ask ds h _ _ mA l hi q)
  exact ⟨fun σ' h' q' ι' σV' H' e' _ hH' => q' ι' .non H' e' hH' rfl, fun d h' q' ι' v H' e' hH' r' => q' ι' v H' e' hH' r', fun _ _ z => z.elim, fun _ _ z => z.elim, fun c fs σ' h' q' ι' dx σV' H' e' _ hH' r' => q' ι' dx H' e' hH' r'⟩
theorem RelDs.setAt {K : Frag} {ι : Ad} {H : Hp} : ∀ {ds : List D} {vs : List V} {i : Nat} {v : V} {d : D}, RelDs K ι H ds vs → vs[i]? = some v → RelD K ι H d v → RelDs K ι H (ds.set i d) vs
  | [], _, _, _, _, r, _, _ => r
  | _ :: _, _, 0, _, _, ⟨v, rr, e, h1, h2⟩, hv, hd => by
    subst e
    cases hv
    exact ⟨_, _, rfl, hd, h2⟩
  | _ :: _, _, i + 1, _, _, ⟨v, rr, e, h1, h2⟩, hv, hd => by
    subst e
    exact ⟨_, _, rfl, h1, RelDs.setAt h2 hv hd⟩
def eCallF (src : Src) (G : D → LSp → LSp) (n i : Nat) (A : LX (List D)) : LE := fun σ h Q E => A σ h (fun ds h1 => ds.length = n ∧ ∃ L, ds[i]? = some L ∧ src σ L fun L' ask => G L' ask (ds.set i L') h1 Q E) E
theorem je_callF {k n i kf nf : Nat} {f : Addr} {src : Src} {G : D → LSp → LSp} {x : Str} {e : Expr} {es : List Expr} {A : LX (List D)} {p pos : Pos} (F : KeepsF X.prog X.w X.K X.mg X.base k f n i kf nf G) (Kn : Knows X kf nf src) (hr : RoomG k X.A) (hm : X.mg x = some (.ref f)) (hk : PySem.W.keepIn X.K (.ref f) = true) (tk : L2N.Takes X W) (ha : JA X W (e :: es) A) (hg : Gl X x := by rfl)
    (hdb : (x == ("__debug__" : Str)) = false := by decide) (he : starEach (e :: es) X.env = (false, eval e X.env) :: starEach es X.env := by rfl) (hpl : (backTo pos (starEach es X.env)).any (·.1) = false := by rfl) : JE X W (.Call (.Name x p) (e :: es) [] pos) (eCallF src G n i A) := by
  obtain ⟨hG, fd, ps, hn, b, F⟩ := F
  refine ⟨fun σ h Q Q' E E' hQ hE q => ha.mono σ h _ _ _ _ (fun ds h1 ⟨l, L, hL, q1⟩ => ⟨l, L, hL, Kn.mono _ _ _ _ (fun L' ask mA z => hG L' ask mA _ _ _ _ _ _ hQ hE z) q1⟩) hE q, ⟨fun pins s σV H Q I q => ?_⟩⟩
  obtain ⟨ι, σ, h, hS, hH, q⟩ := q
  have q := tX.into (R := RelDs X.K) (Q := fun vs H2 => ∃ ι2 ds h2, Ext ι H ι2 H2 ∧ RelH X.K ι2 H2 h2 ∧ RelDs X.K ι2 H2 ds vs ∧ ds.length = n ∧ ∃ L, ds[i]? = some L ∧ src σ L fun L' ask => G L' ask (ds.set i L') h2 (fun d h' => ∀ ι' v H', Ext ι2 H2 ι' H' → RelH X.K ι' H' h' → RelD X.K ι' H' d v → Q v H') (fun c fs h' => ∀ ι' dx H', Ext ι2 H2 ι' H' → RelH X.K ι' H' h' → RelX X.K ι' H' fs dx → WE W σV (.ref (He.ga X.K c)) dx H')) ha.mono hS hH q
    (fun ds h2 ι2 vs H2 ⟨l, L, hL, q2⟩ e2 hH2 r2 => ⟨ι2, ds, h2, e2, hH2, r2, l, L, hL, Kn.mono _ _ _ _ (fun L' ask mA z => hG L' ask mA _ _ _ _ _ _ (fun d h' q' ι' v H' e' => q' ι' v H' (e2.trans e')) (fun c fs h' q' ι' dx H' e' => q' ι' dx H' (e2.trans e')) z) q2⟩) (fun c fs h2 ι2 dx H2 q2 => q2 ι2 dx H2)
  refine wpAny_Call_Name_kw (ld_glob I hg hm (PySem.W.callWith_K (h₀ := X.base) I.ok.mod.kin hk (thn (ha.run.run pos pins s σV H _ I q) fun us s1 ⟨vs, H1, I1, r, ι2, ds, h2, e2, hH2, r2, l, L, hL, q2⟩ => ⟨I1.kIn, ?_⟩) he hpl) hdb)
  obtain ⟨v, hv, rL⟩ := r2.get hL
  obtain ⟨L', ask, q3, rL', mA, fa⟩ := Kn.run _ _ _ _ _ _ _ _ _ I1 (hS.ext e2) rL q2
  have r3 := RelDs.setAt r2 hv rL'
  have lu : us.length = ps.length := by rw [← r.length, ← r2.length, l, hn]
  have bt := b s1 us I1.kIn (by rw [List.append_nil]; exact lu)
  rw [List.append_nil] at bt
  have hi : i < ds.length := (List.getElem?_eq_some_iff.mp hL).1
  exact wpAny_call (codeAny_mono (F X.A X.stack s1 H1 ⟨us, []⟩ us vs Q (WE W σV) ι2 (ds.set i L') h2 L' ask hr I1.env0 bt r hH2 r3 (by rw [List.length_set, l]) (by rw [List.getElem?_set_self hi]) mA fa q3) fun r s' hq => ret_of (L2N.passAt tk σV) I1 hq)

/-! ### m(self, *rest, kw=f) -/
structure KeepsRF (P : Program) (w : World) (K : Frag) (mg : Str → Option Value) (base : Heap) (k : Nat) (f : Addr) (kw : Str) (kf nf : Nat) (G : D → LSp → LSp) : Prop where
  mono : ∀ L ask, MonoP ask → MonoP (G L ask)
  ok : ∃ (fd : FuncData) (ps : List Str), ps.length = 3 ∧ RBinds K fd ps kw ∧ ∀ (A : Around) (outer : List Env) (s : Shared) (H : Hp) (args : Args) (us ts : List Value) (vs : List V) (Q : VK) (E : XK) (ι : Ad) (ds : List D) (h : LH) (L : D) (ask : LSp),
    RoomG k A → K.In s.heap → ts.length ≤ sizeLine → Env0 P w K mg base A outer (withTup s ts) H → BindsR K fd ps args us ts → Vals vs (us ++ [.ref s.heap.objs.size]) → RelH K ι H h → RelDs K ι H ds vs → ds.length = 3 → ds[1]? = some L → MonoP ask → FnAt P w K mg base kf nf L ask (withTup s ts) H →
    G L ask ds h (fun d h' => ∀ ι' v H', Ext ι H ι' H' → RelH K ι' H' h' → RelD K ι' H' d v → Q v H') (fun c fs h' => ∀ ι' dx H', Ext ι H ι' H' → RelH K ι' H' h' → RelX K ι' H' fs dx → E (.ref (He.ga K c)) dx H') →
    codeAny (model P w) A (.call (.ref f) args) (CR (L2N.CX P w) outer P w H (withTup s ts) Q E) s
theorem KeepsRF.up {P : Program} {w : World} {K : Frag} {mg : Str → Option Value} {base : Heap} {j k : Nat} {f : Addr} {kw : Str} {kf nf : Nat} {G : D → LSp → LSp} (h : KeepsRF P w K mg base j f kw kf nf G) (l : j ≤ k) : KeepsRF P w K mg base k f kw kf nf G :=
  ⟨h.mono, let ⟨fd, ps, e, b, r⟩ := h.ok; ⟨fd, ps, e, b, fun A outer s H args us ts vs Q E ι ds hh L ask hr => r A outer s H args us ts vs Q E ι ds hh L ask (hr.mono l)⟩⟩
theorem keepsRF_of {P : Program} {w : World} {K : Frag} {mg : Str → Option Value} {base : Heap} {x qual kw : Str} {params : Arguments} {body : List Stmt} {scope : Scope} {dvs : List V} {kws : List (Str × V)} {f : Addr} {fd : FuncData} {N ps : List Str} {k kf nf : Nat} {G : D → LSp → LSp} {b : D → LSp → LS}
    (F : FunD K x qual params body scope dvs kws f fd) (S : FnScope N ps scope) (hn : ps.length = 3) (hb : RBinds K fd ps kw) (hG : ∀ L ask, MonoP ask → MonoP (G L ask))
    (hbody : ∀ (L : D) (ask : LSp) (cdv : Value) (A : Around) (outer : List Env) (s : Shared) (H : Hp) (E : XK), MonoP ask → FnAt P w K mg base kf nf L ask s H → CodeAt K f cdv → RoomG k (A.deeper (envOfC qual scope s.heap.objs.size f cdv)) →
      JSs (cxOf (L2N.CX P w) P w K mg base N qual scope f cdv A outer s H E) (fun cls d _ H => E cls d H) body (b L ask))
    (hv : ∀ L ask ds h Q E, MonoP ask → ds.length = 3 → ds[1]? = some L → G L ask ds h Q E → b L ask (startD N ds) h (bodyK Q E)) : KeepsRF P w K mg base (k + 1) f kw kf nf G := by
  obtain ⟨oc, od, dV, kV, doc, pm, an, cdv, ct, osl, rfl, lk, hcd, _, _⟩ := F.ex
  refine ⟨hG, _, ps, hn, hb, fun A outer s H args us ts vs Q E ι ds h L ask hr KX lt e0 hbt hv' hH r l hi mA fa q => ?_⟩
  refine run_ofR (k := k) lk hcd S hr.r KX lt e0 hbt hv' (by rw [← r.length, l, hn]) fun hr' => ?_
  have j := hbody L ask cdv A outer (withTup s ts) H E mA fa ⟨_, _, _, _, lk, rfl, _, hcd⟩ ⟨hr', hr.g⟩
  refine ⟨_, j.run, ι, H, ι, startD N ds, h, .refl _ _, rel_start r, hH, ?_⟩
  refine j.mono _ _ _ _ ?_ (hv L ask ds h _ _ mA l hi q)
  exact ⟨fun σ' h' q' ι' σV' H' e' _ hH' => q' ι' .non H' e' hH' rfl, fun d h' q' ι' v H' e' hH' r' => q' ι' v H' e' hH' r', fun _ _ z => z.elim, fun _ _ z => z.elim, fun c fs σ' h' q' ι' dx σV' H' e' _ hH' r' => q' ι' dx H' e' hH' r'⟩
def eMethRF (src : Src) (C m : Str) (G : D → LSp → LSp) (o : LE) (A : LX (List D)) (kw : LE) : LE := fun σ h Q E => o σ h (fun x h1 => isIns C m x h1 ∧ A σ h1 (fun ds h2 => kw σ h2 (fun d h3 => ds.length ≤ sizeLine ∧ src σ d fun L' ask => G L' ask [x, L', .tup ds] h3 Q E) E) E) E
def spRF (K : Frag) (W : WX) (src : Src) (G : D → LSp → LSp) (σV : L2.St) (vx vd : V) (vs : List V) (H : Hp) (Q : VK) : Prop := ∃ ι σ h x d ds, RelS K ι H σ σV ∧ RelH K ι H h ∧ RelD K ι H x vx ∧ RelD K ι H d vd ∧ RelDs K ι H ds vs ∧ ds.length ≤ sizeLine ∧
  src σ d fun L' ask => G L' ask [x, L', .tup ds] h (fun d h' => ∀ ι' v H', Ext ι H ι' H' → RelH K ι' H' h' → RelD K ι' H' d v → Q v H') (fun c fs h' => ∀ ι' dx H', Ext ι H ι' H' → RelH K ι' H' h' → RelX K ι' H' fs dx → W (.ref (He.ga K c)) dx σV H')
def tMethRF (K : Frag) (W : WX) (src : Src) (C m : Str) (G : D → LSp → LSp) (ta : TE) (t : TA) (tk : TE) : TE := fun σV H Q => ta σV H fun vx H1 => ∃ a dx fs, vx = V.ref a ∧ H1 a = some (.ins (He.ga K C) dx fs) ∧ fs.lookup m = none ∧ t σV H1 fun vs H2 => tk σV H2 fun vd H3 => spRF K W src G σV (.ref a) vd vs H3 Q
section
variable {k kf nf : Nat} {f : Addr} {src : Src} {G : D → LSp → LSp} {C m kw : Str} {o e ew : Expr} {es : List Expr} {O KW : LE} {A : LX (List D)} {apos pos kpos : Pos}
theorem mono_methRF (hG : ∀ L ask, MonoP ask → MonoP (G L ask)) (Kn : Knows X kf nf src) (ho : Mono O) (hA : Mono A) (hk : Mono KW) : Mono (eMethRF src C m G O A KW) := fun σ h Q Q' E E' hQ hE q =>
  ho σ h _ _ _ _ (fun x h1 ⟨i, q1⟩ => ⟨i, hA σ h1 _ _ _ _ (fun ds h2 q2 => hk σ h2 _ _ _ _ (fun d h3 ⟨l, q3⟩ => ⟨l, Kn.mono _ _ _ _ (fun L' ask mA z => hG L' ask mA _ _ _ _ _ _ hQ hE z) q3⟩) hE q2) hE q1⟩) hE q
theorem methRF_run (hG : ∀ L ask, MonoP ask → MonoP (G L ask)) (Kn : Knows X kf nf src) (ho : Mono O) (hA : Mono A) (hk : Mono KW) {σV : L2.St} {H : Hp} {Q : VK} (q : tE X.K W (eMethRF src C m G O A KW) σV H Q) :
    tMethRF X.K W src C m G (tE X.K W O) (tA X.K W A) (tE X.K W KW) σV H Q := by
  obtain ⟨ι, σ, h, hS, hH, q⟩ := q
  refine tX.into ho hS hH q (fun x h1 ι1 vx H1 q1 e1 hH1 rx => ?_) (fun c fs h1 ι1 dx H1 q1 => q1 ι1 dx H1)
  obtain ⟨a, dx, fs, z1, z2, z3⟩ := isIns_run hH1 rx q1.1
  subst z1
  refine ⟨a, dx, fs, rfl, z2, z3, ?_⟩
  refine tX.into hA (hS.ext e1) hH1 q1.2 (fun ds h2 ι2 vs H2 q2 e2 hH2 r => ?_) (fun c fs h2 ι2 dx H2 q2 e2 => q2 ι2 dx H2 (e1.trans e2))
  refine tX.into hk (hS.ext (e1.trans e2)) hH2 q2 (fun d h3 ι3 vd H3 q3 e3 hH3 rd => ?_) (fun c fs h3 ι3 dx H3 q3 e3 => q3 ι3 dx H3 (e1.trans (e2.trans e3)))
  exact ⟨ι3, σ, h3, x, d, ds, hS.ext (e1.trans (e2.trans e3)), hH3, rx.ext (e2.trans e3), rd, RelDs.ext e3 r, q3.1, Kn.mono _ _ _ _ (fun L' ask mA z => hG L' ask mA _ _ _ _ _ _ (fun d h' q' ι' v H' e' => q' ι' v H' (e1.trans (e2.trans (e3.trans e')))) (fun c fs h' q' ι' dx H' e' => q' ι' dx H' (e1.trans (e2.trans (e3.trans e')))) z) q3.2⟩
/-- the callee runs -/
theorem spRF_run {pins : List (Addr × Obj)} {σV : L2.St} {H : Hp} {s : Shared} {Q : VK} {args : Args} {us ts : List Value} {vx vd : V} {vs : List V} (F : KeepsRF X.prog X.w X.K X.mg X.base k f kw kf nf G) (Kn : Knows X kf nf src) (hr : RoomG k X.A) (tk : L2N.Takes X W)
    (I : Inv X pins σV H s) (hus : Vals [vx, vd] us) (hts : Vals vs ts) (hb : ∀ (fd : FuncData) (ps : List Str), RBinds X.K fd ps kw → BindsR X.K fd ps args us ts) (q : spRF X.K W src G σV vx vd vs H Q) : wpAny (model X.prog X.w) X.A (call (.ref f) args.pos args.kw) (EP X pins σV Q) X.xe s := by
  obtain ⟨hG, fd, ps, hn, b, F⟩ := F
  obtain ⟨ι, σ, h, x, d, ds, hS, hH, rx, rd, rs, l, q⟩ := q
  obtain ⟨L', ask, q, rL, mA, fa⟩ := Kn.run _ _ _ _ _ _ _ _ _ I hS rd q
  have lt : ts.length ≤ sizeLine := by rw [← hts.length, ← rs.length]; exact l
  have I2 := tup_laid I hts lt
  have na : H s.heap.objs.size = none := I.hok.fresh (Nat.le_refl _)
  have ex : Ext ι H ι (upd H s.heap.objs.size (.tup vs)) := Ext.new na
  have st : Still H (upd H s.heap.objs.size (.tup vs)) s.heap (withTup s ts).heap := ⟨fun c v n ⟨o, h1, h2⟩ => by
    have ne : c ≠ s.heap.objs.size := Nat.ne_of_lt (Heap.lt_size h1)
    exact ⟨by rw [upd_ne ne]; exact n, o, Heap.get?_push_of_some _ h1, h2⟩⟩
  refine wpAny_call (codeAny_mono (F X.A X.stack s (upd H s.heap.objs.size (.tup vs)) args us ts [vx, vd, .ref s.heap.objs.size] Q (WE W σV) ι [x, L', .tup ds] h L' ask hr I.kIn lt I2.env0 (hb fd ps b) (hus.append (.cons rfl .nil)) (hH.new na) ⟨vx, _, rfl, rx.ext ex, vd, _, rfl, rL.ext ex, .ref s.heap.objs.size, _, rfl, ⟨_, vs, rfl, .inl (.inl upd_same), RelDs.ext ex rs⟩, rfl⟩ rfl rfl mA (fa.later st) ?_) fun r s' hq => ret_of (L2N.passAt tk σV) I2 hq)
  exact hG L' ask mA _ _ _ _ _ _ (fun d h' q' ι' v H' e' => q' ι' v H' (ex.trans e')) (fun c fs h' q' ι' dx H' e' => q' ι' dx H' (ex.trans e')) q
/-- o.m(e, .., kw=w) -/
theorem je_methRKF {pl : Sem Bool} (ho : JE X W o O) (c : Cls X.K (He.ga X.K C)) (hm : Meth X.K (He.ga X.K C) m f) (F : KeepsRF X.prog X.w X.K X.mg X.base k f kw kf nf G) (Kn : Knows X kf nf src) (hr : RoomG k X.A) (tk : L2N.Takes X W) (ha : JA X W (e :: es) A) (hk : JE X W ew KW)
    (hall : (backToKw pos (keywordEach [⟨some kw, ew, kpos⟩] X.env)).all (·.1.isSome) = true := by rfl) (hks : (backToKw pos (keywordEach [⟨some kw, ew, kpos⟩] X.env)).filterMap (·.1) = [kw] := by rfl)
    (hst : starEach (e :: es) X.env = (false, eval e X.env) :: starEach es X.env := by rfl) (hpl : ((backTo pos (starEach (e :: es) X.env)).any (·.1) || (backToKw pos (keywordEach [⟨some kw, ew, kpos⟩] X.env)).any (·.1.isNone)) = false := by rfl)
    (ht : eval (.Call (.Attribute o m apos) (e :: es) [⟨some kw, ew, kpos⟩] pos) X.env = (do
      let ov ← eval o X.env
      standAt apos.atName
      let (f, first) ← holding [ov] (getMethod ov m pl)
      callWith pos f first (backTo pos (starEach (e :: es) X.env)) (backToKw pos (keywordEach [⟨some kw, ew, kpos⟩] X.env))) := by rfl) : JE X W (.Call (.Attribute o m apos) (e :: es) [⟨some kw, ew, kpos⟩] pos) (eMethRF src C m G O A KW) := by
  have hG := F.mono
  refine ⟨mono_methRF hG Kn ho.mono ha.mono hk.mono, ⟨fun pins s σV H Q I q => ?_⟩⟩
  have q := methRF_run hG Kn ho.mono ha.mono hk.mono q
  refine PySem.W.methodCall_KW (pl := pl) (thn (ho.run.run pins s σV H _ I q) fun u s1 ⟨x, H1, I1, rx, a, dx, fs, ex, ea, l, q⟩ => ?_) ht
  subst ex
  obtain rfl : u = Value.ref a := rx
  refine getmeth_ok I1 ea c hm l ?_
  refine PySem.W.callWith_KW (h₀ := X.base) (first := [.ref a]) I1.ok.mod.kin hm.kp hall (thn (ha.run.run pos pins s1 σV H1 _ I1 q) fun us s2 ⟨vs, H2, I2, r, q2⟩ => ?_) hpl hst
  refine thn ((pk_cons (nm := some kw) (kpos := kpos) hk.run pk_nil).run pos pins s2 σV H2 (fun zs H3 => ∃ vd, zs = [vd] ∧ spRF X.K W src G σV (.ref a) vd vs H3 Q) I2 ?_) fun ws s3 ⟨zs, H3, I3, rz, vd, ez, q3⟩ => ⟨I3.kIn, ?_⟩
  · obtain ⟨ι2, σ2, h2, hS2, hH2, q2⟩ := q2
    exact ⟨ι2, σ2, h2, hS2, hH2, hk.mono _ _ _ _ _ _ (fun d h' z ι' v H' e' hH' rd => ⟨v, rfl, z ι' v H' e' hH' rd⟩) (fun _ _ _ z => z) q2⟩
  · subst ez
    rw [hks]
    cases rz with
    | cons p z =>
      cases z
      exact spRF_run (args := ⟨.ref a :: us, [(kw, _)]⟩) (us := [.ref a, _]) (vx := .ref a) F Kn hr tk I3 (.cons rfl (.cons p .nil)) r (fun _ _ b => b.k _ _ _) q3
/-- o.m(kw=w) -/
theorem je_methRKF0 {pl : Sem Bool} (ho : JE X W o O) (c : Cls X.K (He.ga X.K C)) (hm : Meth X.K (He.ga X.K C) m f) (F : KeepsRF X.prog X.w X.K X.mg X.base k f kw kf nf G) (Kn : Knows X kf nf src) (hr : RoomG k X.A) (tk : L2N.Takes X W) (hk : JE X W ew KW)
    (hall : (backToKw pos (keywordEach [⟨some kw, ew, kpos⟩] X.env)).all (·.1.isSome) = true := by rfl) (hks : (backToKw pos (keywordEach [⟨some kw, ew, kpos⟩] X.env)).filterMap (·.1) = [kw] := by rfl)
    (hpl : ((backTo pos (starEach [] X.env)).any (·.1) || (backToKw pos (keywordEach [⟨some kw, ew, kpos⟩] X.env)).any (·.1.isNone)) = false := by rfl)
    (ht : eval (.Call (.Attribute o m apos) [] [⟨some kw, ew, kpos⟩] pos) X.env = (do
      let ov ← eval o X.env
      standAt apos.atName
      let (f, first) ← holding [ov] (getMethod ov m pl)
      callWith pos f first (backTo pos (starEach [] X.env)) (backToKw pos (keywordEach [⟨some kw, ew, kpos⟩] X.env))) := by rfl) : JE X W (.Call (.Attribute o m apos) [] [⟨some kw, ew, kpos⟩] pos) (eMethRF src C m G O eNil KW) := by
  have hG := F.mono
  refine ⟨mono_methRF hG Kn ho.mono (ja_nil (X := X) (W := W)).mono hk.mono, ⟨fun pins s σV H Q I q => ?_⟩⟩
  have q := methRF_run hG Kn ho.mono (ja_nil (X := X) (W := W)).mono hk.mono q
  refine PySem.W.methodCall_KW (pl := pl) (thn (ho.run.run pins s σV H _ I q) fun u s1 ⟨x, H1, I1, rx, a, dx, fs, ex, ea, l, q⟩ => ?_) ht
  subst ex
  obtain rfl : u = Value.ref a := rx
  refine getmeth_ok I1 ea c hm l ?_
  have q2 := noarg q
  refine PySem.W.callWith_KW0 (h₀ := X.base) (first := [.ref a]) I1.ok.mod.kin hm.kp hall ?_ hpl
  refine thn ((pk_cons (nm := some kw) (kpos := kpos) hk.run pk_nil).run pos pins s1 σV H1 (fun zs H3 => ∃ vd, zs = [vd] ∧ spRF X.K W src G σV (.ref a) vd [] H3 Q) I1 ?_) fun ws s3 ⟨zs, H3, I3, rz, vd, ez, q3⟩ => ⟨I3.kIn, ?_⟩
  · obtain ⟨ι2, σ2, h2, hS2, hH2, q2⟩ := q2
    exact ⟨ι2, σ2, h2, hS2, hH2, hk.mono _ _ _ _ _ _ (fun d h' z ι' v H' e' hH' rd => ⟨v, rfl, z ι' v H' e' hH' rd⟩) (fun _ _ _ z => z) q2⟩
  · subst ez
    rw [hks]
    cases rz with
    | cons p z =>
      cases z
      exact spRF_run (args := ⟨[.ref a], [(kw, _)]⟩) (us := [.ref a, _]) (vx := .ref a) (vs := []) F Kn hr tk I3 (.cons rfl (.cons p .nil)) .nil (fun _ _ b => b.k _ _ _) q3
end

/-! ### a lambda without parameters, within which a function made here is handed on -/
section
variable {pins : List (Addr × Obj)} {σ : L2.St} {H HZ : Hp} {s s1 : Shared}
/-- x(), in the def that got the lambda (made at s, H in X's frame): Z is that def's context, entered at s -/
theorem pe_actF {CXg : CXT} {Eg : XK} {Ng : List Str} {qg : Str} {sg : Scope} {g f c' : Addr} {cdg pm ctv : Value} {params : Arguments} {body : Expr} {scope : Scope} {k i : Nat} {a : Str} {pn : List (Addr × Obj)} {xe : Value → Shared → Prop} {W : WX} {tb : XK → TE} {p1 p2 : Pos}
    (I : Inv X pins σ H s) (L : LamX.LamS X.env.scope scope) (hf : s.heap.get? f = some (PySem.W.kla_obj "<lambda>" (X.env.qual ++ "<lambda>") params body scope (cloFrom X.env.cells scope.names []) pm c' ctv)) (hfn : H f = none) (hfr : f ∉ frs X.stack)
    (hbind : bindArgs (PySem.W.kla_fn "<lambda>" (X.env.qual ++ "<lambda>") params body scope (cloFrom X.env.cells scope.names []) pm (.ref c') ctv) ⟨[], []⟩ = pure [])
    (tk : L2N.Takes ((cxOf CXg X.prog X.w X.K X.mg X.base Ng qg sg g cdg X.A X.stack s H Eg).tr pn xe) W) (hr : RoomG (k + 1) (X.A.deeper (envOfC qg sg s.heap.objs.size g cdg)))
    (hbody : ∀ (A : Around) (outer : List Env) (s2 : Shared) (H2 : Hp) (E : XK), Still H H2 s.heap s2.heap → RoomG k (A.deeper (LamX.lamEnv X scope s2.heap.objs.size f c')) → PE (lamCN X A outer s2 H2 E scope f c') body (tb E))
    (hN : Ng[i]? = some a) (hv : Vis sg a) (hd : (a == ("__debug__" : Str)) = false) (hcd : (a == ("__classdict__" : Str)) = false) :
    PE ((cxOf CXg X.prog X.w X.K X.mg X.base Ng qg sg g cdg X.A X.stack s H Eg).tr pn xe) (.Call (.Name a p1) [] [] p2)
      (fun σZ HZ Q => σZ[i]? = some (some (.ref f)) ∧ HZ c' = some (LamX.CodeO c' (X.env.qual ++ "<lambda>")) ∧ tb (fun cls d H' => W cls d σZ H') σ HZ Q) := by
  refine ⟨fun pinsZ sZ σZ HZ Q IZ h => ?_⟩
  obtain ⟨hs, hc, ht⟩ := h
  refine wpAny_Call_Name_kw (thn ((pe_var (pos := p1) (i := i) hN hv hd hcd).run pinsZ sZ σZ HZ (fun v H1 => v = .ref f ∧ H1 = HZ) IZ ⟨.ref f, hs, rfl, rfl⟩) fun u s1 ⟨v, H1, I1, r1, q1⟩ => ?_)
  obtain ⟨ev, eH⟩ := q1
  subst ev
  rw [eH] at I1
  obtain rfl : u = Value.ref f := r1
  have of1 := I1.base.keep f _ hf hfn hfr (fun z => nomatch (show f ∈ ([] : List Addr) from z))
  refine PySem.W.callWith_F0 ⟨_, _, _, _, of1⟩ ?_
  have un : Un (frs X.stack) [] H HZ s.heap s1.heap := I1.base
  obtain ⟨⟨oc, vs, t, hoc, hdc, hvc⟩, _, _⟩ := I1.hok c' _ hc
  have hx := L2N.passAt tk σZ
  have rc : codeAny (model X.prog X.w) (X.A.deeper (envOfC qg sg s.heap.objs.size g cdg)) (.call (.ref f) ⟨[], []⟩) (CR (L2N.CX X.prog X.w) (envOfC qg sg s.heap.objs.size g cdg :: X.stack) X.prog X.w HZ s1 Q (fun cls d H' => W cls d σZ H')) s1 := by
    refine PySem.W.kla_callFunE hr.r.depth of1 rfl L.co L.gen rfl ⟨c', oc, vs, t, rfl, hoc, hdc, hvc⟩ ?_
    rw [hbind]
    refine wpAny_pure (wpAny_newFunctionEnv (fun y hy => (L.own y hy).2) (fun y hy => absurd hy (by simp)) (fun h₁ hns hsb => ⟨I1.nolimit.fresh _ hsb, ?_⟩) L.kind)
    show codeAny _ _ (.expr body (LamX.lamEnv X scope s1.heap.objs.size f c')) _ _
    have kp : ∀ b o, s1.heap.get? b = some o → h₁.get? b = some o := fun b o e => hsb.extBut b o (Nat.ne_of_lt (Heap.lt_size e)) (Heap.get?_push_of_some _ e)
    have J : Inv (lamCN X (X.A.deeper (envOfC qg sg s.heap.objs.size g cdg)) (envOfC qg sg s.heap.objs.size g cdg :: X.stack) s1 HZ (fun cls d H' => W cls d σZ H') scope f c') [] σ HZ { s1 with heap := h₁, toks := s1.toks + ([] : List (Str × Value)).length } :=
      (LamX.lam_start2 I L I1.env0 hr.r.hd un hns kp).toTry _
    refine PySem.W.kla_codeExpr (wpAny_mono ((hbody _ _ s1 HZ _ (.of_un un) (hr.deeper _)).run [] _ _ HZ Q J ht) (fun v s' hq => ?_) fun e s' hq => hq)
    obtain ⟨w', H', J', rv, q⟩ := hq
    exact ⟨w', H', J'.os, J'.bare, J'.base, J'.hok, rv, q⟩
  exact wpAny_call (codeAny_mono rc fun r s' hq => ret_of hx I1 hq)

end
def eLamF (j0 : Nat) (src : Src) (b : D → LAsk → LS) (N : List Str) (m : D → LSp → LE) : LE := fun σ h Q E => ∃ L, σ[j0]? = some (some L) ∧ src σ L fun L' ask => eLam b N (m L' ask) (σ.set j0 (some L')) h Q E
theorem je_lamF {j0 kf nf : Nat} {src : Src} {x a qg : Str} {g cl P : Addr} {k : Nat} {pg : Arguments} {bg : List Stmt} {sg : Scope} {fd : FuncData} {Ng : List Str} {params : Arguments} {body : Expr} {scope : Scope} {m : D → LSp → LE} {b : D → LAsk → LS} {p lpos pos : Pos}
    (F : FunD X.K x qg pg bg sg [] [] g fd) (Sg : FnScope Ng [a] sg) (hb : Binds X.K fd [a] []) (hNg : Ng[0]? = some a) (hva : Vis sg a) (hm : X.mg x = some (.ref g)) (tk : L2N.Takes X W) (hr : RoomG (k + 2) X.A)
    (LT : LamT X (tabsK X.K) cl P) (L : LamX.LamS X.env.scope scope) (hdef : defaultsOf params X.env = ([], []))
    (hbind : ∀ (q : Str) (cl : List (Str × Addr)) (pm cv ctv : Value), bindArgs (PySem.W.kla_fn "<lambda>" q params body scope cl pm cv ctv) ⟨[], []⟩ = pure [])
    (Kn : Knows X kf nf src)
    (hbody : ∀ (L : D) (ask : LSp) (A : Around) (outer : List Env) (s : Shared) (H : Hp) (E : XK) (f c' : Addr), MonoP ask → FnAt X.prog X.w X.K X.mg X.base kf nf L ask s H → RoomG k (A.deeper (LamX.lamEnv X scope s.heap.objs.size f c')) → JE (lamCN X A outer s H E scope f c') (fun cls d _ H => E cls d H) body (m L ask))
    (hJ : ∀ (cdv : Value) (A : Around) (outer : List Env) (s : Shared) (H : Hp) (E : XK) (L : D) (ask : LAsk), CodeAt X.K g cdv → RoomG (k + 1) (A.deeper (envOfC qg sg s.heap.objs.size g cdv)) → MonoA ask →
      (∀ (W' : WX) (pn : List (Addr × Obj)) (xe : Value → Shared → Prop) (p1 p2 : Pos), L2N.Takes ((cxOf (L2N.CX X.prog X.w) X.prog X.w X.K X.mg X.base Ng qg sg g cdv A outer s H E).tr pn xe) W' →
        JE ((cxOf (L2N.CX X.prog X.w) X.prog X.w X.K X.mg X.base Ng qg sg g cdv A outer s H E).tr pn xe) W' (.Call (.Name a p1) [] [] p2) (eAsk 0 L ask)) →
      JSs (cxOf (L2N.CX X.prog X.w) X.prog X.w X.K X.mg X.base Ng qg sg g cdv A outer s H E) (fun cls d _ H => E cls d H) bg (b L ask))
    (hg : Gl X x := by rfl) (hdb : (x == ("__debug__" : Str)) = false := by decide) (hd : (a == ("__debug__" : Str)) = false := by decide) (hcd : (a == ("__classdict__" : Str)) = false := by decide) :
    JE X W (.Call (.Name x p) [.Lambda params body scope lpos] [] pos) (eLamF j0 src b Ng m) := by
  refine ⟨fun σ h Q Q' E E' hQ hE ⟨Lz, z1, z2⟩ => ⟨Lz, z1, Kn.mono _ _ _ _ (fun L' ask _ ⟨Q0, E0, a1, a2, q⟩ => ⟨Q0, E0, fun d h z => hQ _ _ (a1 d h z), fun c fs h z => hE _ _ _ (a2 c fs h z), q⟩) z2⟩, ⟨fun pins s σV H Q I h => ?_⟩⟩
  obtain ⟨ι, σ, h, hS, hH, Lz, hLz, q⟩ := h
  obtain ⟨oc, od, dV, kV, doc, pm, an, cdv, ct, osl, rfl, lk, hcg, _, _⟩ := F.ex
  refine wpAny_Call_Name_kw (ld_glob I hg hm ?_ hdb)
  refine PySem.W.callWith_K (h₀ := X.base) I.ok.mod.kin F.kp ?_ (by rfl) (by rfl)
  show wpAny _ _ (spliced ((false, eval (.Lambda params body scope lpos) X.env) :: backTo pos (starEach [] X.env))) _ _ s
  refine Calls.spliced_cons (LamX.lam_make2 I LT.tb LT.code LT.mem LT.uni hH.tabs hdef (L.has I.ok) fun f c' pm' ctv H1 s' I1 eN T1 hf hfn hfr hco => ?_)
  have hH1 := hH.nt eN T1
  have e1 : Ext ι H ι H1 := Ext.nt (K := X.K) (h := h) eN
  have hS1 := hS.ext e1
  obtain ⟨vz, hvz, rz⟩ := hS1.2 j0 Lz hLz
  obtain ⟨L2, ask2, q, rz2, mA2, fa⟩ := Kn.run _ _ _ _ _ _ _ _ _ I1 hS1 rz q
  obtain ⟨Q0, E0, a1, a2, q⟩ := q
  have hS2 : RelS X.K ι H1 (σ.set j0 (some L2)) σV := by
    refine ⟨by rw [List.length_set]; exact hS1.1, fun i d e => ?_⟩
    by_cases z : j0 = i
    · subst z
      rw [List.getElem?_set_self (List.getElem?_eq_some_iff.mp hLz).1] at e
      cases e
      exact ⟨vz, hvz, rz2⟩
    · rw [List.getElem?_set_ne z] at e
      exact hS1.2 i d e
  have hmm : Mono (m L2 ask2) := (hbody L2 ask2 X.A [] s' H1 (fun _ _ _ => False) 0 0 mA2 fa ((hr.mono (by omega : k + 1 ≤ k + 2)).deeper _)).mono
  have mA : ∀ σ, MonoA (m L2 ask2 σ) := fun σ h Q Q' E E' hQ hE q => hmm σ h Q Q' E E' hQ hE q
  generalize σ.set j0 (some L2) = σ2 at *
  refine Calls.spliced_nil ⟨I1.kIn, ?_⟩
  have rc : codeAny (model X.prog X.w) X.A (.call (.ref g) ⟨[.ref f], []⟩) (CR (L2N.CX X.prog X.w) X.stack X.prog X.w H1 s' Q (WE W σV)) s' := by
    refine LamX.run_ofS (N := Ng) (ps := [a]) (us := [.ref f]) (vs := [.ref f]) (k := k + 1) lk hcg Sg hr.r I1.env0 (hb s' [.ref f] I1.kIn rfl) (.cons rfl .nil) rfl fun hr' => ?_
    have hr2 : RoomG (k + 1) (X.A.deeper (envOfC qg sg s'.heap.objs.size g cdv)) := ⟨hr', hr.g⟩
    have Lr : RelD X.K ι H1 (.fn f [(c', codeP c' (X.env.qual ++ "<lambda>"))] ι H1) (.ref f) := ⟨rfl, fun p hp => by
      obtain rfl := List.mem_singleton.mp hp
      exact hco, .refl _ _⟩
    have j := hJ cdv X.A X.stack s' H1 (WE W σV) (.fn f [(c', codeP c' (X.env.qual ++ "<lambda>"))] ι H1) (m L2 ask2 σ2) ⟨_, _, _, _, lk, rfl, _, hcg⟩ hr2 (mA σ2) fun W' pn xe p1 p2 tk' => ⟨fun σZ hZ Q1 Q2 E1 E2 hQ hE ⟨z1, z2⟩ => ⟨z1, mA σ2 hZ _ _ _ _ hQ hE z2⟩, PE.weak
      (pe_actF (W := W') (tb := fun E => tE X.K (fun cls d _ H => E cls d H) (m L2 ask2)) I1 L hf hfn hfr (hbind _ _ _ _ _) tk' hr2 (fun A outer s H E st hr3 => (hbody L2 ask2 A outer s H E f c' mA2 (fa.later st) hr3).run) hNg hva hd hcd) fun σZV HZ QZ hZ' => ?_⟩
    · refine ⟨_, j.run, ι, H1, ι, startD Ng [_], h, .refl _ _, rel_start (ds := [_]) (vs := [.ref f]) ⟨_, _, rfl, Lr, rfl⟩, hH1, ?_⟩
      refine j.mono _ _ _ _ ?_ (q _)
      exact ⟨fun σ' h' q' ι' σV' H' e' _ hH' => a1 _ _ q' ι' .non H' (e1.trans e') hH' rfl, fun d h' q' ι' v H' e' hH' r' => a1 _ _ q' ι' v H' (e1.trans e') hH' r', fun _ _ z => z.elim, fun _ _ z => z.elim, fun c fs σ' h' q' ι' dx σV' H' e' _ hH' r' => a2 _ _ _ q' ι' dx H' (e1.trans e') hH' r'⟩
    · obtain ⟨ιZ, σZ, hZ, hSZ, hHZ, z1, z2⟩ := hZ'
      obtain ⟨v, z3, z4⟩ := hSZ.2 0 _ z1
      obtain ⟨rfl, z5, z6⟩ := z4
      exact ⟨z3, z5 _ (List.mem_singleton.mpr rfl), ιZ, σ2, hZ, hS2.extW z6, hHZ, z2⟩
  exact wpAny_call (codeAny_mono rc fun r s2 hq => ret_of (L2N.passAt tk σV) I1 hq)


/-! ### defs in which functions are made -/
theorem hfree_by {sc scope : Scope} (h : (scope.names.all fun y => !decide (y.2 = NameKind.free) || decide (sc.names.lookup y.1 = some .cell) || decide (sc.names.lookup y.1 = some .free)) = true) : ∀ y ∈ scope.names, y.2 = .free → sc.names.lookup y.1 = some .cell ∨ sc.names.lookup y.1 = some .free := by
  intro y hy e
  have := List.all_eq_true.mp h y hy
  simp only [e, decide_true, Bool.not_true, Bool.false_or, Bool.or_eq_true, decide_eq_true_eq] at this
  exact this
section
variable {P : Program} {w : World} {K : Frag} {mg : Str → Option Value} {base : Heap} {x qual : Str} {params : Arguments} {body : List Stmt} {scope : Scope} {dvs : List V} {kws : List (Str × V)} {f : Addr} {fd : FuncData} {N ps : List Str} {k n : Nat} {G : LSp}
theorem keeps_ofI {I : Type} {b : I → LS} (F : FunD K x qual params body scope dvs kws f fd) (S : FnScope N ps scope) (hn : ps.length = n) (hb : Binds K fd ps []) (hG : MonoP G)
    (hbody : ∀ (cdv : Value) (A : Around) (outer : List Env) (s : Shared) (H : Hp) (E : XK), CodeAt K f cdv → RoomG k (A.deeper (envOfC qual scope s.heap.objs.size f cdv)) →
      ∃ i, JSs (cxOf (L2N.CX P w) P w K mg base N qual scope f cdv A outer s H E) (fun cls d _ H => E cls d H) body (b i))
    (hv : ∀ i ds h Q E, ds.length = n → G ds h Q E → b i (startD N ds) h (bodyK Q E)) : Keeps P w K mg base (k + 1) f n G := by
  obtain ⟨oc, od, dV, kV, doc, pm, an, cdv, ct, osl, rfl, lk, hcd, _, _⟩ := F.ex
  have len : ∀ vs H Q E, spV K n G vs H Q E → vs.length = ps.length := fun vs H Q E ⟨ι, ds, h, _, r, l, _⟩ => by rw [← r.length, l, hn]
  refine ⟨hG, _, ps, hn, ⟨len, fun A outer s H args us vs Q E hr e0 hbt hv' hsp => ?_⟩, hb⟩
  refine LamX.run_ofS (k := k) lk hcd S hr.r e0 hbt hv' (len vs H Q E hsp) fun hr' => ?_
  obtain ⟨ι, ds, h, hH, r, l, q⟩ := hsp
  obtain ⟨i, j⟩ := hbody cdv A outer s H E ⟨_, _, _, _, lk, rfl, _, hcd⟩ ⟨hr', hr.g⟩
  refine ⟨_, j.run, ι, H, ι, startD N ds, h, .refl _ _, rel_start r, hH, ?_⟩
  refine j.mono _ _ _ _ ?_ (hv i ds h _ _ l q)
  exact ⟨fun σ' h' q' ι' σV' H' e' _ hH' => q' ι' .non H' e' hH' rfl, fun d h' q' ι' v H' e' hH' r' => q' ι' v H' e' hH' r', fun _ _ z => z.elim, fun _ _ z => z.elim, fun c fs σ' h' q' ι' dx σV' H' e' _ hH' r' => q' ι' dx H' e' hH' r'⟩
theorem keeps_of1 {b : (D → Prop) → LS} (F : FunD K x qual params body scope dvs kws f fd) (S : FnScope N ps scope) (hn : ps.length = n) (hb : Binds K fd ps []) (hG : MonoP G)
    (hbody : ∀ (cdv : Value) (A : Around) (outer : List Env) (s : Shared) (H : Hp) (E : XK), CodeAt K f cdv → RoomG k (A.deeper (envOfC qual scope s.heap.objs.size f cdv)) →
      ∃ a, JSs (cxOf (L2N.CX P w) P w K mg base N qual scope f cdv A outer s H E) (fun cls d _ H => E cls d H) body (b a))
    (hv : ∀ a ds h Q E, ds.length = n → G ds h Q E → b a (startD N ds) h (bodyK Q E)) : Keeps P w K mg base (k + 1) f n G := keeps_ofI F S hn hb hG hbody hv
theorem keeps_of2 {b : (D → Prop) → (D → Prop) → LS} (F : FunD K x qual params body scope dvs kws f fd) (S : FnScope N ps scope) (hn : ps.length = n) (hb : Binds K fd ps []) (hG : MonoP G)
    (hbody : ∀ (cdv : Value) (A : Around) (outer : List Env) (s : Shared) (H : Hp) (E : XK), CodeAt K f cdv → RoomG k (A.deeper (envOfC qual scope s.heap.objs.size f cdv)) →
      ∃ a c, JSs (cxOf (L2N.CX P w) P w K mg base N qual scope f cdv A outer s H E) (fun cls d _ H => E cls d H) body (b a c))
    (hv : ∀ a c ds h Q E, ds.length = n → G ds h Q E → b a c (startD N ds) h (bodyK Q E)) : Keeps P w K mg base (k + 1) f n G :=
  keeps_ofI (b := fun p : (D → Prop) × (D → Prop) => b p.1 p.2) F S hn hb hG (fun cdv A outer s H E hc hr => let ⟨a, c, j⟩ := hbody cdv A outer s H E hc hr; ⟨(a, c), j⟩) fun i => hv i.1 i.2
end
end LL
end

section
set_option Elab.async false
set_option linter.all false
set_option maxRecDepth 100000
set_option maxHeartbeats 2000000
/-! LLFnX: repr of data with lists that are changed within; list(range(n)); {"k": v}. -/
namespace LL
open PySem PySem.Spec PyProof.Rows L2
variable {X : Cx} {W : WX}
/-! ### data with lists of the logical heap in it -/
mutual
def dPyN (h : LH) : D → Option PyData
  | .ref n => match h[n]? with
    | some (.lst ds) => (dPys ds).map .list
    | _ => none
  | .lst ds => (dPysN h ds).map .list
  | .tup ds => (dPysN h ds).map .tuple
  | .non => dPy .non
  | .bl b => dPy (.bl b)
  | .int i => dPy (.int i)
  | .str x => dPy (.str x)
  | .dct ks ds => dPy (.dct ks ds)
  | _ => none
def dPysN (h : LH) : List D → Option (List PyData)
  | [] => some []
  | d :: ds => match dPyN h d, dPysN h ds with
    | some p, some ps => some (p :: ps)
    | _, _ => none
end
mutual
theorem rpN_of {K : Frag} {ι : Ad} {H : Hp} {h : LH} (hH : RelH K ι H h) : ∀ {d : D} {v : V} {p : PyData}, RelD K ι H d v → dPyN h d = some p → Rp K H p v
  | .ref n, v, p, r, e => by
    simp only [dPyN] at e
    obtain ⟨a, ha, rfl⟩ := r
    split at e
    · rename_i ho
      obtain ⟨vs, h1, rs⟩ := hH.lst ha ho
      simp only [Option.map_eq_some_iff] at e
      obtain ⟨ps, e1, rfl⟩ := e
      exact ⟨a, vs, rfl, .inl (.inl h1), rps_of rs e1⟩
    · cases e
  | .lst ds, _, _, ⟨a, vs, h1, h2, h3⟩, e => by
    simp only [dPyN, Option.map_eq_some_iff] at e
    obtain ⟨ps, e1, e2⟩ := e
    subst e2
    exact ⟨a, vs, h1, h2.sq, rpsN_of hH h3 e1⟩
  | .tup ds, _, _, ⟨a, vs, h1, h2, h3⟩, e => by
    simp only [dPyN, Option.map_eq_some_iff] at e
    obtain ⟨ps, e1, e2⟩ := e
    subst e2
    exact ⟨a, vs, h1, h2, rpsN_of hH h3 e1⟩
  | .non, v, p, r, e => rp_of (d := .non) r (by simpa [dPyN] using e)
  | .bl b, v, p, r, e => rp_of (d := .bl b) r (by simpa [dPyN] using e)
  | .int i, v, p, r, e => rp_of (d := .int i) r (by simpa [dPyN] using e)
  | .str x, v, p, r, e => rp_of (d := .str x) r (by simpa [dPyN] using e)
  | .ob _ _ _, _, _, _, e => by simp [dPyN] at e
  | .dfn _, _, _, _, e => by simp [dPyN] at e
  | .fn _ _ _ _, _, _, _, e => by simp [dPyN] at e
  | .dct ks ds, v, p, r, e => rp_of (d := .dct ks ds) r (by simpa [dPyN] using e)
  | .exc _ _ _ _ _, _, _, _, e => by simp [dPyN] at e
theorem rpsN_of {K : Frag} {ι : Ad} {H : Hp} {h : LH} (hH : RelH K ι H h) : ∀ {ds : List D} {vs : List V} {ps : List PyData}, RelDs K ι H ds vs → dPysN h ds = some ps → Rp.RpAll K H ps vs
  | [], vs, _, r, e => by simp only [dPysN, Option.some.injEq] at e; subst e; exact r
  | d :: ds, _, _, ⟨v, r, h1, h2, h3⟩, e => by
    simp only [dPysN] at e
    split at e
    · rename_i p ps e1 e2
      cases e
      exact ⟨v, r, h1, rpN_of hH h2 e1, rpsN_of hH h3 e2⟩
    · cases e
end
def bReprN : LB := fun ds h Q => match ds with
  | [d] => ∃ p, dPyN h d = some p ∧ p.showable = true ∧ p.shown.length ≤ sizeLine ∧ p.depth ≤ 60 ∧ Q (.str p.shown) h
  | _ => False
theorem bsReprN {K : Frag} (sm : smB K = true) : CallS K (rReprD K) bReprN := by
  refine ⟨fun ds h Q Q' hQ q => ?_, fun ι H h ds vs Q Qv hH rs q k => ?_⟩
  · unfold bReprN at *
    split at q
    · obtain ⟨p, e, a, b, c, q⟩ := q; exact ⟨p, e, a, b, c, hQ _ _ q⟩
    · exact q.elim
  · unfold bReprN at q
    split at q
    · obtain ⟨v, rfl, r⟩ := rs.one
      obtain ⟨p, e, a, b, c, q⟩ := q
      exact ⟨v, p, rfl, rpN_of hH r e, sm, a, b, c, k _ h ι _ H q (.refl _ _) hH rfl⟩
    · exact q.elim
/-! ### list(range(n)) -/
def eListRg (m : LE) : LE := fun σ h Q E => m σ h (fun d h1 => ∃ n : Int, d = .int n ∧ 0 ≤ n ∧ n ≤ 1000 ∧ Q (.lst (rngD 0 n.toNat)) h1) E
theorem relDs_rng {K : Frag} {ι : Ad} {H : Hp} {a : Int} : ∀ (l : List Nat), RelDs K ι H (l.map fun (i : Nat) => D.int (a + i)) (l.map fun (i : Nat) => V.int (a + i))
  | [] => rfl
  | i :: l => ⟨_, _, rfl, rfl, relDs_rng l⟩
theorem je_listRg {e : Expr} {m : LE} {p p2 p3 pos : Pos} (hl : X.mg "list" = none) (hr : X.mg "range" = none) (he : JE X W e m) (hc : X.calm = true := by rfl) (hg : Gl X "list" := by rfl) (hg2 : Gl X "range" := by rfl)
    (hs : starEach [e] X.env = (false, eval e X.env) :: starEach [] X.env := by rfl) (hs2 : starEach [.Call (.Name "range" p2) [e] [] p3] X.env = (false, eval (.Call (.Name "range" p2) [e] [] p3) X.env) :: starEach [] X.env := by rfl) :
    JE X W (.Call (.Name "list" p) [.Call (.Name "range" p2) [e] [] p3] [] pos) (eListRg m) := by
  refine ⟨fun σ h Q Q' E E' hQ hE q => he.mono σ h _ _ _ _ (fun d h1 ⟨n, e1, e2, e3, q1⟩ => ⟨n, e1, e2, e3, hQ _ _ q1⟩) hE q, PE.weak (pe_listRg hc hg hl (prg_1 hg2 hr he.run hs) hs2) fun σV H Q ⟨ι, σ, h, hS, hH, q⟩ => ?_⟩
  show tE X.K W m σV H _
  refine tX.into he.mono hS hH q (fun d h1 ι1 v H1 q1 e1 hH1 r => ?_) (fun c fs h1 ι1 dx H1 q1 => q1 ι1 dx H1)
  obtain ⟨n, rfl, n0, n1, q1⟩ := q1
  obtain rfl : v = .int n := r
  refine ⟨n, rfl, ⟨by decide, by decide, by omega, by omega, by omega⟩, fun l hl => ?_⟩
  have ex : Ext ι1 H1 ι1 (upd H1 l (.lst (rgV 0 n))) := Ext.new hl
  refine q1 ι1 (.ref l) _ (e1.trans ex) (hH1.new hl) ⟨l, rgV 0 n, rfl, .inl ⟨upd_same, hH1.notNew hl⟩, ?_⟩
  unfold rngD rgV
  rw [show (n - 0).toNat = n.toNat from by omega]
  exact relDs_rng _
/-! ### {"k": i} -/
def eDct1 (x : Str) (i : Int) : LE := fun _ h Q _ => Q (.dct [.inr x] [.int i]) h
theorem je_dct1 {x : Str} {i : Int} {k v : Expr} {pos : Pos} (hk : PE X k (fun _ H Q => Q (.str x) H)) (hv : PE X v (fun _ H Q => Q (.int i) H)) : JE X W (.Dict [some k] [v] pos) (eDct1 x i) := by
  refine ⟨fun σ h Q Q' E E' hQ hE q => hQ _ _ q, PE.weak (pe_disp (pps_cons hk hv pps_nil) rfl rfl (by simp) (by simp)) fun σV H Q ⟨ι, σ, h, hS, hH, q⟩ => ?_⟩
  intro p hp
  have ex : Ext ι H ι (upd H p (.dK [(.inr x, .int i)])) := Ext.new hp
  show upd H p (.dK []) p = _ ∧ _
  refine ⟨upd_same, [(.inr x, .int i)], rfl, by simp, ?_⟩
  have eu : upd (upd H p (.dK [])) p (.dK (mergeK [] [(.inr x, V.int i)])) = upd H p (.dK [(.inr x, .int i)]) := by
    funext a
    by_cases z : a = p
    · subst z; rw [upd_same, upd_same]; rfl
    · rw [upd_ne z, upd_ne z, upd_ne z]
  rw [eu]
  exact q ι (.ref p) _ ex (hH.new hp) ⟨p, [.int i], rfl, hH.notNew hp, upd_same, rfl, _, _, rfl, rfl, rfl⟩
/-! ### rules by which simp runs them -/
section
variable {σ : LV} {h : LH} {Q : D → LH → Prop} {E : XL} {i n : Nat} {L d : D} {ask : LSp} {A : LX (List D)} {G : D → LSp → LSp} {src : Src} {o kw m : LE} {C mm : Str} {Site : D → Prop} {N : List Str} {js : List Nat} {R : D → LSp → Prop} {b : D → LAsk → LS} {mf : D → LSp → LE} {x : Str} {z : Int}
@[simp] theorem eAskN_run : eAskN i n L ask A σ h Q E = (σ[i]? = some (some L) ∧ A σ h (fun ds h1 => ds.length = n ∧ ask ds h1 Q E) E) := (rfl)
@[simp] theorem eCallF_run : eCallF src G n i A σ h Q E = A σ h (fun ds h1 => ds.length = n ∧ ∃ L, ds[i]? = some L ∧ src σ L fun L' ask => G L' ask (ds.set i L') h1 Q E) E := (rfl)
@[simp] theorem eMethRF_run : eMethRF src C mm G o A kw σ h Q E = o σ h (fun x h1 => isIns C mm x h1 ∧ A σ h1 (fun ds h2 => kw σ h2 (fun d h3 => ds.length ≤ sizeLine ∧ src σ d fun L' ask => G L' ask [x, L', .tup ds] h3 Q E) E) E) E := (rfl)
@[simp] theorem eFnV_run : eFnV Site σ h Q E = ∀ L, Site L → Q L h := (rfl)
@[simp] theorem eLamF_run : eLamF i src b N mf σ h Q E = ∃ L, σ[i]? = some (some L) ∧ src σ L fun L' ask => eLam b N (mf L' ask) (σ.set i (some L')) h Q E := (rfl)
@[simp] theorem srcV_run : srcV L ask σ d R = (d = L ∧ R L ask) := (rfl)
@[simp] theorem srcL_run : srcL Site N js m σ d R = (Site d ∧ ∀ L', L'.isNon = false → R L' (askL N js m σ)) := (rfl)
@[simp] theorem eListRg_run : eListRg m σ h Q E = m σ h (fun d h1 => ∃ n : Int, d = .int n ∧ 0 ≤ n ∧ n ≤ 1000 ∧ Q (.lst (rngD 0 n.toNat)) h1) E := (rfl)
@[simp] theorem eDct1_run : eDct1 x z σ h Q E = Q (.dct [.inr x] [.int z]) h := (rfl)
end
end LL
end

section
set_option Elab.async false
set_option linter.all false
set_option maxRecDepth 100000
set_option maxHeartbeats 2000000
/-! LLNd: defs made in a def, as values; defs that make and return one. -/
namespace LL
open PySem PySem.Spec PyProof.Rows L2
variable {X : Cx} {W : WX}
/-- the table that a nested def needs -/
structure NdT (X : Cx) (T : List (Addr × Str)) (c P : Addr) (nm : Str) : Prop where
  tb : LamX.TabB X.base X.mg c P
  code : X.env.code = .ref c
  mem : (P, X.env.qual ++ nm) ∈ T
  uni : ∀ p ∈ T, p.1 = P → p.2 = X.env.qual ++ nm
theorem ndT_of {X : Cx} {p : He.Defn} {q nm : Str} (hm : (p, q) ∈ lamNames) (hc : PySem.W.codeHdIn X.K (He.cT X.K p).1 (He.cT X.K p).2 = true) (ht : tabsOk X.K = true) (tb : LamX.TabB X.base X.mg (He.cT X.K p).1 (He.cT X.K p).2) (hcode : X.env.code = .ref (He.cT X.K p).1) (hq : X.env.qual ++ nm = q) :
    NdT X (tabsK X.K) (He.cT X.K p).1 (He.cT X.K p).2 nm := by
  have m : ((He.cT X.K p).2, q) ∈ tabsK X.K := List.mem_map.mpr ⟨(p, q), List.mem_filter.mpr ⟨hm, hc⟩, rfl⟩
  subst hq
  exact ⟨tb, hcode, m, tabs_uni ht m⟩
def dfnP (f : Addr) (F : NdefX.NF) : Heap → Prop := fun h => ∃ od sl doc pm ctv, h.get? f = some ⟨.type "function", od, .func (F.fd doc pm ctv), sl⟩
theorem fnO_eq {f : Addr} {F : NdefX.NF} : NdefX.FnO f F = .ext (dfnP f F) := rfl
abbrev nfOf (X : Cx) (nm : Str) (params : Arguments) (body : List Stmt) (scope : Scope) (c' : Addr) : NdefX.NF := ⟨nm, X.env.qual ++ nm, params, body, scope, cloFrom X.env.cells scope.names [], c'⟩
/-- the value of a nested def -/
abbrev ndV (X : Cx) (nm : Str) (params : Arguments) (body : List Stmt) (scope : Scope) (f c' : Addr) (ι : Ad) (H : Hp) : D := .fn f [(f, dfnP f (nfOf X nm params body scope c')), (c', codeP c' (X.env.qual ++ nm))] ι H
def siteN (X : Cx) (nm : Str) (params : Arguments) (body : List Stmt) (scope : Scope) (L : D) : Prop := ∃ f c' ι H, L = ndV X nm params body scope f c' ι H
def askN (N : List Str) (js : List Nat) (b : LS) (σ : LV) : LSp := fun ds h Q E => b (startL N ds (js.map (slotD σ))) h (bodyK Q E)
theorem mono_askN {N : List Str} {js : List Nat} {b : LS} {σ : LV} (hb : MonoS b) : MonoP (askN N js b σ) := fun ds h Q Q' E E' hQ hE q =>
  hb _ h (bodyK Q E) (bodyK Q' E') ⟨fun _ h z => hQ _ h z, fun d h z => hQ d h z, fun _ _ z => z, fun _ _ z => z, fun c fs _ h z => hE c fs h z⟩ q
theorem call_nd {CX : CXT} {P : Program} {w : World} {K : Frag} {mg : Str → Option Value} {base : Heap} {N ps fr : List Str} {F : NdefX.NF} {f : Addr} {od : Option Addr} {doc pm ctv : Value} {sl : Array (Option Value)} {k : Nat}
    {A : Around} {outer : List Env} {s : Shared} {H : Hp} {us : List Value} {vs : List V} {ws : List (Option V)} {Q : VK} {E : XK} {t : TS} (S : NdefX.NScope N ps fr F.scope) (hb : bindArgs (F.fd doc pm ctv) ⟨us, []⟩ = pure (ps.zip us)) (hr : RoomG (k + 1) A) (e0 : Env0 P w K mg base A outer s H)
    (ho : s.heap.get? f = some ⟨.type "function", od, .func (F.fd doc pm ctv), sl⟩) (hc : s.heap.CodeRec (.ref F.c) F.qual) (C : NdefX.CellsAt F.cl fr ws s.heap H) (r : Vals vs us) (hl : vs.length = ps.length)
    (ht : PSs (NdefX.ncx CX P w K mg base N F f A outer s H E) F.body t) (hq : t { nx := fun _ H' => Q .non H', rt := Q } (NdefX.startF N vs ws) H) : codeAny (model P w) A (.call (.ref f) ⟨us, []⟩) (CR CX outer P w H s Q E) s := by
  have lim : s.heap.NoLimit := e0.mod.nolimit.keeps fun b o e => (e0.bs b o e).1
  refine codeAny_call_function hr.r.depth ho rfl S.co S.gen rfl hc ?_
  rw [hb]
  refine wpAny_pure (wpAny_newFunctionEnv S.nocell (fun ⟨n, v⟩ hy => S.par n (List.of_mem_zip hy).1) (fun h₁ hns hsb => ⟨lim.fresh _ hsb, ?_⟩) S.kind)
  show codeAny _ _ (.func F.body (NdefX.envF F f s.heap.objs.size)) _ _
  have kp : ∀ b o, s.heap.get? b = some o → h₁.get? b = some o := fun b o e => hsb.extBut b o (Nat.ne_of_lt (Heap.lt_size e)) (Heap.get?_push_of_some _ e)
  have J : Inv (NdefX.ncx CX P w K mg base N F f A outer s H E) [] (NdefX.startF N vs ws) H { s with heap := h₁, toks := s.toks + (ps.zip us).length } := NdefX.inv_startN S hr.r.hd e0 hl r C hns kp
  refine codeAny_func (wpAny_mono (ht.run [] _ _ H _ J hq) (fun fl s' hs => ?_) fun e s' hq => hq)
  have fin : ∀ {σ' : L2.St} {H' : Hp} {v : V} {u : Value}, Inv (NdefX.ncx CX P w K mg base N F f A outer s H E) [] σ' H' s' → L2.RelV v u → Q v H' → CE outer P w H s Q u s' :=
    fun {σ' H' v u} J rv q => ⟨v, H', J.os, J.bare, J.base, J.hok, rv, q⟩
  cases fl with
  | ret u =>
    obtain ⟨v, σ', H', J, rv, q⟩ := hs
    exact fin J rv q
  | next =>
    obtain ⟨σ', H', J, q⟩ := hs
    exact fin (v := V.non) (u := Value.none) J rfl q
  | brk =>
    obtain ⟨_, _, _, q⟩ := hs
    exact False.elim q
  | cont =>
    obtain ⟨_, _, _, q⟩ := hs
    exact False.elim q
theorem fnAt_nd {N ps fr : List Str} {js : List Nat} {nm : Str} {params : Arguments} {body : List Stmt} {scope : Scope} {k : Nat} {b : LS} {pins : List (Addr × Obj)} {σV : L2.St} {H : Hp} {s : Shared} {ι : Ad} {σ : LV} {f c' : Addr} (I : Inv X pins σV H s) (hS : RelS X.K ι H σ σV) (caps : NdefX.Caps X (cloFrom X.env.cells scope.names []) fr js) (S : NdefX.NScope N ps fr scope)
    (hb : ∀ (q : Str) (cl : List (Str × Addr)) (c' : Addr) (doc pm ctv : Value) (us : List Value), us.length = ps.length → bindArgs ((⟨nm, q, params, body, scope, cl, c'⟩ : NdefX.NF).fd doc pm ctv) ⟨us, []⟩ = pure (ps.zip us))
    (hbody : ∀ (f c' : Addr) (A : Around) (outer : List Env) (s : Shared) (H : Hp) (E : XK), RoomG k (A.deeper (NdefX.envF (nfOf X nm params body scope c') f s.heap.objs.size)) →
      JSs (NdefX.ncx (L2N.CX X.prog X.w) X.prog X.w X.K X.mg X.base N (nfOf X nm params body scope c') f A outer s H E) (fun cls d _ H => E cls d H) body b) :
    FnAt X.prog X.w X.K X.mg X.base (k + 1) ps.length (ndV X nm params body scope f c' ι H) (askN N js b σ) s H := by
  refine ⟨fun s1 H1 ι1 v u ok rL rv => ?_, fun A outer s1 H1 us vs v u ι1 ds h Q E hr e0 st r hH rL rv rs l q => ?_⟩
  · obtain ⟨rfl, hp, _⟩ := rL
    obtain rfl : u = Value.ref f := rv
    have hf := hp _ (List.mem_cons_self ..)
    obtain ⟨⟨od, sl, doc, pm, ctv, ho⟩, _⟩ := ok f _ hf
    exact ⟨f, rfl, _, _, _, _, ho⟩
  · obtain ⟨rfl, hp, ew⟩ := rL
    obtain rfl : u = Value.ref f := rv
    have hf := hp _ (List.mem_cons_self ..)
    have hc : H1 c' = some (LamX.CodeO c' (X.env.qual ++ nm)) := hp _ (List.mem_cons_of_mem _ (List.mem_cons_self ..))
    obtain ⟨⟨od, sl, doc, pm, ctv, ho⟩, _⟩ := e0.hok f _ hf
    have C := cells_still (NdefX.cells_of I caps) st
    have lu : us.length = ps.length := by rw [← r.length, ← rs.length, l]
    have j := hbody f c' A outer s1 H1 E (hr.deeper _)
    refine call_nd (F := nfOf X nm params body scope c') S (hb _ _ _ _ _ _ us lu) hr e0 ho (NdefX.codeO_at e0.hok hc) C r (by rw [← rs.length, l]) j.run ?_
    refine ⟨ι1, H1, ι1, _, h, .refl _ _, relS_startL rs hS ew, hH, ?_⟩
    refine j.mono _ _ _ _ ?_ q
    exact ⟨fun σ' h' q' ι' σV' H' e' _ hH' => q' ι' .non H' e' hH' rfl, fun d h' q' ι' v H' e' hH' r' => q' ι' v H' e' hH' r', fun _ _ z => z.elim, fun _ _ z => z.elim, fun c fs σ' h' q' ι' dx σV' H' e' _ hH' r' => q' ι' dx H' e' hH' r'⟩
/-! ### a def in a def, as a statement -/
def sNd (i : Nat) (Site : D → Prop) : LS := fun σ h K => ∀ L, Site L → K.nx (σ.set i (some L)) h
theorem RelS.setA {K : Frag} {ι : Ad} {H : Hp} {σ : LV} {σV : L2.St} (hS : RelS K ι H σ σV) {i : Nat} {d : D} {v : V} (r : RelD K ι H d v) : RelS K ι H (σ.set i (some d)) (σV.set i (some v)) := by
  refine ⟨by rw [List.length_set, List.length_set]; exact hS.1, fun j d' e => ?_⟩
  by_cases z : i = j
  · subst z
    rw [List.getElem?_set] at e
    split at e
    · split at e
      · cases e
        refine ⟨v, ?_, r⟩
        rw [List.getElem?_set_self (by rw [← hS.1]; assumption)]
      · cases e
    · rename_i z; exact absurd rfl z
  · rw [List.getElem?_set_ne z] at e
    obtain ⟨v', e1, r1⟩ := hS.2 j d' e
    exact ⟨v', by rw [List.getElem?_set_ne z]; exact e1, r1⟩
abbrev tabsNK (K : Frag) : List NdefX.NTab := (tabsK K).map fun p => (p.1, fun _ _ => p.2)
theorem tabsN_of {K : Frag} {H : Hp} (h : LamX.Tabs (tabsK K) H) : NdefX.TabsN (tabsNK K) H := fun p hp => by
  obtain ⟨x, hx, rfl⟩ := List.mem_map.mp hp
  exact NdefX.TabN.of (h x hx)
theorem tabsN_to {K : Frag} {H : Hp} (h : NdefX.TabsN (tabsNK K) H) : LamX.Tabs (tabsK K) H := fun p hp =>
  NdefX.TabN.to (h (p.1, fun _ _ => p.2) (List.mem_map.mpr ⟨p, hp, rfl⟩))
section
variable {nm : Str} {params : Arguments} {body : List Stmt} {scope : Scope} {pos : Pos} {i : Nat} {cl P : Addr}
theorem ps_nd (LT : NdT X (tabsK X.K) cl P nm) (hfree : ∀ y ∈ scope.names, y.2 = .free → X.env.scope.names.lookup y.1 = some .cell ∨ X.env.scope.names.lookup y.1 = some .free) (hd : params.defaults = []) (hk : params.kw_defaults = []) (ha : annTrees params none X.env = []) (hN : X.N.Nodup) (hi : X.N[i]? = some nm) (hl : Loc X.env.scope nm) (hfn : X.fn nm = true ∨ X.env.scope.names.lookup nm = some .local) :
    PS X (.FunctionDef nm params body [] none [] scope none nm pos) (NdefX.tNdef (tabsNK X.K) i fun c' => nfOf X nm params body scope c') :=
  NdefX.ps_ndef (nm := fun _ _ => X.env.qual ++ nm) LT.tb LT.code (List.mem_map.mpr ⟨_, LT.mem, rfl⟩) rfl (fun p hp e => by
    obtain ⟨x, hx, rfl⟩ := List.mem_map.mp hp
    show (fun _ _ => x.2) = _
    rw [LT.uni x hx e]) hfree hd hk ha hN hi hl hfn
theorem js_nd (h : PS X (.FunctionDef nm params body [] none [] scope none nm pos) (NdefX.tNdef (tabsNK X.K) i fun c' => nfOf X nm params body scope c')) : JS X W (.FunctionDef nm params body [] none [] scope none nm pos) (sNd i (siteN X nm params body scope)) := by
  refine ⟨fun σ h A B l q L s => l.nx _ _ (q L s), PS.weak h fun Dn σV H ⟨ι0, H0, ι, σ, h, e, hS, hH, q⟩ => ⟨tabsN_of hH.tabs, fun f c' H1 eN T1 nf hf hc => ?_⟩⟩
  have e1 : Ext ι H ι H1 := Ext.nt (K := X.K) (h := h) eN
  exact q _ ⟨f, c', ι, H1, rfl⟩ ι _ H1 (e.trans e1) ((hS.ext e1).setA ⟨rfl, fun p hp => by
    simp only [List.mem_cons, List.not_mem_nil, or_false] at hp
    rcases hp with rfl | rfl
    · exact hf
    · exact hc, .refl _ _⟩) (hH.nt eN (tabsN_to T1))
end
/-- a def made here -/
def srcN (Site : D → Prop) (N : List Str) (js : List Nat) (b : LS) : Src := fun σ L R => Site L ∧ ∀ L', L'.isNon = false → R L' (askN N js b σ)
theorem knows_nd {N ps fr : List Str} {js : List Nat} {nm : Str} {params : Arguments} {body : List Stmt} {scope : Scope} {k : Nat} {b : LS} (hr : RoomG (k + 1) X.A) (hfree : ∀ y ∈ scope.names, y.2 = .free → X.env.scope.names.lookup y.1 = some .cell ∨ X.env.scope.names.lookup y.1 = some .free) (hfr : ∀ y ∈ fr, (y, NameKind.free) ∈ scope.names) (hjs : js.map (fun j => X.N[j]?) = fr.map some)
    (S : NdefX.NScope N ps fr scope) (hb : ∀ (q : Str) (cl : List (Str × Addr)) (c' : Addr) (doc pm ctv : Value) (us : List Value), us.length = ps.length → bindArgs ((⟨nm, q, params, body, scope, cl, c'⟩ : NdefX.NF).fd doc pm ctv) ⟨us, []⟩ = pure (ps.zip us))
    (hbody : ∀ (f c' : Addr) (A : Around) (outer : List Env) (s : Shared) (H : Hp) (E : XK), RoomG k (A.deeper (NdefX.envF (nfOf X nm params body scope c') f s.heap.objs.size)) →
      JSs (NdefX.ncx (L2N.CX X.prog X.w) X.prog X.w X.K X.mg X.base N (nfOf X nm params body scope c') f A outer s H E) (fun cls d _ H => E cls d H) body b) :
    Knows X (k + 1) ps.length (srcN (siteN X nm params body scope) N js b) := by
  have hm : MonoS b := (hbody 0 0 X.A [] X.s_0 X.H_0 (fun _ _ _ => False) (hr.deeper _)).mono
  refine ⟨fun σ L R R' h ⟨e, r⟩ => ⟨e, fun L' z => h _ _ (mono_askN hm) (r L' z)⟩, fun pins σV H s ι σ L v R I hS rL ⟨⟨f, c', ι0, H0, e⟩, r⟩ => ?_⟩
  subst e
  obtain ⟨e1, e2, _⟩ := rL
  have rL' : RelD X.K ι H (ndV X nm params body scope f c' ι H) v := ⟨e1, e2, .refl _ _⟩
  exact ⟨_, _, r _ rfl, rL', mono_askN hm, fnAt_nd I hS (NdefX.Caps.made I.ok hfree hfr hjs) S hb hbody⟩
/-! ### a def that makes a def and returns it -/
structure KeepsM (P : Program) (w : World) (K : Frag) (mg : Str → Option Value) (base : Heap) (k : Nat) (f : Addr) (n kf nf : Nat) (ask : List D → LSp) : Prop where
  mono : ∀ ds, MonoP (ask ds)
  ok : ∃ (fd : FuncData) (ps : List Str), ps.length = n ∧ Binds K fd ps [] ∧ ∀ (A : Around) (outer : List Env) (s : Shared) (H : Hp) (args : Args) (us : List Value) (vs : List V) (ι : Ad) (ds : List D) (h : LH),
    RoomG k A → Env0 P w K mg base A outer s H → BindsTo s fd args (ps.zip us) → Vals vs us → RelH K ι H h → RelDs K ι H ds vs → ds.length = n →
    codeAny (model P w) A (.call (.ref f) args) (fun r s' => ∃ L v ι' H', L.isNon = false ∧ Ext ι H ι' H' ∧ RelH K ι' H' h ∧ RelD K ι' H' L v ∧ FnAt P w K mg base kf nf L (ask ds) s' H' ∧ CR (L2N.CX P w) outer P w H s (fun v' H'' => v' = v ∧ H'' = H') (fun _ _ _ => False) r s') s
theorem KeepsM.up {P : Program} {w : World} {K : Frag} {mg : Str → Option Value} {base : Heap} {j k : Nat} {f : Addr} {n kf nf : Nat} {ask : List D → LSp} (h : KeepsM P w K mg base j f n kf nf ask) (l : j ≤ k) : KeepsM P w K mg base k f n kf nf ask :=
  ⟨h.mono, let ⟨fd, ps, e, b, r⟩ := h.ok; ⟨fd, ps, e, b, fun A outer s H args us vs ι ds hh hr => r A outer s H args us vs ι ds hh (hr.mono l)⟩⟩
theorem keepsM_of {P : Program} {w : World} {K : Frag} {mg : Str → Option Value} {base : Heap} {x qual nm : Str} {params ip : Arguments} {ib : List Stmt} {isc : Scope} {pos vp rp : Pos} {scope : Scope} {dvs : List V} {kws : List (Str × V)} {f : Addr} {fd : FuncData} {N ps M ips fr : List Str} {k kf n i : Nat} {js : List Nat} {b : LS}
    (F : FunD K x qual params [.FunctionDef nm ip ib [] none [] isc none nm pos, .Return (some (.Name nm vp)) rp] scope dvs kws f fd) (S : FnScope N ps scope) (hn : ps.length = n) (hb : Binds K fd ps []) (hi : N[i]? = some nm) (hij : i ∉ js) (hm : MonoS b)
    (hvis : Vis scope nm) (hdb : (nm == ("__debug__" : Str)) = false) (hcd : (nm == ("__classdict__" : Str)) = false)
    (hdef : ∀ (cdv : Value) (A : Around) (outer : List Env) (s : Shared) (H : Hp) (E : XK), CodeAt K f cdv → PS (cxOf (L2N.CX P w) P w K mg base N qual scope f cdv A outer s H E) (.FunctionDef nm ip ib [] none [] isc none nm pos) (NdefX.tNdef (tabsNK K) i fun c' => nfOf (cxOf (L2N.CX P w) P w K mg base N qual scope f cdv A outer s H E) nm ip ib isc c'))
    (hkn : ∀ (cdv : Value) (A : Around) (outer : List Env) (s : Shared) (H : Hp) (E : XK), CodeAt K f cdv → RoomG k (A.deeper (envOfC qual scope s.heap.objs.size f cdv)) → Knows (cxOf (L2N.CX P w) P w K mg base N qual scope f cdv A outer s H E) kf ips.length (srcN (siteN (cxOf (L2N.CX P w) P w K mg base N qual scope f cdv A outer s H E) nm ip ib isc) M js b)) :
    KeepsM P w K mg base (k + 1) f n kf ips.length (fun ds => askN M js b (startD N ds)) := by
  obtain ⟨oc, od, dV, kV, doc, pm, an, cdv, ct, osl, rfl, lk, hcdv, _, _⟩ := F.ex
  refine ⟨fun ds => mono_askN hm, _, ps, hn, hb, fun A outer s H args us vs ι ds h hr e0 hbt hv' hH r l => ?_⟩
  have lim : s.heap.NoLimit := e0.mod.nolimit.keeps fun b o e => (e0.bs b o e).1
  have hkind : ∀ y ∈ ps.zip us, scope.names.lookup y.1 = some .local ∨ (scope.names.lookup y.1 = some .cell ∧ ((cellsFrom (s.heap.objs.size + 1) scope.names []).lookup y.1).isSome = true) := fun ⟨n, v⟩ hy => by
    rcases S.par n (List.of_mem_zip hy).1 with q | q
    · exact .inl q
    · exact .inr ⟨q, PySem.W.cellsFrom_some _ _ _ (.inl q)⟩
  have KX : K.In s.heap := e0.mod.kin.keeps fun b o e => (e0.bs b o e).1
  have hl : vs.length = ps.length := by rw [← r.length, l, hn]
  refine codeAny_call_function hr.r.depth (KX _ _ lk) rfl S.co S.gen rfl (PySem.W.codeRec_of KX hcdv) (hbt _ _ _ _ ?_)
  refine wpAny_newFunctionEnv_cells S.kind hkind fun env he s1 x1 => ?_
  subst he
  refine ⟨lim.keeps x1.toInCall.keep, codeAny_func ?_⟩
  have hca : CodeAt K f cdv := ⟨_, _, _, _, lk, rfl, _, hcdv⟩
  have pd := hdef cdv A outer s H (fun _ _ _ => False) hca
  have kn := hkn cdv A outer s H (fun _ _ _ => False) hca (hr.deeper _)
  have I : Inv (cxOf (L2N.CX P w) P w K mg base N qual scope f cdv A outer s H (fun _ _ _ => False)) [] (L2.start N vs) H s1 := inv_start S hr.r.hd e0 hl hv' x1
  have first := pd.run [] s1 (L2.start N vs) H { nx := fun σ' H' => ∃ (g c' : Addr), σ' = (L2.start N vs).set i (some (.ref g)) ∧ LamX.ExtN H H' ∧ LamX.Tabs (tabsK K) H' ∧ H' g = some (NdefX.FnO g (nfOf (cxOf (L2N.CX P w) P w K mg base N qual scope f cdv A outer s H (fun _ _ _ => False)) nm ip ib isc c')) ∧ H' c' = some (LamX.CodeO c' ((envOfC qual scope s.heap.objs.size f cdv).qual ++ nm)), rt := fun _ _ => False } I
    ⟨tabsN_of hH.tabs, fun g c' H1 eX T1 nf hf hc => ⟨g, c', rfl, eX, tabsN_to T1, hf, hc⟩⟩
  refine wpAny_execs_cons (wpAny_mono first (fun fl s2 hs => ?_) fun e s' hq => wpAny_mono hq (fun _ s'' z => ?_) fun e' s'' z => ?_)
  · cases fl with
    | ret u => obtain ⟨_, _, _, _, _, q⟩ := hs; exact q.elim
    | brk => obtain ⟨_, _, _, q⟩ := hs; exact q.elim
    | cont => obtain ⟨_, _, _, q⟩ := hs; exact q.elim
    | next =>
      obtain ⟨σ', H', J, g, c', rfl, eX, T1, hf, hc⟩ := hs
      have hin : i < (L2.start N vs).length := by
        rw [I.len]; exact (List.getElem?_eq_some_iff.mp hi).1
      refine wpAny_execs_cons (wpAny_Return_some (wpAny_mono ((pe_var (X := cxOf (L2N.CX P w) P w K mg base N qual scope f cdv A outer s H (fun _ _ _ => False)) (i := i) (pos := vp) hi hvis hdb hcd).run [] s2 _ H' (fun v H'' => v = .ref g ∧ H'' = H') J ⟨.ref g, by rw [List.getElem?_set_self hin], rfl, rfl⟩) (fun u s3 hu => ?_) fun e s' hq => wpAny_mono hq (fun _ s'' z => ?_) fun e' s'' z => ?_))
      · obtain ⟨v, H'', J3, rv, rfl, rfl⟩ := hu
        have e1 : Ext ι H ι H'' := Ext.nt (K := K) (h := h) eX
        have rL : RelD K ι H'' (ndV (cxOf (L2N.CX P w) P w K mg base N qual scope f cdv A outer s H (fun _ _ _ => False)) nm ip ib isc g c' ι H'') (.ref g) := ⟨rfl, fun p hp => by
          simp only [List.mem_cons, List.not_mem_nil, or_false] at hp
          rcases hp with rfl | rfl
          · exact hf
          · exact hc, .refl _ _⟩
        have hS : RelS K ι H'' ((startD N ds).set i (some (ndV (cxOf (L2N.CX P w) P w K mg base N qual scope f cdv A outer s H (fun _ _ _ => False)) nm ip ib isc g c' ι H''))) ((L2.start N vs).set i (some (.ref g))) := ((rel_start r).ext e1).setA rL
        have ask : askN M js b ((startD N ds).set i (some (ndV (cxOf (L2N.CX P w) P w K mg base N qual scope f cdv A outer s H (fun _ _ _ => False)) nm ip ib isc g c' ι H''))) = askN M js b (startD N ds) := by
          have : js.map (slotD ((startD N ds).set i (some (ndV (cxOf (L2N.CX P w) P w K mg base N qual scope f cdv A outer s H (fun _ _ _ => False)) nm ip ib isc g c' ι H'')))) = js.map (slotD (startD N ds)) := List.map_congr_left fun j hj => by
            have ne : i ≠ j := fun z => hij (by rw [z]; exact hj)
            show (_ : Option (Option D)).join = (_ : Option (Option D)).join
            rw [List.getElem?_set_ne ne]
          unfold askN
          rw [this]
        obtain ⟨L', ask', ⟨nn, ea⟩, rL', _, fa⟩ := kn.run [] _ H'' s3 ι _ _ _ (fun L' a => L'.isNon = false ∧ a = askN M js b (startD N ds)) J3 hS rL ⟨⟨_, _, _, _, rfl⟩, fun L' z => ⟨z, ask⟩⟩
        subst ea
        exact ⟨L', .ref g, ι, H'', nn, e1, hH.nt eX T1, rL', fa, .ref g, H'', J3.os, J3.bare, J3.base, J3.hok, rv, rfl, rfl⟩
      · obtain ⟨_, _, _, _, _, _, _, _, _, _, _, _, q⟩ := z; exact q.elim
      · obtain ⟨_, _, _, _, _, _, _, _, _, _, _, _, q⟩ := z; exact q.elim
  · obtain ⟨_, _, _, _, _, _, _, _, _, _, _, _, q⟩ := z; exact q.elim
  · obtain ⟨_, _, _, _, _, _, _, _, _, _, _, _, q⟩ := z; exact q.elim
/-! ### evaluated, with all that is known then -/
theorem JE.go {e : Expr} {m : LE} (j : JE X W e m) {pins : List (Addr × Obj)} {σV : L2.St} {H : Hp} {s : Shared} {ι : Ad} {σ : LV} {h : LH} (I : Inv X pins σV H s) (hS : RelS X.K ι H σ σV) (hH : RelH X.K ι H h) {Q : D → LH → Prop} {E : XL} (q : m σ h Q E) {R : Value → Shared → Prop}
    (k : ∀ d h' ι' v H' u s', Q d h' → Ext ι H ι' H' → Inv X pins σV H' s' → RelH X.K ι' H' h' → RelD X.K ι' H' d v → L2.RelV v u → R u s') (kx : ∀ c fs h' ι' dx H', E c fs h' → Ext ι H ι' H' → RelH X.K ι' H' h' → RelX X.K ι' H' fs dx → WE W σV (.ref (He.ga X.K c)) dx H') :
    wpAny (model X.prog X.w) X.A (eval e X.env) R X.xe s :=
  thn (j.run.run pins s σV H (fun v H' => ∃ ι' d h', Q d h' ∧ Ext ι H ι' H' ∧ RelH X.K ι' H' h' ∧ RelD X.K ι' H' d v) I
    ⟨ι, σ, h, hS, hH, j.mono _ _ _ _ _ _ (fun d h' q ι' v H' e hH' r => ⟨ι', d, h', q, e, hH', r⟩) (fun c fs h' q ι' dx H' e hH' r => kx c fs h' ι' dx H' q e hH' r) q⟩)
    fun u s' ⟨v, H', I', rv, ι', d, h', q, e, hH', r⟩ => k d h' ι' v H' u s' q e I' hH' r rv
theorem JA.go {es : List Expr} {m : LX (List D)} (j : JA X W es m) (pos : Pos) {pins : List (Addr × Obj)} {σV : L2.St} {H : Hp} {s : Shared} {ι : Ad} {σ : LV} {h : LH} (I : Inv X pins σV H s) (hS : RelS X.K ι H σ σV) (hH : RelH X.K ι H h) {Q : List D → LH → Prop} {E : XL} (q : m σ h Q E) {R : List Value → Shared → Prop}
    (k : ∀ ds h' ι' vs H' us s', Q ds h' → Ext ι H ι' H' → Inv X pins σV H' s' → RelH X.K ι' H' h' → RelDs X.K ι' H' ds vs → Vals vs us → R us s') (kx : ∀ c fs h' ι' dx H', E c fs h' → Ext ι H ι' H' → RelH X.K ι' H' h' → RelX X.K ι' H' fs dx → WE W σV (.ref (He.ga X.K c)) dx H') :
    wpAny (model X.prog X.w) X.A (spliced (backTo pos (starEach es X.env))) R X.xe s :=
  thn (j.run.run pos pins s σV H (fun vs H' => ∃ ι' ds h', Q ds h' ∧ Ext ι H ι' H' ∧ RelH X.K ι' H' h' ∧ RelDs X.K ι' H' ds vs) I
    ⟨ι, σ, h, hS, hH, j.mono _ _ _ _ _ _ (fun d h' q ι' v H' e hH' r => ⟨ι', d, h', q, e, hH', r⟩) (fun c fs h' q ι' dx H' e hH' r => kx c fs h' ι' dx H' q e hH' r) q⟩)
    fun us s' ⟨vs, H', I', rv, ι', d, h', q, e, hH', r⟩ => k d h' ι' vs H' us s' q e I' hH' r rv
/-! ### f(a, b, g(..)): g makes a def -/
def eCall3M (m1 m2 : LE) (A2 : LX (List D)) (n2 : Nat) (ask : List D → LSp) (G : D → LSp → LSp) : LE := fun σ h Q E =>
  m1 σ h (fun d1 h1 => m2 σ h1 (fun d2 h2 => A2 σ h2 (fun ds h3 => ds.length = n2 ∧ ∀ L, L.isNon = false → G L (ask ds) [d1, d2, L] h3 Q E) E) E) E
theorem mono_call3M {m1 m2 : LE} {A2 : LX (List D)} {n2 : Nat} {ask : List D → LSp} {G : D → LSp → LSp} (hA : ∀ ds, MonoP (ask ds)) (hG : ∀ L a, MonoP a → MonoP (G L a)) (h1 : Mono m1) (h2 : Mono m2) (h3 : Mono A2) : Mono (eCall3M m1 m2 A2 n2 ask G) := fun σ h Q Q' E E' hQ hE q =>
  h1 σ h _ _ _ _ (fun d1 h' q1 => h2 σ h' _ _ _ _ (fun d2 h'' q2 => h3 σ h'' _ _ _ _ (fun ds h3 ⟨l, q3⟩ => ⟨l, fun L z => hG L _ (hA ds) _ _ _ _ _ _ hQ hE (q3 L z)⟩) hE q2) hE q1) hE q
theorem je_call3M {k k2 n2 kf nf : Nat} {f f2 : Addr} {G : D → LSp → LSp} {ask : List D → LSp} {x y : Str} {e1 e2 e3 : Expr} {es3 : List Expr} {m1 m2 : LE} {A2 : LX (List D)} {p pos p2 pos2 : Pos}
    (F : KeepsF X.prog X.w X.K X.mg X.base k f 3 2 kf nf G) (M : KeepsM X.prog X.w X.K X.mg X.base k2 f2 n2 kf nf ask) (hr : RoomG k X.A) (hr2 : RoomG k2 X.A) (hm : X.mg x = some (.ref f)) (hk : PySem.W.keepIn X.K (.ref f) = true) (hm2 : X.mg y = some (.ref f2)) (hk2 : PySem.W.keepIn X.K (.ref f2) = true) (tk : L2N.Takes X W)
    (h1 : JE X W e1 m1) (h2 : JE X W e2 m2) (h3 : JA X W (e3 :: es3) A2) (hg : Gl X x := by rfl) (hg2 : Gl X y := by rfl) (hdb : (x == ("__debug__" : Str)) = false := by decide) (hdb2 : (y == ("__debug__" : Str)) = false := by decide)
    (hs : starEach [e1, e2, .Call (.Name y p2) (e3 :: es3) [] pos2] X.env = [(false, eval e1 X.env), (false, eval e2 X.env), (false, eval (.Call (.Name y p2) (e3 :: es3) [] pos2) X.env)] := by rfl)
    (he : starEach [e1, e2, .Call (.Name y p2) (e3 :: es3) [] pos2] X.env = (false, eval e1 X.env) :: starEach [e2, .Call (.Name y p2) (e3 :: es3) [] pos2] X.env := by rfl) (hpl : (backTo pos (starEach [e2, .Call (.Name y p2) (e3 :: es3) [] pos2] X.env)).any (·.1) = false := by rfl)
    (he2 : starEach (e3 :: es3) X.env = (false, eval e3 X.env) :: starEach es3 X.env := by rfl) (hpl2 : (backTo pos2 (starEach es3 X.env)).any (·.1) = false := by rfl) :
    JE X W (.Call (.Name x p) [e1, e2, .Call (.Name y p2) (e3 :: es3) [] pos2] [] pos) (eCall3M m1 m2 A2 n2 ask G) := by
  obtain ⟨hG, fd, ps, hn, b, F⟩ := F
  obtain ⟨hA, fd2, ps2, hn2, b2, M⟩ := M
  refine ⟨mono_call3M hA hG h1.mono h2.mono h3.mono, ⟨fun pins s σV H Q I q => ?_⟩⟩
  obtain ⟨ι, σ, h, hS, hH, q⟩ := q
  refine wpAny_Call_Name_kw (ld_glob I hg hm (PySem.W.callWith_K (h₀ := X.base) I.ok.mod.kin hk ?_ he hpl) hdb)
  rw [hs]
  show wpAny _ _ (spliced [(false, eval e1 X.env), (false, eval e2 X.env), (false, eval (.Call (.Name y p2) (e3 :: es3) [] pos2) X.env)]) _ _ s
  refine Calls.spliced_cons (h1.go I hS hH q (fun d1 h1' ι1 v1 H1 u1 s1 q1 x1 I1 hH1 r1 rv1 => ?_) fun c fs h' ι' dx H' z x hh r => z ι' dx H' x hh r)
  refine Calls.spliced_cons (h2.go I1 (hS.ext x1) hH1 q1 (fun d2 h2' ι2 v2 H2 u2 s2 q2 x2 I2 hH2 r2 rv2 => ?_) fun c fs h' ι' dx H' z x hh r => z ι' dx H' (x1.trans x) hh r)
  refine Calls.spliced_cons (wpAny_Call_Name_kw (ld_glob I2 hg2 hm2 (PySem.W.callWith_K (h₀ := X.base) I2.ok.mod.kin hk2 (h3.go pos2 I2 (hS.ext (x1.trans x2)) hH2 q2 (fun ds h3' ι3 vs H3 us s3 q3 x3 I3 hH3 r3 rv3 => ⟨I3.kIn, ?_⟩) fun c fs h' ι' dx H' z x hh r => z ι' dx H' ((x1.trans x2).trans x) hh r) he2 hpl2) hdb2))
  obtain ⟨l3, q3⟩ := q3
  have lu : us.length = ps2.length := by rw [← rv3.length, ← r3.length, l3, hn2]
  have bt := b2 s3 us I3.kIn (by rw [List.append_nil]; exact lu)
  rw [List.append_nil] at bt
  refine wpAny_call (codeAny_mono (M X.A X.stack s3 H3 ⟨us, []⟩ us vs ι3 ds h3' hr2 I3.env0 bt rv3 hH3 r3 l3) fun r s4 ⟨L, v, ι4, H4, nn, x4, hH4, rL, fa, hq⟩ => ?_)
  have hq' : CR (L2N.CX X.prog X.w) X.stack X.prog X.w H3 s3 (fun v' H'' => v' = v ∧ H'' = H4) (WE W σV) r s4 := by
    cases r with
    | ok fl => cases fl <;> exact hq
    | error e => obtain ⟨_, _, _, _, _, _, _, _, _, _, _, _, z⟩ := hq; exact z.elim
  have w4 := ret_of (L2N.passAt tk σV) I3 hq'
  cases r with
  | error e => exact w4
  | ok fl =>
    cases fl with
    | next => exact w4.elim
    | brk => exact w4.elim
    | cont => exact w4.elim
    | ret u3 =>
      obtain ⟨v', H', I4, rv4, rfl, rfl⟩ := w4
      refine Calls.spliced_nil ⟨I4.kIn, ?_⟩
      have x23 := x3.trans x4
      have ra : RelDs X.K ι4 H' [d1, d2, L] [v1, v2, v'] := ⟨_, _, rfl, (r1.ext x2).ext x23, _, _, rfl, r2.ext x23, _, _, rfl, rL, rfl⟩
      have rva : Vals [v1, v2, v'] [u1, u2, u3] := .cons rv1 (.cons rv2 (.cons rv4 .nil))
      have bt1 := b s4 [u1, u2, u3] I4.kIn (by rw [List.append_nil]; exact hn.symm)
      rw [List.append_nil] at bt1
      have x03 := (x1.trans x2).trans x23
      exact wpAny_call (codeAny_mono (F X.A X.stack s4 H' ⟨[u1, u2, u3], []⟩ [u1, u2, u3] [v1, v2, v'] Q (WE W σV) ι4 [d1, d2, L] h3' L (ask ds) hr I4.env0 bt1 rva hH4 ra rfl rfl (hA ds) fa
        (hG L _ (hA ds) _ _ _ _ _ _ (fun d h' q' ι' v H' e' => q' ι' v H' (x03.trans e')) (fun c fs h' q' ι' dx H' e' => q' ι' dx H' (x03.trans e')) (q3 L nn))) fun r s' hq => ret_of (L2N.passAt tk σV) I4 hq)
end LL
end

section
set_option Elab.async false
set_option linter.all false
set_option maxRecDepth 100000
set_option maxHeartbeats 2000000
/-! LLSame: an instance without an own == is equal to itself; bodies are monotone. -/
namespace LL
open PySem PySem.Spec PyProof.Rows L2
variable {X : Cx} {W : WX}
def strKeysB (es : Array DictEntry) : Bool := es.toList.all fun e => match e.key with | .str _ _ => true | _ => false
theorem strKeysB_ok {es : Array DictEntry} (h : strKeysB es = true) : StrKeys es := fun e he => by
  have := List.all_eq_true.mp h e (Array.mem_toList_iff.mpr he)
  split at this
  · rename_i n t z; exact ⟨n, t, z⟩
  · cases this
/-- a class without own == and != -/
def cmpB (K : Frag) (x : Str) : Bool := match K.lookup (He.ga K x) with
  | some ⟨.type "type", _, .cls cd, sl⟩ => (match cd.mro, sl.toList with
    | [.ref C', .type t], [_, _, _, _, some (.builtin n), _] => C' == He.ga K x && (n == "object.__new__" && (t == "object" && (!cd.hasDel && (cd.hasDict && (!cd.abstract && (match K.lookup cd.ns with
      | some ⟨_, _, .dict es _, _⟩ => strKeysB es && ((nsFind es "__eq__").isNone && (nsFind es "__ne__").isNone)
      | _ => false))))))
    | _, _ => false)
  | _ => false
theorem cmpB_ok {K : Frag} {x : Str} {hp : Heap} (KI : K.In hp) (h : cmpB K x = true) : CmpCls hp (He.ga K x) := by
  unfold cmpB at h
  split at h
  · rename_i dd cd sl ho
    split at h
    · rename_i C' t k0 k1 k2 k3 n k5 hm hs
      obtain ⟨g1, g⟩ := He.ba h
      obtain ⟨g2, g⟩ := He.ba g
      obtain ⟨g3, g⟩ := He.ba g
      obtain ⟨g4, g⟩ := He.ba g
      obtain ⟨g5, g⟩ := He.ba g
      obtain ⟨g6, g7⟩ := He.ba g
      have e1 := beq_iff_eq.mp g1
      have e2 := beq_iff_eq.mp g2
      have e3 := beq_iff_eq.mp g3
      have e4 : cd.hasDel = false := by simpa using g4
      have e6 : cd.abstract = false := by simpa using g6
      obtain ⟨nm, bs, mro, ns, qn, hd, sn, sub, ab, col, del⟩ := cd
      dsimp only at hm e4 g5 e6 g7
      subst hm e4 g5 e6
      have hsl : sl = #[k0, k1, k2, k3, some (.builtin n), k5] := by
        obtain ⟨l⟩ := sl
        simp only at hs
        rw [hs]
      subst hsl e2 e3
      rw [e1] at ho
      split at g7
      · rename_i oc od es ep osl hn
        obtain ⟨f1, f⟩ := He.ba g7
        obtain ⟨f2, f3⟩ := He.ba f
        exact ⟨ns, fun y => nsFind es y, ⟨⟨nm, qn, bs, sn, sub, col, dd, k0, k1, k2, k3, k5, KI _ _ ho⟩, ⟨_, es, ep, KI _ _ hn, rfl, strKeysB_ok f1, fun _ => rfl⟩⟩, Option.isNone_iff_eq_none.mp f2, Option.isNone_iff_eq_none.mp f3⟩
      · cases g7
    · cases h
  · cases h
def rSame (K : Frag) (C : Str) : R2 := fun x y H Q => ∃ a dx fs, x = .ref a ∧ y = .ref a ∧ H a = some (.ins (He.ga K C) dx fs) ∧ Q (.bl true) H
theorem op_same {k : Nat} {C : Str} (hr : RoomG k X.A) (hc : cmpB X.K C = true) : OpR X (compareOp .Eq) (rSame X.K C) := fun pins s σ H x y v u Q I rx ry ⟨a, dx, fs, e1, e2, ha, q⟩ => by
  subst e1 e2
  obtain rfl : v = Value.ref a := rx
  obtain rfl : u = Value.ref a := ry
  obtain ⟨m, hns, _⟩ := I.loc
  obtain ⟨_, _, ne, ho, mA, hd, _, _⟩ := I.hok a _ ha
  exact eq_same_T ⟨hns, I.bk, Nat.le_trans I.ok.bsz I.ok.above⟩ ⟨_, ho, rfl, fun c z => (by cases z), .inr ⟨dx, rfl, ne, hd⟩⟩ (cmpB_ok I.mod.kin hc) (Nat.lt_of_le_of_lt (Nat.le_add_right _ 64) hr.r.units) ⟨.bl true, H, I, rfl, q⟩
def oSame (C : Str) : LOp := fun x y h Q => ∃ n fs, x = .ref n ∧ y = .ref n ∧ h[n]? = some (.ins C fs) ∧ Q (.bl true) h
theorem opsSame {K : Frag} {C : Str} : OpS K (rSame K C) (oSame C) := by
  refine ⟨fun x y h Q Q' hQ ⟨n, fs, a, b, c, q⟩ => ⟨n, fs, a, b, c, hQ _ _ q⟩, fun ι H h x y vx vy Q Qv hH rx ry ⟨n, fs, e1, e2, hn, q⟩ k => ?_⟩
  subst e1 e2
  obtain ⟨a, ha, rfl⟩ := rx
  obtain ⟨a', ha', rfl⟩ := ry
  rw [ha] at ha'
  cases ha'
  obtain ⟨dx, vs, h1, _⟩ := hH.ins ha hn
  exact ⟨a, dx, vs, rfl, rfl, h1, k _ h ι _ H q (.refl _ _) hH rfl⟩
section
variable {k : Nat} {C : Str} {a b : Expr} {A B : LE} {pos : Pos}
theorem je_same (hr : RoomG k X.A) (hc : cmpB X.K C = true) (ha : JE X W a A) (hb : JE X W b B) : JE X W (.Compare a [.Eq] [b] pos) (eOp (oSame C) A B) := je_cmp (op_same hr hc) opsSame ha hb (nomark _)
theorem jt_same (hr : RoomG k X.A) (hc : cmpB X.K C = true) (ha : JE X W a A) (hb : JE X W b B) : JT X W (.Compare a [.Eq] [b] pos) (eTest (eOp (oSame C) A B)) := jt_cmp (op_same hr hc) opsSame ha hb (nomark _)
end
@[simp] theorem oSame_run {C : Str} {x y : D} {h : LH} {Q : D → LH → Prop} : oSame C x y h Q = (∃ n fs, x = .ref n ∧ y = .ref n ∧ h[n]? = some (.ins C fs) ∧ Q (.bl true) h) := (rfl)
/-! ### a slice that is changed later -/
def eSlM (m : LE) (lo hi : LO) : LE := fun σ h Q E => m σ h (fun x h1 => lo σ h1 (fun l h2 => hi σ h2 (fun u h3 => seqL x h3 fun ds => Q (.ref h3.length) (h3 ++ [.lst (cutD ds l u)])) E) E) E
theorem je_slM {e : Expr} {lo hi : Option Expr} {m : LE} {l u : LO} {p2 pos : Pos} (he : JE X W e m) (hl : JO X W lo l) (hu : JO X W hi u) (h : ∀ {r : V → Option Int → Option Int → Hp → VK → Prop} {te : TE} {tl th : TO}, SlR X r → PE X e te → PO X lo tl → PO X hi th → PE X (.Subscript e (.Slice lo hi none p2) pos) (tSl r te tl th) := by exact fun a b c d => pe_slice a b c d) :
    JE X W (.Subscript e (.Slice lo hi none p2) pos) (eSlM m l u) := by
  refine ⟨fun σ h Q Q' E E' hQ hE q => he.mono σ h _ _ _ _ (fun x h1 q1 => hl.mono σ h1 _ _ _ _ (fun l h2 q2 => hu.mono σ h2 _ _ _ _ (fun u h3 q3 => ?_) hE q2) hE q1) hE q, PE.weak (h (SlR.or sl_tup sl_list) he.run hl.run hu.run) fun σV H Q ⟨ι, σ, h, hS, hH, q⟩ => ?_⟩
  · exact seqL_mono (fun ds q => hQ _ _ q) q3
  · refine tX.into he.mono hS hH q (fun x h1 ι1 vx H1 q1 e1 hH1 rx => ?_) (fun c fs h1 ι1 dx H1 q1 => q1 ι1 dx H1)
    refine tX.into hl.mono (hS.ext e1) hH1 q1 (fun l h2 ι2 lv H2 q2 e2 hH2 rl => ?_) (fun c fs h2 ι2 dx H2 q2 e2 => q2 ι2 dx H2 (e1.trans e2))
    refine tX.into hu.mono (hS.ext (e1.trans e2)) hH2 q2 (fun u h3 ι3 uv H3 q3 e3 hH3 ru => ?_) (fun c fs h3 ι3 dx H3 q3 e3 => q3 ι3 dx H3 (e1.trans (e2.trans e3)))
    subst rl ru
    have e03 := e1.trans (e2.trans e3)
    have rx3 := rx.ext (e2.trans e3)
    obtain ⟨a, ds, vs, rfl, hs, rs, q4⟩ := seqL_run hH3 rx3 q3
    refine .inr ⟨a, vs, rfl, hs, fun p hp => ?_⟩
    have ex : Ext ι3 H3 (ι3.push p) (upd H3 p (.lst (cutV vs l u))) := Ext.push hp
    refine q4 _ _ _ (e03.trans ex) (hH3.push (o := .lst (cutD ds l u)) hp (fun _ z => by cases z) ⟨_, upd_same, (rs.cut l u).ext ex⟩) ⟨p, ?_, rfl⟩
    rw [← hH3.len, List.getElem?_append_right (Nat.le_refl _), Nat.sub_self]
    rfl
@[simp] theorem eSlM_run {m : LE} {lo hi : LO} {σ : LV} {h : LH} {Q : D → LH → Prop} {E : XL} : eSlM m lo hi σ h Q E = m σ h (fun x h1 => lo σ h1 (fun l h2 => hi σ h2 (fun u h3 => seqL x h3 fun ds => Q (.ref h3.length) (h3 ++ [.lst (cutD ds l u)])) E) E) E := (rfl)
@[simp] theorem eCall3M_run {m1 m2 : LE} {A2 : LX (List D)} {n2 : Nat} {ask : List D → LSp} {G : D → LSp → LSp} {σ : LV} {h : LH} {Q : D → LH → Prop} {E : XL} : eCall3M m1 m2 A2 n2 ask G σ h Q E = m1 σ h (fun d1 h1 => m2 σ h1 (fun d2 h2 => A2 σ h2 (fun ds h3 => ds.length = n2 ∧ ∀ L, L.isNon = false → G L (ask ds) [d1, d2, L] h3 Q E) E) E) E := (rfl)
/-! ### bodies are monotone -/
theorem mono_sSeq {a b : LS} (ha : MonoS a) (hb : MonoS b) : MonoS (sSeq a b) := fun σ h A B l q =>
  ha σ h { A with nx := fun σ' h' => _ } { B with nx := fun σ' h' => _ } ⟨fun σ' h' q' => hb σ' h' A B l q', l.rt, l.bk, l.ct, l.ex⟩ q
theorem mono_sExpr {m : LE} (hm : Mono m) : MonoS (sExpr m) := fun σ h A B l q => hm _ _ _ _ _ _ (fun _ _ z => l.nx _ _ z) (exOf.le l σ) q
theorem mono_sRet {m : LE} (hm : Mono m) : MonoS (sRet m) := fun σ h A B l q => hm _ _ _ _ _ _ l.rt (exOf.le l σ) q
theorem mono_sNil : MonoS sNil := fun σ h A B l q => l.nx _ _ q
theorem mono_sIf {t : LX Bool} {a b : LS} (ht : Mono t) (ha : MonoS a) (hb : MonoS b) : MonoS (sIf t a b) := fun σ h A B l q =>
  ht _ _ _ _ _ _ (fun c h1 z => by
    cases c with
    | true => rw [if_pos rfl] at z ⊢; exact ha _ _ _ _ l z
    | false => rw [if_neg Bool.false_ne_true] at z ⊢; exact hb _ _ _ _ l z) (exOf.le l σ) q
theorem mono_sRaise1 {C f : Str} {m : LE} (hm : Mono m) : MonoS (sRaise1 C f m) := fun σ h A B l q => hm _ _ _ _ _ _ (fun d h1 z => l.ex _ _ _ _ z) (exOf.le l σ) q
end LL
end

section
set_option Elab.async false
set_option linter.all false
set_option maxRecDepth 100000
set_option maxHeartbeats 2000000
/-! LLWith: with e as x: .. -/
namespace LL
open PySem PySem.Spec PyProof.Rows L2
variable {X : Cx} {W : WX}
/-- a class with own __enter__ and __exit__ -/
def ownM (K : Frag) (x m : Str) : Bool := decide (PySem.W.ownIn K m (.ref (He.ga K x)) = some (some (.ref (He.fAd K (x, some m))))) && decide (PySem.W.typeIn K (.ref (He.fAd K (x, some m))) = some (.type "function"))
def withB (K : Frag) (x : Str) : Bool := (match PySem.W.clsIn K (He.ga K x) with
  | some cd => decide (cd.mro.head? = some (.ref (He.ga K x)))
  | none => false) && (ownM K x "__enter__" && ownM K x "__exit__")
theorem wp_special {M : Model} {A : Around} {E : Value → Shared → Prop} {s : Shared} {Q : Option Value × List Value → Shared → Prop} {K : Frag} {x m : Str} {a : Addr} {o : Obj} {cd : ClassData} (KI : K.In s.heap) (ho : s.heap.get? a = some o) (hc : o.cls = .ref (He.ga K x))
    (hcd : PySem.W.clsIn K (He.ga K x) = some cd) (hm : cd.mro.head? = some (.ref (He.ga K x))) (hown : PySem.W.ownIn K m (.ref (He.ga K x)) = some (some (.ref (He.fAd K (x, some m))))) (q : Q (some (.ref (He.fAd K (x, some m))), cd.mro) s) :
    wpAny M A (specialOnItsLine (.ref a) m) Q E s := by
  unfold specialOnItsLine
  refine wpAny_bind (wpAny_typeOf_ref ho ?_)
  rw [hc]
  show wpAny M A (mroOf (.ref (He.ga K x)) >>= _) Q E s
  refine wpAny_bind ?_
  show wpAny M A (classData (He.ga K x) >>= _) _ E s
  refine wpAny_bind ((PySem.W.looks_clsIn KI hcd).at (wpAny_pure ?_))
  refine wpAny_bind (wpAny_mono (wpAny_forIn_list _ (fun l b s' => l = cd.mro ∧ s' = s) (fun b s' => b = (some (some (Value.ref (He.fAd K (x, some m))), cd.mro), ()) ∧ s' = s) (fun c rest b s' hI => ?_) (fun b s' hI => ?_) cd.mro _ ⟨rfl, rfl⟩) (fun b s' hb => ?_) fun e s' hq => hq)
  · obtain ⟨e1, e2⟩ := hI
    subst e2
    rw [← e1] at hm
    obtain rfl : c = Value.ref (He.ga K x) := by simpa using hm
    exact wpAny_bind ((PySem.W.looks_ownIn KI hown).at (wpAny_pure ⟨rfl, rfl⟩))
  · obtain ⟨e1, e2⟩ := hI
    rw [← e1] at hm
    cases hm
  · obtain ⟨rfl, rfl⟩ := hb
    exact wpAny_pure q
/-! ### a call while an exception is handled -/
abbrev cxHot (P : Program) (w : World) (K : Frag) (mg : Str → Option Value) (base : Heap) (N : List Str) (qual : Str) (scope : Scope) (f : Addr) (cd : Value) (A : Around) (outer : List Env) (s : Shared) (H : Hp) : Cx :=
  { prog := P, w := w, K := K, mg := mg, base := base, A := A.deeper (envOfC qual scope s.heap.objs.size f cd), N := N, s_0 := s, H_0 := H, env := envOfC qual scope s.heap.objs.size f cd, outer := outer, stack := envOfC qual scope s.heap.objs.size f cd :: outer, ex := [], fn := fun _ => true, calm := false, pn := [], xe := fun _ _ => False }
theorem inv_hot {P : Program} {w : World} {K : Frag} {mg : Str → Option Value} {base : Heap} {N ps : List Str} {qual : Str} {scope : Scope} {f : Addr} {cd : Value} {A : Around} {outer : List Env} {s s1 : Shared} {H : Hp} {us : List Value} {vs : List V} (S : FnScope N ps scope) (e0 : Env0 P w K mg base A outer s H) (hl : vs.length = ps.length) (r : Vals vs us)
    (x : InCallC s s.heap.objs.size (bindL (envOfC qual scope s.heap.objs.size f cd).kindOf (ps.zip us) fun _ => none) (cellsFrom (s.heap.objs.size + 1) scope.names []) (bindC (envOfC qual scope s.heap.objs.size f cd).kindOf (ps.zip us) fun _ => none) s1) :
    Inv (cxHot P w K mg base N qual scope f cd A outer s H) [] (L2.start N vs) H s1 := by
  have I := inv_start (CX := L2N.CX P w) (E := fun _ _ _ => False) (A := { A with handled := none }) S rfl ⟨e0.frames, e0.mod, e0.bs, e0.bsz, e0.funs, e0.frf, e0.hok, e0.bare⟩ hl r x
  have o := I.ok
  exact ⟨⟨o.mod, o.kind, o.glob, o.blt, o.above, o.inj, o.has, o.cab, (fun z => by cases z), (by
    have := o.frames
    exact this), o.stk, o.exf, o.bs, o.bsz, o.noex, o.exfs, o.funs, o.frf⟩, I.os, I.bare, I.base, I.loc, I.cell, I.free, I.freeC, I.pin, I.hok, I.len⟩
structure KeepsHot (P : Program) (w : World) (K : Frag) (mg : Str → Option Value) (base : Heap) (f : Addr) (n : Nat) (G : LSp) : Prop where
  mono : MonoP G
  ok : ∃ (fd : FuncData) (ps : List Str), ps.length = n ∧ L2.Binds K fd ps [] ∧ ∀ (A : Around) (outer : List Env) (s : Shared) (H : Hp) (args : Args) (us : List Value) (vs : List V) (Q : VK) (ι : Ad) (ds : List D) (h : LH),
    A.depth < recursionLimit → Env0 P w K mg base A outer s H → BindsTo s fd args (ps.zip us) → Vals vs us → RelH K ι H h → RelDs K ι H ds vs → ds.length = n →
    G ds h (fun d h' => ∀ ι' v H', Ext ι H ι' H' → RelH K ι' H' h' → RelD K ι' H' d v → Q v H') (fun _ _ _ => False) →
    codeAny (model P w) A (.call (.ref f) args) (CR (L2N.CX P w) outer P w H s Q (fun _ _ _ => False)) s
theorem keepsHot_of {P : Program} {w : World} {K : Frag} {mg : Str → Option Value} {base : Heap} {x qual : Str} {params : Arguments} {body : List Stmt} {scope : Scope} {dvs : List V} {kws : List (Str × V)} {f : Addr} {fd : FuncData} {N ps : List Str} {n : Nat} {G : LSp} {b : LS}
    (F : FunD K x qual params body scope dvs kws f fd) (S : FnScope N ps scope) (hn : ps.length = n) (hb : L2.Binds K fd ps []) (hG : MonoP G)
    (hbody : ∀ (cdv : Value) (A : Around) (outer : List Env) (s : Shared) (H : Hp), JSs (cxHot P w K mg base N qual scope f cdv A outer s H) (fun _ _ _ _ => False) body b)
    (hv : ∀ ds h Q E, ds.length = n → G ds h Q E → b (startD N ds) h (bodyK Q E)) : KeepsHot P w K mg base f n G := by
  obtain ⟨oc, od, dV, kV, doc, pm, an, cdv, ct, osl, rfl, lk, hcd, _, _⟩ := F.ex
  refine ⟨hG, _, ps, hn, hb, fun A outer s H args us vs Q ι ds h hd e0 hbt hv' hH r l q => ?_⟩
  have lim : s.heap.NoLimit := e0.mod.nolimit.keeps fun b o e => (e0.bs b o e).1
  have KX : K.In s.heap := e0.mod.kin.keeps fun b o e => (e0.bs b o e).1
  have hl : vs.length = ps.length := by rw [← r.length, l, hn]
  have hkind : ∀ y ∈ ps.zip us, scope.names.lookup y.1 = some .local ∨ (scope.names.lookup y.1 = some .cell ∧ ((cellsFrom (s.heap.objs.size + 1) scope.names []).lookup y.1).isSome = true) := fun ⟨n, v⟩ hy => by
    rcases S.par n (List.of_mem_zip hy).1 with q | q
    · exact .inl q
    · exact .inr ⟨q, PySem.W.cellsFrom_some _ _ _ (.inl q)⟩
  refine codeAny_call_function hd (KX _ _ lk) rfl S.co S.gen rfl (PySem.W.codeRec_of KX hcd) (hbt _ _ _ _ ?_)
  refine wpAny_newFunctionEnv_cells S.kind hkind fun env he s1 x => ?_
  subst he
  refine ⟨lim.keeps x.toInCall.keep, codeAny_func ?_⟩
  have j := hbody cdv A outer s H
  have I : Inv (cxHot P w K mg base N qual scope f cdv A outer s H) [] (L2.start N vs) H s1 := inv_hot S e0 hl hv' x
  have q2 : tS K (fun _ _ _ _ => False) b { nx := fun _ H' => Q .non H', rt := Q } (L2.start N vs) H := by
    refine ⟨ι, H, ι, startD N ds, h, .refl _ _, rel_start r, hH, ?_⟩
    refine j.mono _ _ _ _ ?_ (hv ds h _ _ l q)
    exact ⟨fun σ' h' q' ι' σV' H' e' _ hH' => q' ι' .non H' e' hH' rfl, fun d h' q' ι' v H' e' hH' r' => q' ι' v H' e' hH' r', fun _ _ z => z.elim, fun _ _ z => z.elim, fun c fs σ' h' q' => q'.elim⟩
  refine wpAny_mono (j.run.run [] s1 (L2.start N vs) H _ I q2) (fun fl s' hs => ?_) fun e s' hs => False.elim hs
  have fin : ∀ {σ' : L2.St} {H' : Hp} {v : V} {u : Value}, Inv (cxHot P w K mg base N qual scope f cdv A outer s H) [] σ' H' s' → L2.RelV v u → Q v H' → CE outer P w H s Q u s' :=
    fun {σ' H' v u} J rv q => ⟨v, H', J.os, J.bare, J.base, J.hok, rv, q⟩
  cases fl with
  | ret u =>
    obtain ⟨v, σ', H', J, rv, q⟩ := hs
    exact fin J rv q
  | next =>
    obtain ⟨σ', H', J, q⟩ := hs
    exact fin (v := V.non) (u := Value.none) J rfl q
  | brk =>
    obtain ⟨_, _, _, q⟩ := hs
    exact False.elim q
  | cont =>
    obtain ⟨_, _, _, q⟩ := hs
    exact False.elim q
/-! ### with e as y: body -/
def withK (x : D) (Gx : LSp) (K : LK) : LK where
  nx := fun σ1 h1 => Gx [x, .non, .non, .non] h1 (fun _ h2 => K.nx σ1 h2) (fun _ _ _ => False)
  rt := fun d h1 => Gx [x, .non, .non, .non] h1 (fun _ h2 => K.rt d h2) (fun _ _ _ => False)
  ex := fun c fs σ1 h1 => ∀ a1 a2 a3 : D, Gx [x, a1, a2, a3] h1 (fun r h2 => r = .non ∧ K.ex c fs σ1 h2) (fun _ _ _ => False)
def isRef (C : Str) (x : D) (h : LH) : Prop := ∃ n fs, x = .ref n ∧ h[n]? = some (.ins C fs)
def sWith (C : Str) (Ge Gx : LSp) (i : Nat) (m : LE) (B : LS) : LS := fun σ h K => m σ h (fun x h1 => isRef C x h1 ∧ Ge [x] h1 (fun y h2 => B (σ.set i (some y)) h2 (withK x Gx K)) (fun _ _ _ => False)) (exOf K σ)
theorem withK_le {x : D} {Gx : LSp} (hG : MonoP Gx) {A B : LK} (l : A.le B) : (withK x Gx A).le (withK x Gx B) :=
  ⟨fun σ h z => hG _ _ _ _ _ _ (fun _ _ q => l.nx _ _ q) (fun _ _ _ q => q) z, fun d h z => hG _ _ _ _ _ _ (fun _ _ q => l.rt _ _ q) (fun _ _ _ q => q) z, fun _ _ z => z, fun _ _ z => z, fun c fs σ h z k v t => hG _ _ _ _ _ _ (fun _ _ q => ⟨q.1, l.ex _ _ _ _ q.2⟩) (fun _ _ _ q => q) (z k v t)⟩
theorem note_sky {B0 : Heap} {ax : Addr} {cls : Value} {d : Option Addr} {s' : Shared} {R : Shared → Prop} {E : Value → Shared → Prop} (hfr : X.A.frames = some (X.env :: X.outer)) (hf : X.env.frame = some X.env.locals) (sky' : Sky B0 (X.env :: X.outer) ax (L2N.Zn cls d) X.env.locals s'.heap)
    (fin : ∀ h1, HandSPX.HeldZ B0 (X.env :: X.outer) ax (L2N.Zn cls d) X.env.locals h1 → s'.heap.UpToSlots h1 → R { s' with heap := h1 }) : wpAny (model X.prog X.w) X.A (noteFrame (.ref ax) X.env) (fun _ s₂ => R s₂) E s' := by
  have hl := True.intro
  rcases sky' with ⟨hB, hn, hl, oe, vs, he0, hz, hd, hv1⟩ | fl | hh
  · exact PXN.look_newZ L2N.Zn.steady hfr hl hf he0 hB hn hd hv1 hz fin
  · exact PXN.looks_onZ L2N.Zn.steady hfr hf fl fin
  · exact HandSPX.againZ hf hh.2.2.2 (fin s'.heap hh (Heap.UpToSlots.refl _))

@[simp] theorem sWith_run {C : Str} {Ge Gx : LSp} {i : Nat} {m : LE} {B : LS} {σ : LV} {h : LH} {K : LK} : sWith C Ge Gx i m B σ h K = m σ h (fun x h1 => isRef C x h1 ∧ Ge [x] h1 (fun y h2 => B (σ.set i (some y)) h2 (withK x Gx K)) (fun _ _ _ => False)) (exOf K σ) := (rfl)
@[simp] theorem withK_nx {x : D} {Gx : LSp} {K : LK} {σ : LV} {h : LH} : (withK x Gx K).nx σ h = Gx [x, .non, .non, .non] h (fun _ h2 => K.nx σ h2) (fun _ _ _ => False) := (rfl)
@[simp] theorem withK_rt {x d : D} {Gx : LSp} {K : LK} {h : LH} : (withK x Gx K).rt d h = Gx [x, .non, .non, .non] h (fun _ h2 => K.rt d h2) (fun _ _ _ => False) := (rfl)
@[simp] theorem withK_ex {x : D} {Gx : LSp} {K : LK} {c : Str} {fs : List (Str × D)} {σ : LV} {h : LH} : (withK x Gx K).ex c fs σ h = ∀ a1 a2 a3 : D, Gx [x, a1, a2, a3] h (fun r h2 => r = .non ∧ K.ex c fs σ h2) (fun _ _ _ => False) := (rfl)
section
variable {C y : Str} {k i : Nat} {Ge Gx : LSp} {e : Expr} {m : LE} {body : List Stmt} {B : LS} {pos vp : Pos}
theorem js_with (hw : withB X.K C = true) (Fe : Keeps X.prog X.w X.K X.mg X.base k (He.fAd X.K (C, some "__enter__")) 1 Ge) (Fx : Keeps X.prog X.w X.K X.mg X.base k (He.fAd X.K (C, some "__exit__")) 4 Gx) (Fh : KeepsHot X.prog X.w X.K X.mg X.base (He.fAd X.K (C, some "__exit__")) 4 Gx)
    (hr : RoomG k X.A) (tk : L2N.Takes X W) (he : JE X W e m) (hg : ∀ (pn : List (Addr × Obj)) (xe : Value → Shared → Prop), PG (X.tr pn xe) (.Name y vp) (gName i))
    (hb : ∀ (W' : WX) (pn : List (Addr × Obj)) (xe : Value → Shared → Prop), L2N.Takes (X.tr pn xe) W' → PassesOwn (model X.prog X.w) X.A X.env xe → JSs (X.tr pn xe) W' body B)
    (hs : X.stack = X.env :: X.outer := by rfl) (hf : X.env.frame = some X.env.locals := by rfl) (hex : X.ex = [] := by rfl) : JS X W (.With [⟨e, some (.Name y vp)⟩] body pos) (sWith C Ge Gx i m B) := by
  have hBm : MonoS B := (hb (fun _ _ _ _ => False) [] (fun x s₁ => wpAny (model X.prog X.w) X.A (noteFrame x X.env) (fun _ _ => True) (fun _ _ => True) s₁) (fun u s' xx => by
    obtain ⟨_, _, _, _, _, _, _, _, _, _, _, _, _, _, _, _, z⟩ := xx
    exact z.elim) PassesOwn.looking).mono
  refine ⟨fun σ h A A' l q => he.mono σ h _ _ _ _ (fun x h1 ⟨a, b⟩ => ⟨a, Fe.mono _ _ _ _ _ _ (fun y h2 z => hBm _ _ _ _ (withK_le Fx.mono l) z) (fun _ _ _ z => z) b⟩) (exOf.le l σ) q, ⟨fun pins s σV H Dn I q => ?_⟩⟩
  obtain ⟨ι0, H0, ι, σ, h, e0, hS, hH, q⟩ := q
  rw [arm_exec_With]
  refine wpAny_bind (wpAny_standAt ?_)
  rw [arm_withItems_cons, arm_withItems_nil]
  unfold withItem
  refine wpAny_bind (he.go I hS hH q (fun x h1 ι1 vx H1 u1 s1 q1 x1 I1 hH1 r1 rv1 => ?_) fun c fs h' ι' dx H' z x hh r => z ι' dx σV H' (e0.trans x) (hS.ext x) hh r)
  obtain ⟨⟨n, fs, rfl, hn⟩, q1⟩ := q1
  obtain ⟨a, ha, rfl⟩ := r1
  obtain rfl : u1 = Value.ref a := rv1
  obtain ⟨dx, vs, hi1, _⟩ := hH1.ins ha hn
  obtain ⟨_, _, ne1, ho1, _⟩ := I1.hok a _ hi1
  obtain ⟨w1, w2⟩ := He.ba hw
  obtain ⟨w2, w3⟩ := He.ba w2
  obtain ⟨w4, w5⟩ := He.ba w2
  obtain ⟨w6, w7⟩ := He.ba w3
  refine wpAny_bind (wpAny_standAt ?_)
  have we : PySem.W.ownIn X.K "__enter__" (.ref (He.ga X.K C)) = some (some (.ref (He.fAd X.K (C, some "__enter__")))) := of_decide_eq_true w4
  have wx : PySem.W.ownIn X.K "__exit__" (.ref (He.ga X.K C)) = some (some (.ref (He.fAd X.K (C, some "__exit__")))) := of_decide_eq_true w6
  have te := of_decide_eq_true w5
  have tx := of_decide_eq_true w7
  obtain ⟨cd, hcd, hmro⟩ : ∃ cd, PySem.W.clsIn X.K (He.ga X.K C) = some cd ∧ cd.mro.head? = some (Value.ref (He.ga X.K C)) := by
    split at w1
    · rename_i cd z
      exact ⟨cd, z, of_decide_eq_true w1⟩
    · cases w1
  have fobj : ∀ m : Str, PySem.W.typeIn X.K (.ref (He.fAd X.K (C, some m))) = some (.type "function") → ∃ o, s1.heap.get? (He.fAd X.K (C, some m)) = some o ∧ o.cls = Value.type "function" := fun m z => by
    unfold PySem.W.typeIn at z
    simp only [Option.map_eq_some_iff] at z
    obtain ⟨o, z1, z2⟩ := z
    exact ⟨o, I1.kIn _ _ z1, z2⟩
  obtain ⟨oE, hoE, cE⟩ := fobj _ te
  obtain ⟨oX, hoX, cX⟩ := fobj _ tx
  clear w1 w4 w5 w6 w7 w2 w3 fobj
  simp only [Bool.false_eq_true, ↓reduceIte]
  refine wpAny_bind (wpAny_holding ?_)
  refine wpAny_bind (wp_special I1.kIn ho1 rfl hcd hmro we ?_)
  dsimp only
  refine wpAny_bind (wpAny_pure ?_)
  refine wpAny_bind (wpAny_bindSpecial_def hoE cE ?_)
  dsimp only
  refine wpAny_holding ?_
  refine wpAny_bind (wp_special I1.kIn ho1 rfl hcd hmro wx ?_)
  dsimp only
  refine wpAny_bind (wpAny_pure ?_)
  refine wpAny_bind (wpAny_bindSpecial_def hoX cX ?_)
  dsimp only
  refine wpAny_pure ?_
  dsimp only
  refine wpAny_holding ?_
  obtain ⟨hGe, fdE, psE, hnE, FE, bE⟩ := Fe
  obtain ⟨hGx, fdX, psX, hnX, FX, bX⟩ := Fx
  have rn : RelD X.K ι1 H1 (.ref n) (.ref a) := ⟨a, ha, rfl⟩
  generalize eLK : withK (D.ref n) Gx _ = LK0 at q1
  refine wpAny_bind (wpAny_mono (run_fnG (us := [Value.ref a]) (vs := [V.ref a]) (E := fun σ => WE W σ) (Q := fun v H2 => ∃ ι2 d2 h2, Ext ι1 H1 ι2 H2 ∧ RelH X.K ι2 H2 h2 ∧ RelD X.K ι2 H2 d2 v ∧ B (σ.set i (some d2)) h2 LK0) FE hr I1.env0.frames bE (L2N.passAt tk σV) I1 (.cons rfl .nil)
    ⟨ι1, [.ref n], h1, hH1, ⟨_, _, rfl, rn, rfl⟩, rfl, hGe _ _ _ _ _ _ (fun d h' z ι' v H' e hH' r => ⟨ι', d, h', e, hH', r, z⟩) (fun _ _ _ z => z.elim) q1⟩) (fun u2 s2 hu => ?_) fun e s' hq => hq)
  obtain ⟨v2, H2, I2, rv2, ι2, d2, h2, x2, hH2, r2, q2⟩ := hu
  refine wpAny_bind (wpAny_pure ?_)
  have hS2 : RelS X.K ι2 H2 (σ.set i (some d2)) (σV.set i (some v2)) := ((hS.ext x1).ext x2).setA r2
  have hbody : ∀ (KK : Value → Shared → Prop), (∀ u s', L2N.XE (X.tr (X.pn ++ pins) (fun x s₁ => wpAny (model X.prog X.w) X.A (noteFrame x X.env) (fun _ s₂ => KK x s₂) X.xe s₁)) (fun cls d σ1 H1' => ∃ c fs1 ι3 σ3 h3, cls = Value.ref (He.ga X.K c) ∧ Ext ι2 H2 ι3 H1' ∧ RelS X.K ι3 H1' σ3 σ1 ∧ RelH X.K ι3 H1' h3 ∧ RelX X.K ι3 H1' fs1 d ∧ LK0.ex c fs1 σ3 h3) u s' →
      wpAny (model X.prog X.w) X.A (noteFrame u X.env) (fun _ s₂ => KK u s₂) X.xe s') →
      wpAny (model X.prog X.w) X.A (do assign (.Name y vp) X.env u2; execs body X.env) (SP (X.tr (X.pn ++ pins) (fun x s₁ => wpAny (model X.prog X.w) X.A (noteFrame x X.env) (fun _ s₂ => KK x s₂) X.xe s₁)) [] { nx := fun σ1 H1' => ∃ ι3 σ3 h3, Ext ι2 H2 ι3 H1' ∧ RelS X.K ι3 H1' σ3 σ1 ∧ RelH X.K ι3 H1' h3 ∧ LK0.nx σ3 h3, rt := fun v H1' => ∃ ι3 d3 h3, Ext ι2 H2 ι3 H1' ∧ RelH X.K ι3 H1' h3 ∧ RelD X.K ι3 H1' d3 v ∧ LK0.rt d3 h3 }) (fun x s₁ => wpAny (model X.prog X.w) X.A (noteFrame x X.env) (fun _ s₂ => KK x s₂) X.xe s₁) s2 := fun KK hKK => by
    have T2 := I2.toTry (fun x s₁ => wpAny (model X.prog X.w) X.A (noteFrame x X.env) (fun _ s₂ => KK x s₂) X.xe s₁)
    refine wpAny_bind (wpAny_mono ((hg (X.pn ++ pins) (fun x s₁ => wpAny (model X.prog X.w) X.A (noteFrame x X.env) (fun _ s₂ => KK x s₂) X.xe s₁)).run [] s2 σV H2 v2 u2 (fun σ' H' => σ' = σV.set i (some v2) ∧ H' = H2) T2 rv2 ⟨rfl, rfl⟩) (fun _ s3 ⟨σ', H', T3, e1, e2⟩ => ?_) fun e s' hq => hq)
    subst e1 e2
    have j := hb _ (X.pn ++ pins) (fun x s₁ => wpAny (model X.prog X.w) X.A (noteFrame x X.env) (fun _ s₂ => KK x s₂) X.xe s₁) hKK PassesOwn.looking
    refine j.run.run [] s3 _ _ _ T3 ⟨ι2, _, ι2, _, h2, .refl _ _, hS2, hH2, hBm _ _ _ _ ⟨fun σ' h' z ι' σV' H' e hS' hH' => ⟨ι', σ', h', e, hS', hH', z⟩, fun d h' z ι' v H' e hH' r => ⟨ι', d, h', e, hH', r, z⟩, fun σ' h' z => ?_, fun σ' h' z => ?_, fun c fs σ' h' z ι' dx σV' H' e hS' hH' r => ⟨c, fs, ι', σ', h', rfl, e, hS', hH', r, z⟩⟩ q2⟩
    · rw [← eLK] at z; exact z.elim
    · rw [← eLK] at z; exact z.elim
  refine wpAny_bind (wpAny_attempt ?_)
  refine Calls.wpAny_keep (vs := sureOpen :: [Value.ref (He.fAd X.K (C, some "__exit__")), Value.ref a] ++ [sureShut]) ?_
  refine wpAny_mono (hbody _ fun u s' xx => ?err) (fun f s3 hsp => ?_) (fun e s' hq => wpAny_bind hq)
  case err =>
    have ok := I.ok
    have hfr : X.A.frames = some (X.env :: X.outer) := by rw [ok.frames, hs]
    obtain ⟨ax, B0, sI, pins', σ', H', cls, d, rfl, J', nb, up, sky, na, os, ag, hw⟩ := xx
    obtain ⟨c, fs1, ι3, σ3, h3, ecls, x3, hS3, hH3, rX3, z3⟩ := hw
    have J : Inv X pins σ' H' sI := J'.ofTry ok
    have sky' : Sky B0 (X.env :: X.outer) ax (L2N.Zn cls d) X.env.locals s'.heap := by rw [← hs]; exact sky
    obtain ⟨hGh, fdH, psH, hnH, bH, FH⟩ := Fh
    refine note_sky hfr hf sky' fun h1 hh1 up1 => ?_
    refine wpAny_bind (HandSPX.landsZ hh1 fun h5 fl3 up3 => ?_)
    have J3 : Inv X pins σ' H' { s' with heap := h5 } := J.landed nb fl3.1 ((up.trans up1).trans up3) os ag
    obtain ⟨k1, k2, k3, oe, vs, T, oT, ts, he3, hz, hd, hv1, hnT, hTe, hT, hdT, ht3⟩ := id fl3
    have nT : H' T = none := (J.inGround nb).gone hnT
    have notFr : ∀ (b : Addr) (o : Obj) (fv : Array Value), h5.get? b = some o → o.data = .fields fv → b ∉ frs (X.env :: X.outer) := fun b o fv e dd hm => by
      obtain ⟨_, o', e', hnf⟩ := k3.mem hm
      have eo : o = o' := Option.some.inj (e.symm.trans e')
      rw [← eo] at hnf
      exact hnf _ dd
    have locF : X.env.locals ∈ frs (X.env :: X.outer) := List.mem_filterMap.mpr ⟨X.env, List.mem_cons_self, hf⟩
    have fsF : ∀ b, b ∈ X.fs → b ∈ frs (X.env :: X.outer) := fun b hm => by
      obtain ⟨e, he, q⟩ := List.mem_filterMap.mp hm
      exact List.mem_filterMap.mpr ⟨e, List.mem_cons_of_mem _ he, q⟩
    have fa := notFr ax oe vs he3 hd
    have fT := notFr T oT ts hT hdT
    have S3 : Inv (X.suite ax ((ax, oe) :: (T, oT) :: (X.pn ++ pins))) [] σ' H' { s' with heap := h5 } :=
      ⟨J3.ok.suite _ _, J3.os, J3.bare, J3.base, J3.loc, J3.cell, J3.free, J3.freeC, fun p hp => by
        rw [List.append_nil] at hp
        rcases List.mem_cons.mp hp with z | hp
        · rw [z]
          exact ⟨he3, na, fun z2 => fa (by rw [show ax = X.env.locals from z2]; exact locF), fun z2 => fa (fsF _ z2), fun v z2 => by
            have z3 : oe.data = .cell v := z2
            rw [hd] at z3
            cases z3⟩
        · rcases List.mem_cons.mp hp with z | hp
          · rw [z]
            exact ⟨hT, nT, fun z2 => fT (by rw [show T = X.env.locals from z2]; exact locF), fun z2 => fT (fsF _ z2), fun v z2 => by
              have z3 : oT.data = .cell v := z2
              rw [hdT] at z3
              cases z3⟩
          · exact J3.pin p hp, J3.hok, J3.len⟩

    refine wpAny_bind (wpAny_standAt (wpAny_holding ?_))
    refine wpAny_bind (wpAny_typeOf_ref he3 ?_)
    obtain ⟨y1, hy1⟩ : ∃ y1, ts[1]? = some y1 := by
      have := (Array.getElem?_eq_some_iff.mp ht3).1
      exact ⟨_, Array.getElem?_eq_getElem (by omega)⟩
    have eoc : oe.cls = Value.ref (He.ga X.K c) := hz.1.trans ecls
    rw [eoc]
    have tb : ∀ (R : Value → Shared → Prop), R Value.none { s' with heap := h5 } → R (.ref T) { s' with heap := h5 } → wpAny (model X.prog X.w) X.A (tracebackOf (.ref ax)) R X.xe { s' with heap := h5 } := fun R r1 r2 => by
      unfold tracebackOf
      refine wpAny_bind (wpAny_field he3 hd hv1 ?_)
      refine wpAny_bind (wpAny_field hT hdT hy1 ?_)
      split
      · exact wpAny_pure r1
      · exact wpAny_bind (wpAny_pure (wpAny_pure r2))
    have pass : ∀ (s6 : Shared) (H6 : Hp), Inv (X.suite ax ((ax, oe) :: (T, oT) :: (X.pn ++ pins))) [] σ' H6 s6 → W cls d σ' H6 → wpAny (model X.prog X.w) X.A (PySem.passOn "with" (.ref ax) X.env) (SP X pins Dn) X.xe s6 := fun s6 H6 S6 q6 => by
      have J6 : Inv X pins σ' H6 s6 := ⟨ok, S6.os, S6.bare, S6.base, S6.loc, S6.cell, S6.free, S6.freeC, fun p hp => S6.pin p (List.mem_append_left _ (List.mem_cons_of_mem _ (List.mem_cons_of_mem _ hp))), S6.hok, S6.len⟩
      have pa := S6.pin (ax, oe) (List.mem_append_left _ List.mem_cons_self)
      have pT := S6.pin (T, oT) (List.mem_append_left _ (List.mem_cons_of_mem _ List.mem_cons_self))
      have ga : s6.heap.get? ax = some oe := pa.1
      have gT : s6.heap.get? T = some oT := pT.1
      have na6 : H6 ax = none := pa.2.1
      have nT6 : H6 T = none := pT.2.1
      have far : ∀ b o, sI.heap.get? b = some o → b ≠ ax ∧ b ≠ T := fun b o e => by
        by_cases hb : b ∈ frs X.stack
        · rw [hs] at hb
          exact ⟨fun z => fa (by rw [← z]; exact hb), fun z => fT (by rw [← z]; exact hb)⟩
        · have q := nb b o e hb
          exact ⟨fun z => by
            rw [z, k2] at q
            exact (nomatch q), fun z => by
            rw [z, hnT] at q
            cases q⟩
      have far0 : ∀ b o, X.s_0.heap.get? b = some o → b ≠ ax ∧ b ≠ T := fun b o e => by
        obtain ⟨o', q⟩ := J.base.there b o e (by rw [hex]; simp)
        exact far b o' q
      have farP : ∀ p ∈ X.pn ++ pins, p.1 ≠ ax ∧ p.1 ≠ T := fun p hp => far p.1 p.2 (J.pin p hp).1
      obtain ⟨G, g1, g2⟩ := restrict s6.heap fun b => !(decide (b = ax) || decide (b = T))
      have gIn : ∀ b o, G.get? b = some o → s6.heap.get? b = some o ∧ b ≠ ax ∧ b ≠ T := fun b o e => by
        cases q : (!(decide (b = ax) || decide (b = T))) with
        | false =>
          rw [g2 b q] at e
          cases e
        | true =>
          rw [g1 b q] at e
          simp only [Bool.not_eq_true', Bool.or_eq_false_iff, decide_eq_false_iff_not] at q
          exact ⟨e, q.1, q.2⟩
      have gOf : ∀ b o, b ≠ ax → b ≠ T → s6.heap.get? b = some o → G.get? b = some o := fun b o h1 h2 e => by
        rw [g1 b (by simp [h1, h2])]
        exact e
      have I6 : Inv X pins σ' H6 { s6 with heap := G } := J6.less (fun b o e => (gIn b o e).1) gOf ⟨oe, vs, ga, hd⟩ ⟨oT, ts, gT, hdT⟩ na6 nT6 far0 farP
      have B6in : ∀ b o, (PySem.W.hideAll G (frs X.stack)).get? b = some o → s6.heap.get? b = some o := fun b o e => (gIn b o (PySem.W.of_hideAll _ e)).1
      have Bno : ∀ b, (b = ax ∨ b = T) → (PySem.W.hideAll G (frs X.stack)).get? b = none := fun b hb => by
        cases q : (PySem.W.hideAll G (frs X.stack)).get? b with
        | none => rfl
        | some o =>
          obtain ⟨_, n1, n2⟩ := gIn b o (PySem.W.of_hideAll _ q)
          rcases hb with z | z
          · exact absurd z n1
          · exact absurd z n2
      have fl6 : HandSPX.FlyingZ (PySem.W.hideAll G (frs X.stack)) (X.env :: X.outer) ax (L2N.Zn cls d) s6.heap := by
        refine ⟨B6in, Bno ax (.inl rfl), ?_, oe, vs, T, oT, ts, ga, hz, hd, hv1, Bno T (.inr rfl), hTe, gT, hdT, ht3⟩
        have ff := funFrames_none (B := PySem.W.hideAll G (frs X.stack)) J6.stack fun b hb => PySem.W.hideAll_none _ hb
        rw [← hs]
        exact ff
      show wpAny (model X.prog X.w) X.A (PySem.passOn "with" (.ref ax) X.env) (SP X pins Dn) X.xe s6
      unfold PySem.passOn
      refine wpAny_bind (wpAny_field ga hd hv1 ?_)
      rw [if_neg (show ¬ ((Value.ref T == Value.none) = true) from by simp)]
      have goOn : wpAny (model X.prog X.w) X.A (setFlight (.ref ax) X.env.frame) (fun _ s7 => wpAny (model X.prog X.w) X.A (throw (.ref ax) : Sem Flow) (SP X pins Dn) X.xe s7) X.xe s6 := by
        rw [hf]
        refine HandSPX.setFlight_upZ fl6 fun h7 hh7 up7 => wpAny_throw (tk _ _ ?_)
        refine ⟨ax, PySem.W.hideAll G (frs X.stack), { s6 with heap := G }, pins, σ', H6, cls, d, rfl, I6, fun b o e hb => PySem.W.hideAll_get _ e hb, ?_, .inr (.inr (by rw [← hs] at hh7; exact hh7)), na6, rfl, J6.bare, q6⟩
        exact Heap.UpToSlots.trans (Heap.UpToSlots.of_keeps fun b o e => (gIn b o e).1) up7
      first
        | exact wpAny_bind (wpAny_pure (wpAny_bind goOn))
        | exact wpAny_bind goOn
    subst eLK
    have call : ∀ (tv : V) (tu : Value) (tD : D), L2.RelV tv tu → RelD X.K ι3 H' tD tv → wpAny (model X.prog X.w) X.A (withItem.marked (.ref ax) (Code.call (.ref (He.fAd X.K (C, some "__exit__"))) { pos := [Value.ref a] ++ [Value.ref (He.ga X.K c), .ref ax, tu] }))
        (fun r s6 => r = Value.none ∧ ∃ H6, Inv (X.suite ax ((ax, oe) :: (T, oT) :: (X.pn ++ pins))) [] σ' H6 s6 ∧ W cls d σ' H6) X.xe { s' with heap := h5 } := fun tv tu tD rtv rtD => by
      unfold withItem.marked
      have bt := bH { s' with heap := h5 } [Value.ref a, .ref (He.ga X.K c), .ref ax, tu] S3.kIn (by rw [hnH, List.append_nil]; rfl)
      rw [List.append_nil] at bt
      have rk : RelD X.K ι3 H' (.fn (He.ga X.K c) [] ι3 H') (.ref (He.ga X.K c)) := ⟨rfl, fun p hp => (nomatch hp), .refl _ _⟩
      have rv : RelD X.K ι3 H' (.fn ax [] ι3 H') (.ref ax) := ⟨rfl, fun p hp => (nomatch hp), .refl _ _⟩
      have rn3 : RelD X.K ι3 H' (.ref n) (.ref a) := (rn.ext x2).ext x3
      refine wpAny_bind (wpAny_run (codeAny_mono (FH (X.A.mark (some (.ref ax))) X.stack { s' with heap := h5 } H' ⟨[Value.ref a, .ref (He.ga X.K c), .ref ax, tu], []⟩ _ [V.ref a, .ref (He.ga X.K c), .ref ax, tv] (fun v H6 => v = V.non ∧ W cls d σ' H6) ι3 [.ref n, .fn (He.ga X.K c) [] ι3 H', .fn ax [] ι3 H', tD] h3 hr.r.depth S3.env0 bt (.cons rfl (.cons rfl (.cons rfl (.cons rtv .nil)))) hH3
        ⟨_, _, rfl, rn3, _, _, rfl, rk, _, _, rfl, rv, _, _, rfl, rtD, rfl⟩ rfl (hGh _ _ _ _ _ _ (fun d4 h' z ι' v H' e hH' r => ?_) (fun _ _ _ z => z.elim) (z3 _ _ _))) fun r s6 hq => ?_) (by intro x; cases x))
      · obtain ⟨rfl, z⟩ := z
        have ev : v = V.non := r
        refine ⟨ev, ?_⟩
        rw [ecls]
        exact z ι' d σ' H' ((e0.trans (x1.trans x2)).trans (x3.trans e)) (hS3.ext e) hH' (rX3.ext e)
      · have w6 := ret_of (X := X.suite ax ((ax, oe) :: (T, oT) :: (X.pn ++ pins))) (fun pins H s e s' I z => by
          obtain ⟨_, _, _, _, _, _, _, _, _, _, _, _, z⟩ := z
          exact z.elim) S3 hq
        cases r with
        | error e => exact w6.elim
        | ok fl =>
          cases fl with
          | next => exact w6.elim
          | brk => exact w6.elim
          | cont => exact w6.elim
          | ret u6 =>
            obtain ⟨v6, H6, S6, rv6, ev6, q6⟩ := w6
            subst ev6
            exact wpAny_pure ⟨rv6, H6, S6, q6⟩
    refine wpAny_bind (tb _ ?_ ?_)
    · refine wpAny_bind (wpAny_mono (call .non .none .non rfl rfl) (fun r s6 ⟨er, H6, S6, q6⟩ => ?_) fun e s' z => z)
      subst er
      refine wpAny_bind (wpAny_pure (wpAny_bind (wpAny_pure ?_)))
      exact pass s6 H6 S6 q6
    · refine wpAny_bind (wpAny_mono (call (.ref T) (.ref T) (.fn T [] ι3 H') rfl ⟨rfl, fun p hp => (nomatch hp), .refl _ _⟩) (fun r s6 ⟨er, H6, S6, q6⟩ => ?_) fun e s' z => z)
      subst er
      refine wpAny_bind (wpAny_pure (wpAny_bind (wpAny_pure ?_)))
      exact pass s6 H6 S6 q6
  have x02 := e0.trans (x1.trans x2)
  have rn2 : RelD X.K ι2 H2 (.ref n) (.ref a) := rn.ext x2
  subst eLK
  cases f with
  | brk => obtain ⟨_, _, _, z⟩ := hsp; exact z.elim
  | cont => obtain ⟨_, _, _, z⟩ := hsp; exact z.elim
  | next =>
    obtain ⟨σ3V, H3, T3, ι3, σ3, h3, x3, hS3, hH3, z⟩ := hsp
    have I3 := T3.ofTry I.ok
    refine wpAny_bind (wpAny_standAt (wpAny_bind (wpAny_holding (wpAny_mono (run_fnG (us := [Value.ref a, Value.none, Value.none, Value.none]) (vs := [V.ref a, V.non, V.non, V.non]) (E := fun σ => WE W σ) (Q := fun v H4 => Dn.nx σ3V H4) FX hr I3.env0.frames bX (L2N.passAt tk σ3V) I3 (.cons rfl (.cons rfl (.cons rfl (.cons rfl .nil))))
      ⟨ι3, [.ref n, .non, .non, .non], h3, hH3, ⟨_, _, rfl, rn2.ext x3, _, _, rfl, rfl, _, _, rfl, rfl, _, _, rfl, rfl, rfl⟩, rfl, hGx _ _ _ _ _ _ (fun d h' z ι' v H' e hH' r => z ι' σ3V H' (x02.trans (x3.trans e)) (hS3.ext e) hH') (fun _ _ _ z => z.elim) z⟩) (fun u4 s4 ⟨v, H4, I4, rv, q4⟩ => wpAny_pure ⟨σ3V, H4, I4, q4⟩) fun e s' hq => hq))))
  | ret u3 =>
    obtain ⟨v3, σ3V, H3, T3, rv3, ι3, d3, h3, x3, hH3, r3, z⟩ := hsp
    have I3 := T3.ofTry I.ok
    refine wpAny_bind (wpAny_standAt (wpAny_bind (wpAny_holding (wpAny_mono (run_fnG (us := [Value.ref a, Value.none, Value.none, Value.none]) (vs := [V.ref a, V.non, V.non, V.non]) (E := fun σ => WE W σ) (Q := fun v H4 => Dn.rt v3 H4) FX hr I3.env0.frames bX (L2N.passAt tk σ3V) I3 (.cons rfl (.cons rfl (.cons rfl (.cons rfl .nil))))
      ⟨ι3, [.ref n, .non, .non, .non], h3, hH3, ⟨_, _, rfl, rn2.ext x3, _, _, rfl, rfl, _, _, rfl, rfl, _, _, rfl, rfl, rfl⟩, rfl, hGx _ _ _ _ _ _ (fun d h' z ι' v H' e hH' r => z ι' v3 H' (x02.trans (x3.trans e)) hH' (r3.ext e)) (fun _ _ _ z => z.elim) z⟩) (fun u4 s4 ⟨v, H4, I4, rv, q4⟩ => wpAny_pure ⟨v3, σ3V, H4, I4, rv3, q4⟩) fun e s' hq => hq))))
end
end LL
end

section
set_option Elab.async false
set_option linter.all false
set_option maxRecDepth 100000
set_option maxHeartbeats 2000000
/-! LLRepO: repr of lists and tuples that hold instances with an own repr. -/
namespace LL
open PySem PySem.Spec PyProof.Rows L2
variable {X : Cx} {W : WX}
/-- the loop of a list's repr, over any bond J between the texts so far and the state -/
theorem rep_loop {prog : Program} {w : World} {A : Around} {R : Result → Shared → Prop} {a P : Addr} {ts : List Str} {base : Nat} (J : Array Value → Shared → Prop) (E : Value → Shared → Prop) (hs : ts.length ≤ sizeLine)
    (ha : ∀ acc s, J acc s → ∃ oa na items, s.heap.get? a = some oa ∧ oa.data = .seq items na ∧ items.size = ts.length ∧ ∀ (i : Nat) y t, items[i]? = some y → ts[i]? = some t → ∀ (args : Args) (b : Nat), b + t.length ≤ sizeLine → (∃ rest kw, args = ⟨.ref a :: rest, kw⟩) →
      wpAny (model prog w) (A.under (.builtin "list.__repr__.loop" args)) (pyReprUnder b y) (fun t' s' => t' = t ∧ J acc s') E s)
    (hP : ∀ acc s, J acc s → ∃ c, s.heap.get? P = some { cls := .type "list", data := .seq acc c })
    (htok : ∀ acc s t, J acc s → J acc { s with toks := t })
    (hpush : ∀ acc s v, J acc s → J (acc.push v) { s with heap := s.heap.update P (Obj.mapSeq fun x => x.push v) })
    (hE : ∀ e s, E e s → R (.error e) s)
    (hbase : base + (listText ts).length ≤ sizeLine) (hfin : ∀ acc s u tk, J acc s → R (.ok (.ret (.str (listText ts) u))) { s with toks := tk }) :
    ∀ (k i : Nat) (s : Shared) (acc : Array Value) (done : List (Str × Tok)), ts.length - i = k → i ≤ ts.length → J acc s → acc.toList = strValues done → done.map Prod.fst = ts.take i →
      codeAny (model prog w) A (.builtin "list.__repr__.loop" ⟨[.ref a, rawInt i, .ref P, rawInt (base + piled (ts.take i) : Nat)], []⟩) R s := by
  intro k
  induction k with
  | zero =>
    intro i s acc done hk hi j hacc hdone
    obtain rfl : i = ts.length := by omega
    refine codeAny_builtin F.entry_list_repr_loop ?_
    rw [show rawInt (ts.length : Nat) = Value.int (ts.length : Nat) 0 from rfl, show rawInt (base + piled (ts.take ts.length) : Nat) = Value.int (base + piled (ts.take ts.length) : Nat) 0 from rfl, repr_loop_tree]
    obtain ⟨oa, na, items, h1, h2, hl, _⟩ := ha _ _ j
    refine wpAny_bind (wpAny_listItems h1 h2 ?_)
    have e0 : items[(Int.ofNat ts.length).toNat]? = none := by simp [hl]
    show wpAny _ _ (match items[(Int.ofNat ts.length).toNat]? with | some x => _ | none => _) _ _ _
    rw [e0]
    obtain ⟨c, h3⟩ := hP _ _ j
    unfold reprEnd
    refine wpAny_bind (wpAny_listItems h3 rfl ?_)
    rw [hacc, repr_fold]
    refine wpAny_bind (wpAny_pure ?_)
    rw [hdone, List.take_length]
    unfold retStr
    refine wpAny_bind (wpAny_mkStr ?_ (by show (listText ts).length ≤ _; omega))
    exact wpAny_pure (hfin _ _ _ _ j)
  | succ k ih =>
    intro i s acc done hk hi j hacc hdone
    have hi' : i < ts.length := by omega
    obtain ⟨t, ht⟩ : ∃ t, ts[i]? = some t := ⟨_, List.getElem?_eq_getElem hi'⟩
    refine codeAny_builtin F.entry_list_repr_loop ?_
    rw [show rawInt (i : Nat) = Value.int (i : Nat) 0 from rfl, show rawInt (base + piled (ts.take i) : Nat) = Value.int (base + piled (ts.take i) : Nat) 0 from rfl, repr_loop_tree]
    obtain ⟨oa, na, items, h1, h2, hl, hitem⟩ := ha _ _ j
    obtain ⟨y, hy⟩ : ∃ y, items[i]? = some y := ⟨_, Array.getElem?_eq_getElem (by omega)⟩
    refine wpAny_bind (wpAny_listItems h1 h2 ?_)
    have e0 : items[(Int.ofNat i).toNat]? = some y := by simpa using hy
    show wpAny _ _ (match items[(Int.ofNat i).toNat]? with | some x => _ | none => _) _ _ _
    rw [e0]
    have p1 := piled_take_succ ht
    have p2 := piled_take_le ts (i + 1)
    have p3 := piled_le_listText ts
    refine wpAny_bind (wpAny_holding (wpAny_mono (hitem i y t hy ht _ _ (by show base + piled (ts.take i) + 1 + t.length ≤ _; omega) ⟨_, _, rfl⟩) (fun t' s' hq => ?_) fun e s' hq => hE e s' hq))
    obtain ⟨rfl, j'⟩ := hq
    refine wpAny_bind (wpAny_mkStr ?_ (by omega))
    obtain ⟨c, h3⟩ := hP _ _ j'
    have hlen : acc.size = i := by
      have e1 : acc.toList.length = (ts.take i).length := by rw [hacc, ← hdone]; simp [strValues]
      rw [List.length_take, Nat.min_eq_left (by omega)] at e1
      simpa using e1
    refine wpAny_bind (m := Builtin.List.listUpdate (.ref P) _) (wpAny_updateSeq h3 rfl ?_ (by omega) (by simp; omega))
    refine wpAny_pure ⟨F.quiet_list_repr_loop _, ?_⟩
    have j2 := hpush _ _ (Value.str t' s'.toks) (htok _ _ (s'.toks + 1) j')
    have e1 : (Int.ofNat i + 1 : Int) = ((i + 1 : Nat) : Int) := by simp
    have e2 : ((base + piled (ts.take i) : Nat) : Int).toNat + (t'.length + 2) = base + piled (ts.take (i + 1)) := by rw [p1]; simp; omega
    show codeAny _ _ (.builtin _ ⟨[.ref a, rawInt (Int.ofNat i + 1), .ref P, rawInt ((((base + piled (ts.take i) : Nat) : Int).toNat + (t'.length + 2) : Nat) : Int)], []⟩) _ _
    rw [e1, e2]
    refine ih (i + 1) _ _ (done ++ [(t', s'.toks)]) (by omega) (by omega) j2 (by simp [hacc, strValues]) ?_
    rw [List.map_append, hdone]
    have : ts.take (i + 1) = ts.take i ++ [t'] := by
      rw [List.take_add_one, ht]; rfl
    rw [this]; rfl
/-! ### heights -/
def lstOf (h : LH) : D → Option (List D)
  | .lst ds => some ds
  | .ref n => match h[n]? with
    | some (.lst ds) => some ds
    | _ => none
  | _ => none
def tupOf : D → Option (List D)
  | .tup ds => some ds
  | _ => none
/-- what may be shown -/
def okD (h : LH) : D → Prop
  | .non | .bl _ | .int _ | .str _ | .tup _ | .lst _ | .ob _ _ _ | .dct _ _ => True
  | .ref n => ∃ o, h[n]? = some o ∧ o ≠ .gone
  | _ => False
def htLe (h : LH) : Nat → D → Prop
  | 0, d => okD h d ∧ lstOf h d = none ∧ tupOf d = none
  | m + 1, d => okD h d ∧ (∀ ds, lstOf h d = some ds → ∀ x ∈ ds, htLe h m x) ∧ (∀ ds, tupOf d = some ds → ∀ x ∈ ds, htLe h m x)
theorem htLe.ok {h : LH} {m : Nat} {d : D} (q : htLe h m d) : okD h d := by cases m <;> exact q.1
theorem htLe.up {h : LH} : ∀ {m : Nat} {d : D}, htLe h m d → htLe h (m + 1) d
  | 0, d, ⟨a, b, c⟩ => ⟨a, (fun ds e => by rw [b] at e; cases e), (fun ds e => by rw [c] at e; cases e)⟩
  | m + 1, d, ⟨a, b, c⟩ => ⟨a, fun ds e x hx => (b ds e x hx).up, fun ds e x hx => (c ds e x hx).up⟩
theorem htLe.le {h : LH} {m n : Nat} {d : D} (q : htLe h m d) (l : m ≤ n) : htLe h n d := by
  induction l with
  | refl => exact q
  | step _ ih => exact ih.up
theorem lstOf_rel {K : Frag} {ι : Ad} {H : Hp} {h : LH} {d : D} {v : V} {ds : List D} (hH : RelH K ι H h) (r : RelD K ι H d v) (e : lstOf h d = some ds) : ∃ a vs, v = .ref a ∧ SqL K H a vs ∧ RelDs K ι H ds vs := by
  unfold lstOf at e
  split at e
  · cases e
    obtain ⟨a, vs, rfl, f, rs⟩ := r
    exact ⟨a, vs, rfl, f.sq, rs⟩
  · split at e
    · rename_i ho
      cases e
      obtain ⟨a, ha, rfl⟩ := r
      obtain ⟨a', ha', vs, h1, rs⟩ := hH.obj _ _ ho (fun z => by cases z)
      rw [ha] at ha'
      cases ha'
      exact ⟨a, vs, rfl, .inl (.inl h1), rs⟩
    · cases e
  · cases e
theorem tupOf_rel {K : Frag} {ι : Ad} {H : Hp} {d : D} {v : V} {ds : List D} (r : RelD K ι H d v) (e : tupOf d = some ds) : ∃ a vs, v = .ref a ∧ SqT K H a vs ∧ RelDs K ι H ds vs := by
  unfold tupOf at e
  split at e
  · cases e; exact r
  · cases e
/-- what stands where a list, a tuple or something else is shown -/
theorem kind_of {pins : List (Addr × Obj)} {σ : L2.St} {ι : Ad} {H : Hp} {s : Shared} {h : LH} {d : D} {a : Addr} (I : Inv X pins σ H s) (hH : RelH X.K ι H h) (r : RelD X.K ι H d (.ref a)) (ok : okD h d) :
    ∃ o, s.heap.get? a = some o ∧ ((lstOf h d).isSome = true ↔ o.cls = .type "list") ∧ ((tupOf d).isSome = true ↔ o.cls = .type "tuple") := by
  have lc : ∀ {vs : List V}, SqL X.K H a vs → ∃ o, s.heap.get? a = some o ∧ o.cls = .type "list" := fun q => by
    obtain ⟨its, _, ⟨o, n, h1, h2, _⟩, _⟩ := I.list q
    exact ⟨o, h1, h2⟩
  have ic : ∀ {C dx : Addr} {fs : List (Str × V)}, H a = some (.ins C dx fs) → ∃ o, s.heap.get? a = some o ∧ o.cls = .ref C := fun q => by
    obtain ⟨_, _, _, ho, _⟩ := I.hok a _ q
    exact ⟨_, ho, rfl⟩
  cases d with
  | non => cases r
  | bl b => cases r
  | int i => cases r
  | str x => cases r
  | dfn p => exact ok.elim
  | fn f xs i0 H0 => exact ok.elim
  | exc x C y ns ds => exact ok.elim
  | lst ds =>
    obtain ⟨a', vs, e, f, _⟩ := r
    cases e
    obtain ⟨o, h1, h2⟩ := lc f.sq
    exact ⟨o, h1, by simp [lstOf, h2], by simp [tupOf, h2]⟩
  | tup ds =>
    obtain ⟨a', vs, e, f, _⟩ := r
    cases e
    obtain ⟨its, _, ⟨o, h1, h2, _⟩, _⟩ := I.tuple f
    exact ⟨o, h1, by simp [lstOf, h2], by simp [tupOf, h2]⟩
  | ob C ns ds =>
    obtain ⟨a', dx, vs, e, _, h1, _⟩ := r
    cases e
    obtain ⟨o, h1, h2⟩ := ic h1
    exact ⟨o, h1, by simp [lstOf, h2], by simp [tupOf, h2]⟩
  | dct ks ds =>
    obtain ⟨a', vs, e, _, h1, _⟩ := r
    cases e
    obtain ⟨_, _, vs', _, o, es, ep, ho, hx, _⟩ := dk_of I.hok h1
    exact ⟨o, ho, by simp [lstOf, hx.1], by simp [tupOf, hx.1]⟩
  | ref n =>
    obtain ⟨a', ha, e⟩ := r
    cases e
    obtain ⟨o, ho, hne⟩ := ok
    obtain ⟨a', ha', q⟩ := hH.obj n _ ho hne
    rw [ha] at ha'
    cases ha'
    cases o with
    | lst ds =>
      obtain ⟨vs, h1, _⟩ := q
      obtain ⟨o, h1, h2⟩ := lc (.inl (.inl h1))
      exact ⟨o, h1, by simp [lstOf, h2, ho], by simp [tupOf, h2]⟩
    | ins C fs =>
      obtain ⟨dx, vs, h1, _⟩ := q
      obtain ⟨o, h1, h2⟩ := ic h1
      exact ⟨o, h1, by simp [lstOf, h2, ho], by simp [tupOf, h2]⟩
    | gone => exact (hne rfl).elim
theorem two_at {K : Frag} {ι : Ad} {H : Hp} : ∀ {ds ds' : List D} {vs : List V}, RelDs K ι H ds vs → RelDs K ι H ds' vs → ∀ x' ∈ ds', ∃ x ∈ ds, ∃ v, RelD K ι H x v ∧ RelD K ι H x' v
  | _, [], _, _, _, x', hx => by cases hx
  | [], d' :: ds', vs, r, r', x', hx => by
    obtain rfl := r
    obtain ⟨_, _, e, _⟩ := r'
    cases e
  | d :: ds, d' :: ds', vs, r, r', x', hx => by
    obtain ⟨v, t, rfl, h1, h2⟩ := r
    obtain ⟨_, _, e, g1, g2⟩ := r'
    cases e
    rcases List.mem_cons.mp hx with rfl | hx
    · exact ⟨d, List.mem_cons_self, v, h1, g1⟩
    · obtain ⟨x, m, y⟩ := two_at h2 g2 x' hx
      exact ⟨x, List.mem_cons_of_mem _ m, y⟩
theorem ht_same {pins : List (Addr × Obj)} {σ : L2.St} {ι : Ad} {H : Hp} {s : Shared} {h : LH} (I : Inv X pins σ H s) (hH : RelH X.K ι H h) : ∀ (m M : Nat) (d d' : D) (v : V), RelD X.K ι H d v → RelD X.K ι H d' v → htLe h m d → htLe h M d' → htLe h m d' := by
  intro m
  induction m with
  | zero =>
    intro M d d' v r r' q q'
    refine ⟨q'.ok, ?_, ?_⟩
    · cases e : lstOf h d' with
      | none => rfl
      | some ds' =>
        obtain ⟨a, vs, rfl, _⟩ := lstOf_rel hH r' e
        obtain ⟨o, h1, h2, _⟩ := kind_of I hH r q.ok
        obtain ⟨o', g1, g2, _⟩ := kind_of I hH r' q'.ok
        rw [h1] at g1; cases g1
        have := h2.mpr (g2.mp (by rw [e]; rfl))
        rw [q.2.1] at this; cases this
    · cases e : tupOf d' with
      | none => rfl
      | some ds' =>
        obtain ⟨a, vs, rfl, _⟩ := tupOf_rel r' e
        obtain ⟨o, h1, _, h2⟩ := kind_of I hH r q.ok
        obtain ⟨o', g1, _, g2⟩ := kind_of I hH r' q'.ok
        rw [h1] at g1; cases g1
        have := h2.mpr (g2.mp (by rw [e]; rfl))
        rw [q.2.2] at this; cases this
  | succ m ih =>
    intro M d d' v r r' q q'
    have sub : ∀ M' (ds ds' : List D) (vs : List V), RelDs X.K ι H ds vs → RelDs X.K ι H ds' vs → (∀ x ∈ ds, htLe h m x) → (∀ x ∈ ds', htLe h M' x) → ∀ x ∈ ds', htLe h m x := fun M' ds ds' vs rs rs' a b x' hx => by
      obtain ⟨x, hm, v, r1, r2⟩ := two_at rs rs' x' hx
      exact ih M' x x' v r1 r2 (a x hm) (b x' hx)
    refine ⟨q'.ok, fun ds' e => ?_, fun ds' e => ?_⟩
    · obtain ⟨a, vs, rfl, sq, rs'⟩ := lstOf_rel hH r' e
      obtain ⟨o, h1, h2, _⟩ := kind_of I hH r q.ok
      obtain ⟨o', g1, g2, _⟩ := kind_of I hH r' q'.ok
      rw [h1] at g1; cases g1
      obtain ⟨ds, ed⟩ := Option.isSome_iff_exists.mp (h2.mpr (g2.mp (by rw [e]; rfl)))
      obtain ⟨a2, vs2, e2, sq2, rs⟩ := lstOf_rel hH r ed
      cases e2
      obtain rfl := I.list_inj sq sq2
      cases M with
      | zero => rw [q'.2.1] at e; cases e
      | succ M => exact sub M _ _ _ rs rs' (q.2.1 _ ed) (q'.2.1 _ e)
    · obtain ⟨a, vs, rfl, sq, rs'⟩ := tupOf_rel r' e
      obtain ⟨o, h1, _, h2⟩ := kind_of I hH r q.ok
      obtain ⟨o', g1, _, g2⟩ := kind_of I hH r' q'.ok
      rw [h1] at g1; cases g1
      obtain ⟨ds, ed⟩ := Option.isSome_iff_exists.mp (h2.mpr (g2.mp (by rw [e]; rfl)))
      obtain ⟨a2, vs2, e2, sq2, rs⟩ := tupOf_rel r ed
      cases e2
      obtain rfl := I.tuple_inj sq sq2
      cases M with
      | zero => rw [q'.2.2] at e; cases e
      | succ M => exact sub M _ _ _ rs rs' (q.2.2 _ ed) (q'.2.2 _ e)
/-! ### an item -/
theorem fn_at {K : Frag} {f : Addr} {s : Shared} (KI : K.In s.heap) (hf : PySem.W.isFn K (.ref f) = true) : ∃ o, s.heap.get? f = some o ∧ o.cls = .type "function" := by
  have h : PySem.W.typeIn K (.ref f) = some (.type "function") := beq_iff_eq.mp hf
  unfold PySem.W.typeIn at h
  cases e : K.lookup f with
  | none => simp [e] at h
  | some o => exact ⟨o, KI _ _ e, by simpa [e] using h⟩
theorem wp_by_own {M : Model} {A : Around} {E : Value → Shared → Prop} {s : Shared} {K : Frag} {x C f : Addr} {ox : Obj} {od : Option Obj} {name : Str} {last : Value → List Value → Sem Value} {Q : Option Value → Shared → Prop} (KI : K.In s.heap) (J : PySem.W.InstAt s.heap x ox C od)
    (hs : PySem.W.findIn K (.ref C) name = some (some (.ref f))) (hf : PySem.W.isFn K (.ref f) = true) (h : wpAny M A (last (.ref f) [.ref x]) (fun v => Q (some v)) E s) : wpAny M A (callSpecialIfBoundBy? last (.ref x) name) Q E s := by
  obtain ⟨of, hf1, hf2⟩ := fn_at KI hf
  unfold callSpecialIfBoundBy?
  refine wpAny_holding (wpAny_bind ?_)
  unfold bindSpecialIfBound?
  refine wpAny_bind ?_
  unfold specialOf
  refine wpAny_bind (wpAny_typeOf_ref J.at_ ?_)
  rw [J.cls]
  refine PySem.W.looks_findIn KI hs A _ _ s (fun _ _ e => e) ?_
  have fin : ∀ {E' : Value → Shared → Prop}, wpAny M A (do let d ← bindSpecial (.ref f) (.ref x); pure (some d)) (fun r s' => wpAny M A (match r with | some (g, first) => do let v ← last g first; pure (some v) | _ => pure none) Q E s') E' s :=
    wpAny_bind (wpAny_bindSpecial_def hf1 hf2 (wpAny_pure (wpAny_bind (wpAny_mono h (fun v s' hq => wpAny_pure hq) fun _ _ z => z))))
  show wpAny M A (ask >>= _) _ _ _
  refine wpAny_bind (wpAny_askSetting ?_)
  split
  · exact fin
  · exact wpAny_tryCatch fin
theorem wp_specialOf_K {M : Model} {A : Around} {E : Value → Shared → Prop} {s : Shared} {K : Frag} {x C : Addr} {r : Option Value} {ox : Obj} {od : Option Obj} {name : Str} {Q : Option Value → Shared → Prop} (KI : K.In s.heap) (J : PySem.W.InstAt s.heap x ox C od)
    (hs : PySem.W.findIn K (.ref C) name = some r) (h : Q r s) : wpAny M A (specialOf (.ref x) name) Q E s := by
  unfold specialOf
  refine wpAny_bind (wpAny_typeOf_ref J.at_ ?_)
  rw [J.cls]
  exact PySem.W.looks_findIn KI hs A _ _ s (fun _ _ e => e) h
theorem wp_reprUnder_own {prog : Program} {w : World} {A : Around} {E : Value → Shared → Prop} {s : Shared} {K : Frag} {x C f : Addr} {ox : Obj} {od : Option Obj} {b : Nat} {Q : Str → Shared → Prop} (hb : b ≤ sizeLine) (hu : A.units < cLine) (KI : K.In s.heap) (J : PySem.W.InstAt s.heap x ox C od)
    (hs : PySem.W.findIn K (.ref C) "__repr__" = some (some (.ref f))) (hf : PySem.W.isFn K (.ref f) = true) (h : wpAny (model prog w) A (call (.ref f) [.ref x]) (fun v s' => ∃ y u, v = Value.str y u ∧ Q y s') E s) : wpAny (model prog w) A (pyReprUnder b (.ref x)) Q E s := by
  refine wpAny_pyReprUnder_ref hb ?_
  unfold pyReprObjUnder pyReprObjBy
  refine wpAny_bind (wpAny_cRoomFor hu (wpAny_bind (wp_specialOf_K KI J hs ?_)))
  rw [if_neg (by simp)]
  refine wpAny_bind (wp_by_own KI J hs hf ?_)
  show wpAny _ _ (call (.ref f) ([.ref x] ++ [])) _ _ _
  refine wpAny_mono h (fun v s' ⟨y, u, e, q⟩ => ?_) fun _ _ z => z
  subst e
  refine wpAny_bind (wpAny_isInstance_val (T := "str") (b := true) rfl rfl ?_)
  exact wpAny_pure ⟨y, u, rfl, q⟩
def After (X : Cx) (pins : List (Addr × Obj)) (σ : L2.St) (h : LH) (ι : Ad) (H : Hp) (s' : Shared) : Prop := ∃ ι' H', Ext ι H ι' H' ∧ Inv X pins σ H' s' ∧ RelH X.K ι' H' h
def GOk (X : Cx) (ι : Ad) (H : Hp) (h : LH) (m : Nat) (g : List Code) : Prop := ∀ id v rest kw, Code.builtin id ⟨v :: rest, kw⟩ ∈ g → ∃ b d M, v = .ref b ∧ RelD X.K ι H d (.ref b) ∧ htLe h M d ∧ ¬ htLe h m d
def RepD (X : Cx) (h : LH) (d : D) (m : Nat) (t : Str) : Prop := ∀ (base : Nat) (A : Around) (g : List Code) (pins : List (Addr × Obj)) (σ : L2.St) (s : Shared) (ι : Ad) (H : Hp) (u : Value) (v : V), base + t.length ≤ sizeLine → A.guards = some g → GOk X ι H h m g → A.frames = some X.stack → A.depth + m < recursionLimit → A.units + 3 * m + 20 < cLine →
  Inv X pins σ H s → RelH X.K ι H h → RelD X.K ι H d v → L2.RelV v u → wpAny (model X.prog X.w) A (pyReprUnder base u) (fun t' s' => t' = t ∧ After X pins σ h ι H s') X.xe s
theorem repD_is {h : LH} {d : D} {m : Nat} {t : Str} (hi : ∀ ι H v u, RelD X.K ι H d v → L2.RelV v u → ReprIs X.prog X.w u t) : RepD X h d m t := fun base A g pins σ s ι H u v hb hg go hf hd hu I hH r rv =>
  hi ι H v u r rv base hb A _ s _ fun tk => ⟨rfl, ι, H, .refl _ _, I.tok _, hH⟩
theorem repD_non {h : LH} {m : Nat} : RepD X h .non m (Str.ofString "None") := repD_is fun ι H v u r rv => by
  obtain rfl := r; cases rv; exact ReprIs.none
theorem repD_bl {h : LH} {m : Nat} {b : Bool} : RepD X h (.bl b) m (if b = true then Str.ofString "True" else Str.ofString "False") := repD_is fun ι H v u r rv => by
  obtain rfl := r; cases rv; exact ReprIs.bool b
theorem repD_int {h : LH} {m : Nat} {i : Int} (hi : i.natAbs.log2 < 1920) : RepD X h (.int i) m (Str.ofString (toString i)) := repD_is fun ι H v u r rv => by
  obtain rfl := r; obtain ⟨t, rfl⟩ := rv; exact ReprIs.int t hi
theorem repD_str {h : LH} {m : Nat} {x : Str} (hx : (reprText x).length ≤ sizeLine) : RepD X h (.str x) m (reprText x) := repD_is fun ι H v u r rv => by
  obtain rfl := r; obtain ⟨t, rfl⟩ := rv; exact ReprIs.str x t hx
theorem repD_ins {h : LH} {d : D} {m : Nat} {t C : Str} {f : Addr} {G : LSp} (F : KeepsHot X.prog X.w X.K X.mg X.base f 1 G) (hs : PySem.W.findIn X.K (.ref (He.ga X.K C)) "__repr__" = some (some (.ref f))) (hf : PySem.W.isFn X.K (.ref f) = true) (hd : isObj C d h)
    (q : G [d] h (fun r h' => r = .str t ∧ h' = h) (fun _ _ _ => False)) : RepD X h d m t := by
  intro base A g pins σ s ι H u v hb hg go hA hdp hu I hH r rv
  obtain ⟨fd, ps, hn, hbi, run⟩ := F.ok
  obtain ⟨a, dx, fs, rfl, ha⟩ := isObj_run hH r hd
  obtain rfl : u = Value.ref a := rv
  obtain ⟨od, J⟩ := own_inst I ha
  refine wp_reprUnder_own (by omega) (by omega) I.kIn J hs hf ?_
  have b := hbi s [.ref a] I.kIn (by rw [List.append_nil]; exact hn.symm)
  rw [List.append_nil] at b
  have e0 := I.env0
  have go1 : wpAny (model X.prog X.w) A (call (.ref f) [.ref a]) (EP X pins σ fun v H' => v = .str t ∧ ∃ ι', Ext ι H ι' H' ∧ RelH X.K ι' H' h) X.xe s := by
    refine wpAny_call (codeAny_mono (run A X.stack s H ⟨[.ref a], []⟩ [.ref a] [.ref a] _ ι [d] h (by omega) ⟨hA, e0.mod, e0.bs, e0.bsz, e0.funs, e0.frf, e0.hok, e0.bare⟩ b (.cons rfl .nil) hH ⟨_, _, rfl, r, rfl⟩ rfl (F.mono _ _ _ _ _ _ (fun r' h' z => ?_) (fun _ _ _ z => z) q)) fun r' s' hq => ret_of (E' := WE NoW σ) (L2N.passAt takesNo σ) I hq)
    obtain ⟨rfl, rfl⟩ := z
    exact fun ι' v' H' e hH' rv' => ⟨rv', ι', e, hH'⟩
  refine wpAny_mono go1 (fun v' s' ⟨w', H', I', rw', e, ι', ex, hH'⟩ => ?_) fun _ _ z => z
  subst e
  obtain ⟨tk, rfl⟩ := rw'
  exact ⟨t, tk, rfl, rfl, ι', H', ex, I', hH'⟩
theorem GOk.ext {ι ι' : Ad} {H H' : Hp} {h : LH} {m n : Nat} {g : List Code} (go : GOk X ι H h m g) (e : Ext ι H ι' H') (l : n ≤ m) : GOk X ι' H' h n g := fun id v rest kw hm => by
  obtain ⟨b, d, M, rfl, r, q1, q2⟩ := go id v rest kw hm
  exact ⟨b, d, M, rfl, r.ext e, q1, fun z => q2 (z.le l)⟩
theorem GOk.clear {ι : Ad} {H : Hp} {h : LH} {m : Nat} {g : List Code} {pins : List (Addr × Obj)} {σ : L2.St} {s : Shared} {d : D} {a : Addr} (go : GOk X ι H h m g) (I : Inv X pins σ H s) (hH : RelH X.K ι H h) (r : RelD X.K ι H d (.ref a)) (hd : htLe h m d) : Clear g a := fun id v rest kw hm z => by
  obtain ⟨b, d2, M, rfl, r2, q1, q2⟩ := go id v rest kw hm
  cases z
  exact q2 (ht_same I hH m M d d2 _ r r2 hd q1)
/-- the least height -/
theorem ht_least {h : LH} {d : D} : ∀ {m : Nat}, htLe h (m + 1) d → (lstOf h d).isSome = true ∨ (tupOf d).isSome = true → ∃ k, k ≤ m ∧ htLe h (k + 1) d ∧ ¬ htLe h k d
  | 0, q, z => ⟨0, Nat.le_refl _, q, fun ⟨_, b, c⟩ => by rw [b, c] at z; simp at z⟩
  | m + 1, q, z => by
    by_cases y : htLe h (m + 1) d
    · obtain ⟨k, a, b, c⟩ := ht_least y z
      exact ⟨k, by omega, b, c⟩
    · exact ⟨m + 1, Nat.le_refl _, q, y⟩
/-! ### lists -/
def Shown (X : Cx) (h : LH) (d : D) (t : Str) : Prop := ∀ m, htLe h m d → RepD X h d m t
theorem under_at {A : Around} {c : Code} (hc : c.isFrame = false) : (A.under c).frames = A.frames := by
  simp [Around.under, Code.envs, hc, pushEnvs]
theorem under_loop {A : Around} {args : Args} : (A.under (.builtin "list.__repr__.loop" args)).depth = A.depth + 1 ∧ (A.under (.builtin "list.__repr__.loop" args)).units = A.units + 1 := by
  have e : (Code.builtin "list.__repr__.loop" args).isFrame = false := rfl
  constructor
  · simp [Around.under, Code.weight, Code.frames, Code.isCreation, Code.isGuard, guardIds, Code.isCaller, e]
  · simp [Around.under, Code.cUnits, Code.frames, e]
theorem under_loopG {A : Around} {args : Args} {g : List Code} (hg : A.guards = some g) : (A.under (.builtin "list.__repr__.loop" args)).guards = some (.builtin "list.__repr__.loop" args :: g) := by
  simp [Around.under, Code.guards, Code.isGuard, guardIds, pushGuards, hg]
theorem rep_listAt {h : LH} {d : D} {ds : List D} {ts : List Str} {m base : Nat} {A : Around} {g : List Code} {pins : List (Addr × Obj)} {σ : L2.St} {s : Shared} {ι : Ad} {H : Hp} {a : Addr} {R : Result → Shared → Prop}
    (hl : ds.length = ts.length) (hi : ∀ (i : Nat) x t, ds[i]? = some x → ts[i]? = some t → Shown X h x t) (hds : lstOf h d = some ds) (hb : base + (listText ts).length ≤ sizeLine) (hg : A.guards = some g) (go : GOk X ι H h m g) (hd : htLe h m d) (hA : A.frames = some X.stack)
    (hdp : A.depth + m < recursionLimit) (hu : A.units + 3 * m + 20 < cLine) (I : Inv X pins σ H s) (hH : RelH X.K ι H h) (r : RelD X.K ι H d (.ref a)) (hE : ∀ e s, X.xe e s → R (.error e) s) (hR : ∀ s' u, After X pins σ h ι H s' → R (.ok (.ret (.str (listText ts) u))) s') :
    wpAny (model X.prog X.w) A.in1 (Builtin.listReprAt base ⟨[.ref a], []⟩) (fun fin s' => match fin with | .done f => R (.ok f) s' | .again c' => c'.quiet = true ∧ codeAny (model X.prog X.w) A c' R s') (fun e s' => R (.error e) s') s := by
  obtain ⟨a', vs, e, sq, rs⟩ := lstOf_rel hH r hds
  cases e
  obtain ⟨its, rv, ⟨o, n, ho, hc, _, hdt⟩, hz⟩ := I.list sq
  have l1 := rs.length
  have l2 := rv.length
  have hts : ts.length ≤ sizeLine := by omega
  cases m with
  | zero => rw [hd.2.1] at hds; cases hds
  | succ m =>
    obtain ⟨k, hk, hk1, hk2⟩ := ht_least hd (.inl (by rw [hds]; rfl))
    cases its with
    | nil =>
      have : ts = [] := List.eq_nil_of_length_eq_zero (by have l3 : vs.length = 0 := l2; omega)
      subst this
      refine wpAny_list_repr_empty ho hdt ?_
      have := hR _ s.toks ⟨ι, H, .refl _ _, I.tok (s.toks + 1), hH⟩
      rw [listText_nil] at this
      exact this
    | cons y l =>
      refine wpAny_list_repr_head (A := A.in1) (g := g) hg (fun v rest kw hm => ?_) ho hdt ?_
      · have := go.clear I hH r hd _ v rest kw hm
        cases v with
        | ref b => simp only [Builtin.List.listSameRef, beq_eq_false_iff_ne]; rintro rfl; exact this rfl
        | _ => rfl
      · refine wpAny_bind (wpAny_newList ?_)
        refine wpAny_pure ⟨F.quiet_list_repr_loop _, ?_⟩
        have hP0 := I.fresh
        have hkp : ∀ b u, s.heap.get? b = some u → (s.heap.push { cls := .type "list", data := .seq [].toArray }).get? b = some u := fun b u z => Heap.get?_push_of_some _ z
        have I1 := I.kept (t' := s.toks) hkp
        have fp1 : FpOk X pins H s.heap.objs.size := I.fpOk (Nat.le_refl _) hP0
        have := rep_loop (prog := X.prog) (w := X.w) (A := A) (R := R) (a := a) (P := s.heap.objs.size) (ts := ts) (base := base)
          (fun acc s' => ∃ ι' H', Ext ι H ι' H' ∧ Inv X pins σ H' s' ∧ RelH X.K ι' H' h ∧ FpOk X pins H' s.heap.objs.size ∧ ∃ c, s'.heap.get? s.heap.objs.size = some { cls := .type "list", data := .seq acc c })
          X.xe hts
          (fun acc s' ⟨ι', H', ex, I', hH', fp, c, hp⟩ => by
            have r' := r.ext ex
            obtain ⟨a', vs', e, sq', rs'⟩ := lstOf_rel hH' r' hds
            cases e
            obtain ⟨its', rv', ⟨o', n', ho', hc', _, hdt'⟩, _⟩ := I'.list sq'
            have l3 := rs'.length
            have l4 := rv'.length
            refine ⟨o', n', its'.toArray, ho', hdt', by simp; omega, fun i y t hy ht args b hbt ⟨rest, kw, hargs⟩ => ?_⟩
            subst hargs
            have hy' : its'[i]? = some y := by simpa using hy
            obtain ⟨x, hx⟩ : ∃ x, ds[i]? = some x := ⟨_, List.getElem?_eq_getElem (by have := (List.getElem?_eq_some_iff.mp hy').1; omega)⟩
            obtain ⟨v, hv, rx⟩ := rs'.get hx
            obtain ⟨u, hu', rvu⟩ := rv'.get hv
            rw [hy'] at hu'
            cases hu'
            have hxk : htLe h k x := hk1.2.1 _ hds x (List.mem_of_getElem? hx)
            have I2 := I'.pinned (fp := [s.heap.objs.size]) (fun b hb => by rw [List.mem_singleton.mp hb]; exact fp) (fun b hb => by rw [List.mem_singleton.mp hb]; exact ⟨_, hp, fun v z => by cases z⟩)
            refine wpAny_mono (hi i x t hx ht k hxk b _ _ _ σ s' ι' H' y v hbt (under_loopG hg) (fun id v' rest' kw' hm => ?_) ((under_at rfl).trans hA) (by rw [under_loop.1]; omega) (by rw [under_loop.2]; omega) I2 hH' rx rvu) (fun t' s2 hq => ?_) fun _ _ z => z
            · rcases List.mem_cons.mp hm with z | z
              · cases z
                exact ⟨a, d, k + 1, rfl, r', hk1, hk2⟩
              · exact (go.ext ex (by omega)) _ _ _ _ z
            · obtain ⟨rfl, ι2, H2, ex2, I3, hH3⟩ := hq
              have hpin := I3.pin (s.heap.objs.size, { cls := .type "list", data := .seq acc c }) (List.mem_append.mpr (.inr (List.mem_append.mpr (.inr (by simp [pinsAt, hp])))))
              exact ⟨rfl, ι2, H2, ex.trans ex2, I3.unpinned, hH3, ⟨hpin.2.1, fp.2.1, fp.2.2.1, fp.2.2.2.1, fp.2.2.2.2.1, fp.2.2.2.2.2⟩, c, hpin.1⟩)
          (fun acc s' ⟨ι', H', ex, I', hH', fp, c, hp⟩ => ⟨c, hp⟩)
          (fun acc s' t ⟨ι', H', ex, I', hH', fp, c, hp⟩ => ⟨ι', H', ex, I'.tok t, hH', fp, c, hp⟩)
          (fun acc s' v ⟨ι', H', ex, I', hH', fp, c, hp⟩ => ⟨ι', H', ex, I'.turned (it := s.heap.objs.size) (fun b o hb z => by rw [Heap.get?_update_ne _ _ _ _ hb]; exact z) fp.1 fp.2.1 fp.2.2.2.1 fp.2.2.2.2.1 fp.2.2.2.2.2, hH', fp, _, Heap.get?_update_self _ hp rfl⟩)
          hE hb (fun acc s' u tk ⟨ι', H', ex, I', hH', _⟩ => hR _ u ⟨ι', H', ex, I'.tok tk, hH'⟩)
          ts.length 0 { s with heap := s.heap.push { cls := .type "list", data := .seq [].toArray } } #[] [] (by omega) (by omega)
          ⟨ι, H, .refl _ _, I1, hH, fp1, 0, Heap.get?_push_size _ rfl⟩ rfl rfl
        simpa [piled_nil] using this
theorem shown_lst {h : LH} {d : D} {ds : List D} {ts : List Str} (hl : ds.length = ts.length) (hi : ∀ (i : Nat) x t, ds[i]? = some x → ts[i]? = some t → Shown X h x t) (hds : lstOf h d = some ds) : Shown X h d (listText ts) := by
  intro m hd base A g pins σ s ι H u v hb hg go hA hdp hu I hH r rv
  obtain ⟨a, vs, rfl, sq, rs⟩ := lstOf_rel hH r hds
  obtain rfl : u = Value.ref a := rv
  obtain ⟨its, _, ⟨o, n, ho, hc, _⟩, _⟩ := I.list sq
  refine wpAny_pyReprUnder_ref (by omega) (wpAny_pyReprObjUnder_twin ⟨o, ho, hc⟩ F.slot_list_repr.toG rfl (by omega) ?_)
  refine wpAny_call (codeAny_call_builtin F.plain_list_repr_under F.entry_list_repr_under ?_)
  rw [F.check_list_repr_under]
  refine wpAny_pure ?_
  show wpAny _ _ (do checkBuiltinCall "list.__repr__" ⟨[.ref a], []⟩; Builtin.listReprAt (base : Int).toNat ⟨[.ref a], []⟩) _ _ _
  refine wpAny_bind (F.slot_list_repr.check _ _ _ _ _ _ _ _ ⟨o, ho, hc⟩ (F.args_list_repr_1 _) ?_)
  rw [show (base : Int).toNat = base from rfl]
  exact rep_listAt (R := wants (fun v s' => (∃ x u, v = Value.str x u) ∧ ∃ x u, v = Value.str x u ∧ x = listText ts ∧ After X pins σ h ι H s') X.xe) hl hi hds hb hg go hd hA hdp hu I hH r (fun e s z => z) fun s' u' z => ⟨⟨_, u', rfl⟩, _, u', rfl, rfl, z⟩
/-! ### tuples -/
theorem under_tup {A : Around} {id : String} {args : Args} (e : (Code.builtin id args).frames = 0) (e1 : (Code.builtin id args).isCreation = false) (e2 : (Code.builtin id args).isCaller = false) (e3 : (Code.builtin id args).isGuard = true) : (A.under (.builtin id args)).depth = A.depth + 1 ∧ (A.under (.builtin id args)).units = A.units + 1 := by
  constructor
  · simp [Around.under, Code.weight, e, e1, e2, e3]
  · simp [Around.under, Code.cUnits, e]
theorem rep_tupAt {h : LH} {d : D} {ds : List D} {ts : List Str} {m base : Nat} {A : Around} {g : List Code} {pins : List (Addr × Obj)} {σ : L2.St} {s : Shared} {ι : Ad} {H : Hp} {a : Addr} {id : String} {rest : List Value} {R : Result → Shared → Prop}
    (e : (Code.builtin id ⟨.ref a :: rest, []⟩).isFrame = false) (e4 : (Code.builtin id ⟨.ref a :: rest, []⟩).frames = 0) (e1 : (Code.builtin id ⟨.ref a :: rest, []⟩).isCreation = false) (e2 : (Code.builtin id ⟨.ref a :: rest, []⟩).isCaller = false) (e3 : (Code.builtin id ⟨.ref a :: rest, []⟩).isGuard = true)
    (hl : ds.length = ts.length) (hi : ∀ (i : Nat) x t, ds[i]? = some x → ts[i]? = some t → Shown X h x t) (hds : tupOf d = some ds) (hb : base + (tupleText ts).length ≤ sizeLine) (hg : A.guards = some g) (go : GOk X ι H h m g) (hd : htLe h m d) (hA : A.frames = some X.stack)
    (hdp : A.depth + m < recursionLimit) (hu : A.units + 3 * m + 20 < cLine) (I : Inv X pins σ H s) (hH : RelH X.K ι H h) (r : RelD X.K ι H d (.ref a)) (hE : ∀ e s, X.xe e s → R (.error e) s) (hR : ∀ s' u, After X pins σ h ι H s' → R (.ok (.ret (.str (tupleText ts) u))) s') :
    wpOwn (model X.prog X.w) A (.builtin id ⟨.ref a :: rest, []⟩) (Builtin.tupleReprAt base ⟨[.ref a], []⟩) (fun fin s' => match fin with | .done f => R (.ok f) s' | .again c' => c'.quiet = true ∧ codeAny (model X.prog X.w) A c' R s') (fun e s' => R (.error e) s') s := by
  obtain ⟨a', vs, e0, sq, rs⟩ := tupOf_rel r hds
  cases e0
  obtain ⟨its, rv, ⟨o, ho, hc, n, hdt⟩, hz⟩ := I.tuple sq
  have l1 := rs.length
  have l2 := rv.length
  have clr := go.clear I hH r hd
  cases m with
  | zero => rw [hd.2.2] at hds; cases hds
  | succ m =>
    obtain ⟨k, hk, hk1, hk2⟩ := ht_least hd (.inr (by rw [hds]; rfl))
    show wpOwn _ _ _ (do
      let z ← Builtin.Tuple.tupleReprUnderWay (.ref a)
      if z = true then do rule "tuple.repr.in-itself"; retStr (Str.ofString "(...)") else tupleReprRest base (.ref a)) _ _ _
    refine wpOwn_bind ?_
    rw [tupleReprUnderWay_eq]
    refine wpOwn_stackTailAny hg (fun c p hc => tupGuardF_off _ c p hc) (fun c p => tupGuardF_pos _ c p) ?_
    have hn : (g.any fun c => tupGuardF (.ref a) (c, default)) = false := by
      rw [List.any_eq_false]
      exact fun c hc => by rw [tupGuardF_of_clear clr c hc]; exact Bool.false_ne_true
    rw [hn, if_neg Bool.false_ne_true]
    refine wpOwn_of_wpAny ?_
    have ut := under_tup (A := A) e4 e1 e2 e3
    unfold tupleReprRest
    refine wpAny_bind (wpAny_tupleItemsOf ho hdt ?_)
    have p3 := piled_le_tupleText ts
    refine wpAny_bind (wpAny_mono (wpAny_forIn_array' tupBody
      (fun rest' b s' => ∃ j, j ≤ ts.length ∧ rest' = its.drop j ∧ b = ((ts.take j).toArray, base + piled (ts.take j)) ∧ After X pins σ h ι H s')
      (fun b s' => b = (ts.toArray, base + piled ts) ∧ After X pins σ h ι H s')
      (fun y rest' b s' ⟨j, hj, hr, hb', ι', H', ex, I', hH'⟩ => ?_) (fun b s' ⟨j, hj, hr, hb', z⟩ => ?_) its.toArray (#[], base) ⟨0, by omega, by simp, by simp [piled_nil], ι, H, .refl _ _, I, hH⟩) (fun b s' ⟨hb', z⟩ => ?_) fun e s' z => hE e s' z)
    · subst hb'
      have hjl : j < its.length := by
        rcases Nat.lt_or_ge j its.length with z | z
        · exact z
        · rw [List.drop_eq_nil_of_le z] at hr; cases hr
      have hy : its[j]? = some y := by
        have := congrArg List.head? hr
        rw [List.head?_drop] at this
        exact this.symm
      have hrest : rest' = its.drop (j + 1) := by
        have := congrArg List.tail hr
        rw [List.tail_drop] at this
        exact this
      obtain ⟨x, hx⟩ : ∃ x, ds[j]? = some x := ⟨_, List.getElem?_eq_getElem (by omega)⟩
      obtain ⟨t, ht⟩ : ∃ t, ts[j]? = some t := ⟨_, List.getElem?_eq_getElem (by omega)⟩
      obtain ⟨v, hv, rx⟩ := rs.get hx
      obtain ⟨u, hu', rvu⟩ := rv.get hv
      rw [hy] at hu'
      cases hu'
      have p1 := piled_take_succ ht
      have p2 := piled_take_le ts (j + 1)
      have hxk : htLe h k x := hk1.2.2 _ hds x (List.mem_of_getElem? hx)
      unfold tupBody
      refine wpAny_bind (wpAny_mono (hi j x t hx ht k hxk (base + piled (ts.take j) + 1) (A.under (.builtin id ⟨.ref a :: rest, []⟩)) (.builtin id ⟨.ref a :: rest, []⟩ :: g) pins σ s' ι' H' y v (by omega) ?_ (fun id' v' rest' kw' hm => ?_) ((under_at e).trans hA) (by rw [ut.1]; omega) (by rw [ut.2]; omega) I' hH' (rx.ext ex) rvu) (fun t' s2 hq => ?_) fun e s2 z => z)
      · simp [Around.under, Code.guards, e3, pushGuards, hg]
      · rcases List.mem_cons.mp hm with z | z
        · cases z
          exact ⟨a, d, k + 1, rfl, r.ext ex, hk1, hk2⟩
        · exact (go.ext ex (by omega)) _ _ _ _ z
      · obtain ⟨rfl, ι2, H2, ex2, I3, hH3⟩ := hq
        refine wpAny_pure ⟨j + 1, by omega, hrest, ?_, ι2, H2, ex.trans ex2, I3, hH3⟩
        have e5 : ts.take (j + 1) = ts.take j ++ [t'] := by rw [List.take_add_one, ht]; rfl
        rw [p1, e5]
        simp [Nat.add_assoc]
    · subst hb'
      have : j = ts.length := by
        have := congrArg List.length hr
        rw [List.length_drop] at this
        simp at this
        omega
      subst this
      rw [List.take_length]
      exact ⟨rfl, z⟩
    · subst hb'
      obtain ⟨ι', H', ex, I', hH'⟩ := z
      unfold retStr
      have et : (Str.ofString "(" ++ (Str.ofString ", ").join ts.toArray.toList ++ Str.ofString (if (its.toArray.size == 1) = true then ",)" else ")")) = tupleText ts := by
        have : its.toArray.size = ts.length := by simp; omega
        rw [this]; simp [tupleText]
      show wpAny _ _ (do let r ← mkStr (Str.ofString "(" ++ (Str.ofString ", ").join ts.toArray.toList ++ Str.ofString (if (its.toArray.size == 1) = true then ",)" else ")")); ret r) _ _ _
      rw [et]
      refine wpAny_bind (wpAny_mkStr ?_ (by show (tupleText ts).length ≤ _; omega))
      exact wpAny_pure (hR _ _ ⟨ι', H', ex, I'.tok _, hH'⟩)
theorem shown_tup {h : LH} {d : D} {ds : List D} {ts : List Str} (hl : ds.length = ts.length) (hi : ∀ (i : Nat) x t, ds[i]? = some x → ts[i]? = some t → Shown X h x t) (hds : tupOf d = some ds) : Shown X h d (tupleText ts) := by
  intro m hd base A g pins σ s ι H u v hb hg go hA hdp hu I hH r rv
  obtain ⟨a, vs, rfl, sq, rs⟩ := tupOf_rel r hds
  obtain rfl : u = Value.ref a := rv
  obtain ⟨its, _, ⟨o, ho, hc, n, hdt⟩, _⟩ := I.tuple sq
  refine wpAny_pyReprUnder_ref (by omega) (wpAny_pyReprObjUnder_twin ⟨o, ho, hc⟩ F.slot_tuple_repr rfl (by omega) ?_)
  refine wpAny_call (codeAny_call_builtin_own (F.quiet_tuple_repr_under _) F.entry_tuple_repr_under ?_)
  rw [F.check_tuple_repr_under]
  refine wpAny_pure ?_
  show wpOwn _ _ _ (do checkBuiltinCall "tuple.__repr__" ⟨[.ref a], []⟩; Builtin.tupleReprAt (base : Int).toNat ⟨[.ref a], []⟩) _ _ _
  refine wpOwn_bind (wpOwn_of_wpAny (F.slot_tuple_repr.check _ _ _ _ _ _ _ _ ⟨o, ho, hc⟩ (F.args_tuple_repr_1 _) ?_))
  rw [show (base : Int).toNat = base from rfl]
  exact rep_tupAt (R := wants (fun v s' => (∃ x u, v = Value.str x u) ∧ ∃ x u, v = Value.str x u ∧ x = tupleText ts ∧ After X pins σ h ι H s') X.xe) rfl rfl rfl rfl rfl hl hi hds hb hg go hd hA hdp hu I hH r (fun e s z => z) fun s' u' z => ⟨⟨_, u', rfl⟩, _, u', rfl, rfl, z⟩
/-! ### what is shown -/
theorem htLe_leaf {h : LH} {d : D} (a : okD h d) (b : lstOf h d = none) (c : tupOf d = none) : ∀ m, htLe h m d
  | 0 => ⟨a, b, c⟩
  | m + 1 => (htLe_leaf a b c m).up
theorem shown_dct0 {h : LH} : Shown X h (.dct [] []) (Str.ofString "{}") := fun m hd base A g pins σ s ι H u v hb hg go hA hdp hu I hH r rv => by
  have clr : ∀ a, v = .ref a → Clear g a := fun a e => go.clear I hH (e ▸ r) hd
  obtain ⟨a, vs, rfl, _, ha, _⟩ := r
  obtain rfl : u = Value.ref a := rv
  obtain ⟨_, hsys, vs', kv, o, es, ep, ho, hx, hdt, hk, hp, _⟩ := dk_of I.hok ha
  cases kv
  have e0 : es.toList = [] := by
    cases q : es.toList with
    | nil => rfl
    | cons e r => rw [q] at hp; cases hp
  have rk : ReprK X.prog X.w [a] s.heap 1 (.ref a) (dictText []) := ReprK.dict (as := []) (d := 0) ho hx.1 hdt hsys (by simp) (by rw [e0]; exact .nil)
  exact rk base hb A g X.xe s _ hg (fun b hb => by rw [List.mem_singleton.mp hb]; exact clr a rfl) (by omega) (fun _ _ e => e) fun h' tk hk => ⟨rfl, ι, H, .refl _ _, I.kept hk, hH⟩
/-- the text of a value; T: how instances are shown -/
inductive ShwD (T : List (Str × LSp)) (h : LH) : Nat → D → Str → Prop where
  | non {m : Nat} : ShwD T h m .non (Str.ofString "None")
  | bl {m : Nat} {b : Bool} : ShwD T h m (.bl b) (if b = true then Str.ofString "True" else Str.ofString "False")
  | int {m : Nat} {i : Int} (hi : i.natAbs.log2 < 1920) : ShwD T h m (.int i) (Str.ofString (toString i))
  | str {m : Nat} {x : Str} (hx : (reprText x).length ≤ sizeLine) : ShwD T h m (.str x) (reprText x)
  | dct0 {m : Nat} : ShwD T h m (.dct [] []) (Str.ofString "{}")
  | ins {m : Nat} {d : D} {t C : Str} {G : LSp} (hT : (C, G) ∈ T) (hd : isObj C d h) (q : G [d] h (fun r h' => r = .str t ∧ h' = h) (fun _ _ _ => False)) : ShwD T h m d t
  | lst {m : Nat} {d : D} {ds : List D} {ts : List Str} (hds : lstOf h d = some ds) (hl : ds.length = ts.length) (hi : ∀ (i : Nat) x t, ds[i]? = some x → ts[i]? = some t → ShwD T h m x t) : ShwD T h (m + 1) d (listText ts)
  | tup {m : Nat} {ds : List D} {ts : List Str} (hl : ds.length = ts.length) (hi : ∀ (i : Nat) x t, ds[i]? = some x → ts[i]? = some t → ShwD T h m x t) : ShwD T h (m + 1) (.tup ds) (tupleText ts)
theorem okD_lst {h : LH} {d : D} {ds : List D} (e : lstOf h d = some ds) : okD h d ∧ tupOf d = none := by
  unfold lstOf at e
  split at e
  · exact ⟨trivial, rfl⟩
  · split at e
    · rename_i ho; exact ⟨⟨_, ho, fun z => by cases z⟩, rfl⟩
    · cases e
  · cases e
theorem okD_obj {h : LH} {d : D} {C : Str} (e : isObj C d h) : okD h d ∧ lstOf h d = none ∧ tupOf d = none := by
  unfold isObj at e
  split at e
  · exact ⟨trivial, rfl, rfl⟩
  · split at e
    · rename_i ho; exact ⟨⟨_, ho, fun z => by cases z⟩, by simp [lstOf, ho], rfl⟩
    · exact e.elim
  · exact e.elim
theorem ShwD.ht {T : List (Str × LSp)} {h : LH} {m : Nat} {d : D} {t : Str} (q : ShwD T h m d t) : htLe h m d := by
  have cov : ∀ {m : Nat} {ds : List D} {ts : List Str}, ds.length = ts.length → (∀ (i : Nat) x t, ds[i]? = some x → ts[i]? = some t → htLe h m x) → ∀ x ∈ ds, htLe h m x := fun hl hi x hx => by
    obtain ⟨i, hi1, rfl⟩ := List.getElem_of_mem hx
    exact hi i _ _ (List.getElem?_eq_getElem hi1) (List.getElem?_eq_getElem (by omega))
  induction q with
  | non => exact htLe_leaf (d := .non) trivial rfl rfl _
  | bl => exact htLe_leaf (d := (.bl _)) trivial rfl rfl _
  | int => exact htLe_leaf (d := (.int _)) trivial rfl rfl _
  | str => exact htLe_leaf (d := (.str _)) trivial rfl rfl _
  | dct0 => exact htLe_leaf (d := (.dct [] [])) trivial rfl rfl _
  | ins hT hd q => exact htLe_leaf (okD_obj hd).1 (okD_obj hd).2.1 (okD_obj hd).2.2 _
  | lst hds hl hi ih =>
    refine ⟨(okD_lst hds).1, fun ds' e => ?_, fun ds' e => ?_⟩
    · rw [hds] at e; cases e
      exact cov hl ih
    · rw [(okD_lst hds).2] at e; cases e
  | tup hl hi ih =>
    refine ⟨trivial, fun ds' e => (by cases e), fun ds' e => ?_⟩
    cases e
    exact cov hl ih
def OwnR (X : Cx) (p : Str × LSp) : Prop := ∃ f, KeepsHot X.prog X.w X.K X.mg X.base f 1 p.2 ∧ PySem.W.findIn X.K (.ref (He.ga X.K p.1)) "__repr__" = some (some (.ref f)) ∧ PySem.W.isFn X.K (.ref f) = true
theorem ShwD.shown {T : List (Str × LSp)} (hT : ∀ p ∈ T, OwnR X p) {h : LH} {m : Nat} {d : D} {t : Str} (q : ShwD T h m d t) : Shown X h d t := by
  induction q with
  | non => exact fun m _ => repD_non
  | bl => exact fun m _ => repD_bl
  | int hi => exact fun m _ => repD_int hi
  | str hx => exact fun m _ => repD_str hx
  | dct0 => exact shown_dct0
  | ins hp hd q =>
    obtain ⟨f, F, a, b⟩ := hT _ hp
    exact fun m _ => repD_ins F a b hd q
  | lst hds hl hi ih => exact shown_lst hl ih hds
  | tup hl hi ih => exact shown_tup hl ih rfl
theorem ShwD.up {T : List (Str × LSp)} {h : LH} {m : Nat} {d : D} {t : Str} (q : ShwD T h m d t) : ShwD T h (m + 1) d t := by
  induction q with
  | non => exact .non
  | bl => exact .bl
  | int hi => exact .int hi
  | str hx => exact .str hx
  | dct0 => exact .dct0
  | ins hp hd q => exact .ins hp hd q
  | lst hds hl hi ih => exact .lst hds hl ih
  | tup hl hi ih => exact .tup hl ih
theorem ShwD.le {T : List (Str × LSp)} {h : LH} {m n : Nat} {d : D} {t : Str} (q : ShwD T h m d t) (l : m ≤ n) : ShwD T h n d t := by
  induction l with
  | refl => exact q
  | step _ ih => exact ih.up
/-! ### repr(list) -/
def rReprI (T : List (Str × LSp)) (K : Frag) : List V → Hp → VK → Prop := fun xs H Q => ∃ ι h d v m ds ts, xs = [v] ∧ RelH K ι H h ∧ RelD K ι H d v ∧ lstOf h d = some ds ∧ m ≤ 3 ∧ ds.length = ts.length ∧ (∀ (i : Nat) x t, ds[i]? = some x → ts[i]? = some t → ShwD T h m x t) ∧ (listText ts).length ≤ sizeLine ∧ ∀ ι' H', Ext ι H ι' H' → RelH K ι' H' h → Q (.str (listText ts)) H'
theorem cr_reprI {k : Nat} {T : List (Str × LSp)} (hr : RoomG k X.A) (hT : ∀ p ∈ T, OwnR X p) : CallR X (.builtin "repr") (rReprI T X.K) := by
  rintro pins s σ H xs us Q I rv ⟨ι, h, d, v, m, ds, ts, rfl, hH, r, hds, hm, hl, hi, hz, q⟩
  obtain ⟨u, rfl, ru⟩ := vals1 rv
  obtain ⟨a, vs, rfl, sq, rs⟩ := lstOf_rel hH r hds
  obtain rfl : u = Value.ref a := ru
  obtain ⟨its, _, ⟨o, n, ho, hc, _⟩, _⟩ := I.list sq
  have h1 := hr.r.dp
  have h2 := hr.r.un
  have hu : X.A.in1.units = X.A.units + 1 := rfl
  have hdp : X.A.in1.depth = X.A.depth := rfl
  refine call_repr_slot (by omega) ⟨o, ho, hc⟩ F.slot_list_repr.toG (wpAny_call (codeAny_call_builtin F.slot_list_repr.plain F.entry_list_repr (F.slot_list_repr.check _ _ _ _ _ _ _ _ ⟨o, ho, hc⟩ (F.args_list_repr_1 _) ?_)))
  exact rep_listAt (X := X) (A := X.A.in1) (base := 0) (g := []) (m := m + 1) (ts := ts) (R := wants (fun r s₁ => ∃ x t, r = Value.str x t ∧ EP X pins σ Q r s₁) X.xe) hl (fun i x t e1 e2 => (hi i x t e1 e2).shown hT) hds (by simpa using hz) hr.g (fun id v rest kw z => by cases z) (ShwD.lst hds hl hi).ht I.env0.frames
    (by omega) (by omega) I hH r (fun e s z => z) fun s' u' ⟨ι', H', ex, I', hH'⟩ => ⟨_, u', rfl, .str _, H', I', ⟨u', rfl⟩, q ι' H' ex hH'⟩
def bReprI (T : List (Str × LSp)) : LB := fun ds h Q => match ds with
  | [d] => ∃ m xs ts, m ≤ 3 ∧ lstOf h d = some xs ∧ xs.length = ts.length ∧ (∀ (i : Nat) x t, xs[i]? = some x → ts[i]? = some t → ShwD T h m x t) ∧ (listText ts).length ≤ sizeLine ∧ Q (.str (listText ts)) h
  | _ => False
theorem bsReprI {T : List (Str × LSp)} {K : Frag} : CallS K (rReprI T K) (bReprI T) := by
  refine ⟨fun ds h Q Q' hQ q => ?_, fun ι H h ds vs Q Qv hH rs q k => ?_⟩
  · unfold bReprI at *
    split at q
    · obtain ⟨m, xs, ts, a, b, c, d, e, q⟩ := q; exact ⟨m, xs, ts, a, b, c, d, e, hQ _ _ q⟩
    · exact q.elim
  · unfold bReprI at q
    split at q
    · obtain ⟨v, rfl, r⟩ := rs.one
      obtain ⟨m, xs, ts, a, b, c, d, e, q⟩ := q
      exact ⟨ι, h, _, v, m, xs, ts, rfl, hH, r, b, a, c, d, e, fun ι' H' ex hH' => k _ h ι' _ H' q ex hH' rfl⟩
    · exact q.elim
/-! ### data -/
mutual
theorem ShwD.ofPy {T : List (Str × LSp)} {h : LH} : ∀ {d : D} {p : PyData}, dPy d = some p → p.showable = true → p.shown.length ≤ sizeLine → ShwD T h p.depth d p.shown
  | .non, _, e, _, _ => by simp only [dPy, Option.some.injEq] at e; subst e; exact .non
  | .bl b, _, e, _, _ => by simp only [dPy, Option.some.injEq] at e; subst e; exact .bl
  | .int i, _, e, s, _ => by simp only [dPy, Option.some.injEq] at e; subst e; exact .int (of_decide_eq_true s)
  | .str x, _, e, _, l => by simp only [dPy, Option.some.injEq] at e; subst e; exact .str l
  | .tup ds, _, e, s, l => by
    simp only [dPy, Option.map_eq_some_iff] at e
    obtain ⟨ps, e1, e2⟩ := e
    subst e2
    obtain ⟨a, b⟩ := ShwD.ofPys e1 s (fun t ht => Nat.le_trans (tupleText_mem_le ht) l)
    exact .tup a b
  | .lst ds, _, e, s, l => by
    simp only [dPy, Option.map_eq_some_iff] at e
    obtain ⟨ps, e1, e2⟩ := e
    subst e2
    obtain ⟨a, b⟩ := ShwD.ofPys e1 s (fun t ht => Nat.le_trans (listText_mem_le ht) l)
    exact .lst rfl a b
  | .ob _ _ _, _, e, _, _ => by simp [dPy] at e
  | .ref _, _, e, _, _ => by simp [dPy] at e
  | .dfn _, _, e, _, _ => by simp [dPy] at e
  | .fn _ _ _ _, _, e, _, _ => by simp [dPy] at e
  | .dct [] [], _, e, _, _ => by simp only [dPy, Option.some.injEq] at e; subst e; exact .dct0
  | .dct [] (_ :: _), _, e, _, _ => by simp [dPy] at e
  | .dct (_ :: _) _, _, e, _, _ => by simp [dPy] at e
  | .exc _ _ _ _ _, _, e, _, _ => by simp [dPy] at e
theorem ShwD.ofPys {T : List (Str × LSp)} {h : LH} : ∀ {ds : List D} {ps : List PyData}, dPys ds = some ps → PyData.showableAll ps = true → (∀ t ∈ PyData.shownAll ps, t.length ≤ sizeLine) → ds.length = (PyData.shownAll ps).length ∧ ∀ (i : Nat) x t, ds[i]? = some x → (PyData.shownAll ps)[i]? = some t → ShwD T h (PyData.depthAll ps) x t
  | [], _, e, _, _ => by simp only [dPys, Option.some.injEq] at e; subst e; exact ⟨rfl, fun i x t z => by cases z⟩
  | d :: ds, _, e, s, l => by
    simp only [dPys] at e
    split at e
    · rename_i p ps e1 e2
      cases e
      obtain ⟨s1, s2⟩ := He.ba (show (p.showable && PyData.showableAll ps) = true from s)
      have h1 := ShwD.ofPy (T := T) (h := h) e1 s1 (l _ List.mem_cons_self)
      obtain ⟨h2, h3⟩ := ShwD.ofPys (T := T) (h := h) e2 s2 (fun t ht => l t (List.mem_cons_of_mem _ ht))
      refine ⟨congrArg Nat.succ h2, fun i x t e3 e4 => ?_⟩
      cases i with
      | zero =>
        cases e3
        cases e4
        exact h1.le (Nat.le_max_left _ _)
      | succ i => exact (h3 i x t e3 e4).le (Nat.le_max_right _ _)
    · cases e
end
end LL
end

section
set_option Elab.async false
set_option linter.all false
set_option maxRecDepth 100000
set_option maxHeartbeats 400000
/-! LLIsX: isinstance of a caught error that has fields of its own. -/
namespace LL
open PySem PySem.Spec PyProof.Rows L2
variable {X : Cx} {W : WX}
theorem kin_classX {prog : Program} {w : World} {A : Around} {E : Value → Shared → Prop} {s : Shared} {K : Frag} {x D : Addr} {ox od : Obj} {Q : Option Value → Shared → Prop} (C : ExcC K D) (KI : K.In s.heap) (J : PySem.W.InstAt s.heap x ox D (some od))
    (q : Q (some (.ref D)) { s with toks := s.toks + 1 }) : wpAny (model prog w) A (getAttr? (.ref x) "__class__") Q E s := by
  have hcl : (PySem.W.clsIn K D).isSome = true := by
    have := C.hd
    unfold PySem.W.hasDictIn at this
    cases e : PySem.W.clsIn K D with
    | none => rw [e] at this; simp at this
    | some c => rfl
  have hfo := PySem.W.findObj_data (od := od) hcl C.ha C.hn C.ht
  unfold getAttr?
  refine wpAny_bind (wpAny_mkText ?_)
  unfold getAttrBy?
  refine wpAny_bind (wpAny_attempt ?_)
  unfold getAttrBy
  refine wpAny_holding (wpAny_bind (wpAny_typeOf_ref J.at_ ?_))
  rw [J.cls]
  refine wpAny_bind (PySem.W.looks_findIn KI C.hg _ _ _ _ (fun _ _ e => e) ?_)
  have hne : (onTheHeap (.ref D) && (Value.builtin "BaseException.__getattribute__" == .builtin "object.__getattribute__")) = false := by
    rw [show (Value.builtin "BaseException.__getattribute__" == Value.builtin "object.__getattribute__") = false from by decide]
    exact Bool.and_false _
  show wpAny _ _ (if (onTheHeap (.ref D) && (Value.builtin "BaseException.__getattribute__" == .builtin "object.__getattribute__")) = true then _ else _) _ _ _
  rw [hne, if_neg Bool.false_ne_true]
  unfold getAttrByItsOwn
  refine wpAny_bind (m := hookBefore (.ref D)) (show wpAny _ _ (typeLookup (.ref D) "__getattr__") _ _ _ from PySem.W.looks_findIn KI C.hk _ _ _ _ (fun _ _ e => e) ?_)
  refine wpAny_bind (wpAny_attempt (wpAny_holding ?_))
  unfold callGetattribute
  rw [if_neg (by simp)]
  unfold boundAndCalled
  rw [F.excAttr_ValueError.ga.bind]
  refine wpAny_bind (wpAny_pure ?_)
  show wpAny _ _ (call (.builtin "BaseException.__getattribute__") [.ref x, .str "__class__" s.toks]) _ _ _
  have inst : PySem.W.Looks (model prog w) s.heap (isInstance (.ref x) (.type "BaseException")) true := J.type.andThen (PySem.W.looks_subIn KI C.hs)
  have p1 : plainId "BaseException.__getattribute__" = true := F.excAttr_ValueError.ga.plain
  have p3 : builtinKind "BaseException.__getattribute__" = some Manifest.AttrKind.slot := by decide +kernel
  have p4 : splitId "BaseException.__getattribute__" = some ("BaseException", "__getattribute__") := by decide +kernel
  refine wpAny_call ?_
  refine codeAny_call_builtin p1 F.entry_bexc_ga ?_
  have hck : ∀ {A' : Around} {E' : Value → Shared → Prop} {s' : Shared} {R : Unit → Shared → Prop}, PySem.W.Looks (model prog w) s'.heap (isInstance (.ref x) (.type "BaseException")) true → R () s' → wpAny (model prog w) A' (checkBuiltinCall "BaseException.__getattribute__" { pos := Value.ref x :: [Value.str "__class__" s.toks], kw := [] }) R E' s' := fun {A' E' s' R} i h => by
    have z := @PySem.W.check_slot (model prog w) A' E' s' "BaseException.__getattribute__" "BaseException" "__getattribute__" (Value.ref x) [Value.str "__class__" s.toks] [] R p3 p4 i (F.args_bexc_ga _ _) h
    exact z
  refine hck inst ?_
  have e1 : slotArgs "__getattribute__" 1 ⟨[.ref x, .str "__class__" s.toks], []⟩ = pure (.ref x, [.str "__class__" s.toks]) := rfl
  have e2 : Builtin.ObjectAttr.attrName (.str "__class__" s.toks) = pure "__class__" := rfl
  unfold Builtin.«object.__getattribute__»
  rw [e1]
  refine wpAny_bind (wpAny_pure ?_)
  show wpAny _ _ (Builtin.ObjectAttr.attrName (.str "__class__" s.toks) >>= _) _ _ _
  rw [e2]
  refine wpAny_bind (wpAny_pure ?_)
  refine wpAny_bind (wpAny_typeOf_ref J.at_ ?_)
  rw [J.cls]
  refine wpAny_bind (PySem.W.looks_find KI J hfo _ _ _ _ (fun _ _ e => e) ?_)
  show wpAny _ _ (holding [.builtin "object.__class__"] (call (.builtin "getset_descriptor.__get__") [.builtin "object.__class__", .ref x, .ref D]) >>= ret) _ _ _
  refine wpAny_bind (wpAny_holding (wpAny_call (PySem.W.class_get KI J C.hm ?_)))
  refine wpAny_pure ?_
  exact PySem.W.handed_on rfl (wpAny_pure q)
/-- what isinstance asks of an own error class -/
def excCB (K : Frag) (x : Str) : Bool := xfB K (He.ga K x) && (insB K x && (PySem.W.kitCls K (.ref (He.ga K x)) (.ref (He.ga K x))).isSome)
theorem excCB_ok {K : Frag} {x : Str} (h : excCB K x = true) : ExcC K (He.ga K x) ∧ (PySem.W.kitCls K (.ref (He.ga K x)) (.ref (He.ga K x))).isSome = true := by
  obtain ⟨h1, h⟩ := He.ba h
  obtain ⟨h2, h3⟩ := He.ba h
  have f := xfB_ok h1
  unfold insB at h2
  obtain ⟨y1, y2⟩ := He.ba h2
  obtain ⟨y3, y4⟩ := He.ba y2
  obtain ⟨y5, y6⟩ := He.ba y4
  exact ⟨⟨f.ga, f.gg, f.exC, f.hdC, of_decide_eq_true y1, of_decide_eq_true y3, of_decide_eq_true y5, of_decide_eq_true y6⟩, h3⟩
theorem kitx_excX {K : Frag} {x D : Addr} {ox od : Obj} (C : ExcC K D) (hk : (PySem.W.kitCls K (.ref D) (.ref D)).isSome = true) : PySem.W.KitX K (.ref x) (.ref D) fun h => PySem.W.InstAt h x ox D (some od) := by
  obtain ⟨v, hv⟩ := Option.isSome_iff_exists.mp hk
  refine ⟨fun M h _ J => J.type, fun M h KI _ => (PySem.W.kit_cls KI hv).2.1, fun h tp dd its n sl KI ht => ?_, fun KI J q => kin_classX C KI J q⟩
  refine beq_eq_false_iff_ne.mpr fun z => ?_
  cases z
  have := C.hd
  unfold PySem.W.hasDictIn PySem.W.clsIn at this
  cases e : K.lookup D with
  | none => rw [e] at this; simp at this
  | some o =>
    have e2 := KI _ _ e
    rw [ht] at e2
    cases e2
    rw [e] at this
    simp at this

def rIsX (K : Frag) (D a dd : Addr) : List V → Hp → VK → Prop := fun xs H Q => ∃ (c : V) (cv : Value) (b : Bool) (fs : List (Str × V)), xs = [.ref a, c] ∧ ClsV c cv ∧ H dd = some (.xd fs) ∧ PySem.W.kitOne K (.ref D) cv = some b ∧ Q (.bl b) H
theorem call_isX {a D dd : Addr} {oe : Obj} {pn : List (Addr × Obj)} (C : ExcC X.K D) (hk : (PySem.W.kitCls X.K (.ref D) (.ref D)).isSome = true) (hz : Zc (.ref D) (some dd) oe) (hf : ∃ vs, oe.data = .fields vs) : CallR (X.suite a ((a, oe) :: pn)) (.builtin "isinstance") (rIsX X.K D a dd) := by
  rintro pins s σ H xs us Q I r ⟨c, cv, b, fs, rfl, hc, hd, hb, q⟩
  cases r with
  | cons r1 r2 =>
    cases r2 with
    | cons r2 r3 =>
      cases r3
      obtain rfl := r1
      have hcv : ∀ {u : Value}, L2.RelV c u → u = cv := fun {u} z => by cases hc <;> exact z
      obtain rfl := hcv r2
      obtain ⟨hg, _⟩ := I.pin (a, oe) (List.mem_append.mpr (.inl List.mem_cons_self))
      have ho := I.hok dd _ hd
      obtain ⟨od, hod⟩ : ∃ od, s.heap.get? dd = some od := by
        obtain ⟨m, h1, _⟩ := ho
        obtain ⟨o, es, ep, h2, _⟩ := h1
        exact ⟨_, h2⟩
      obtain ⟨vs, hvs⟩ := hf
      have J : PySem.W.InstAt s.heap a oe D (some od) := ⟨hg, hz.1, by unfold PySem.W.notCls; rw [hvs], by rw [hz.2]; exact hod⟩
      exact PySem.W.kia_one (kitx_excX C hk) I.kIn J hb (by simp) fun tk => ⟨.bl b, H, I.tok tk, rfl, q⟩
def eIsiX (l : List (Str × Bool)) (a : Addr) (c : Str) (d : Option Addr) (m : LE) : LE := fun σ h Q E => m σ h (fun x h1 => ∃ ns ds b, d.isSome = true ∧ x = .exc a c d ns ds ∧ l.lookup c = some b ∧ Q (.bl b) h1) E
def isxB (K : Frag) (T : Ty) (p : Str × Bool) : Bool := excCB K p.1 && decide (PySem.W.kitOne K (.ref (He.ga K p.1)) (T.v K) = some p.2)
theorem lookup_allX {l : List (Str × Bool)} {t : Str} {b : Bool} {p : Str × Bool → Bool} (e : l.lookup t = some b) (h : l.all p = true) : p (t, b) = true := by
  induction l with
  | nil => cases e
  | cons q l ih =>
    obtain ⟨t', b'⟩ := q
    rw [List.all_cons, Bool.and_eq_true] at h
    rw [List.lookup_cons] at e
    cases z : (t == t') with
    | true => rw [z] at e; cases e; rw [beq_iff_eq.mp z]; exact h.1
    | false => rw [z] at e; exact ih e h.2
theorem callR_or3 {X : Cx} {f : Value} {r : List V → Hp → VK → Prop} {P : Prop} (h : P → CallR X f r) : CallR X f (fun xs H Q => P ∧ r xs H Q) := fun pins s σ H xs us Q I rv q => h q.1 pins s σ H xs us Q I rv q.2
/-- isinstance(e, T), e the caught error -/
theorem je_isiX {a : Addr} {oe : Obj} {c : Str} {d : Option Addr} {pn : List (Addr × Obj)} {e : Expr} {m : LE} {T : Ty} {tv : V} {x : Str} {l : List (Str × Bool)} {p p2 pos : Pos} (hz : L2N.Zn (.ref (He.ga X.K c)) d oe) (hf : ∃ vs, oe.data = .fields vs)
    (he : JE (X.suite a ((a, oe) :: pn)) W e m) (hT : PE (X.suite a ((a, oe) :: pn)) (.Name x p2) (tC tv)) (k : ClsV tv (T.v X.K)) (hl : l.all (isxB X.K T) = true) (hm : X.mg "isinstance" = none) (hg : Gl (X.suite a ((a, oe) :: pn)) "isinstance" := by rfl)
    (h : ∀ {t : TA} {r : List V → Hp → VK → Prop}, CallR (X.suite a ((a, oe) :: pn)) (.builtin "isinstance") r → Gl (X.suite a ((a, oe) :: pn)) "isinstance" → (X.suite a ((a, oe) :: pn)).mg "isinstance" = none → PA (X.suite a ((a, oe) :: pn)) [e, .Name x p2] t → PE (X.suite a ((a, oe) :: pn)) (.Call (.Name "isinstance" p) [e, .Name x p2] [] pos) (tCB r t) := by exact fun a b c d => pe_callB a b c rfl d)
    (ha : ∀ {te tT : TE}, PE (X.suite a ((a, oe) :: pn)) e te → PE (X.suite a ((a, oe) :: pn)) (.Name x p2) tT → PA (X.suite a ((a, oe) :: pn)) [e, .Name x p2] (tCons te (tCons tT tNil)) := by exact fun a b => pa_cons a (pa_cons b pa_nil)) :
    JE (X.suite a ((a, oe) :: pn)) W (.Call (.Name "isinstance" p) [e, .Name x p2] [] pos) (eIsiX l a c d m) := by
  have hc : CallR (X.suite a ((a, oe) :: pn)) (.builtin "isinstance") fun xs H Q => ∃ b dd, (l.lookup c = some b ∧ d = some dd) ∧ rIsX X.K (He.ga X.K c) a dd xs H Q := by
    rintro pins s σ H xs us Q I rv ⟨b, dd, ⟨el, ed⟩, q⟩
    subst ed
    obtain ⟨C, hk⟩ := excCB_ok (He.ba (lookup_allX el hl)).1
    exact call_isX C hk ⟨hz.1, hz.2.1⟩ hf pins s σ H xs us Q I rv q
  refine ⟨fun σ h Q Q' E E' hQ hE q => he.mono σ h _ _ _ _ (fun x h1 ⟨ns, ds, b, e1, e2, e3, q1⟩ => ⟨ns, ds, b, e1, e2, e3, hQ _ _ q1⟩) hE q, PE.weak (h hc hg hm (ha he.run hT)) fun σV H Q ⟨ι, σ, h, hS, hH, q⟩ => ?_⟩
  refine tX.into he.mono hS hH q (fun x h1 ι1 v H1 q1 e1 hH1 r => ?_) (fun c' fs h1 ι1 dx H1 q1 => q1 ι1 dx H1)
  obtain ⟨ns, ds, b, ed, ex, el, q2⟩ := q1
  subst ex
  cases d with
  | none => simp at ed
  | some dd =>
    obtain ⟨rfl, vs, h1', h2, h3, h4⟩ := r
    exact ⟨b, dd, ⟨el, rfl⟩, tv, _, b, _, rfl, k, h1', of_decide_eq_true (He.ba (lookup_allX el hl)).2, q2 ι1 _ H1 e1 hH1 rfl⟩
@[simp] theorem eIsiX_run {l : List (Str × Bool)} {a : Addr} {c : Str} {d : Option Addr} {m : LE} {σ : LV} {h : LH} {Q : D → LH → Prop} {E : XL} : eIsiX l a c d m σ h Q E = m σ h (fun x h1 => ∃ ns ds b, d.isSome = true ∧ x = .exc a c d ns ds ∧ l.lookup c = some b ∧ Q (.bl b) h1) E := (rfl)
end LL
end

section
set_option Elab.async false
set_option linter.all false
set_option maxRecDepth 100000
set_option maxHeartbeats 1000000
/-! LLOwn: [..] * n; own == and !=; bool of an instance. -/
namespace LL
open PySem PySem.Spec PyProof.Rows L2
variable {X : Cx} {W : WX}
/-! ### [..] * n -/
def eRepL (n : Nat) (A : LX (List D)) : LE := fun σ h Q E => A σ h (fun ds h1 => (ds.length ≤ sizeLine ∧ ds.length * n ≤ sizeLine) ∧ Q (.lst (List.replicate n ds).flatten) h1) E
theorem RelDs.repl {K : Frag} {ι : Ad} {H : Hp} {ds : List D} {vs : List V} (r : RelDs K ι H ds vs) : ∀ n, RelDs K ι H (List.replicate n ds).flatten (List.replicate n vs).flatten
  | 0 => rfl
  | n + 1 => by rw [List.replicate_succ, List.replicate_succ, List.flatten_cons, List.flatten_cons]; exact r.append (r.repl n)
theorem je_repL {es : List Expr} {n : Nat} {A : LX (List D)} {p1 p2 pos : Pos} {j : Nat} (hn : n < 1000) (ha : JA X W es A) : JE X W (.BinOp (.List es p1) .Mult (.Constant (.int (n : Nat)) j p2) pos) (eRepL n A) := by
  refine ⟨fun σ h Q Q' E E' hQ hE q => ha.mono σ h _ _ _ _ (fun ds h1 ⟨l, q1⟩ => ⟨l, hQ _ _ q1⟩) hE q, PE.weak (pe_op op_rep (pe_lst ha.run) pe_int) fun σV H Q ⟨ι, σ, h, hS, hH, q⟩ => ?_⟩
  refine tX.into ha.mono hS hH q (fun ds h1 ι1 vs H1 q1 e1 hH1 rs => ?_) (fun c fs h1 ι1 dx H1 q1 => q1 ι1 dx H1)
  obtain ⟨⟨l1, l2⟩, q1⟩ := q1
  have hl := rs.length
  refine ⟨by rw [← rs.length]; exact l1, fun p hp => ?_⟩
  have ex : Ext ι1 H1 ι1 (upd H1 p (.lst vs)) := Ext.new hp
  refine ⟨p, (n : Int), vs, rfl, rfl, upd_same, by omega, by omega, by rw [← hl]; simpa using l2, fun p' hp' => ?_⟩
  have ex2 : Ext ι1 (upd H1 p (.lst vs)) ι1 (upd (upd H1 p (.lst vs)) p' (.lst (List.replicate (n : Int).toNat vs).flatten)) := Ext.new hp'
  have hH2 := hH1.new (u := .lst vs) hp
  exact q1 ι1 _ _ ((e1.trans ex).trans ex2) (hH2.new hp') ⟨p', _, rfl, .inl ⟨upd_same, hH2.notNew hp'⟩, ((rs.repl n).ext ex).ext ex2⟩
@[simp] theorem eRepL_run {n : Nat} {A : LX (List D)} {σ : LV} {h : LH} {Q : D → LH → Prop} {E : XL} : eRepL n A σ h Q E = A σ h (fun ds h1 => (ds.length ≤ sizeLine ∧ ds.length * n ≤ sizeLine) ∧ Q (.lst (List.replicate n ds).flatten) h1) E := (rfl)
@[simp] theorem bReprI_run {T : List (Str × LSp)} {d : D} {h : LH} {Q : D → LH → Prop} : bReprI T [d] h Q = (∃ m xs ts, m ≤ 3 ∧ lstOf h d = some xs ∧ xs.length = ts.length ∧ (∀ (i : Nat) x t, xs[i]? = some x → ts[i]? = some t → ShwD T h m x t) ∧ (listText ts).length ≤ sizeLine ∧ Q (.str (listText ts)) h) := (rfl)
theorem ownRs_nil : ∀ p ∈ ([] : List (Str × LSp)), OwnR X p := fun _ h => by cases h
theorem ownRs_cons {C : Str} {G : LSp} {f : Addr} {l : List (Str × LSp)} (F : KeepsHot X.prog X.w X.K X.mg X.base f 1 G) (hs : PySem.W.findIn X.K (.ref (He.ga X.K C)) "__repr__" = some (some (.ref f))) (hf : PySem.W.isFn X.K (.ref f) = true) (h : ∀ p ∈ l, OwnR X p) : ∀ p ∈ (C, G) :: l, OwnR X p := fun p hp => by
  rcases List.mem_cons.mp hp with rfl | hp
  · exact ⟨f, F, hs, hf⟩
  · exact h p hp
/-! ### own == and != -/
theorem ifBound_slotK {M : Model} {A : Around} {E : Value → Shared → Prop} {s : Shared} {K : Frag} {x C : Addr} {id : String} {ox : Obj} {od : Option Obj} {name : Str} {args : List Value} {Q : Option Value → Shared → Prop} (KI : K.In s.heap) (J : PySem.W.InstAt s.heap x ox C od)
    (hs : PySem.W.findIn K (.ref C) name = some (some (.builtin id))) (hb : ∀ self, bindSpecial (.builtin id) self = pure (.builtin id, [self])) (h : wpAny M A (call (.builtin id) (.ref x :: args)) (fun v => Q (some v)) E s) : wpAny M A (callSpecialIfBound? (.ref x) name args) Q E s := by
  unfold callSpecialIfBound?
  refine wpAny_holding (wpAny_bind ?_)
  unfold bindSpecialIfBound?
  refine wpAny_bind (wp_specialOf_K KI J hs ?_)
  have fin : ∀ {E' : Value → Shared → Prop}, (∀ e s, E e s → E' e s) → wpAny M A (do let d ← bindSpecial (.builtin id) (.ref x); pure (some d)) (fun r s' => wpAny M A (match r with | some (g, first) => do let v ← call g (first ++ args); pure (some v) | _ => pure none) Q E s') E' s := fun _ => by
    rw [hb]
    exact wpAny_bind (wpAny_pure (wpAny_pure (wpAny_bind (wpAny_mono h (fun v s' hq => wpAny_pure hq) fun _ _ z => z))))
  show wpAny M A (ask >>= _) _ _ _
  refine wpAny_bind (wpAny_askSetting ?_)
  split
  · exact fin fun _ _ z => z
  · refine wpAny_tryCatch ?_
    rw [hb]
    exact wpAny_bind (wpAny_pure (wpAny_pure (wpAny_bind (wpAny_mono h (fun v s' hq => wpAny_pure hq) fun _ _ z => z))))
theorem try_neOwn {prog : Program} {w : World} {A : Around} {E : Value → Shared → Prop} {s : Shared} {K : Frag} {x C f : Addr} {b : Value} {ox : Obj} {od : Option Obj} {Q : Option Value → Shared → Prop} (hu : A.units + 1 < cLine) (KI : K.In s.heap) (J : PySem.W.InstAt s.heap x ox C od)
    (hn : PySem.W.findIn K (.ref C) "__ne__" = some (some (.builtin "object.__ne__"))) (ho : PySem.W.mroIn K C (.type "object") = some true) (hs : PySem.W.findIn K (.ref C) "__eq__" = some (some (.ref f))) (hf : PySem.W.isFn K (.ref f) = true)
    (h : wpAny (model prog w) A.in1 (call (.ref f) [.ref x, b]) (fun v s' => ∃ r, v = Value.bool r ∧ Q (some (.bool !r)) s') E s) : wpAny (model prog w) A (tryCompare (.ref x) "__ne__" b) Q E s := by
  unfold tryCompare
  refine wpAny_bind (ifBound_slotK KI J hn F.cmp_object.ne.bind ?_)
  have inst : PySem.W.Looks (model prog w) s.heap (isInstance (.ref x) (.type "object")) true := J.type.andThen (PySem.W.looks_mroIn KI ho)
  have hck : ∀ {A' : Around} {E' : Value → Shared → Prop} {R : Unit → Shared → Prop}, R () s → wpAny (model prog w) A' (checkBuiltinCall "object.__ne__" { pos := Value.ref x :: [b], kw := [] }) R E' s := fun {A' E' R} h => by
    have z := @PySem.W.check_slot (model prog w) A' E' s "object.__ne__" "object" "__ne__" (Value.ref x) [b] [] R F.cmpKind_ne F.cmpSplit_ne inst (F.cmpArgs_ne _ _) h
    exact z
  refine wpAny_call (codeAny_call_builtin F.cmp_object.ne.plain F.cmpEntry_ne (hck ?_))
  have e1 : slotArgs "__ne__" 1 ⟨[.ref x, b], []⟩ = pure (.ref x, [b]) := rfl
  unfold Builtin.«object.__ne__»
  rw [e1]
  refine wpAny_bind (wpAny_pure ?_)
  show wpAny _ _ (cRoomFor "comparison" [.ref x, b] >>= _) _ _ _
  refine wpAny_bind (wpAny_cRoomFor hu (wpAny_bind (PySem.W.ifBound_K KI J hs hf (wpAny_mono h (fun v s' ⟨r, e, q⟩ => ?_) fun _ _ z => z))))
  subst e
  show wpAny _ _ (truthy (.bool r) >>= _) _ _ _
  exact wpAny_bind (wpAny_truthy_bool (wpAny_pure (wpAny_pure q)))
theorem rc_ne {prog : Program} {w : World} {A : Around} {E : Value → Shared → Prop} {s : Shared} {K : Frag} {x C : Addr} {b tb : Value} {ox : Obj} {od : Option Obj} {Q : Value → Shared → Prop} (hu : A.units < cLine) (KI : K.In s.heap) (J : PySem.W.InstAt s.heap x ox C od)
    (lb : PySem.W.Looks (model prog w) s.heap (typeOf b) tb) (nf : PySem.W.notFirst K C tb = true) (h : wpAny (model prog w) A (tryCompare (.ref x) "__ne__" b) (fun r s' => ∃ v, r = some v ∧ Q v s') E s) : wpAny (model prog w) A (richCompare .NotEq (.ref x) b) Q E s := by
  unfold richCompare
  refine wpAny_holding (wpAny_bind (wpAny_cRoomFor hu ?_))
  have e0 : oneThing? .NotEq (.ref x) b = none := rfl
  rw [e0]
  show wpAny _ _ (typeOf (.ref x) >>= _) _ _ _
  refine wpAny_bind (wpAny_typeOf_ref J.at_ ?_)
  rw [J.cls]
  refine wpAny_bind (lb _ _ _ _ (fun _ _ e => e) ?_)
  have fin : ∀ F : Option Value → Sem Value, (∀ v, F (some v) = pure v) → wpAny (model prog w) A (tryCompare (.ref x) "__ne__" b) (fun r s' => wpAny (model prog w) A (F r) Q E s') E s := fun F hF => wpAny_mono h (fun r s' ⟨v, e, q⟩ => by subst e; rw [hF]; exact wpAny_pure q) fun _ _ z => z
  unfold PySem.W.notFirst at nf
  by_cases ht : (Value.ref C != tb) = true
  · rw [if_pos ht]
    have hs : PySem.W.subIn K tb (.ref C) = some false := by
      rcases Bool.or_eq_true_iff.mp nf with z | z
      · rw [beq_iff_eq] at z; rw [← z] at ht; simp at ht
      · exact beq_iff_eq.mp z
    refine wpAny_bind (PySem.W.looks_subIn KI hs _ _ _ _ (fun _ _ e => e) ?_)
    exact wpAny_bind (fin _ fun _ => rfl)
  · rw [if_neg ht]
    exact wpAny_bind (wpAny_pure (wpAny_bind (fin _ fun _ => rfl)))
/-- == (neg: !=) by the left side's own __eq__ -/
def rEqO (K : Frag) (C : Str) (sp : Sp) (neg : Bool) : R2 := fun x y H Q => ∃ a dx fs t, x = .ref a ∧ H a = some (.ins (He.ga K C) dx fs) ∧ TyX K H y t ∧ PySem.W.notFirst K (He.ga K C) t = true ∧ sp [.ref a, y] H (fun v H' => ∃ b, v = .bl b ∧ Q (.bl (if neg then !b else b)) H') (fun _ _ _ => False)
def neB (K : Frag) (C : Str) : Bool := decide (PySem.W.findIn K (.ref (He.ga K C)) "__ne__" = some (some (.builtin "object.__ne__"))) && decide (PySem.W.mroIn K (He.ga K C) (.type "object") = some true)
theorem op_eqO {k : Nat} {f : Addr} {C : Str} {G : LSp} (F : Keeps X.prog X.w X.K X.mg X.base k f 2 G) (hr : RoomG (k + 1) X.A) (hs : PySem.W.findIn X.K (.ref (He.ga X.K C)) "__eq__" = some (some (.ref f))) (hf : PySem.W.isFn X.K (.ref f) = true) : OpR X (compareOp .Eq) (rEqO X.K C (spV X.K 2 G) false) := by
  obtain ⟨hG, fd, ps, hn, F, hb⟩ := F
  intro pins s σ H x y v u Q I rx ry ⟨a, dx, fs, t, e1, ha, ty, nf, q⟩
  subst e1
  obtain rfl : v = Value.ref a := rx
  obtain ⟨od, J⟩ := own_inst I ha
  obtain ⟨m, hF⟩ := I.fr
  obtain ⟨P, hK, hp, _⟩ := kit_of I ry ty
  refine PySem.W.cmp_ofEq (PySem.W.cmp_K (Nat.lt_of_le_of_lt (Nat.le_add_right _ 64) hr.r.units) hF I.ok.mod.kin J (hK.ty _ _ I.kIn hp) nf hs hf (thn (run_fnG (E := fun σ => WE NoW σ) (us := [.ref a, u]) (vs := [.ref a, y]) F (hr.mono (Nat.le_succ k)) I.env0.frames hb (L2N.passAt takesNo σ) I (.cons rfl (.cons ry .nil)) q) fun r s1 ⟨v, H1, I1, rv, b, e, q1⟩ => ?_))
  subst e
  obtain rfl : r = Value.bool b := rv
  exact ⟨.bl b, H1, I1, rfl, q1⟩
theorem op_neO {k : Nat} {f : Addr} {C : Str} {G : LSp} (F : Keeps X.prog X.w X.K X.mg X.base k f 2 G) (hr : RoomG (k + 1) X.A) (hne : neB X.K C = true) (hs : PySem.W.findIn X.K (.ref (He.ga X.K C)) "__eq__" = some (some (.ref f))) (hf : PySem.W.isFn X.K (.ref f) = true) : OpR X (compareOp .NotEq) (rEqO X.K C (spV X.K 2 G) true) := by
  obtain ⟨hG, fd, ps, hn, F, hb⟩ := F
  intro pins s σ H x y v u Q I rx ry ⟨a, dx, fs, t, e1, ha, ty, nf, q⟩
  subst e1
  obtain rfl : v = Value.ref a := rx
  obtain ⟨od, J⟩ := own_inst I ha
  obtain ⟨P, hK, hp, _⟩ := kit_of I ry ty
  obtain ⟨n1, n2⟩ := He.ba hne
  have hu := hr.r.units
  refine PySem.W.cmp_ofNotEq (rc_ne (by omega) I.kIn J (hK.ty _ _ I.kIn hp) nf (try_neOwn (by omega) I.kIn J (of_decide_eq_true n1) (of_decide_eq_true n2) hs hf (thn (run_fnG (A := X.A.in1) (E := fun σ => WE NoW σ) (us := [.ref a, u]) (vs := [.ref a, y]) F hr.in1 I.env0.frames hb (L2N.passAt takesNo σ) I (.cons rfl (.cons ry .nil)) q) fun r s1 ⟨v, H1, I1, rv, b, e, q1⟩ => ?_)))
  subst e
  obtain rfl : r = Value.bool b := rv
  exact ⟨b, rfl, _, rfl, .bl (!b), H1, I1, rfl, q1⟩
def oEqO (C : Str) (G : LSp) (neg : Bool) (l : List (Ty × Bool)) : LOp := fun x y h Q => isObj C x h ∧ (∃ t b, tyD y h = some t ∧ l.lookup t = some b) ∧ G [x, y] h (fun r h' => ∃ b, r = .bl b ∧ Q (.bl (if neg then !b else b)) h') (fun _ _ _ => False)
theorem opsEqO {K : Frag} {C : Str} {G : LSp} {neg : Bool} {l : List (Ty × Bool)} {T : Ty} (hG : MonoP G) (hl : l.all (isB K T) = true) (hn : l.all (fun p => PySem.W.notFirst K (He.ga K C) (p.1.v K)) = true) : OpS K (rEqO K C (spV K 2 G) neg) (oEqO C G neg l) := by
  refine ⟨fun x y h Q Q' hQ ⟨a, b, q⟩ => ⟨a, b, hG _ _ _ _ _ _ (fun r h' ⟨b, e, z⟩ => ⟨b, e, hQ _ _ z⟩) (fun _ _ _ z => z) q⟩, fun ι H h x y vx vy Q Qv hH rx ry ⟨i1, ⟨t, b, e1, e2⟩, q⟩ k => ?_⟩
  obtain ⟨a, dx, fs, rfl, ha⟩ := isObj_run hH rx i1
  obtain ⟨z1, _⟩ := isi_run hH ry e1 (lookup_all e2 hl)
  refine ⟨a, dx, fs, _, rfl, ha, z1, lookup_all e2 hn, ι, [x, y], h, hH, ⟨_, _, rfl, rx, _, _, rfl, ry, rfl⟩, rfl, hG _ _ _ _ _ _ (fun r h' ⟨b, e, z⟩ => ?_) (fun _ _ _ z => z.elim) q⟩
  subst e
  exact fun ι' v H' ex hH' rv => ⟨b, rv, k _ h' ι' _ H' z ex hH' rfl⟩
section
variable {k : Nat} {f : Addr} {C : Str} {G : LSp} {l : List (Ty × Bool)} {T : Ty} {a b : Expr} {A B : LE} {pos : Pos}
theorem je_eqO (F : Keeps X.prog X.w X.K X.mg X.base k f 2 G) (hr : RoomG (k + 1) X.A) (hs : PySem.W.findIn X.K (.ref (He.ga X.K C)) "__eq__" = some (some (.ref f))) (hf : PySem.W.isFn X.K (.ref f) = true) (hl : l.all (isB X.K T) = true) (hn : l.all (fun p => PySem.W.notFirst X.K (He.ga X.K C) (p.1.v X.K)) = true) (ha : JE X W a A) (hb : JE X W b B) : JE X W (.Compare a [.Eq] [b] pos) (eOp (oEqO C G false l) A B) := je_cmp (op_eqO F hr hs hf) (opsEqO F.mono hl hn) ha hb (nomark _)
theorem jt_eqO (F : Keeps X.prog X.w X.K X.mg X.base k f 2 G) (hr : RoomG (k + 1) X.A) (hs : PySem.W.findIn X.K (.ref (He.ga X.K C)) "__eq__" = some (some (.ref f))) (hf : PySem.W.isFn X.K (.ref f) = true) (hl : l.all (isB X.K T) = true) (hn : l.all (fun p => PySem.W.notFirst X.K (He.ga X.K C) (p.1.v X.K)) = true) (ha : JE X W a A) (hb : JE X W b B) : JT X W (.Compare a [.Eq] [b] pos) (eTest (eOp (oEqO C G false l) A B)) := jt_cmp (op_eqO F hr hs hf) (opsEqO F.mono hl hn) ha hb (nomark _)
theorem je_neO (F : Keeps X.prog X.w X.K X.mg X.base k f 2 G) (hr : RoomG (k + 1) X.A) (hne : neB X.K C = true) (hs : PySem.W.findIn X.K (.ref (He.ga X.K C)) "__eq__" = some (some (.ref f))) (hf : PySem.W.isFn X.K (.ref f) = true) (hl : l.all (isB X.K T) = true) (hn : l.all (fun p => PySem.W.notFirst X.K (He.ga X.K C) (p.1.v X.K)) = true) (ha : JE X W a A) (hb : JE X W b B) : JE X W (.Compare a [.NotEq] [b] pos) (eOp (oEqO C G true l) A B) := je_cmp (op_neO F hr hne hs hf) (opsEqO F.mono hl hn) ha hb (nomark _)
theorem jt_neO (F : Keeps X.prog X.w X.K X.mg X.base k f 2 G) (hr : RoomG (k + 1) X.A) (hne : neB X.K C = true) (hs : PySem.W.findIn X.K (.ref (He.ga X.K C)) "__eq__" = some (some (.ref f))) (hf : PySem.W.isFn X.K (.ref f) = true) (hl : l.all (isB X.K T) = true) (hn : l.all (fun p => PySem.W.notFirst X.K (He.ga X.K C) (p.1.v X.K)) = true) (ha : JE X W a A) (hb : JE X W b B) : JT X W (.Compare a [.NotEq] [b] pos) (eTest (eOp (oEqO C G true l) A B)) := jt_cmp (op_neO F hr hne hs hf) (opsEqO F.mono hl hn) ha hb (nomark _)
end
@[simp] theorem oEqO_run {C : Str} {G : LSp} {neg : Bool} {l : List (Ty × Bool)} {x y : D} {h : LH} {Q : D → LH → Prop} : oEqO C G neg l x y h Q = (isObj C x h ∧ (∃ t b, tyD y h = some t ∧ l.lookup t = some b) ∧ G [x, y] h (fun r h' => ∃ b, r = .bl b ∧ Q (.bl (if neg then !b else b)) h') (fun _ _ _ => False)) := (rfl)
/-! ### bool(x), x an instance without own truth -/
def boolB (K : Frag) (C : Str) : Bool := decide (PySem.W.findIn K (.ref (He.ga K C)) "__bool__" = some none) && decide (PySem.W.findIn K (.ref (He.ga K C)) "__len__" = some none)
def rBool1 (C : Addr) : List V → Hp → VK → Prop := fun xs H Q => ∃ a dx fs, xs = [.ref a] ∧ H a = some (.ins C dx fs) ∧ Q (.bl true) H
theorem cr_bool1 {C : Str} (hb : boolB X.K C = true) : CallR X (.type "bool") (rBool1 (He.ga X.K C)) := by
  rintro pins s σ H xs us Q I r ⟨a, dx, fs, rfl, h, q⟩
  obtain rfl := Vals.ref1 r
  obtain ⟨b1, b2⟩ := He.ba hb
  let S : PySem.Spec := fun A R s => wpAny (model X.prog X.w) A.in1 (truthy (.ref a)) (fun b s' => R (.ok (.ret (.bool b))) s') (fun e s' => R (.error e) s') s
  have hS : MeetsIn X.prog X.w (Builtin.«bool.__new__» ⟨[.type "bool", .ref a], []⟩) S := fun A R s h =>
    wpAny_mono (bool_body (Q := fun r s' => R (.ok (.ret r)) s') h) (fun fin s' ⟨r, e, z⟩ => by subst e; exact z) fun _ _ e => e
  refine callType_newIn PySem.F.called_bool PySem.F.newNe_bool (PySem.F.typeCall_bool_1 _) (PySem.F.newCall_bool_1 _) (fun obj => PySem.F.args_object_init_2 obj _) PySem.F.entry_bool_new hS ?_
  obtain ⟨od, J⟩ := own_inst I h
  have KX := I.kIn
  show wpAny _ _ (truthy (.ref a)) _ _ _
  unfold truthy
  refine wpAny_bind (m := callSpecial? (.ref a) (Str.ofString "__bool__")) (wpAny_bind (wpAny_bind (J.type.here ((PySem.W.looks_findIn KX (of_decide_eq_true b1)).here (wpAny_pure ?_)))))
  refine wpAny_bind (wpAny_bind (J.type.here ((PySem.W.looks_findIn KX (of_decide_eq_true b2)).here ?_)))
  exact wpAny_pure ⟨rfl, .bl true, H, I, rfl, q⟩
def bBool1 (C : Str) : LB := fun ds h Q => match ds with
  | [x] => isObj C x h ∧ Q (.bl true) h
  | _ => False
theorem bsBool1 {K : Frag} {C : Str} : CallS K (rBool1 (He.ga K C)) (bBool1 C) := by
  refine ⟨fun ds h Q Q' hQ q => ?_, fun ι H h ds vs Q Qv hH rs q k => ?_⟩
  · unfold bBool1 at *
    split at q
    · exact ⟨q.1, hQ _ _ q.2⟩
    · exact q.elim
  · unfold bBool1 at q
    split at q
    · obtain ⟨v, rfl, r⟩ := rs.one
      obtain ⟨a, dx, fs, rfl, ha⟩ := isObj_run hH r q.1
      exact ⟨a, dx, fs, rfl, ha, k _ h ι _ H q.2 (.refl _ _) hH rfl⟩
    · exact q.elim
@[simp] theorem bBool1_run {C : Str} {x : D} {h : LH} {Q : D → LH → Prop} : bBool1 C [x] h Q = (isObj C x h ∧ Q (.bl true) h) := (rfl)
end LL
end

section
set_option Elab.async false
set_option linter.all false
set_option maxRecDepth 100000
set_option maxHeartbeats 1000000
/-! LLShw: how long texts are. -/
namespace LL
open PySem PySem.Spec PyProof.Rows L2
/-- few signs, none of them great -/
structure Short (x : Str) (n : Nat) : Prop where
  c : x.cps.toList.all (fun c => decide (c < 16 ^ 8)) = true
  l : x.length ≤ n
theorem Short.rep {x : Str} {n : Nat} (s : Short x n) : (reprText x).length ≤ 10 * n + 2 := by
  have := StrLaws.reprText_len x fun c hc => of_decide_eq_true (List.all_eq_true.mp s.c c hc)
  have := s.l
  omega
theorem cps_app (x y : Str) : (x ++ y).cps.toList = x.cps.toList ++ y.cps.toList := by
  show (x.cps ++ y.cps).toList = _
  simp
theorem Short.app {x y : Str} {n m : Nat} (a : Short x n) (b : Short y m) : Short (x ++ y) (n + m) := by
  refine ⟨?_, by rw [Str.length_append]; have := a.l; have := b.l; omega⟩
  rw [cps_app, List.all_append, a.c, b.c]; rfl
theorem Short.le {x : Str} {n m : Nat} (a : Short x n) (h : n ≤ m) : Short x m := ⟨a.c, Nat.le_trans a.l h⟩
theorem cps_small (x : String) : (Str.ofString x).cps.toList.all (fun c => decide (c < 16 ^ 8)) = true := by
  rw [Str.ofString_eq_toList, List.all_eq_true]
  intro c hc
  simp only [List.toList_toArray] at hc
  obtain ⟨d, _, rfl⟩ := List.mem_map.mp hc
  have e : (16 : Nat) ^ 8 = 2 ^ 32 := by decide
  rw [e]
  exact decide_eq_true (UInt32.toNat_lt d.val)
theorem short_of (x : String) {n : Nat} (h : (Str.ofString x).length ≤ n) : Short (Str.ofString x) n := ⟨cps_small x, h⟩
theorem short_empty : Short Str.empty 0 := ⟨rfl, Nat.le_refl _⟩
theorem short_int {i : Int} {n : Nat} (h : i.natAbs + 2 ≤ n) : Short (Str.ofString (toString i)) n := ⟨cps_small _, by have := PyProof.Rows.len_str_of_int i; omega⟩
theorem log2_small {i : Int} (h1 : i.natAbs ≤ 1000000) : i.natAbs.log2 < 1920 :=
  Nat.lt_of_lt_of_le (PySem.Flt.log2_lt_of (k := 20) (by decide) (by have e : (2 : Nat) ^ 20 = 1048576 := by decide
                                                                     omega)) (by decide)
/-- a value that is shown in at most n signs -/
def One (T : List (Str × LSp)) (h : LH) (m : Nat) (v : D) (n : Nat) : Prop := ∃ t, ShwD T h m v t ∧ t.length ≤ n
def Sh (T : List (Str × LSp)) (h : LH) (m : Nat) (vs : List D) (k : Nat) : Prop := ∃ ts : List Str, vs.length = ts.length ∧ (∀ (i : Nat) x t, vs[i]? = some x → ts[i]? = some t → ShwD T h m x t) ∧ (ts.map fun t => t.length).sum + 2 * ts.length ≤ k
variable {T : List (Str × LSp)} {h : LH} {m : Nat}
theorem sh_nil : Sh T h m [] 0 := ⟨[], rfl, fun i x t e => by simp at e, Nat.le_refl _⟩
theorem sh_cons {v : D} {vs : List D} {n k : Nat} (a : One T h m v n) (b : Sh T h m vs k) : Sh T h m (v :: vs) (n + 2 + k) := by
  obtain ⟨t, a1, a2⟩ := a
  obtain ⟨ts, b1, b2, b3⟩ := b
  refine ⟨t :: ts, by simp [b1], fun i x t' e1 e2 => ?_, by simp; omega⟩
  cases i with
  | zero =>
    rw [List.getElem?_cons_zero] at e1 e2
    rw [← Option.some.inj e1, ← Option.some.inj e2]; exact a1
  | succ i =>
    rw [List.getElem?_cons_succ] at e1 e2
    exact b2 i x t' e1 e2
theorem one_str {x : Str} {n : Nat} (s : Short x n) (hn : 10 * n + 2 ≤ sizeLine) : One T h m (.str x) (10 * n + 2) := ⟨_, .str (Nat.le_trans s.rep hn), s.rep⟩
theorem one_int {i : Int} {n : Nat} (hi : i.natAbs ≤ n) (hn : n ≤ 1000000) : One T h m (.int i) (n + 2) := ⟨_, .int (log2_small (by omega)), by have := PyProof.Rows.len_str_of_int i; omega⟩
theorem one_bl {b : Bool} : One T h m (.bl b) 5 := ⟨_, .bl, by cases b <;> decide +kernel⟩
theorem one_non : One T h m .non 5 := ⟨_, .non, by decide +kernel⟩
theorem one_tup {ds : List D} {k : Nat} (s : Sh T h m ds k) : One T h (m + 1) (.tup ds) (k + 3) := by
  obtain ⟨ts, a, b, c⟩ := s
  exact ⟨_, .tup a b, by have := tupleText_len_le ts; omega⟩
theorem one_lst {ds : List D} {k : Nat} (s : Sh T h m ds k) : One T h (m + 1) (.lst ds) (k + 3) := by
  obtain ⟨ts, a, b, c⟩ := s
  exact ⟨_, .lst rfl a b, by have := listText_len_le ts; omega⟩
theorem One.up {v : D} {n : Nat} (a : One T h m v n) : One T h (m + 1) v n := let ⟨t, x, y⟩ := a; ⟨t, x.up, y⟩
theorem One.le {v : D} {n n' : Nat} (a : One T h m v n) (l : n ≤ n') : One T h m v n' := let ⟨t, x, y⟩ := a; ⟨t, x, Nat.le_trans y l⟩
/-- what repr asks of a list -/
theorem Sh.out {vs : List D} {k : Nat} (s : Sh T h m vs k) (hk : k + 3 ≤ sizeLine) : ∃ ts : List Str, vs.length = ts.length ∧ (∀ (i : Nat) x t, vs[i]? = some x → ts[i]? = some t → ShwD T h m x t) ∧ (listText ts).length ≤ sizeLine := by
  obtain ⟨ts, a, b, c⟩ := s
  exact ⟨ts, a, b, by have := listText_len_le ts; omega⟩
end LL
end

section
set_option Elab.async false
set_option linter.all false
set_option maxRecDepth 100000
set_option maxHeartbeats 0
namespace LL.K02
open PySem PySem.Spec PyProof.Rows L2 LL
def top (i : Nat) : Stmt := PySem.Challenge.pw_smallheld_k02_settings_and_lines_made.main.body.getD i (.Pass ⟨0, 0, 0, 0⟩)
def d_law_grain : He.DefD := ⟨("_law_grain", none), "_law_grain", "_law_grain", defArgs (top 19), defBody (top 19), defScope (top 19), [], []⟩
def d_law_pick : He.DefD := ⟨("_law_pick", none), "_law_pick", "_law_pick", defArgs (top 20), defBody (top 20), defScope (top 20), [], []⟩
def d_law_ways : He.DefD := ⟨("_law_ways", none), "_law_ways", "_law_ways", defArgs (top 21), defBody (top 21), defScope (top 21), [], []⟩
def d_law_told : He.DefD := ⟨("_law_told", none), "_law_told", "_law_told", defArgs (top 22), defBody (top 22), defScope (top 22), [], []⟩
def d_InvalidRule_init : He.DefD := ⟨("InvalidRule", some "__init__"), "__init__", "InvalidRule.__init__", defArgs (inClass (top 3) 0), defBody (inClass (top 3) 0), defScope (inClass (top 3) 0), [], []⟩
def d_is_integer : He.DefD := ⟨("is_integer", none), "is_integer", "is_integer", defArgs (top 11), defBody (top 11), defScope (top 11), [], []⟩
def d_is_between : He.DefD := ⟨("is_between", none), "is_between", "is_between", defArgs (top 12), defBody (top 12), defScope (top 12), [], []⟩
def d_InvalidNumber_init : He.DefD := ⟨("InvalidNumber", some "__init__"), "__init__", "InvalidNumber.__init__", defArgs (inClass (top 4) 0), defBody (inClass (top 4) 0), defScope (inClass (top 4) 0), [], []⟩
def d_check_number : He.DefD := ⟨("check_number", none), "check_number", "check_number", defArgs (top 13), defBody (top 13), defScope (top 13), [], []⟩
def d_Setting_init : He.DefD := ⟨("Setting", some "__init__"), "__init__", "Setting.__init__", defArgs (inClass (top 14) 0), defBody (inClass (top 14) 0), defScope (inClass (top 14) 0), [], []⟩
def d_Setting_repr : He.DefD := ⟨("Setting", some "__repr__"), "__repr__", "Setting.__repr__", defArgs (inClass (top 14) 2), defBody (inClass (top 14) 2), defScope (inClass (top 14) 2), [], []⟩
def d_Setting_eq : He.DefD := ⟨("Setting", some "__eq__"), "__eq__", "Setting.__eq__", defArgs (inClass (top 14) 1), defBody (inClass (top 14) 1), defScope (inClass (top 14) 1), [], []⟩
def d_NotASetting_init : He.DefD := ⟨("NotASetting", some "__init__"), "__init__", "NotASetting.__init__", defArgs (inClass (top 2) 0), defBody (inClass (top 2) 0), defScope (inClass (top 2) 0), [], []⟩
def d_check_setting : He.DefD := ⟨("check_setting", none), "check_setting", "check_setting", defArgs (top 15), defBody (top 15), defScope (top 15), [], []⟩
def d_Line_init : He.DefD := ⟨("Line", some "__init__"), "__init__", "Line.__init__", defArgs (inClass (top 16) 0), defBody (inClass (top 16) 0), defScope (inClass (top 16) 0), [], []⟩
def d_Line_repr : He.DefD := ⟨("Line", some "__repr__"), "__repr__", "Line.__repr__", defArgs (inClass (top 16) 2), defBody (inClass (top 16) 2), defScope (inClass (top 16) 2), [], []⟩
def d_law_made : He.DefD := ⟨("_law_made", none), "_law_made", "_law_made", defArgs (top 23), defBody (top 23), defScope (top 23), [], []⟩
def d_Line_eq : He.DefD := ⟨("Line", some "__eq__"), "__eq__", "Line.__eq__", defArgs (inClass (top 16) 1), defBody (inClass (top 16) 1), defScope (inClass (top 16) 1), [], []⟩
def d_law_right : He.DefD := ⟨("_law_right", none), "_law_right", "_law_right", defArgs (top 24), defBody (top 24), defScope (top 24), [], []⟩
def d_law_mill : He.DefD := ⟨("_law_mill", none), "_law_mill", "_law_mill", defArgs (top 18), defBody (top 18), defScope (top 18), [], []⟩
def d_law : He.DefD := ⟨("law", none), "law", "law", defArgs (top 25), defBody (top 25), defScope (top 25), [], []⟩
def fn0 : List He.DefD := [d_law_grain, d_law_pick, d_law_ways, d_law_told, d_InvalidRule_init, d_is_integer, d_is_between, d_InvalidNumber_init, d_check_number, d_Setting_init, d_Setting_repr, d_Setting_eq, d_NotASetting_init, d_check_setting, d_Line_init, d_Line_repr, d_law_made, d_Line_eq, d_law_right, d_law_mill, d_law]
def fn : List He.DefD := fn0
def fa0 : List He.Fa := [.glo "InvalidNumber", .glo "InvalidRule", .glo "Line", .glo "NotASetting", .glo "RULES", .glo "Setting", .glo "_law_grain", .glo "_law_made", .glo "_law_mill", .glo "_law_pick", .glo "_law_right", .glo "_law_told", .glo "_law_ways", .glo "check_number", .glo "check_setting", .glo "is_between", .glo "is_integer", .glo "law", .free "abs", .free "all", .free "any", .free "bool", .free "divmod", .free "int"]
def fa1 : List He.Fa := [.free "isinstance", .free "len", .free "max", .free "min", .free "range", .free "repr", .free "str", .int "MOST_DELAY" 200, .int "MOST_EVERY" 4, .int "MOST_SIZE" 40, .int "MOST_WAY" 200, .cls "Line", .cls "Setting", .noat "Setting" "delay", .noat "Setting" "every", .noat "Line" "far", .noat "Line" "near", .noat "Setting" "rule", .noat "Line" "size", .noat "Setting" "told", .noat "Line" "told", .noat "Line" "way", .meth "Line" "__eq__", .meth "Line" "__repr__"]
def fa2 : List He.Fa := [.meth "Setting" "__eq__", .meth "Setting" "__repr__", .mkr "Line", .mkr "Setting"]
def fa : List He.Fa := fa0 ++ (fa1 ++ (fa2))
def loose0 : List Str := ["InputError", "NotASetting", "InvalidRule", "InvalidNumber", "MOST_SIZE", "MOST_WAY", "MOST_EVERY", "MOST_DELAY", "RULES", "is_integer", "is_between", "check_number", "Setting", "check_setting", "Line", "_law_mill", "_law_grain", "_law_pick", "_law_ways", "_law_told", "_law_made", "_law_right"]
def loose : List Str := loose0
def is_Line : List (Ty × Bool) := [(.bt "int", false), (.bt "bool", false), (.bt "str", false), (.bt "NoneType", false), (.bt "tuple", false), (.bt "list", false), (.bt "dict", false), (.cl "Setting", false), (.cl "Line", true)]
def is_Setting : List (Ty × Bool) := [(.bt "int", false), (.bt "bool", false), (.bt "str", false), (.bt "NoneType", false), (.bt "tuple", false), (.bt "list", false), (.bt "dict", false), (.cl "Setting", true), (.cl "Line", false)]
def is_bool : List (Ty × Bool) := [(.bt "int", false), (.bt "bool", true), (.bt "str", false), (.bt "NoneType", false), (.bt "tuple", false), (.bt "list", false), (.bt "dict", false), (.cl "Setting", false), (.cl "Line", false)]
def is_int : List (Ty × Bool) := [(.bt "int", true), (.bt "bool", true), (.bt "str", false), (.bt "NoneType", false), (.bt "tuple", false), (.bt "list", false), (.bt "dict", false), (.cl "Setting", false), (.cl "Line", false)]
def is_str : List (Ty × Bool) := [(.bt "int", false), (.bt "bool", false), (.bt "str", true), (.bt "NoneType", false), (.bt "tuple", false), (.bt "list", false), (.bt "dict", false), (.cl "Setting", false), (.cl "Line", false)]
def tup_RULES : D := .tup [.str "plain", .str "hold", .str "few"]
def ts : List He.Tab := []
def ex (K : Frag) : Bool := tabsOk K && (smB K && (is_Line.all (isB K (.cl "Line")) && (is_Setting.all (isB K (.cl "Setting")) && (is_bool.all (isB K (.bt "bool")) && (is_int.all (isB K (.bt "int")) && (is_str.all (isB K (.bt "str")) && (He.tupB K "RULES" [.str "plain", .str "hold", .str "few"] && (oexB K "InvalidNumber" "value" && (oexB K "InvalidRule" "value" && (oexB K "NotASetting" "value" && (LL.K02.is_Line.all (fun p => PySem.W.notFirst K (He.ga K "Line") (p.1.v K)) && (LL.K02.is_Setting.all (fun p => PySem.W.notFirst K (He.ga K "Setting") (p.1.v K)) && (neB K "Line" && (boolB K "Line" && (boolB K "Setting" && (xfnB K "InvalidNumber" "value" && (xfnB K "InvalidRule" "value" && (xfnB K "NotASetting" "value"))))))))))))))))))
def tf : List He.Defn := []
abbrev cs_delay : List Str := ["Setting"]
abbrev cs_every : List Str := ["Setting"]
abbrev cs_far : List Str := ["Line"]
abbrev cs_near : List Str := ["Line"]
abbrev cs_rule : List Str := ["Setting"]
abbrev cs_size : List Str := ["Line"]
abbrev cs_told : List Str := ["Setting", "Line"]
abbrev cs_way : List Str := ["Line"]
abbrev R : PySem.W.OpenRow := PySem.W.OpenLaw.row PySem.Challenge.rw_smallheld_k02_settings_and_lines_made
abbrev hk : PySem.W.Hook := hookL 6 fa fn ts tf ex
def ob (s : PySem.W.SharedT) : He.AlX := obsL 6 fa fn ts tf ex (HandSHeadRun.getT s)
theorem ob_eq (s : PySem.W.SharedT) : ob s = hk.obs s.abs := obsL_eq (HandSHeadRun.getT_eq s)
end LL.K02
end

section
set_option Elab.async false
set_option linter.all false
set_option maxRecDepth 100000
/-! K02Spec: the promise of each def. -/
namespace LL.K02
open PySem LL
/-! ### draws -/
def wellO (a c b : Int) : O := .lst [.int a, .int c, .int b]
def WellAt (w : Nat) (h : LH) : Prop := ∃ a c b, h[w]? = some (wellO a c b)
def wsp (w : Nat) (R : D → Prop) (h : LH) (Q : D → LH → Prop) : Prop := WellAt w h ∧ ∀ r a c b, R r → Q r (h.set w (wellO a c b))
def G_law_mill : LSp := fun ds h Q _ => ∃ (ns : List Int) (k : Nat), ds = [.lst (ns.map .int), .int k] ∧ ns.length ≤ 63 ∧ ∀ a c b, Q (.ref h.length) (h ++ [wellO a c b])
def G_law_grain : LSp := fun ds h Q _ => ∃ w m, ds = [.ref w, .int m] ∧ 0 < m ∧ m < 1073741824 ∧ wsp w (fun d => ∃ r, d = .int r ∧ 0 ≤ r ∧ r < m) h Q
def G_law_pick : LSp := fun ds h Q _ => ∃ w xs, ds = [.ref w, .lst xs] ∧ 0 < xs.length ∧ xs.length < 1000 ∧ wsp w (fun d => d ∈ xs) h Q
/-! ### settings and lines -/
def isS (C : Str) (h : LH) : D → Bool
  | .ref n => match h[n]? with
    | some (.ins C' _) => decide (C' = C)
    | _ => false
  | _ => false
/-- values whose type the law asks -/
def knd (h : LH) : D → Prop
  | .non | .bl _ | .int _ | .str _ | .tup _ | .lst _ | .dct _ _ => True
  | .ref n => (∃ fs, h[n]? = some (.ins "Setting" fs)) ∨ (∃ fs, h[n]? = some (.ins "Line" fs))
  | _ => False
def isInt : D → Bool
  | .int _ => true
  | _ => false
def betw (v : D) (l u : Int) : Bool := match v with
  | .int i => decide (l ≤ i) && decide (i ≤ u)
  | _ => false
def ruleB (x : Str) : Bool := decide (x = "plain") || (decide (x = "hold") || decide (x = "few"))
def ruleOk : D → Bool
  | .str x => ruleB x
  | _ => false
def told3 (r : Str) (e d : Int) : D := .tup [.str r, .int e, .int d]
def setF (r : Str) (e d : Int) : List (Str × D) := [("rule", .str r), ("every", .int e), ("delay", .int d), ("told", told3 r e d)]
def lineF (z y : Int) (a b ta tb : D) : List (Str × D) := [("size", .int z), ("way", .int y), ("near", a), ("far", b), ("told", .tup [.int z, .int y, ta, tb])]
def SetAt (n : Nat) (r : Str) (e d : Int) (h : LH) : Prop := h[n]? = some (.ins "Setting" (setF r e d))
def LineAt (n : Nat) (z y : Int) (a b ta tb : D) (h : LH) : Prop := h[n]? = some (.ins "Line" (lineF z y a b ta tb))
def SetOk (h : LH) (v : D) : Prop := isS "Setting" h v = true → ∃ n r e d, v = .ref n ∧ SetAt n r e d h
def G_is_integer : LSp := fun ds h Q _ => ∃ v, ds = [v] ∧ knd h v ∧ Q (.bl (isInt v)) h
def G_is_between : LSp := fun ds h Q _ => ∃ v l u, ds = [v, .int l, .int u] ∧ knd h v ∧ Q (.bl (betw v l u)) h
def G_check_number : LSp := fun ds h Q E => ∃ v l u, ds = [v, .int l, .int u] ∧ knd h v ∧ (betw v l u = true → Q .non h) ∧ (betw v l u = false → E "InvalidNumber" [("value", v)] h)
def G_check_setting : LSp := fun ds h Q E => ∃ v, ds = [v] ∧ knd h v ∧ (isS "Setting" h v = true → Q .non h) ∧ (isS "Setting" h v = false → E "NotASetting" [("value", v)] h)
def G_Setting_init : LSp := fun ds h Q E => ∃ pre r e d, ds = [.ref pre.length, r, e, d] ∧ h = pre ++ [.ins "Setting" []] ∧ knd h r ∧ knd h e ∧ knd h d ∧ (ruleOk r = false → E "InvalidRule" [("value", r)] h) ∧
  (ruleOk r = true → betw e 1 4 = false → E "InvalidNumber" [("value", e)] h) ∧ (ruleOk r = true → betw e 1 4 = true → betw d 0 200 = false → E "InvalidNumber" [("value", d)] h) ∧
  (∀ x i j, r = .str x → e = .int i → d = .int j → ruleB x = true → 1 ≤ i → i ≤ 4 → 0 ≤ j → j ≤ 200 → Q .non (pre ++ [.ins "Setting" (setF x i j)]))
def G_Line_init : LSp := fun ds h Q E => ∃ pre z y a b, ds = [.ref pre.length, z, y, a, b] ∧ h = pre ++ [.ins "Line" []] ∧ knd h z ∧ knd h y ∧ knd h a ∧ knd h b ∧ SetOk h a ∧ SetOk h b ∧ (betw z 1 40 = false → E "InvalidNumber" [("value", z)] h) ∧
  (betw z 1 40 = true → betw y 1 200 = false → E "InvalidNumber" [("value", y)] h) ∧ (betw z 1 40 = true → betw y 1 200 = true → isS "Setting" h a = false → E "NotASetting" [("value", a)] h) ∧
  (betw z 1 40 = true → betw y 1 200 = true → isS "Setting" h a = true → isS "Setting" h b = false → E "NotASetting" [("value", b)] h) ∧
  (∀ i j na nb ra ea da rb eb db, z = .int i → y = .int j → a = .ref na → b = .ref nb → 1 ≤ i → i ≤ 40 → 1 ≤ j → j ≤ 200 → SetAt na ra ea da h → SetAt nb rb eb db h → Q .non (pre ++ [.ins "Line" (lineF i j a b (told3 ra ea da) (told3 rb eb db))]))
def setT (r : Str) (e d : Int) : Str := ((((((Str.empty ++ "Setting(") ++ r) ++ ", ") ++ Str.ofString (toString e)) ++ ", ") ++ Str.ofString (toString d)) ++ ")"
def lineT (z y : Int) : Str := ((((Str.empty ++ "Line(") ++ Str.ofString (toString z)) ++ " bytes, ") ++ Str.ofString (toString y)) ++ " ticks)"
def G_Setting_repr : LSp := fun ds h Q _ => ∃ n r e d, ds = [.ref n] ∧ SetAt n r e d h ∧ ruleB r = true ∧ 1 ≤ e ∧ e ≤ 4 ∧ 0 ≤ d ∧ d ≤ 200 ∧ Q (.str (setT r e d)) h
def G_Line_repr : LSp := fun ds h Q _ => ∃ n z y a b ta tb, ds = [.ref n] ∧ LineAt n z y a b ta tb h ∧ 1 ≤ z ∧ z ≤ 40 ∧ 1 ≤ y ∧ y ≤ 200 ∧ Q (.str (lineT z y)) h
def G_law_right : LSp := fun ds h Q _ => ∃ w, ds = [.ref w] ∧ WellAt w h ∧ ∀ h', Q (.bl true) h'
def G_law : LSp := spLaw 63
/-- how instances are shown -/
abbrev T0 : List (Str × LSp) := [("Line", G_Line_repr), ("Setting", G_Setting_repr)]
/-- data that can be shown in few signs -/
structure Nice (d : D) (p : PyData) : Prop where
  py : dPy d = some p
  sh : p.showable = true
  ls : p.shown.length ≤ 200
  dp : p.depth ≤ 2
/-- a value that is shown in few signs -/
def Shows (h : LH) (v : D) : Prop := ∃ t, ShwD T0 h 2 v t ∧ t.length ≤ 200
/-! ### what a line tells -/
structure Tl where
  z : Int
  y : Int
  r1 : Str
  e1 : Int
  d1 : Int
  r2 : Str
  e2 : Int
  d2 : Int
structure SOk (r : Str) (e d : Int) : Prop where
  r : ruleB r = true
  e1 : 1 ≤ e
  e2 : e ≤ 4
  d1 : 0 ≤ d
  d2 : d ≤ 200
structure Tl.Ok (t : Tl) : Prop where
  z1 : 1 ≤ t.z
  z2 : t.z ≤ 40
  y1 : 1 ≤ t.y
  y2 : t.y ≤ 200
  s1 : SOk t.r1 t.e1 t.d1
  s2 : SOk t.r2 t.e2 t.d2
def Tl.D (t : Tl) : D := .tup [.int t.z, .int t.y, told3 t.r1 t.e1 t.d1, told3 t.r2 t.e2 t.d2]
def py3 (r : Str) (e d : Int) : PyData := .tuple [.str r, .int e, .int d]
def Tl.py (t : Tl) : PyData := .tuple [.int t.z, .int t.y, py3 t.r1 t.e1 t.d1, py3 t.r2 t.e2 t.d2]
def lineO (t : Tl) (a b : D) : O := .ins "Line" (lineF t.z t.y a b (told3 t.r1 t.e1 t.d1) (told3 t.r2 t.e2 t.d2))
def setO (r : Str) (e d : Int) : O := .ins "Setting" (setF r e d)
def LineT (m : Nat) (t : Tl) (h : LH) : Prop := ∃ a b, h[m]? = some (lineO t a b)
def G_law_ways : LSp := fun ds h Q _ => ∃ w, ds = [.ref w] ∧ wsp w (fun x => ∃ r e d, x = told3 r e d ∧ SOk r e d) h Q
def G_law_told : LSp := fun ds h Q _ => ∃ w, ds = [.ref w] ∧ wsp w (fun x => ∃ t : Tl, x = t.D ∧ t.Ok) h Q
def G_law_made : LSp := fun ds h Q _ => ∃ t : Tl, ds = [t.D] ∧ t.Ok ∧ Q (.ref (h.length + 2)) (h ++ [setO t.r1 t.e1 t.d1, setO t.r2 t.e2 t.d2, lineO t (.ref h.length) (.ref (h.length + 1))])
def G_Setting_eq : LSp := fun ds h Q _ => ∃ n r e d y, ds = [.ref n, y] ∧ SetAt n r e d h ∧ ruleB r = true ∧ ((∃ m r' e' d', y = .ref m ∧ SetAt m r' e' d' h ∧ ruleB r' = true) ∨ ∃ xs, y = .tup xs) ∧ (∀ m r' e' d', y = .ref m → SetAt m r' e' d' h → Q (.bl (PyData.eqv (py3 r e d) (py3 r' e' d'))) h) ∧ (∀ xs, y = .tup xs → Q (.bl false) h)
def G_Line_eq : LSp := fun ds h Q _ => ∃ n t y, ds = [.ref n, y] ∧ LineT n t h ∧ Tl.Ok t ∧ ((∃ m t', y = .ref m ∧ LineT m t' h ∧ Tl.Ok t') ∨ (∃ xs, y = .tup xs) ∨ ∃ m r e d, y = .ref m ∧ SetAt m r e d h) ∧ (∀ m t', y = .ref m → LineT m t' h → Q (.bl (PyData.eqv (Tl.py t) (Tl.py t'))) h) ∧ (∀ xs, y = .tup xs → Q (.bl false) h) ∧ (∀ m r e d, y = .ref m → SetAt m r e d h → Q (.bl false) h)

end LL.K02
end

section
set_option Elab.async false
set_option linter.all false
set_option maxRecDepth 100000
namespace LL.K02
open PySem LL
theorem wsp_mono {w : Nat} {R : D → Prop} {h : LH} {Q Q' : D → LH → Prop} (hQ : ∀ d h, Q d h → Q' d h) (q : wsp w R h Q) : wsp w R h Q' := ⟨q.1, fun r a c b hr => hQ _ _ (q.2 r a c b hr)⟩

theorem M_law_mill : MonoP G_law_mill := fun ds h Q Q' E E' hQ hE ⟨x0, x1, y0, y1, y2⟩ => ⟨x0, x1, y0, y1, (fun z0 z1 z2 => hQ _ _ (y2 z0 z1 z2))⟩
theorem M_law_grain : MonoP G_law_grain := fun ds h Q Q' E E' hQ hE ⟨x0, x1, y0, y1, y2, y3⟩ => ⟨x0, x1, y0, y1, y2, wsp_mono hQ y3⟩
theorem M_law_pick : MonoP G_law_pick := fun ds h Q Q' E E' hQ hE ⟨x0, x1, y0, y1, y2, y3⟩ => ⟨x0, x1, y0, y1, y2, wsp_mono hQ y3⟩
theorem M_is_integer : MonoP G_is_integer := fun ds h Q Q' E E' hQ hE ⟨x0, y0, y1, y2⟩ => ⟨x0, y0, y1, (hQ _ _ y2)⟩
theorem M_is_between : MonoP G_is_between := fun ds h Q Q' E E' hQ hE ⟨x0, x1, x2, y0, y1, y2⟩ => ⟨x0, x1, x2, y0, y1, (hQ _ _ y2)⟩
theorem M_check_number : MonoP G_check_number := fun ds h Q Q' E E' hQ hE ⟨x0, x1, x2, y0, y1, y2, y3⟩ => ⟨x0, x1, x2, y0, y1, (fun z0 => hQ _ _ (y2 z0)), (fun z0 => hE _ _ _ (y3 z0))⟩
theorem M_check_setting : MonoP G_check_setting := fun ds h Q Q' E E' hQ hE ⟨x0, y0, y1, y2, y3⟩ => ⟨x0, y0, y1, (fun z0 => hQ _ _ (y2 z0)), (fun z0 => hE _ _ _ (y3 z0))⟩
theorem M_Setting_init : MonoP G_Setting_init := fun ds h Q Q' E E' hQ hE ⟨x0, x1, x2, x3, y0, y1, y2, y3, y4, y5, y6, y7, y8⟩ => ⟨x0, x1, x2, x3, y0, y1, y2, y3, y4, (fun z0 => hE _ _ _ (y5 z0)), (fun z0 z1 => hE _ _ _ (y6 z0 z1)), (fun z0 z1 z2 => hE _ _ _ (y7 z0 z1 z2)), (fun z0 z1 z2 z3 z4 z5 z6 z7 z8 z9 z10 => hQ _ _ (y8 z0 z1 z2 z3 z4 z5 z6 z7 z8 z9 z10))⟩
theorem M_Line_init : MonoP G_Line_init := fun ds h Q Q' E E' hQ hE ⟨x0, x1, x2, x3, x4, y0, y1, y2, y3, y4, y5, y6, y7, y8, y9, y10, y11, y12⟩ => ⟨x0, x1, x2, x3, x4, y0, y1, y2, y3, y4, y5, y6, y7, (fun z0 => hE _ _ _ (y8 z0)), (fun z0 z1 => hE _ _ _ (y9 z0 z1)), (fun z0 z1 z2 => hE _ _ _ (y10 z0 z1 z2)), (fun z0 z1 z2 z3 => hE _ _ _ (y11 z0 z1 z2 z3)), (fun z0 z1 z2 z3 z4 z5 z6 z7 z8 z9 z10 z11 z12 z13 z14 z15 z16 z17 z18 z19 => hQ _ _ (y12 z0 z1 z2 z3 z4 z5 z6 z7 z8 z9 z10 z11 z12 z13 z14 z15 z16 z17 z18 z19))⟩
theorem M_Setting_repr : MonoP G_Setting_repr := fun ds h Q Q' E E' hQ hE ⟨x0, x1, x2, x3, y0, y1, y2, y3, y4, y5, y6, y7⟩ => ⟨x0, x1, x2, x3, y0, y1, y2, y3, y4, y5, y6, (hQ _ _ y7)⟩
theorem M_Line_repr : MonoP G_Line_repr := fun ds h Q Q' E E' hQ hE ⟨x0, x1, x2, x3, x4, x5, x6, y0, y1, y2, y3, y4, y5, y6⟩ => ⟨x0, x1, x2, x3, x4, x5, x6, y0, y1, y2, y3, y4, y5, (hQ _ _ y6)⟩
theorem M_law_right : MonoP G_law_right := fun ds h Q Q' E E' hQ hE ⟨x0, y0, y1, y2⟩ => ⟨x0, y0, y1, (fun z0 => hQ _ _ (y2 z0))⟩
theorem M_law_ways : MonoP G_law_ways := fun ds h Q Q' E E' hQ hE ⟨x0, y0, y1⟩ => ⟨x0, y0, wsp_mono hQ y1⟩
theorem M_law_told : MonoP G_law_told := fun ds h Q Q' E E' hQ hE ⟨x0, y0, y1⟩ => ⟨x0, y0, wsp_mono hQ y1⟩
theorem M_law_made : MonoP G_law_made := fun ds h Q Q' E E' hQ hE ⟨x0, y0, y1, y2⟩ => ⟨x0, y0, y1, (hQ _ _ y2)⟩
theorem M_Setting_eq : MonoP G_Setting_eq := fun ds h Q Q' E E' hQ hE ⟨x0, x1, x2, x3, x4, y0, y1, y2, y3, y4, y5⟩ => ⟨x0, x1, x2, x3, x4, y0, y1, y2, y3, (fun z0 z1 z2 z3 z4 z5 => hQ _ _ (y4 z0 z1 z2 z3 z4 z5)), (fun z0 z1 => hQ _ _ (y5 z0 z1))⟩
theorem M_Line_eq : MonoP G_Line_eq := fun ds h Q Q' E E' hQ hE ⟨x0, x1, x2, y0, y1, y2, y3, y4, y5, y6⟩ => ⟨x0, x1, x2, y0, y1, y2, y3, (fun z0 z1 z2 z3 => hQ _ _ (y4 z0 z1 z2 z3)), (fun z0 z1 => hQ _ _ (y5 z0 z1)), (fun z0 z1 z2 z3 z4 z5 => hQ _ _ (y6 z0 z1 z2 z3 z4 z5))⟩
theorem M_law : MonoP G_law := mono_law
end LL.K02
end

section
set_option Elab.async false
set_option linter.all false
set_option maxRecDepth 100000
set_option maxHeartbeats 0
namespace LL.K02
open PySem PySem.Spec PyProof.Rows L2 LL
structure Wd (w : World) (K : Frag) (mg : Str → Option Value) (h base : Heap) : Prop where
  kin : K.In h
  ns : h.Ns mainGlobals mg
  c : He.SaysX fa fn ts tf ex w h K
  tb : ∀ p ∈ tf, LamX.TabB base mg (He.cT K p).1 (He.cT K p).2
theorem tk0 {X : Cx} : L2N.Takes X NoW := takesNo
section
variable {w : World} {K : Frag} {mg : Str → Option Value} {h base : Heap} (D : Wd w K mg h base)
include D
theorem Wd.ft (i : Nat) {f : He.Fa} (e : fa[i]? = some f := by rfl) : f.ok K = true := D.c.t.d.fact i e
theorem Wd.g_InvalidNumber : mg "InvalidNumber" = some (.ref (He.ga K "InvalidNumber")) := He.glo_ok D.kin D.ns (D.ft 0)
theorem Wd.g_InvalidRule : mg "InvalidRule" = some (.ref (He.ga K "InvalidRule")) := He.glo_ok D.kin D.ns (D.ft 1)
theorem Wd.g_Line : mg "Line" = some (.ref (He.ga K "Line")) := He.glo_ok D.kin D.ns (D.ft 2)
theorem Wd.g_NotASetting : mg "NotASetting" = some (.ref (He.ga K "NotASetting")) := He.glo_ok D.kin D.ns (D.ft 3)
theorem Wd.g_RULES : mg "RULES" = some (.ref (He.ga K "RULES")) := He.glo_ok D.kin D.ns (D.ft 4)
theorem Wd.g_Setting : mg "Setting" = some (.ref (He.ga K "Setting")) := He.glo_ok D.kin D.ns (D.ft 5)
theorem Wd.g__law_grain : mg "_law_grain" = some (.ref (He.ga K "_law_grain")) := He.glo_ok D.kin D.ns (D.ft 6)
theorem Wd.g__law_made : mg "_law_made" = some (.ref (He.ga K "_law_made")) := He.glo_ok D.kin D.ns (D.ft 7)
theorem Wd.g__law_mill : mg "_law_mill" = some (.ref (He.ga K "_law_mill")) := He.glo_ok D.kin D.ns (D.ft 8)
theorem Wd.g__law_pick : mg "_law_pick" = some (.ref (He.ga K "_law_pick")) := He.glo_ok D.kin D.ns (D.ft 9)
theorem Wd.g__law_right : mg "_law_right" = some (.ref (He.ga K "_law_right")) := He.glo_ok D.kin D.ns (D.ft 10)
theorem Wd.g__law_told : mg "_law_told" = some (.ref (He.ga K "_law_told")) := He.glo_ok D.kin D.ns (D.ft 11)
theorem Wd.g__law_ways : mg "_law_ways" = some (.ref (He.ga K "_law_ways")) := He.glo_ok D.kin D.ns (D.ft 12)
theorem Wd.g_check_number : mg "check_number" = some (.ref (He.ga K "check_number")) := He.glo_ok D.kin D.ns (D.ft 13)
theorem Wd.g_check_setting : mg "check_setting" = some (.ref (He.ga K "check_setting")) := He.glo_ok D.kin D.ns (D.ft 14)
theorem Wd.g_is_between : mg "is_between" = some (.ref (He.ga K "is_between")) := He.glo_ok D.kin D.ns (D.ft 15)
theorem Wd.g_is_integer : mg "is_integer" = some (.ref (He.ga K "is_integer")) := He.glo_ok D.kin D.ns (D.ft 16)
theorem Wd.g_law : mg "law" = some (.ref (He.ga K "law")) := He.glo_ok D.kin D.ns (D.ft 17)
theorem Wd.u_abs : mg "abs" = none := He.free_ok D.kin D.ns (D.ft 18)
theorem Wd.u_all : mg "all" = none := He.free_ok D.kin D.ns (D.ft 19)
theorem Wd.u_any : mg "any" = none := He.free_ok D.kin D.ns (D.ft 20)
theorem Wd.u_bool : mg "bool" = none := He.free_ok D.kin D.ns (D.ft 21)
theorem Wd.u_divmod : mg "divmod" = none := He.free_ok D.kin D.ns (D.ft 22)
theorem Wd.u_int : mg "int" = none := He.free_ok D.kin D.ns (D.ft 23)
theorem Wd.u_isinstance : mg "isinstance" = none := He.free_ok D.kin D.ns (D.ft 24)
theorem Wd.u_len : mg "len" = none := He.free_ok D.kin D.ns (D.ft 25)
theorem Wd.u_max : mg "max" = none := He.free_ok D.kin D.ns (D.ft 26)
theorem Wd.u_min : mg "min" = none := He.free_ok D.kin D.ns (D.ft 27)
theorem Wd.u_range : mg "range" = none := He.free_ok D.kin D.ns (D.ft 28)
theorem Wd.u_repr : mg "repr" = none := He.free_ok D.kin D.ns (D.ft 29)
theorem Wd.u_str : mg "str" = none := He.free_ok D.kin D.ns (D.ft 30)
theorem Wd.i_MOST_DELAY : ∃ t, mg "MOST_DELAY" = some (.int 200 t) := He.int_ok D.kin D.ns (D.ft 31)
theorem Wd.i_MOST_EVERY : ∃ t, mg "MOST_EVERY" = some (.int 4 t) := He.int_ok D.kin D.ns (D.ft 32)
theorem Wd.i_MOST_SIZE : ∃ t, mg "MOST_SIZE" = some (.int 40 t) := He.int_ok D.kin D.ns (D.ft 33)
theorem Wd.i_MOST_WAY : ∃ t, mg "MOST_WAY" = some (.int 200 t) := He.int_ok D.kin D.ns (D.ft 34)
theorem Wd.c_Line : Cls K (He.ga K "Line") := He.cls_ok (D.ft 35)
theorem Wd.c_Setting : Cls K (He.ga K "Setting") := He.cls_ok (D.ft 36)
theorem Wd.m_Line_eq : Meth K (He.ga K "Line") "__eq__" (He.fAd K ("Line", some "__eq__")) := He.meth_ok (D.ft 46)
theorem Wd.m_Line_repr : Meth K (He.ga K "Line") "__repr__" (He.fAd K ("Line", some "__repr__")) := He.meth_ok (D.ft 47)
theorem Wd.m_Setting_eq : Meth K (He.ga K "Setting") "__eq__" (He.fAd K ("Setting", some "__eq__")) := He.meth_ok (D.ft 48)
theorem Wd.m_Setting_repr : Meth K (He.ga K "Setting") "__repr__" (He.fAd K ("Setting", some "__repr__")) := He.meth_ok (D.ft 49)
theorem Wd.mk_Line : Mk K (He.ga K "Line") (He.fAd K ("Line", some "__init__")) := He.mkr_ok (D.ft 50)
theorem Wd.mk_Setting : Mk K (He.ga K "Setting") (He.fAd K ("Setting", some "__init__")) := He.mkr_ok (D.ft 51)
theorem Wd.f_delay : ∀ C ∈ cs_delay, CF K C "delay" := by
  intro C hC
  simp only [cs_delay, List.mem_cons, List.not_mem_nil, or_false] at hC
  rcases hC with rfl
  · exact ⟨D.c_Setting, He.noat_ok (D.ft 37)⟩
theorem Wd.f_every : ∀ C ∈ cs_every, CF K C "every" := by
  intro C hC
  simp only [cs_every, List.mem_cons, List.not_mem_nil, or_false] at hC
  rcases hC with rfl
  · exact ⟨D.c_Setting, He.noat_ok (D.ft 38)⟩
theorem Wd.f_far : ∀ C ∈ cs_far, CF K C "far" := by
  intro C hC
  simp only [cs_far, List.mem_cons, List.not_mem_nil, or_false] at hC
  rcases hC with rfl
  · exact ⟨D.c_Line, He.noat_ok (D.ft 39)⟩
theorem Wd.f_near : ∀ C ∈ cs_near, CF K C "near" := by
  intro C hC
  simp only [cs_near, List.mem_cons, List.not_mem_nil, or_false] at hC
  rcases hC with rfl
  · exact ⟨D.c_Line, He.noat_ok (D.ft 40)⟩
theorem Wd.f_rule : ∀ C ∈ cs_rule, CF K C "rule" := by
  intro C hC
  simp only [cs_rule, List.mem_cons, List.not_mem_nil, or_false] at hC
  rcases hC with rfl
  · exact ⟨D.c_Setting, He.noat_ok (D.ft 41)⟩
theorem Wd.f_size : ∀ C ∈ cs_size, CF K C "size" := by
  intro C hC
  simp only [cs_size, List.mem_cons, List.not_mem_nil, or_false] at hC
  rcases hC with rfl
  · exact ⟨D.c_Line, He.noat_ok (D.ft 42)⟩
theorem Wd.f_told : ∀ C ∈ cs_told, CF K C "told" := by
  intro C hC
  simp only [cs_told, List.mem_cons, List.not_mem_nil, or_false] at hC
  rcases hC with rfl | rfl
  · exact ⟨D.c_Setting, He.noat_ok (D.ft 43)⟩
  · exact ⟨D.c_Line, He.noat_ok (D.ft 44)⟩
theorem Wd.f_way : ∀ C ∈ cs_way, CF K C "way" := by
  intro C hC
  simp only [cs_way, List.mem_cons, List.not_mem_nil, or_false] at hC
  rcases hC with rfl
  · exact ⟨D.c_Line, He.noat_ok (D.ft 45)⟩
theorem Wd.tabsOk : tabsOk K = true := (He.ba D.c.more).1
theorem Wd.sm : smB K = true := (He.ba (He.ba D.c.more).2).1
theorem Wd.is_Line : is_Line.all (isB K (.cl "Line")) = true := (He.ba (He.ba (He.ba D.c.more).2).2).1
theorem Wd.is_Setting : is_Setting.all (isB K (.cl "Setting")) = true := (He.ba (He.ba (He.ba (He.ba D.c.more).2).2).2).1
theorem Wd.is_bool : is_bool.all (isB K (.bt "bool")) = true := (He.ba (He.ba (He.ba (He.ba (He.ba D.c.more).2).2).2).2).1
theorem Wd.is_int : is_int.all (isB K (.bt "int")) = true := (He.ba (He.ba (He.ba (He.ba (He.ba (He.ba D.c.more).2).2).2).2).2).1
theorem Wd.is_str : is_str.all (isB K (.bt "str")) = true := (He.ba (He.ba (He.ba (He.ba (He.ba (He.ba (He.ba D.c.more).2).2).2).2).2).2).1
theorem Wd.t_RULES : ∀ H, SqT K H (He.ga K "RULES") [.str "plain", .str "hold", .str "few"] := fun H => He.tupB_ok (He.ba (He.ba (He.ba (He.ba (He.ba (He.ba (He.ba (He.ba D.c.more).2).2).2).2).2).2).2).1 H
omit D in
theorem Wd.r_RULES0 : ∀ ι H, RelDs K ι H [.str "plain", .str "hold", .str "few"] [.str "plain", .str "hold", .str "few"] := fun ι H => ⟨_, _, rfl, rfl, ⟨_, _, rfl, rfl, ⟨_, _, rfl, rfl, rfl⟩⟩⟩
theorem Wd.r_RULES : ∀ ι H, RelDs K ι H [.str "plain", .str "hold", .str "few"] [.str "plain", .str "hold", .str "few"] := Wd.r_RULES0
theorem Wd.xo_InvalidNumber : OexF K "InvalidNumber" "value" := oexB_ok (He.ba (He.ba (He.ba (He.ba (He.ba (He.ba (He.ba (He.ba (He.ba D.c.more).2).2).2).2).2).2).2).2).1
theorem Wd.xo_InvalidRule : OexF K "InvalidRule" "value" := oexB_ok (He.ba (He.ba (He.ba (He.ba (He.ba (He.ba (He.ba (He.ba (He.ba (He.ba D.c.more).2).2).2).2).2).2).2).2).2).1
theorem Wd.xo_NotASetting : OexF K "NotASetting" "value" := oexB_ok (He.ba (He.ba (He.ba (He.ba (He.ba (He.ba (He.ba (He.ba (He.ba (He.ba (He.ba D.c.more).2).2).2).2).2).2).2).2).2).2).1
theorem Wd.nf_Line : LL.K02.is_Line.all (fun p => PySem.W.notFirst K (He.ga K "Line") (p.1.v K)) = true := (He.ba (He.ba (He.ba (He.ba (He.ba (He.ba (He.ba (He.ba (He.ba (He.ba (He.ba (He.ba D.c.more).2).2).2).2).2).2).2).2).2).2).2).1
theorem Wd.nf_Setting : LL.K02.is_Setting.all (fun p => PySem.W.notFirst K (He.ga K "Setting") (p.1.v K)) = true := (He.ba (He.ba (He.ba (He.ba (He.ba (He.ba (He.ba (He.ba (He.ba (He.ba (He.ba (He.ba (He.ba D.c.more).2).2).2).2).2).2).2).2).2).2).2).2).1
theorem Wd.ne_Line : neB K "Line" = true := (He.ba (He.ba (He.ba (He.ba (He.ba (He.ba (He.ba (He.ba (He.ba (He.ba (He.ba (He.ba (He.ba (He.ba D.c.more).2).2).2).2).2).2).2).2).2).2).2).2).2).1
theorem Wd.bo_Line : boolB K "Line" = true := (He.ba (He.ba (He.ba (He.ba (He.ba (He.ba (He.ba (He.ba (He.ba (He.ba (He.ba (He.ba (He.ba (He.ba (He.ba D.c.more).2).2).2).2).2).2).2).2).2).2).2).2).2).2).1
theorem Wd.bo_Setting : boolB K "Setting" = true := (He.ba (He.ba (He.ba (He.ba (He.ba (He.ba (He.ba (He.ba (He.ba (He.ba (He.ba (He.ba (He.ba (He.ba (He.ba (He.ba D.c.more).2).2).2).2).2).2).2).2).2).2).2).2).2).2).2).1
theorem Wd.xf_InvalidNumber : XfC K (He.ga K "InvalidNumber") := (xfnB_ok (x := "InvalidNumber") (f := "value") (He.ba (He.ba (He.ba (He.ba (He.ba (He.ba (He.ba (He.ba (He.ba (He.ba (He.ba (He.ba (He.ba (He.ba (He.ba (He.ba (He.ba D.c.more).2).2).2).2).2).2).2).2).2).2).2).2).2).2).2).2).1).1
theorem Wd.xn_InvalidNumber_value : PySem.W.findIn K (.ref (He.ga K "InvalidNumber")) "value" = some none := (xfnB_ok (x := "InvalidNumber") (f := "value") (He.ba (He.ba (He.ba (He.ba (He.ba (He.ba (He.ba (He.ba (He.ba (He.ba (He.ba (He.ba (He.ba (He.ba (He.ba (He.ba (He.ba D.c.more).2).2).2).2).2).2).2).2).2).2).2).2).2).2).2).2).1).2
theorem Wd.xf_InvalidRule : XfC K (He.ga K "InvalidRule") := (xfnB_ok (x := "InvalidRule") (f := "value") (He.ba (He.ba (He.ba (He.ba (He.ba (He.ba (He.ba (He.ba (He.ba (He.ba (He.ba (He.ba (He.ba (He.ba (He.ba (He.ba (He.ba (He.ba D.c.more).2).2).2).2).2).2).2).2).2).2).2).2).2).2).2).2).2).1).1
theorem Wd.xn_InvalidRule_value : PySem.W.findIn K (.ref (He.ga K "InvalidRule")) "value" = some none := (xfnB_ok (x := "InvalidRule") (f := "value") (He.ba (He.ba (He.ba (He.ba (He.ba (He.ba (He.ba (He.ba (He.ba (He.ba (He.ba (He.ba (He.ba (He.ba (He.ba (He.ba (He.ba (He.ba D.c.more).2).2).2).2).2).2).2).2).2).2).2).2).2).2).2).2).2).1).2
theorem Wd.xf_NotASetting : XfC K (He.ga K "NotASetting") := (xfnB_ok (x := "NotASetting") (f := "value") (He.ba (He.ba (He.ba (He.ba (He.ba (He.ba (He.ba (He.ba (He.ba (He.ba (He.ba (He.ba (He.ba (He.ba (He.ba (He.ba (He.ba (He.ba D.c.more).2).2).2).2).2).2).2).2).2).2).2).2).2).2).2).2).2).2).1
theorem Wd.xn_NotASetting_value : PySem.W.findIn K (.ref (He.ga K "NotASetting")) "value" = some none := (xfnB_ok (x := "NotASetting") (f := "value") (He.ba (He.ba (He.ba (He.ba (He.ba (He.ba (He.ba (He.ba (He.ba (He.ba (He.ba (He.ba (He.ba (He.ba (He.ba (He.ba (He.ba (He.ba D.c.more).2).2).2).2).2).2).2).2).2).2).2).2).2).2).2).2).2).2).2
theorem Wd.fd_law_grain : ∃ fd, FunD K "_law_grain" "_law_grain" (defArgs (top 19)) (defBody (top 19)) (defScope (top 19)) [] [] (He.fAd K ("_law_grain", none)) fd := D.c.t.d.def_ 0 (d := d_law_grain) rfl
theorem Wd.k_law_grain : PySem.W.keepIn K (.ref (He.fAd K ("_law_grain", none))) = true := let ⟨_, F⟩ := D.fd_law_grain; F.kp
theorem Wd.fd_law_pick : ∃ fd, FunD K "_law_pick" "_law_pick" (defArgs (top 20)) (defBody (top 20)) (defScope (top 20)) [] [] (He.fAd K ("_law_pick", none)) fd := D.c.t.d.def_ 1 (d := d_law_pick) rfl
theorem Wd.k_law_pick : PySem.W.keepIn K (.ref (He.fAd K ("_law_pick", none))) = true := let ⟨_, F⟩ := D.fd_law_pick; F.kp
theorem Wd.fd_law_ways : ∃ fd, FunD K "_law_ways" "_law_ways" (defArgs (top 21)) (defBody (top 21)) (defScope (top 21)) [] [] (He.fAd K ("_law_ways", none)) fd := D.c.t.d.def_ 2 (d := d_law_ways) rfl
theorem Wd.k_law_ways : PySem.W.keepIn K (.ref (He.fAd K ("_law_ways", none))) = true := let ⟨_, F⟩ := D.fd_law_ways; F.kp
theorem Wd.fd_law_told : ∃ fd, FunD K "_law_told" "_law_told" (defArgs (top 22)) (defBody (top 22)) (defScope (top 22)) [] [] (He.fAd K ("_law_told", none)) fd := D.c.t.d.def_ 3 (d := d_law_told) rfl
theorem Wd.k_law_told : PySem.W.keepIn K (.ref (He.fAd K ("_law_told", none))) = true := let ⟨_, F⟩ := D.fd_law_told; F.kp
theorem Wd.fd_InvalidRule_init : ∃ fd, FunD K "__init__" "InvalidRule.__init__" (defArgs (inClass (top 3) 0)) (defBody (inClass (top 3) 0)) (defScope (inClass (top 3) 0)) [] [] (He.fAd K ("InvalidRule", some "__init__")) fd := D.c.t.d.def_ 4 (d := d_InvalidRule_init) rfl
theorem Wd.k_InvalidRule_init : PySem.W.keepIn K (.ref (He.fAd K ("InvalidRule", some "__init__"))) = true := let ⟨_, F⟩ := D.fd_InvalidRule_init; F.kp
theorem Wd.fd_is_integer : ∃ fd, FunD K "is_integer" "is_integer" (defArgs (top 11)) (defBody (top 11)) (defScope (top 11)) [] [] (He.fAd K ("is_integer", none)) fd := D.c.t.d.def_ 5 (d := d_is_integer) rfl
theorem Wd.k_is_integer : PySem.W.keepIn K (.ref (He.fAd K ("is_integer", none))) = true := let ⟨_, F⟩ := D.fd_is_integer; F.kp
theorem Wd.fd_is_between : ∃ fd, FunD K "is_between" "is_between" (defArgs (top 12)) (defBody (top 12)) (defScope (top 12)) [] [] (He.fAd K ("is_between", none)) fd := D.c.t.d.def_ 6 (d := d_is_between) rfl
theorem Wd.k_is_between : PySem.W.keepIn K (.ref (He.fAd K ("is_between", none))) = true := let ⟨_, F⟩ := D.fd_is_between; F.kp
theorem Wd.fd_InvalidNumber_init : ∃ fd, FunD K "__init__" "InvalidNumber.__init__" (defArgs (inClass (top 4) 0)) (defBody (inClass (top 4) 0)) (defScope (inClass (top 4) 0)) [] [] (He.fAd K ("InvalidNumber", some "__init__")) fd := D.c.t.d.def_ 7 (d := d_InvalidNumber_init) rfl
theorem Wd.k_InvalidNumber_init : PySem.W.keepIn K (.ref (He.fAd K ("InvalidNumber", some "__init__"))) = true := let ⟨_, F⟩ := D.fd_InvalidNumber_init; F.kp
theorem Wd.fd_check_number : ∃ fd, FunD K "check_number" "check_number" (defArgs (top 13)) (defBody (top 13)) (defScope (top 13)) [] [] (He.fAd K ("check_number", none)) fd := D.c.t.d.def_ 8 (d := d_check_number) rfl
theorem Wd.k_check_number : PySem.W.keepIn K (.ref (He.fAd K ("check_number", none))) = true := let ⟨_, F⟩ := D.fd_check_number; F.kp
theorem Wd.fd_Setting_init : ∃ fd, FunD K "__init__" "Setting.__init__" (defArgs (inClass (top 14) 0)) (defBody (inClass (top 14) 0)) (defScope (inClass (top 14) 0)) [] [] (He.fAd K ("Setting", some "__init__")) fd := D.c.t.d.def_ 9 (d := d_Setting_init) rfl
theorem Wd.k_Setting_init : PySem.W.keepIn K (.ref (He.fAd K ("Setting", some "__init__"))) = true := let ⟨_, F⟩ := D.fd_Setting_init; F.kp
theorem Wd.fd_Setting_repr : ∃ fd, FunD K "__repr__" "Setting.__repr__" (defArgs (inClass (top 14) 2)) (defBody (inClass (top 14) 2)) (defScope (inClass (top 14) 2)) [] [] (He.fAd K ("Setting", some "__repr__")) fd := D.c.t.d.def_ 10 (d := d_Setting_repr) rfl
theorem Wd.k_Setting_repr : PySem.W.keepIn K (.ref (He.fAd K ("Setting", some "__repr__"))) = true := let ⟨_, F⟩ := D.fd_Setting_repr; F.kp
theorem Wd.fd_Setting_eq : ∃ fd, FunD K "__eq__" "Setting.__eq__" (defArgs (inClass (top 14) 1)) (defBody (inClass (top 14) 1)) (defScope (inClass (top 14) 1)) [] [] (He.fAd K ("Setting", some "__eq__")) fd := D.c.t.d.def_ 11 (d := d_Setting_eq) rfl
theorem Wd.k_Setting_eq : PySem.W.keepIn K (.ref (He.fAd K ("Setting", some "__eq__"))) = true := let ⟨_, F⟩ := D.fd_Setting_eq; F.kp
theorem Wd.fd_NotASetting_init : ∃ fd, FunD K "__init__" "NotASetting.__init__" (defArgs (inClass (top 2) 0)) (defBody (inClass (top 2) 0)) (defScope (inClass (top 2) 0)) [] [] (He.fAd K ("NotASetting", some "__init__")) fd := D.c.t.d.def_ 12 (d := d_NotASetting_init) rfl
theorem Wd.k_NotASetting_init : PySem.W.keepIn K (.ref (He.fAd K ("NotASetting", some "__init__"))) = true := let ⟨_, F⟩ := D.fd_NotASetting_init; F.kp
theorem Wd.fd_check_setting : ∃ fd, FunD K "check_setting" "check_setting" (defArgs (top 15)) (defBody (top 15)) (defScope (top 15)) [] [] (He.fAd K ("check_setting", none)) fd := D.c.t.d.def_ 13 (d := d_check_setting) rfl
theorem Wd.k_check_setting : PySem.W.keepIn K (.ref (He.fAd K ("check_setting", none))) = true := let ⟨_, F⟩ := D.fd_check_setting; F.kp
theorem Wd.fd_Line_init : ∃ fd, FunD K "__init__" "Line.__init__" (defArgs (inClass (top 16) 0)) (defBody (inClass (top 16) 0)) (defScope (inClass (top 16) 0)) [] [] (He.fAd K ("Line", some "__init__")) fd := D.c.t.d.def_ 14 (d := d_Line_init) rfl
theorem Wd.k_Line_init : PySem.W.keepIn K (.ref (He.fAd K ("Line", some "__init__"))) = true := let ⟨_, F⟩ := D.fd_Line_init; F.kp
theorem Wd.fd_Line_repr : ∃ fd, FunD K "__repr__" "Line.__repr__" (defArgs (inClass (top 16) 2)) (defBody (inClass (top 16) 2)) (defScope (inClass (top 16) 2)) [] [] (He.fAd K ("Line", some "__repr__")) fd := D.c.t.d.def_ 15 (d := d_Line_repr) rfl
theorem Wd.k_Line_repr : PySem.W.keepIn K (.ref (He.fAd K ("Line", some "__repr__"))) = true := let ⟨_, F⟩ := D.fd_Line_repr; F.kp
theorem Wd.fd_law_made : ∃ fd, FunD K "_law_made" "_law_made" (defArgs (top 23)) (defBody (top 23)) (defScope (top 23)) [] [] (He.fAd K ("_law_made", none)) fd := D.c.t.d.def_ 16 (d := d_law_made) rfl
theorem Wd.k_law_made : PySem.W.keepIn K (.ref (He.fAd K ("_law_made", none))) = true := let ⟨_, F⟩ := D.fd_law_made; F.kp
theorem Wd.fd_Line_eq : ∃ fd, FunD K "__eq__" "Line.__eq__" (defArgs (inClass (top 16) 1)) (defBody (inClass (top 16) 1)) (defScope (inClass (top 16) 1)) [] [] (He.fAd K ("Line", some "__eq__")) fd := D.c.t.d.def_ 17 (d := d_Line_eq) rfl
theorem Wd.k_Line_eq : PySem.W.keepIn K (.ref (He.fAd K ("Line", some "__eq__"))) = true := let ⟨_, F⟩ := D.fd_Line_eq; F.kp
theorem Wd.fd_law_right : ∃ fd, FunD K "_law_right" "_law_right" (defArgs (top 24)) (defBody (top 24)) (defScope (top 24)) [] [] (He.fAd K ("_law_right", none)) fd := D.c.t.d.def_ 18 (d := d_law_right) rfl
theorem Wd.k_law_right : PySem.W.keepIn K (.ref (He.fAd K ("_law_right", none))) = true := let ⟨_, F⟩ := D.fd_law_right; F.kp
theorem Wd.fd_law_mill : ∃ fd, FunD K "_law_mill" "_law_mill" (defArgs (top 18)) (defBody (top 18)) (defScope (top 18)) [] [] (He.fAd K ("_law_mill", none)) fd := D.c.t.d.def_ 19 (d := d_law_mill) rfl
theorem Wd.k_law_mill : PySem.W.keepIn K (.ref (He.fAd K ("_law_mill", none))) = true := let ⟨_, F⟩ := D.fd_law_mill; F.kp
theorem Wd.fd_law : ∃ fd, FunD K "law" "law" (defArgs (top 25)) (defBody (top 25)) (defScope (top 25)) [] [] (He.fAd K ("law", none)) fd := D.c.t.d.def_ 20 (d := d_law) rfl
theorem Wd.k_law : PySem.W.keepIn K (.ref (He.fAd K ("law", none))) = true := let ⟨_, F⟩ := D.fd_law; F.kp
end
theorem lam1_by {x : Str} {scope : Scope} (h : (decide (scope.kind = .function) && !scope.isCoroutine && !scope.isGenerator && decide (scope.names.lookup x = some .local) && scope.names.all fun y => !decide (y.2 = .cell)) = true) : Lam1 x scope := by
  simp only [Bool.and_eq_true, Bool.not_eq_true', decide_eq_true_eq, List.all_eq_true, decide_eq_false_iff_not] at h
  exact ⟨h.1.1.1.1, h.1.1.1.2, h.1.1.2, h.1.2, fun y hy => h.2 y hy⟩
end LL.K02
end

section
set_option Elab.async false
set_option linter.all false
set_option maxRecDepth 100000
namespace LL.K02
open PySem PySem.Spec PyProof.Rows L2 LL
abbrev N_law_grain : List Str := ["_law_mill_here", "_law_many", "_law_digit"]
def b_law_grain : LS :=
  (sSeq (sAsg (eOp oPlus (eOp oIx (eVar 0) (eC (.int 1))) (eC (.int 4))) (gSb (eVar 0) (eC (.int 1))))
  (sSeq (sIf (eTest (eOp oGt (eOp oIx (eVar 0) (eC (.int 2))) (eC (.int 0))))
  (sSeq (sAsg (eB bDivmod (eCons (eB bInt (eCons (eOp oIx (eVar 0) (eC (.int 2))) eNil)) (eCons (eVar 1) eNil))) (gTp 2 (gCs (gSb (eVar 0) (eC (.int 2))) (gCs (gNm 2) gNl))))
  (sRet (eVar 2)))
  sNil)
  (sSeq (sAsg (eOp oMod (eB bInt (eCons (eOp oPlus (eOp oPlus (eOp oMul (eOp oIx (eVar 0) (eC (.int 0))) (eC (.int 47017))) (eOp oMul (eOp oIx (eVar 0) (eC (.int 1))) (eC (.int 70009)))) (eOp oMul (eOp oDiv (eOp oIx (eVar 0) (eC (.int 0))) (eC (.int 6007))) (eC (.int 37)))) eNil)) (eC (.int 1999999817))) (gSb (eVar 0) (eC (.int 0))))
  (sRet (eOp oMod (eB bInt (eCons (eOp oDiv (eOp oIx (eVar 0) (eC (.int 0))) (eC (.int 271))) eNil)) (eVar 1))))))
abbrev N_law_pick : List Str := ["_law_mill_here", "_law_things"]
def b_law_pick : LS :=
  (sRet (eOp oIx (eVar 1) (eCall G_law_grain 2 (eCons (eVar 0) (eCons (eB bLen (eCons (eVar 1) eNil)) eNil)))))
abbrev N_law_ways : List Str := ["_law_mill_here", "_law_word"]
def b_law_ways : LS :=
  (sSeq (sAsg (eCall G_law_pick 2 (eCons (eVar 0) (eCons (eLst (eCons (eC (.str "plain")) (eCons (eC (.str "hold")) (eCons (eC (.str "few")) (eCons (eC (.str "hold")) eNil))))) eNil))) (gNm 1))
  (sRet (eTup (eCons (eVar 1) (eCons (eOp oPlus (eC (.int 1)) (eCall G_law_grain 2 (eCons (eVar 0) (eCons (eC (.int 4)) eNil)))) (eCons (eCall G_law_pick 2 (eCons (eVar 0) (eCons (eLst (eCons (eC (.int 0)) (eCons (eC (.int 1)) (eCons (eC (.int 3)) (eCons (eC (.int 7)) (eCons (eC (.int 20)) (eCons (eCall G_law_grain 2 (eCons (eVar 0) (eCons (eC (.int 60)) eNil))) eNil))))))) eNil))) eNil))))))
abbrev N_law_told : List Str := ["_law_mill_here", "_law_big"]
def b_law_told : LS :=
  (sSeq (sAsg (eCall G_law_pick 2 (eCons (eVar 0) (eCons (eLst (eCons (eC (.int 1)) (eCons (eC (.int 2)) (eCons (eC (.int 3)) (eCons (eC (.int 4)) (eCons (eC (.int 5)) (eCons (eC (.int 10)) eNil))))))) eNil))) (gNm 1))
  (sRet (eTup (eCons (eVar 1) (eCons (eCall G_law_pick 2 (eCons (eVar 0) (eCons (eLst (eCons (eC (.int 1)) (eCons (eC (.int 2)) (eCons (eC (.int 5)) (eCons (eOp oPlus (eC (.int 1)) (eCall G_law_grain 2 (eCons (eVar 0) (eCons (eC (.int 30)) eNil)))) eNil))))) eNil))) (eCons (eCall G_law_ways 1 (eCons (eVar 0) eNil)) (eCons (eCall G_law_ways 1 (eCons (eVar 0) eNil)) eNil)))))))
abbrev N_InvalidRule_init : List Str := ["self", "value"]
abbrev N_is_integer : List Str := ["value"]
def b_is_integer : LS :=
  (sRet (eAndV (eIsi is_int (eVar 0)) (eNotV (eIsi is_bool (eVar 0)))))
abbrev N_is_between : List Str := ["value", "low", "high"]
def b_is_between : LS :=
  (sRet (eAndV (eCall G_is_integer 1 (eCons (eVar 0) eNil)) (eChain oLe oLe (eVar 1) (eVar 0) (eVar 2))))
abbrev N_InvalidNumber_init : List Str := ["self", "value"]
abbrev N_check_number : List Str := ["value", "low", "high"]
def b_check_number : LS :=
  (sIf (eNot (eTest (eCall G_is_between 3 (eCons (eVar 0) (eCons (eVar 1) (eCons (eVar 2) eNil))))))
  (sRaise1 "InvalidNumber" "value" (eVar 0))
  sNil)
abbrev N_Setting_init : List Str := ["self", "rule", "every", "delay"]
def b_Setting_init : LS :=
  (sSeq (sIf (eOr (eNot (eTest (eIsi is_str (eVar 1)))) (eTest (eOp (oIn true) (eVar 1) (eC tup_RULES))))
  (sRaise1 "InvalidRule" "value" (eVar 1))
  sNil)
  (sSeq (sExpr (eCall G_check_number 3 (eCons (eVar 2) (eCons (eC (.int 1)) (eCons (eC (.int 4)) eNil)))))
  (sSeq (sExpr (eCall G_check_number 3 (eCons (eVar 3) (eCons (eC (.int 0)) (eCons (eC (.int 200)) eNil)))))
  (sSeq (sFldA cs_rule "rule" (eVar 1) (eVar 0))
  (sSeq (sFldA cs_every "every" (eVar 2) (eVar 0))
  (sSeq (sFldA cs_delay "delay" (eVar 3) (eVar 0))
  (sFldA cs_told "told" (eTup (eCons (eVar 1) (eCons (eVar 2) (eCons (eVar 3) eNil)))) (eVar 0))))))))
abbrev N_Setting_repr : List Str := ["self"]
def b_Setting_repr : LS :=
  (sRet (eFstr [(eC (.str "Setting(")), (eFmt (eFld cs_rule "rule" (eVar 0))), (eC (.str ", ")), (eFmt (eFld cs_every "every" (eVar 0))), (eC (.str ", ")), (eFmt (eFld cs_delay "delay" (eVar 0))), (eC (.str ")"))]))
abbrev N_Setting_eq : List Str := ["self", "other"]
def b_Setting_eq : LS :=
  (sRet (eAndV (eIsi is_Setting (eVar 1)) (eOp oEqD (eFld cs_told "told" (eVar 0)) (eFld cs_told "told" (eVar 1)))))
abbrev N_NotASetting_init : List Str := ["self", "value"]
abbrev N_check_setting : List Str := ["value"]
def b_check_setting : LS :=
  (sIf (eNot (eTest (eIsi is_Setting (eVar 0))))
  (sRaise1 "NotASetting" "value" (eVar 0))
  sNil)
abbrev N_Line_init : List Str := ["self", "size", "way", "near", "far"]
def b_Line_init : LS :=
  (sSeq (sExpr (eCall G_check_number 3 (eCons (eVar 1) (eCons (eC (.int 1)) (eCons (eC (.int 40)) eNil)))))
  (sSeq (sExpr (eCall G_check_number 3 (eCons (eVar 2) (eCons (eC (.int 1)) (eCons (eC (.int 200)) eNil)))))
  (sSeq (sExpr (eCall G_check_setting 1 (eCons (eVar 3) eNil)))
  (sSeq (sExpr (eCall G_check_setting 1 (eCons (eVar 4) eNil)))
  (sSeq (sFldA cs_size "size" (eVar 1) (eVar 0))
  (sSeq (sFldA cs_way "way" (eVar 2) (eVar 0))
  (sSeq (sFldA cs_near "near" (eVar 3) (eVar 0))
  (sSeq (sFldA cs_far "far" (eVar 4) (eVar 0))
  (sFldA cs_told "told" (eTup (eCons (eVar 1) (eCons (eVar 2) (eCons (eFld cs_told "told" (eVar 3)) (eCons (eFld cs_told "told" (eVar 4)) eNil))))) (eVar 0))))))))))
abbrev N_Line_repr : List Str := ["self"]
def b_Line_repr : LS :=
  (sRet (eFstr [(eC (.str "Line(")), (eFmt (eFld cs_size "size" (eVar 0))), (eC (.str " bytes, ")), (eFmt (eFld cs_way "way" (eVar 0))), (eC (.str " ticks)"))]))
abbrev N_law_made : List Str := ["_law_told_here", "_law_a", "_law_b", "_law_c", "_law_d"]
def b_law_made : LS :=
  (sSeq (sAsg (eVar 0) (gTp 4 (gCs (gNm 1) (gCs (gNm 2) (gCs (gNm 3) (gCs (gNm 4) gNl))))))
  (sRet (eMake "Line" G_Line_init 5 (eCons (eVar 1) (eCons (eVar 2) (eCons (eMake "Setting" G_Setting_init 4 (eCons (eOp oIx (eVar 3) (eC (.int 0))) (eCons (eOp oIx (eVar 3) (eC (.int 1))) (eCons (eOp oIx (eVar 3) (eC (.int 2))) eNil)))) (eCons (eMake "Setting" G_Setting_init 4 (eCons (eOp oIx (eVar 4) (eC (.int 0))) (eCons (eOp oIx (eVar 4) (eC (.int 1))) (eCons (eOp oIx (eVar 4) (eC (.int 2))) eNil)))) eNil)))))))
abbrev N_Line_eq : List Str := ["self", "other"]
def b_Line_eq : LS :=
  (sRet (eAndV (eIsi is_Line (eVar 1)) (eOp oEqD (eFld cs_told "told" (eVar 0)) (eFld cs_told "told" (eVar 1)))))
abbrev N_law_right : List Str := ["_law_mill_here", "_law_again", "_law_a", "_law_b", "_law_c", "_law_d", "_law_first", "_law_second", "_law_seen_here", "_law_text_here", "_law_made_here", "_law_other_here", "_law_each"]
def b_law_right : LS :=
  (sSeq (sFor (iRangeN 1 (eCons (eC (.int 6)) eNil)) (gNm 1)
  (sSeq (sAsg (eCall G_law_pick 2 (eCons (eVar 0) (eCons (eLst (eCons (eCall G_law_told 1 (eCons (eVar 0) eNil)) (eCons (eTup (eCons (eC (.int 40)) (eCons (eC (.int 200)) (eCons (eTup (eCons (eC (.str "few")) (eCons (eC (.int 4)) (eCons (eC (.int 200)) eNil)))) (eCons (eTup (eCons (eC (.str "plain")) (eCons (eC (.int 1)) (eCons (eC (.int 0)) eNil)))) eNil))))) eNil))) eNil))) (gTp 4 (gCs (gNm 2) (gCs (gNm 3) (gCs (gNm 4) (gCs (gNm 5) gNl))))))
  (sSeq (sPar 6 7 (eCons (eMakeKw "Setting" G_Setting_init 4 3 [2, 1, 0] (eCons (eOp oIx (eVar 4) (eC (.int 2))) (eCons (eOp oIx (eVar 4) (eC (.int 1))) (eCons (eOp oIx (eVar 4) (eC (.int 0))) eNil)))) (eCons (eMake "Setting" G_Setting_init 4 (eCons (eOp oIx (eVar 5) (eC (.int 0))) (eCons (eOp oIx (eVar 5) (eC (.int 1))) (eCons (eOp oIx (eVar 5) (eC (.int 2))) eNil)))) eNil)))
  (sSeq (sAsg (eLst (eCons (eFld cs_rule "rule" (eVar 6)) (eCons (eFld cs_every "every" (eVar 6)) (eCons (eFld cs_delay "delay" (eVar 6)) (eCons (eFld cs_told "told" (eVar 6)) (eCons (eB (bOwn "Setting" G_Setting_repr pRepr) (eCons (eVar 6) eNil)) (eCons (eB (bBool1 "Setting") (eCons (eVar 6) eNil)) eNil))))))) (gNm 8))
  (sSeq (sAsg (eOp oPlus (eOp oPlus (eOp oPlus (eOp oPlus (eOp oPlus (eOp oPlus (eC (.str "Setting(")) (eOp oIx (eVar 4) (eC (.int 0)))) (eC (.str ", "))) (eB bStr (eCons (eOp oIx (eVar 4) (eC (.int 1))) eNil))) (eC (.str ", "))) (eB bStr (eCons (eOp oIx (eVar 4) (eC (.int 2))) eNil))) (eC (.str ")"))) (gNm 9))
  (sSeq (sIf (eOr (eTest (eOp oNeD (eB (bReprI (("Setting", G_Setting_repr) :: [])) (eCons (eVar 8) eNil)) (eB (bReprI (("Setting", G_Setting_repr) :: [])) (eCons (eLst (eCons (eOp oIx (eVar 4) (eC (.int 0))) (eCons (eOp oIx (eVar 4) (eC (.int 1))) (eCons (eOp oIx (eVar 4) (eC (.int 2))) (eCons (eVar 4) (eCons (eVar 9) (eCons (eC (.bl true)) eNil))))))) eNil)))) (eTest (eOp oNeD (eOp (oEqO "Setting" G_Setting_eq false is_Setting) (eVar 6) (eVar 7)) (eOp oEqD (eVar 4) (eVar 5)))))
  (sRet (eC (.bl false)))
  sNil)
  (sSeq (sAsg (eMakeKw "Line" G_Line_init 5 4 [3, 2, 1, 0] (eCons (eVar 7) (eCons (eVar 6) (eCons (eVar 3) (eCons (eVar 2) eNil))))) (gNm 10))
  (sSeq (sAsg (eLst (eCons (eFld cs_size "size" (eVar 10)) (eCons (eFld cs_way "way" (eVar 10)) (eCons (eFld cs_near "near" (eVar 10)) (eCons (eFld cs_far "far" (eVar 10)) (eCons (eFld cs_told "told" (eVar 10)) (eCons (eB (bOwn "Line" G_Line_repr pRepr) (eCons (eVar 10) eNil)) (eCons (eB (bBool1 "Line") (eCons (eVar 10) eNil)) eNil)))))))) (gNm 8))
  (sSeq (sAsg (eOp oPlus (eOp oPlus (eOp oPlus (eOp oPlus (eC (.str "Line(")) (eB bStr (eCons (eVar 2) eNil))) (eC (.str " bytes, "))) (eB bStr (eCons (eVar 3) eNil))) (eC (.str " ticks)"))) (gNm 9))
  (sSeq (sIf (eTest (eOp oNeD (eB (bReprI (("Setting", G_Setting_repr) :: [])) (eCons (eVar 8) eNil)) (eB (bReprI (("Setting", G_Setting_repr) :: [])) (eCons (eLst (eCons (eVar 2) (eCons (eVar 3) (eCons (eVar 6) (eCons (eVar 7) (eCons (eTup (eCons (eVar 2) (eCons (eVar 3) (eCons (eVar 4) (eCons (eVar 5) eNil))))) (eCons (eVar 9) (eCons (eC (.bl true)) eNil)))))))) eNil))))
  (sRet (eC (.bl false)))
  sNil)
  (sSeq (sIf (eOr (eTest (eOp (oEqO "Line" G_Line_eq true is_Line) (eVar 10) (eCall G_law_made 1 (eCons (eTup (eCons (eVar 2) (eCons (eVar 3) (eCons (eVar 4) (eCons (eVar 5) eNil))))) eNil)))) (eOr (eTest (eOp (oEqO "Line" G_Line_eq false is_Line) (eVar 10) (eTup (eCons (eVar 2) (eCons (eVar 3) (eCons (eVar 4) (eCons (eVar 5) eNil))))))) (eOr (eTest (eOp (oEqO "Line" G_Line_eq false is_Line) (eVar 10) (eVar 6))) (eTest (eOp (oEqO "Setting" G_Setting_eq false is_Setting) (eVar 6) (eVar 4))))))
  (sRet (eC (.bl false)))
  sNil)
  (sSeq (sAsg (eLst (eCons (eTup (eCons (eIf (eTest (eOp oGt (eVar 2) (eC (.int 1)))) (eC (.int 1)) (eC (.int 2))) (eCons (eVar 3) (eCons (eVar 4) (eCons (eVar 5) eNil))))) (eCons (eTup (eCons (eVar 2) (eCons (eIf (eTest (eOp oLt (eVar 3) (eC (.int 200)))) (eOp oPlus (eVar 3) (eC (.int 1))) (eC (.int 1))) (eCons (eVar 4) (eCons (eVar 5) eNil))))) eNil))) (gNm 11))
  (sSeq (sAsg (eOp oPlus (eVar 11) (eLst (eCons (eTup (eCons (eVar 2) (eCons (eVar 3) (eCons (eTup (eCons (eOp oIx (eVar 4) (eC (.int 0))) (eCons (eOp oPlus (eOp oMod (eOp oIx (eVar 4) (eC (.int 1))) (eC (.int 4))) (eC (.int 1))) (eCons (eOp oIx (eVar 4) (eC (.int 2))) eNil)))) (eCons (eVar 5) eNil))))) (eCons (eTup (eCons (eVar 2) (eCons (eVar 3) (eCons (eVar 4) (eCons (eTup (eCons (eOp oIx (eVar 5) (eC (.int 0))) (eCons (eOp oIx (eVar 5) (eC (.int 1))) (eCons (eOp oMod (eOp oPlus (eOp oIx (eVar 5) (eC (.int 2))) (eC (.int 1))) (eC (.int 201))) eNil)))) eNil))))) eNil)))) (gNm 11))
  (sIf (eTest (eB bAny (eCons (eLC (iSeq (eVar 11)) (.nm 12) eYes (eOp (oEqO "Line" G_Line_eq false is_Line) (eVar 10) (eCall G_law_made 1 (eCons (eVar 12) eNil))) [12]) eNil)))
  (sRet (eC (.bl false)))
  sNil))))))))))))))
  (sRet (eC (.bl true))))
abbrev N_law_mill : List Str := ["_law_script", "_law_k", "_law_own", "_law_mixed", "_law_entry"]
def b_law_mill : LS :=
  (sSeq (sAsg (eIf (eTest (eOp oLt (eVar 1) (eB bLen (eCons (eVar 0) eNil)))) (eB bInt (eCons (eOp oIx (eVar 0) (eVar 1)) eNil)) (eOp oPlus (eOp oMul (eC (.int 41)) (eVar 1)) (eC (.int 29)))) (gNm 2))
  (sSeq (sAsg (eOp oPlus (eC (.int 50021)) (eOp oMul (eC (.int 1901)) (eVar 1))) (gNm 3))
  (sSeq (sFor (iSeq (eSl (eVar 0) eNoPart (eSomePart (eC (.int 12))))) (gNm 4)
  (sAsg (eOp oMod (eB bInt (eCons (eOp oPlus (eOp oMul (eVar 3) (eC (.int 39199))) (eOp oMod (eB bInt (eCons (eVar 4) eNil)) (eC (.int 1999999817)))) eNil)) (eC (.int 1999999817))) (gNm 3)))
  (sRet (eLstM (eCons (eOp oMod (eB bInt (eCons (eOp oPlus (eOp oMul (eVar 3) (eC (.int 13))) (eOp oMod (eVar 2) (eC (.int 1999999817)))) eNil)) (eC (.int 1999999817))) (eCons (eC (.int 1)) (eCons (eIf (eOr (eTest (eOp oLt (eVar 2) (eC (.int 0)))) (eTest (eOp oGe (eVar 2) (eOp oPow (eC (.int 10)) (eC (.int 13)))))) (eB bAbs (eCons (eVar 2) eNil)) (eC (.int 0))) eNil))))))))
abbrev N_law : List Str := ["_law_script", "_law_k"]
def b_law : LS :=
  (sRet (eB bAll (eCons (eLC (iRangeN 1 (eCons (eB bMax2 (eCons (eC (.int 2)) (eCons (eB bMin2 (eCons (eB bLen (eCons (eVar 0) eNil)) (eCons (eC (.int 5)) eNil))) eNil))) eNil)) (.nm 1) eYes (eCall G_law_right 1 (eCons (eCall G_law_mill 2 (eCons (eVar 0) (eCons (eVar 1) eNil))) eNil)) [1]) eNil)))
end LL.K02
end

section
set_option Elab.async false
set_option linter.all false
set_option maxRecDepth 100000
/-! K02Sim -/
namespace LL.K02
open PySem LL
theorem wellAt_set {w : Nat} {h : LH} {a b c : Int} (hw : WellAt w h) : WellAt w (h.set w (wellO a c b)) := by
  obtain ⟨a', c', b', e⟩ := hw
  exact ⟨a, c, b, set_get e⟩
theorem wsp_of {w : Nat} {R : D → Prop} {h : LH} {Q : D → LH → Prop} {a b c : Int} (hw : WellAt w h) (q : ∀ r a c b, R r → Q r (h.set w (wellO a c b))) : wsp w R (h.set w (wellO a c b)) Q :=
  ⟨wellAt_set hw, fun r a' c' b' hr => by rw [List.set_set]; exact q _ _ _ _ hr⟩
theorem wellAt_app {w : Nat} {h l : LH} (hw : WellAt w h) : WellAt w (h ++ l) := by
  obtain ⟨a, c, b, e⟩ := hw
  exact ⟨a, c, b, by rw [List.getElem?_append_left (List.getElem?_eq_some_iff.mp e).1]; exact e⟩
theorem wellAt_lt {w : Nat} {h : LH} (hw : WellAt w h) : w < h.length := by
  obtain ⟨a, c, b, e⟩ := hw
  exact (List.getElem?_eq_some_iff.mp e).1
end LL.K02
end

section
set_option Elab.async false
set_option linter.all false
set_option maxRecDepth 100000
/-! K02Val0: the mill. -/
namespace LL.K02
open PySem LL
theorem V_law_grain : ∀ ds h Q E, ds.length = 2 → G_law_grain ds h Q E → b_law_grain (startD N_law_grain ds) h (bodyK Q E) := by
  rintro ds h Q E _ ⟨w, m, rfl, h0, h1, ⟨a, c, b, hw⟩, q⟩
  show b_law_grain [some (.ref w), some (.int m), none] h _
  refine byK fun κ kr kn ke => ?_
  unfold wellO at hw
  unfold b_law_grain
  simp [hw]
  split
  · exact ⟨⟨h0, h1⟩, kr _ _ (q _ _ _ _ ⟨_, rfl, mod_nn h0, mod_lt' h0⟩)⟩
  · first | exact ⟨h0, kr _ _ (q _ _ _ _ ⟨_, rfl, mod_nn h0, mod_lt' h0⟩)⟩ | exact ⟨h0, h0, kr _ _ (q _ _ _ _ ⟨_, rfl, mod_nn h0, mod_lt' h0⟩)⟩ | trace_state
theorem V_law_pick : ∀ ds h Q E, ds.length = 2 → G_law_pick ds h Q E → b_law_pick (startD N_law_pick ds) h (bodyK Q E) := by
  rintro ds h Q E _ ⟨w, xs, rfl, h0, h1, hw, q⟩
  show b_law_pick [some (.ref w), some (.lst xs)] h _
  refine byK fun κ kr kn ke => ?_
  unfold b_law_pick
  simp
  refine ⟨w, _, rfl, by omega, by omega, hw, ?_⟩
  rintro r a c b ⟨i, rfl, i0, i1⟩
  simp [i0, i1]
  exact kr _ _ (q _ _ _ _ (List.getElem_mem _))
theorem V_law_mill : ∀ ds h Q E, ds.length = 2 → G_law_mill ds h Q E → b_law_mill (startD N_law_mill ds) h (bodyK Q E) := by
  rintro ds h Q E _ ⟨ns, k, rfl, hl, q⟩
  show b_law_mill [some (.lst (ns.map .int)), some (.int k), none, none, none] h _
  refine byK fun κ kr kn ke => ?_
  unfold b_law_mill
  simp
  have go : ∀ (o : Int) (K : LK), (∀ m z, K.nx [some (D.lst (List.map D.int ns)), some (D.int ↑k), some (D.int o), some (.int m), z] h) → forAt { items := cutD (List.map D.int ns) none (some 12), ok := fun x => True } (gNm 4)
      (sAsg (eOp oMod (eB bInt (eCons (eOp oPlus (eOp oMul (eVar 3) (eC (D.int 39199))) (eOp oMod (eB bInt (eCons (eVar 4) eNil)) (eC (D.int 1999999817)))) eNil)) (eC (D.int 1999999817))) (gNm 3))
      [some (D.lst (List.map D.int ns)), some (D.int ↑k), some (D.int o), some (D.int (50021 + 1901 * ↑k)), none] h K := by
    intro o K hK
    refine ⟨fun _ σ' h' => ∃ m z, σ' = [some (D.lst (List.map D.int ns)), some (D.int ↑k), some (D.int o), some (.int m), z] ∧ h' = h, ⟨_, _, rfl, rfl⟩, fun _ _ _ _ _ => trivial, ?_, ?_⟩
    · rintro i x σ' h' e ⟨m, z, rfl, rfl⟩
      have hx : x ∈ cutD (ns.map D.int) none (some 12) := List.mem_of_getElem? e
      have hx : x ∈ ns.map D.int := by
        unfold cutD at hx
        exact List.mem_of_mem_drop (List.mem_of_mem_take hx)
      obtain ⟨y, _, rfl⟩ := List.mem_map.mp hx
      simp
    · rintro σ' h' ⟨m, z, rfl, rfl⟩
      exact hK m z
  split
  · rename_i z
    simp [z]
    refine go _ _ fun m z => ?_
    simp
    (repeat' split) <;> exact kr _ _ (q _ _ _)
  · refine go _ _ fun m z => ?_
    simp
    (repeat' split) <;> exact kr _ _ (q _ _ _)
theorem V_law : ∀ ds h Q E, ds.length = 1 → G_law ds h Q E → b_law (startD N_law ds) h (bodyK Q E) := by
  rintro ds h Q E _ ⟨ns, rfl, rfl, hl, hb, q⟩
  show b_law [some (.lst (ns.map .int)), none] _ _
  refine byK fun κ kr kn ke => ?_
  unfold b_law
  simp [-Bool.forall_bool, -Bool.exists_bool, -List.lookup_eq_none_iff]
  refine ⟨by split <;> split <;> omega, by split <;> split <;> omega, ?_⟩
  generalize hN : Int.toNat _ = N
  have h5 : N ≤ 5 := by rw [← hN]; split <;> split <;> omega
  refine ⟨fun i acc _ => acc = List.replicate i (.bl true), rfl, fun _ _ _ _ _ => trivial, ?_, ?_⟩
  · rintro i x acc h hx rfl
    obtain ⟨hi, rfl⟩ := rngD_get hx
    have hi5 : i < 16777216 := by omega
    simp [-Bool.forall_bool, -Bool.exists_bool, -List.lookup_eq_none_iff]
    refine ⟨ns, i, rfl, hl, fun a c b => ?_⟩
    refine ⟨_, rfl, ⟨a, c, b, by simp [-Bool.forall_bool, -Bool.exists_bool, -List.lookup_eq_none_iff]⟩, fun h' => ?_⟩
    exact ⟨lt_sizeLine hi5, by rw [List.replicate_succ']⟩
  · rintro acc h rfl
    rw [rngD_len]
    refine ⟨List.replicate N true, by simp [-Bool.forall_bool, -Bool.exists_bool, -List.lookup_eq_none_iff], ?_⟩
    simp [-Bool.forall_bool, -Bool.exists_bool, -List.lookup_eq_none_iff]
    exact kr _ _ (q _ _ rfl)
end LL.K02
end

section
set_option Elab.async false
set_option linter.all false
set_option maxRecDepth 100000
/-! K02Val1: checks, settings, lines. -/
namespace LL.K02
open PySem LL
theorem tyD_ins {n : Nat} {C : Str} {fs : List (Str × D)} {h : LH} (e : h[n]? = some (.ins C fs)) : tyD (.ref n) h = some (.cl C) := by simp [-Bool.forall_bool, -Bool.exists_bool, -List.lookup_eq_none_iff, tyD, e]
theorem V_is_integer : ∀ ds h Q E, ds.length = 1 → G_is_integer ds h Q E → b_is_integer (startD N_is_integer ds) h (bodyK Q E) := by
  rintro ds h Q E _ ⟨v, rfl, pv, q⟩
  show b_is_integer [some v] h _
  refine byK fun κ kr kn ke => ?_
  unfold b_is_integer
  have q := kr _ _ q
  cases v <;> first | (exact pv.elim) | skip
  case ref n =>
    rcases pv with ⟨fs, e⟩ | ⟨fs, e⟩
    · simp [-Bool.forall_bool, -Bool.exists_bool, -List.lookup_eq_none_iff]; exact ⟨_, tyD_ins e, false, rfl, by simpa [-Bool.forall_bool, -Bool.exists_bool, -List.lookup_eq_none_iff, isInt] using q⟩
    · simp [-Bool.forall_bool, -Bool.exists_bool, -List.lookup_eq_none_iff]; exact ⟨_, tyD_ins e, false, rfl, by simpa [-Bool.forall_bool, -Bool.exists_bool, -List.lookup_eq_none_iff, isInt] using q⟩
  all_goals simp [-Bool.forall_bool, -Bool.exists_bool, -List.lookup_eq_none_iff]
  all_goals first
    | exact ⟨false, rfl, by simpa [-Bool.forall_bool, -Bool.exists_bool, -List.lookup_eq_none_iff, isInt] using q⟩
    | exact ⟨true, rfl, by simp [-Bool.forall_bool, -Bool.exists_bool, -List.lookup_eq_none_iff]; exact ⟨true, rfl, q⟩⟩
    | exact ⟨true, rfl, by simp [-Bool.forall_bool, -Bool.exists_bool, -List.lookup_eq_none_iff]; exact ⟨false, rfl, q⟩⟩
theorem V_is_between : ∀ ds h Q E, ds.length = 3 → G_is_between ds h Q E → b_is_between (startD N_is_between ds) h (bodyK Q E) := by
  rintro ds h Q E _ ⟨v, l, u, rfl, pv, q⟩
  show b_is_between [some v, some (.int l), some (.int u)] h _
  refine byK fun κ kr kn ke => ?_
  unfold b_is_between
  simp [-Bool.forall_bool, -Bool.exists_bool, -List.lookup_eq_none_iff]
  refine ⟨v, rfl, pv, ?_⟩
  have q := kr _ _ q
  cases v <;> first
    | (exact pv.elim)
    | (simp [-Bool.forall_bool, -Bool.exists_bool, -List.lookup_eq_none_iff, isInt]; exact q)
    | skip
  rename_i i
  simp [-Bool.forall_bool, -Bool.exists_bool, -List.lookup_eq_none_iff, isInt]
  split
  · rename_i z
    simpa [-Bool.forall_bool, -Bool.exists_bool, -List.lookup_eq_none_iff, betw, z] using q
  · rename_i z
    simpa [-Bool.forall_bool, -Bool.exists_bool, -List.lookup_eq_none_iff, betw, z] using q
theorem V_check_number : ∀ ds h Q E, ds.length = 3 → G_check_number ds h Q E → b_check_number (startD N_check_number ds) h (bodyK Q E) := by
  rintro ds h Q E _ ⟨v, l, u, rfl, pv, q1, q2⟩
  show b_check_number [some v, some (.int l), some (.int u)] h _
  refine byK fun κ kr kn ke => ?_
  unfold b_check_number
  simp [-Bool.forall_bool, -Bool.exists_bool, -List.lookup_eq_none_iff]
  refine ⟨v, l, u, rfl, pv, ?_⟩
  cases z : betw v l u with
  | true => simp [-Bool.forall_bool, -Bool.exists_bool, -List.lookup_eq_none_iff]; exact kn _ _ (q1 z)
  | false => simp [-Bool.forall_bool, -Bool.exists_bool, -List.lookup_eq_none_iff]; exact ke _ _ _ _ (q2 z)
theorem V_check_setting : ∀ ds h Q E, ds.length = 1 → G_check_setting ds h Q E → b_check_setting (startD N_check_setting ds) h (bodyK Q E) := by
  rintro ds h Q E _ ⟨v, rfl, pv, q1, q2⟩
  show b_check_setting [some v] h _
  refine byK fun κ kr kn ke => ?_
  unfold b_check_setting
  cases v <;> first | (exact pv.elim) | skip
  case ref n =>
    rcases pv with ⟨fs, e⟩ | ⟨fs, e⟩
    · simp [-Bool.forall_bool, -Bool.exists_bool, -List.lookup_eq_none_iff]; exact ⟨_, tyD_ins e, true, rfl, by simp [-Bool.forall_bool, -Bool.exists_bool, -List.lookup_eq_none_iff]; exact kn _ _ (q1 (by simp [-Bool.forall_bool, -Bool.exists_bool, -List.lookup_eq_none_iff, isS, e]))⟩
    · simp [-Bool.forall_bool, -Bool.exists_bool, -List.lookup_eq_none_iff]; exact ⟨_, tyD_ins e, false, rfl, by simp [-Bool.forall_bool, -Bool.exists_bool, -List.lookup_eq_none_iff]; exact ke _ _ _ _ (q2 (by simp [-Bool.forall_bool, -Bool.exists_bool, -List.lookup_eq_none_iff, isS, e]))⟩
  all_goals
    simp [-Bool.forall_bool, -Bool.exists_bool, -List.lookup_eq_none_iff]
    exact ⟨false, rfl, by simp [-Bool.forall_bool, -Bool.exists_bool, -List.lookup_eq_none_iff]; exact ke _ _ _ _ (q2 rfl)⟩
theorem cutS {a b : LS} {σ : LV} {h : LH} {K : LK} (H : ∀ T, T = b → sSeq a T σ h K) : sSeq a b σ h K := H b rfl
theorem betw_int {v : D} {l u : Int} (h : betw v l u = true) : ∃ i, v = .int i ∧ l ≤ i ∧ i ≤ u := by
  unfold betw at h
  split at h
  · simp [-Bool.forall_bool, -Bool.exists_bool, -List.lookup_eq_none_iff] at h; exact ⟨_, rfl, h⟩
  · cases h
theorem V_Setting_init : ∀ ds h Q E, ds.length = 4 → G_Setting_init ds h Q E → b_Setting_init (startD N_Setting_init ds) h (bodyK Q E) := by
  rintro ds h Q E len ⟨pre, r, e, d, rfl, rfl, pr, pe, pd, q1, q2, q3, q4⟩
  clear len
  show b_Setting_init [some (.ref pre.length), some r, some e, some d] _ _
  refine byK fun κ kr kn ke => ?_
  unfold b_Setting_init
  refine cutS fun T e1 => ?_
  have go : ∀ x, r = .str x → ruleB x = true → T [some (.ref pre.length), some r, some e, some d] (pre ++ [.ins "Setting" []]) κ := by
    rintro x rfl hx
    rw [e1]; clear e1 T
    simp [-Bool.forall_bool, -Bool.exists_bool, -List.lookup_eq_none_iff]
    refine ⟨e, 1, 4, rfl, pe, fun z => ?_, fun z => ke _ _ _ _ (q2 hx z)⟩
    refine ⟨d, 0, 200, rfl, pd, fun z' => ?_, fun z' => ke _ _ _ _ (q3 hx z z')⟩
    obtain ⟨i, rfl, i1, i2⟩ := betw_int z
    obtain ⟨j, rfl, j1, j2⟩ := betw_int z'
    simp [-Bool.forall_bool, -Bool.exists_bool, -List.lookup_eq_none_iff]
    exact kn _ _ (q4 x i j rfl rfl rfl hx i1 i2 j1 j2)
  have no : ruleOk r = false → κ.ex "InvalidRule" [("value", r)] [some (.ref pre.length), some r, some e, some d] (pre ++ [.ins "Setting" []]) := fun z => ke _ _ _ _ (q1 z)
  cases r <;> first | (exact pr.elim) | skip
  case str x =>
    have hin : inD (.str x) [.str "plain", .str "hold", .str "few"] = ruleB x := by
      have e0 : ∀ y : Str, L2.eqV (.str y) (.str x) = decide (x = y) := fun y => by
        show (decide (y = x) : Bool) = _
        exact decide_eq_decide.mpr eq_comm
      unfold ruleB; simp [-Bool.forall_bool, -Bool.exists_bool, -List.lookup_eq_none_iff, inD, L2.inV, flV, e0]
    cases hx : ruleB x with
    | true =>
      have g := go x rfl hx
      simp [-Bool.forall_bool, -Bool.exists_bool, -List.lookup_eq_none_iff, tup_RULES]
      exact ⟨true, rfl, by rw [if_pos rfl]; exact ⟨rfl, ⟨rfl, rfl, rfl⟩, by rw [hin, hx, if_pos rfl]; exact g⟩⟩
    | false =>
      have g := no hx
      simp [-Bool.forall_bool, -Bool.exists_bool, -List.lookup_eq_none_iff, tup_RULES]
      exact ⟨true, rfl, by rw [if_pos rfl]; exact ⟨rfl, ⟨rfl, rfl, rfl⟩, by rw [hin, hx, if_neg Bool.false_ne_true]; exact g⟩⟩
  case ref n =>
    rcases pr with ⟨fs, e0⟩ | ⟨fs, e0⟩
    · simp [-Bool.forall_bool, -Bool.exists_bool, -List.lookup_eq_none_iff]; exact ⟨_, tyD_ins e0, false, rfl, by simp [-Bool.forall_bool, -Bool.exists_bool, -List.lookup_eq_none_iff]; exact no rfl⟩
    · simp [-Bool.forall_bool, -Bool.exists_bool, -List.lookup_eq_none_iff]; exact ⟨_, tyD_ins e0, false, rfl, by simp [-Bool.forall_bool, -Bool.exists_bool, -List.lookup_eq_none_iff]; exact no rfl⟩
  all_goals
    simp [-Bool.forall_bool, -Bool.exists_bool, -List.lookup_eq_none_iff]
    exact ⟨false, rfl, by simp [-Bool.forall_bool, -Bool.exists_bool, -List.lookup_eq_none_iff]; exact no rfl⟩
theorem told_fld {n : Nat} {r : Str} {e d : Int} {h : LH} (s : SetAt n r e d h) : h[n]? = some (.ins "Setting" (setF r e d)) := s
theorem V_Line_init : ∀ ds h Q E, ds.length = 5 → G_Line_init ds h Q E → b_Line_init (startD N_Line_init ds) h (bodyK Q E) := by
  rintro ds h Q E len ⟨pre, z, y, a, b, rfl, rfl, pz, py, pa, pb, sa, sb, q1, q2, q3, q4, q5⟩
  clear len
  show b_Line_init [some (.ref pre.length), some z, some y, some a, some b] _ _
  refine byK fun κ kr kn ke => ?_
  unfold b_Line_init
  refine cutS fun T1 e1 => ?_
  simp [-Bool.forall_bool, -Bool.exists_bool, -List.lookup_eq_none_iff]
  refine ⟨z, 1, 40, rfl, pz, fun z1 => ?_, fun z1 => ke _ _ _ _ (q1 z1)⟩
  rw [e1]; clear e1 T1
  refine cutS fun T1 e1 => ?_
  simp [-Bool.forall_bool, -Bool.exists_bool, -List.lookup_eq_none_iff]
  refine ⟨y, 1, 200, rfl, py, fun z2 => ?_, fun z2 => ke _ _ _ _ (q2 z1 z2)⟩
  rw [e1]; clear e1 T1
  refine cutS fun T1 e1 => ?_
  simp [-Bool.forall_bool, -Bool.exists_bool, -List.lookup_eq_none_iff]
  refine ⟨a, rfl, pa, fun z3 => ?_, fun z3 => ke _ _ _ _ (q3 z1 z2 z3)⟩
  rw [e1]; clear e1 T1
  refine cutS fun T1 e1 => ?_
  simp [-Bool.forall_bool, -Bool.exists_bool, -List.lookup_eq_none_iff]
  refine ⟨b, rfl, pb, fun z4 => ?_, fun z4 => ke _ _ _ _ (q4 z1 z2 z3 z4)⟩
  rw [e1]; clear e1 T1
  obtain ⟨na, ra, ea, da, rfl, ha⟩ := sa z3
  obtain ⟨nb, rb, eb, db, rfl, hb⟩ := sb z4
  obtain ⟨i, rfl, i1, i2⟩ := betw_int z1
  obtain ⟨j, rfl, j1, j2⟩ := betw_int z2
  have fin := kn [some (.ref pre.length), some (.int i), some (.int j), some (.ref na), some (.ref nb)] _ (q5 i j na nb ra ea da rb eb db rfl rfl rfl rfl i1 i2 j1 j2 ha hb)
  have na1 : na ≠ pre.length := by rintro rfl; unfold SetAt at ha; simp [-Bool.forall_bool, -Bool.exists_bool, -List.lookup_eq_none_iff, setF] at ha
  have nb1 : nb ≠ pre.length := by rintro rfl; unfold SetAt at hb; simp [-Bool.forall_bool, -Bool.exists_bool, -List.lookup_eq_none_iff, setF] at hb
  have pre_at : ∀ {n : Nat} {r : Str} {e d : Int} {o : O}, n ≠ pre.length → SetAt n r e d (pre ++ [.ins "Line" []]) → (pre ++ [o])[n]? = some (.ins "Setting" (setF r e d)) := fun {n r e d o} hn hs => by
    unfold SetAt at hs
    have hl := (List.getElem?_eq_some_iff.mp hs).1
    simp [-Bool.forall_bool, -Bool.exists_bool, -List.lookup_eq_none_iff] at hl
    rw [List.getElem?_append_left (by omega)] at hs ⊢
    exact hs
  have ha' := fun o => pre_at (o := o) na1 ha
  have hb' := fun o => pre_at (o := o) nb1 hb
  simp [-Bool.forall_bool, -Bool.exists_bool, -List.lookup_eq_none_iff, ha', hb']
  exact ⟨_, rfl, _, rfl, fin⟩
theorem log2_small {i : Int} (h0 : 0 ≤ i) (h1 : i ≤ 1000000) : i.natAbs.log2 < 1920 :=
  Nat.lt_of_lt_of_le (PySem.Flt.log2_lt_of (k := 20) (by decide) (by have : i.natAbs ≤ 1000000 := by omega
                                                                     have e : (2 : Nat) ^ 20 = 1048576 := by decide
                                                                     omega)) (by decide)
/-- the parts of a session's name fit -/
theorem rule_len {r : Str} (h : ruleB r = true) : r.length ≤ 5 := by
  unfold ruleB at h
  simp [-Bool.forall_bool, -Bool.exists_bool, -List.lookup_eq_none_iff] at h
  rcases h with rfl | rfl | rfl <;> decide +kernel
theorem V_Setting_repr : ∀ ds h Q E, ds.length = 1 → G_Setting_repr ds h Q E → b_Setting_repr (startD N_Setting_repr ds) h (bodyK Q E) := by
  rintro ds h Q E _ ⟨n, r, e, d, rfl, hs, hr, e1, e2, d1, d2, q⟩
  show b_Setting_repr [some (.ref n)] _ _
  refine byK fun κ kr kn ke => ?_
  unfold b_Setting_repr
  unfold SetAt setF at hs
  simp [-Bool.forall_bool, -Bool.exists_bool, -List.lookup_eq_none_iff, hs]
  have fin := kr _ _ q
  unfold setT at fin
  have l0 := rule_len hr
  have l1 : (Str.ofString e.repr).length ≤ 100 := by
    have := PyProof.Rows.len_str_of_int e
    have z : toString e = e.repr := rfl
    rw [z] at this; omega
  have l2 : (Str.ofString d.repr).length ≤ 1000 := by
    have := PyProof.Rows.len_str_of_int d
    have z : toString d = d.repr := rfl
    rw [z] at this; omega
  have a0 : (Str.empty ++ Str.ofString "Setting(").length ≤ 100 := by decide +kernel
  have a1 : (Str.ofString ", ").length ≤ 100 := by decide +kernel
  have a2 : (Str.ofString ")").length ≤ 100 := by decide +kernel
  have z1 := log2_small (i := e) (by omega) (by omega)
  have z2 := log2_small (i := d) (by omega) (by omega)
  change κ.rt (.str (Str.empty ++ Str.ofString "Setting(" ++ r ++ Str.ofString ", " ++ Str.ofString e.repr ++ Str.ofString ", " ++ Str.ofString d.repr ++ Str.ofString ")")) h at fin
  generalize Str.empty ++ Str.ofString "Setting(" = x0 at *
  have z : sizeLine = 16777216 := rfl
  rw [z]
  refine ⟨by omega, by omega, ?_, ?_, z1, ?_, ?_, z2, ?_, ?_, fin⟩
  all_goals simp only [Str.length_append]; omega
theorem V_Line_repr : ∀ ds h Q E, ds.length = 1 → G_Line_repr ds h Q E → b_Line_repr (startD N_Line_repr ds) h (bodyK Q E) := by
  rintro ds h Q E _ ⟨n, z, y, a, b, ta, tb, rfl, hs, z1, z2, y1, y2, q⟩
  show b_Line_repr [some (.ref n)] _ _
  refine byK fun κ kr kn ke => ?_
  unfold b_Line_repr
  unfold LineAt lineF at hs
  simp [-Bool.forall_bool, -Bool.exists_bool, -List.lookup_eq_none_iff, hs]
  have fin := kr _ _ q
  unfold lineT at fin
  have l1 : (Str.ofString z.repr).length ≤ 100 := by
    have := PyProof.Rows.len_str_of_int z
    have e : toString z = z.repr := rfl
    rw [e] at this; omega
  have l2 : (Str.ofString y.repr).length ≤ 1000 := by
    have := PyProof.Rows.len_str_of_int y
    have e : toString y = y.repr := rfl
    rw [e] at this; omega
  have a0 : (Str.empty ++ Str.ofString "Line(").length ≤ 100 := by decide +kernel
  have a1 : (Str.ofString " bytes, ").length ≤ 100 := by decide +kernel
  have a2 : (Str.ofString " ticks)").length ≤ 100 := by decide +kernel
  have g1 := log2_small (i := z) (by omega) (by omega)
  have g2 := log2_small (i := y) (by omega) (by omega)
  change κ.rt (.str (Str.empty ++ Str.ofString "Line(" ++ Str.ofString z.repr ++ Str.ofString " bytes, " ++ Str.ofString y.repr ++ Str.ofString " ticks)")) h at fin
  generalize Str.empty ++ Str.ofString "Line(" = x0 at *
  have e : sizeLine = 16777216 := rfl
  rw [e]
  refine ⟨by omega, g1, ?_, ?_, g2, ?_, ?_, fin⟩
  all_goals simp only [Str.length_append]; omega
end LL.K02
end

section
set_option Elab.async false
set_option linter.all false
set_option maxRecDepth 100000
/-! K02X0: draws, made lines, own ==. -/
namespace LL.K02
open PySem LL
theorem V_law_ways : ∀ ds h Q E, ds.length = 1 → G_law_ways ds h Q E → b_law_ways (startD N_law_ways ds) h (bodyK Q E) := by
  rintro ds h Q E _ ⟨w, rfl, hw, q⟩
  show b_law_ways [some (.ref w), none] h _
  refine byK fun κ kr kn ke => ?_
  unfold b_law_ways
  simp [-Bool.forall_bool, -Bool.exists_bool, -List.lookup_eq_none_iff]
  refine ⟨w, _, rfl, by simp [-Bool.forall_bool, -Bool.exists_bool, -List.lookup_eq_none_iff], by simp [-Bool.forall_bool, -Bool.exists_bool, -List.lookup_eq_none_iff], hw, ?_⟩
  intro r a c b hr
  refine ⟨w, 4, rfl, by omega, by omega, wsp_of hw ?_⟩
  rintro r1 a c b ⟨e, rfl, e0, e1⟩
  simp [-Bool.forall_bool, -Bool.exists_bool, -List.lookup_eq_none_iff]
  refine ⟨w, 60, rfl, by omega, by omega, wsp_of hw ?_⟩
  rintro r2 a c b ⟨d, rfl, d0, d1⟩
  refine ⟨w, _, rfl, by simp [-Bool.forall_bool, -Bool.exists_bool, -List.lookup_eq_none_iff], by simp [-Bool.forall_bool, -Bool.exists_bool, -List.lookup_eq_none_iff], wsp_of hw ?_⟩
  rintro r3 a c b hr3
  refine kr _ _ (q _ _ _ _ ?_)
  have hk : ∃ k, ruleB k = true ∧ r = .str k := by
    simp only [List.mem_cons, List.not_mem_nil, or_false] at hr
    rcases hr with rfl | rfl | rfl | rfl <;> exact ⟨_, by decide +kernel, rfl⟩
  obtain ⟨k, hk, rfl⟩ := hk
  simp only [List.mem_cons, List.not_mem_nil, or_false] at hr3
  have hl : ∃ l, r3 = .int l ∧ 0 ≤ l ∧ l ≤ 60 := by
    rcases hr3 with rfl | rfl | rfl | rfl | rfl | rfl <;> exact ⟨_, rfl, by omega, by omega⟩
  obtain ⟨l, rfl, l0, l1⟩ := hl
  exact ⟨k, 1 + e, l, rfl, hk, by omega, by omega, l0, by omega⟩
theorem V_law_told : ∀ ds h Q E, ds.length = 1 → G_law_told ds h Q E → b_law_told (startD N_law_told ds) h (bodyK Q E) := by
  rintro ds h Q E _ ⟨w, rfl, hw, q⟩
  show b_law_told [some (.ref w), none] h _
  refine byK fun κ kr kn ke => ?_
  unfold b_law_told
  simp [-Bool.forall_bool, -Bool.exists_bool, -List.lookup_eq_none_iff]
  refine ⟨w, _, rfl, by simp [-Bool.forall_bool, -Bool.exists_bool, -List.lookup_eq_none_iff], by simp [-Bool.forall_bool, -Bool.exists_bool, -List.lookup_eq_none_iff], hw, ?_⟩
  intro r a c b hr
  refine ⟨w, 30, rfl, by omega, by omega, wsp_of hw ?_⟩
  rintro r1 a c b ⟨y, rfl, y1, y2⟩
  simp [-Bool.forall_bool, -Bool.exists_bool, -List.lookup_eq_none_iff]
  refine ⟨w, _, rfl, by simp [-Bool.forall_bool, -Bool.exists_bool, -List.lookup_eq_none_iff], by simp [-Bool.forall_bool, -Bool.exists_bool, -List.lookup_eq_none_iff], wsp_of hw ?_⟩
  intro r2 a c b hr2
  refine ⟨w, rfl, wsp_of hw ?_⟩
  rintro r3 a c b ⟨k0, e0, d0, rfl, s1⟩
  refine ⟨w, rfl, wsp_of hw ?_⟩
  rintro r4 a c b ⟨k1, e1, d1, rfl, s2⟩
  refine kr _ _ (q _ _ _ _ ?_)
  simp only [List.mem_cons, List.not_mem_nil, or_false] at hr hr2
  have hl : ∃ l, r = .int l ∧ 1 ≤ l ∧ l ≤ 40 := by
    rcases hr with rfl | rfl | rfl | rfl | rfl | rfl <;> exact ⟨_, rfl, by omega, by omega⟩
  obtain ⟨z, rfl, z3, z4⟩ := hl
  have hl : ∃ l, r2 = .int l ∧ 1 ≤ l ∧ l ≤ 200 := by
    rcases hr2 with rfl | rfl | rfl | rfl <;> exact ⟨_, rfl, by omega, by omega⟩
  obtain ⟨y, rfl, y3, y4⟩ := hl
  exact ⟨⟨z, y, k0, e0, d0, k1, e1, d1⟩, rfl, z3, z4, y3, y4, s1, s2⟩
/-- a setting is made -/
theorem S_ok {h : LH} {r : Str} {e d : Int} {Q : D → LH → Prop} {E : XL} (s : SOk r e d) (q : Q .non (h ++ [setO r e d])) : G_Setting_init [.ref h.length, .str r, .int e, .int d] (h ++ [.ins "Setting" []]) Q E :=
  ⟨h, _, _, _, rfl, rfl, trivial, trivial, trivial, (fun z => by rw [show ruleOk (.str r) = ruleB r from rfl, s.r] at z; cases z), (fun _ z => by have a := s.e1; have b := s.e2; simp [-Bool.forall_bool, -Bool.exists_bool, -List.lookup_eq_none_iff, betw, a, b] at z), (fun _ _ z => by have a := s.d1; have b := s.d2; simp [-Bool.forall_bool, -Bool.exists_bool, -List.lookup_eq_none_iff, betw, a, b] at z), fun x i j e1 e2 e3 _ _ _ _ _ => by cases e1; cases e2; cases e3; exact q⟩
theorem set_knd {n : Nat} {r : Str} {e d : Int} {h : LH} (s : SetAt n r e d h) : knd h (.ref n) := .inl ⟨_, s⟩
theorem isS_at {n : Nat} {r : Str} {e d : Int} {h : LH} (s : SetAt n r e d h) : isS "Setting" h (.ref n) = true := by
  unfold SetAt at s; simp [-Bool.forall_bool, -Bool.exists_bool, -List.lookup_eq_none_iff, isS, s]
/-- a line is made -/
theorem L_ok {h : LH} {t : Tl} {na nb : Nat} {Q : D → LH → Prop} {E : XL} (o : t.Ok) (ha : SetAt na t.r1 t.e1 t.d1 (h ++ [.ins "Line" []])) (hb : SetAt nb t.r2 t.e2 t.d2 (h ++ [.ins "Line" []])) (q : Q .non (h ++ [lineO t (.ref na) (.ref nb)])) :
    G_Line_init [.ref h.length, .int t.z, .int t.y, .ref na, .ref nb] (h ++ [.ins "Line" []]) Q E := by
  have b1 : betw (.int t.z) 1 40 = true := by have a := o.z1; have b := o.z2; simp [-Bool.forall_bool, -Bool.exists_bool, -List.lookup_eq_none_iff, betw, a, b]
  have b2 : betw (.int t.y) 1 200 = true := by have a := o.y1; have b := o.y2; simp [-Bool.forall_bool, -Bool.exists_bool, -List.lookup_eq_none_iff, betw, a, b]
  refine ⟨h, _, _, _, _, rfl, rfl, trivial, trivial, set_knd ha, set_knd hb, (fun _ => ⟨na, _, _, _, rfl, ha⟩), (fun _ => ⟨nb, _, _, _, rfl, hb⟩), (fun z => by rw [b1] at z; cases z), (fun _ z => by rw [b2] at z; cases z), (fun _ _ z => by rw [isS_at ha] at z; cases z), (fun _ _ _ z => by rw [isS_at hb] at z; cases z), ?_⟩
  intro i j na' nb' ra ea da rb eb db e1 e2 e3 e4 _ _ _ _ sa sb
  cases e1; cases e2; cases e3; cases e4
  unfold SetAt at sa sb ha hb
  rw [ha] at sa
  rw [hb] at sb
  simp [-Bool.forall_bool, -Bool.exists_bool, -List.lookup_eq_none_iff, setF] at sa sb
  obtain ⟨x1, x2, x3, _⟩ := sa
  obtain ⟨y1, y2, y3, _⟩ := sb
  rw [← x1, ← x2, ← x3, ← y1, ← y2, ← y3]
  exact q
theorem V_law_made : ∀ ds h Q E, ds.length = 1 → G_law_made ds h Q E → b_law_made (startD N_law_made ds) h (bodyK Q E) := by
  rintro ds h Q E _ ⟨t, rfl, o, q⟩
  show b_law_made [some t.D, none, none, none, none] h _
  refine byK fun κ kr kn ke => ?_
  have q := kr _ _ q
  unfold b_law_made
  simp [-Bool.forall_bool, -Bool.exists_bool, -List.lookup_eq_none_iff, Tl.D, told3]
  refine S_ok o.s1 ⟨rfl, ?_⟩
  simp [-Bool.forall_bool, -Bool.exists_bool, -List.lookup_eq_none_iff]
  have e1 : h ++ [setO t.r1 t.e1 t.d1, .ins "Setting" []] = (h ++ [setO t.r1 t.e1 t.d1]) ++ [.ins "Setting" []] := by simp [-Bool.forall_bool, -Bool.exists_bool, -List.lookup_eq_none_iff]
  have e2 : h.length + 1 = (h ++ [setO t.r1 t.e1 t.d1]).length := by simp [-Bool.forall_bool, -Bool.exists_bool, -List.lookup_eq_none_iff]
  rw [e1, e2]
  refine S_ok o.s2 ⟨rfl, ?_⟩
  simp [-Bool.forall_bool, -Bool.exists_bool, -List.lookup_eq_none_iff]
  have e3 : h ++ [setO t.r1 t.e1 t.d1, setO t.r2 t.e2 t.d2, .ins "Line" []] = (h ++ [setO t.r1 t.e1 t.d1, setO t.r2 t.e2 t.d2]) ++ [.ins "Line" []] := by simp [-Bool.forall_bool, -Bool.exists_bool, -List.lookup_eq_none_iff]
  have e4 : h.length + 2 = (h ++ [setO t.r1 t.e1 t.d1, setO t.r2 t.e2 t.d2]).length := by simp [-Bool.forall_bool, -Bool.exists_bool, -List.lookup_eq_none_iff]
  rw [e3, e4]
  refine L_ok o (by unfold SetAt setO; simp [-Bool.forall_bool, -Bool.exists_bool, -List.lookup_eq_none_iff]) (by unfold SetAt setO; simp [-Bool.forall_bool, -Bool.exists_bool, -List.lookup_eq_none_iff]) ⟨rfl, ?_⟩
  simpa [-Bool.forall_bool, -Bool.exists_bool, -List.lookup_eq_none_iff] using q
theorem strOk_rule {r : Str} (h : ruleB r = true) : PyData.strOk r = true := by
  unfold ruleB at h
  simp [-Bool.forall_bool, -Bool.exists_bool, -List.lookup_eq_none_iff] at h
  rcases h with rfl | rfl | rfl <;> decide +kernel
theorem shaped3 {r : Str} (h : ruleB r = true) (e d : Int) : SeqAt.shaped (py3 r e d) = true := by
  unfold SeqAt.shaped
  have h1 : (py3 r e d).canLay0 = true := by simp [-Bool.forall_bool, -Bool.exists_bool, -List.lookup_eq_none_iff, py3, PyData.canLay0, PyData.canLayAll0, strOk_rule h]
  have h2 : (py3 r e d).depth = 1 := rfl
  rw [h1, h2]; rfl
theorem shaped4 {t : Tl} (o : t.Ok) : SeqAt.shaped t.py = true := by
  unfold SeqAt.shaped
  have h1 : t.py.canLay0 = true := by simp [-Bool.forall_bool, -Bool.exists_bool, -List.lookup_eq_none_iff, Tl.py, py3, PyData.canLay0, PyData.canLayAll0, strOk_rule o.s1.r, strOk_rule o.s2.r]
  have h2 : t.py.depth = 2 := rfl
  rw [h1, h2]; rfl
theorem eqv3 (r : Str) (e d : Int) (r' : Str) (e' d' : Int) : PyData.eqv (py3 r e d) (py3 r' e' d') = (decide (r = r') && (decide (e = e') && (decide (d = d') && true))) := rfl
theorem eqv4 (t t' : Tl) : PyData.eqv t.py t'.py = (decide (t.z = t'.z) && (decide (t.y = t'.y) && (PyData.eqv (py3 t.r1 t.e1 t.d1) (py3 t'.r1 t'.e1 t'.d1) && (PyData.eqv (py3 t.r2 t.e2 t.d2) (py3 t'.r2 t'.e2 t'.d2) && true)))) := rfl
theorem V_Setting_eq : ∀ ds h Q E, ds.length = 2 → G_Setting_eq ds h Q E → b_Setting_eq (startD N_Setting_eq ds) h (bodyK Q E) := by
  rintro ds h Q E _ ⟨n, r, e, d, y, rfl, hs, hr, hk, q1, q2⟩
  show b_Setting_eq [some (.ref n), some y] h _
  refine byK fun κ kr kn ke => ?_
  unfold b_Setting_eq
  unfold SetAt at hs
  rcases hk with ⟨m, r', e', d', rfl, hm, hr'⟩ | ⟨xs, rfl⟩
  · have q := kr _ _ (q1 m r' e' d' rfl hm)
    unfold SetAt at hm
    simp [-Bool.forall_bool, -Bool.exists_bool, -List.lookup_eq_none_iff]
    refine ⟨_, tyD_ins hm, true, rfl, ?_⟩
    simp [-Bool.forall_bool, -Bool.exists_bool, -List.lookup_eq_none_iff, hs, hm, setF]
    exact ⟨py3 r e d, py3 r' e' d', rfl, rfl, shaped3 hr _ _, shaped3 hr' _ _, q⟩
  · have q := kr _ _ (q2 xs rfl)
    simp [-Bool.forall_bool, -Bool.exists_bool, -List.lookup_eq_none_iff]
    exact ⟨false, rfl, by simpa [-Bool.forall_bool, -Bool.exists_bool, -List.lookup_eq_none_iff] using q⟩
theorem V_Line_eq : ∀ ds h Q E, ds.length = 2 → G_Line_eq ds h Q E → b_Line_eq (startD N_Line_eq ds) h (bodyK Q E) := by
  rintro ds h Q E _ ⟨n, t, y, rfl, ⟨a, b, hn⟩, ht, hk, q1, q2, q3⟩
  show b_Line_eq [some (.ref n), some y] h _
  refine byK fun κ kr kn ke => ?_
  unfold b_Line_eq
  rcases hk with ⟨m, t', rfl, ⟨a', b', hm⟩, ht'⟩ | ⟨xs, rfl⟩ | ⟨m, r, e, d, rfl, hm⟩
  · have q := kr _ _ (q1 m t' rfl ⟨a', b', hm⟩)
    unfold lineO at hm hn
    simp [-Bool.forall_bool, -Bool.exists_bool, -List.lookup_eq_none_iff]
    refine ⟨_, tyD_ins hm, true, rfl, ?_⟩
    simp [-Bool.forall_bool, -Bool.exists_bool, -List.lookup_eq_none_iff, hn, hm, lineF]
    exact ⟨t.py, t'.py, rfl, rfl, shaped4 ht, shaped4 ht', q⟩
  · have q := kr _ _ (q2 xs rfl)
    simp [-Bool.forall_bool, -Bool.exists_bool, -List.lookup_eq_none_iff]
    exact ⟨false, rfl, by simpa [-Bool.forall_bool, -Bool.exists_bool, -List.lookup_eq_none_iff] using q⟩
  · have q := kr _ _ (q3 m r e d rfl hm)
    unfold SetAt at hm
    simp [-Bool.forall_bool, -Bool.exists_bool, -List.lookup_eq_none_iff]
    exact ⟨_, tyD_ins hm, false, rfl, by simpa [-Bool.forall_bool, -Bool.exists_bool, -List.lookup_eq_none_iff] using q⟩
end LL.K02
end

section
set_option Elab.async false
set_option linter.all false
set_option maxRecDepth 100000
/-! K02X1: the law's body. -/
namespace LL.K02
open PySem LL
theorem int_len {i lo hi : Int} (h0 : lo ≤ i) (h1 : i ≤ hi) : (Str.ofString (toString i)).length ≤ i.natAbs + 2 := by
  have := PyProof.Rows.len_str_of_int i
  omega
theorem str_int {i : Int} {h : LH} {Q : D → LH → Prop} (h0 : 0 ≤ i) (h1 : i ≤ 1000000) (q : Q (.str (Str.ofString (toString i))) h) : bStr [.int i] h Q := ⟨log2_small h0 h1, q⟩
theorem short_rule {r : Str} (h : ruleB r = true) : Short r 5 := by
  unfold ruleB at h
  simp [-Bool.forall_bool, -Bool.exists_bool, -List.lookup_eq_none_iff] at h
  rcases h with rfl | rfl | rfl <;> exact short_of _ (by decide +kernel)
theorem short_set {r : Str} {e d : Int} (s : SOk r e d) : Short (setT r e d) 600 := by
  have h1 := s.e1
  have h2 := s.e2
  have h3 := s.d1
  have h4 := s.d2
  exact (((((((short_empty.app (short_of "Setting(" (n := 8) (by decide +kernel))).app (short_rule s.r)).app (short_of ", " (n := 2) (by decide +kernel))).app (short_int (i := e) (n := 250) (by omega))).app (short_of ", " (n := 2) (by decide +kernel))).app (short_int (i := d) (n := 250) (by omega))).app (short_of ")" (n := 1) (by decide +kernel))).le (by decide)
theorem short_line {z y : Int} (z1 : 1 ≤ z) (z2 : z ≤ 40) (y1 : 1 ≤ y) (y2 : y ≤ 200) : Short (lineT z y) 600 := 
  (((((short_empty.app (short_of "Line(" (n := 5) (by decide +kernel))).app (short_int (i := z) (n := 250) (by omega))).app (short_of " bytes, " (n := 8) (by decide +kernel))).app (short_int (i := y) (n := 250) (by omega))).app (short_of " ticks)" (n := 7) (by decide +kernel))).le (by decide)
abbrev TS : List (Str × LSp) := [("Setting", G_Setting_repr)]
variable {h : LH} {m : Nat}
theorem one_told {r : Str} {e d : Int} (s : SOk r e d) : One TS h (m + 1) (told3 r e d) 600 := by
  have h1 := s.e1
  have h2 := s.e2
  have h3 := s.d1
  have h4 := s.d2
  exact (one_tup (sh_cons (one_str (short_rule s.r) (by decide)) (sh_cons (one_int (n := 200) (by omega) (by decide)) (sh_cons (one_int (n := 200) (by omega) (by decide)) sh_nil)))).le (by decide)
theorem one_set {n : Nat} {r : Str} {e d : Int} (a : SetAt n r e d h) (s : SOk r e d) : One TS h m (.ref n) 600 := by
  refine ⟨setT r e d, .ins (C := "Setting") (G := G_Setting_repr) (by simp [-Bool.forall_bool, -Bool.exists_bool, -List.lookup_eq_none_iff]) ?_ ⟨n, r, e, d, rfl, a, s.r, s.e1, s.e2, s.d1, s.d2, rfl, rfl⟩, (short_set s).l⟩
  unfold SetAt at a
  simp [-Bool.forall_bool, -Bool.exists_bool, -List.lookup_eq_none_iff, isObj, a]
theorem ne_self {b : Bool} {h : LH} {Q : D → LH → Prop} (q : Q (.bl false) h) : oNeD (.bl b) (.bl b) h Q := by
  show Q (.bl (!decide (b = b))) h
  simpa [-Bool.forall_bool, -Bool.exists_bool, -List.lookup_eq_none_iff] using q
theorem app_at {n : Nat} {o : O} {h l : LH} (e : h[n]? = some o) : (h ++ l)[n]? = some o := by
  rw [List.getElem?_append_left (List.getElem?_eq_some_iff.mp e).1]; exact e
theorem lineT_det {m : Nat} {t t' : Tl} {h : LH} (a : LineT m t h) (b : LineT m t' h) : Tl.py t = Tl.py t' := by
  obtain ⟨_, _, a⟩ := a
  obtain ⟨_, _, b⟩ := b
  rw [a] at b
  simp [-Bool.forall_bool, -Bool.exists_bool, -List.lookup_eq_none_iff, lineO, lineF, told3] at b
  obtain ⟨b1, b2, _, _, _, _, ⟨b3, b4, b5⟩, b6, b7, b8⟩ := b
  unfold Tl.py
  rw [b1, b2, b3, b4, b5, b6, b7, b8]
theorem line_not_set {m : Nat} {t : Tl} {h : LH} {r : Str} {e d : Int} (a : LineT m t h) (b : SetAt m r e d h) : False := by
  obtain ⟨_, _, a⟩ := a
  unfold SetAt at b
  rw [a] at b
  simp [-Bool.forall_bool, -Bool.exists_bool, -List.lookup_eq_none_iff, lineO] at b
theorem eqL_line {n m : Nat} {t t' : Tl} {h : LH} {Q : D → LH → Prop} {E : XL} (a : LineT n t h) (o : t.Ok) (b : LineT m t' h) (o' : t'.Ok) (q : Q (.bl (PyData.eqv (Tl.py t) (Tl.py t'))) h) : G_Line_eq [.ref n, .ref m] h Q E :=
  ⟨n, t, _, rfl, a, o, .inl ⟨m, t', rfl, b, o'⟩, fun m2 t2 e l => by cases e; rw [lineT_det l b]; exact q, (fun xs z => by cases z), fun m2 r e d z s => by cases z; exact (line_not_set b s).elim⟩
theorem eqL_tup {n : Nat} {t : Tl} {h : LH} {xs : List D} {Q : D → LH → Prop} {E : XL} (a : LineT n t h) (o : t.Ok) (q : Q (.bl false) h) : G_Line_eq [.ref n, .tup xs] h Q E :=
  ⟨n, t, _, rfl, a, o, .inr (.inl ⟨xs, rfl⟩), (fun m2 t2 e => by cases e), fun _ _ => q, fun m2 r e d z => by cases z⟩
theorem eqL_set {n m : Nat} {t : Tl} {r : Str} {e d : Int} {h : LH} {Q : D → LH → Prop} {E : XL} (a : LineT n t h) (o : t.Ok) (s : SetAt m r e d h) (q : Q (.bl false) h) : G_Line_eq [.ref n, .ref m] h Q E :=
  ⟨n, t, _, rfl, a, o, .inr (.inr ⟨m, r, e, d, rfl, s⟩), (fun m2 t2 z l => by cases z; exact (line_not_set l s).elim), (fun xs z => by cases z), fun _ _ _ _ _ _ => q⟩
theorem eqS_tup {n : Nat} {r : Str} {e d : Int} {h : LH} {xs : List D} {Q : D → LH → Prop} {E : XL} (s : SetAt n r e d h) (hr : ruleB r = true) (q : Q (.bl false) h) : G_Setting_eq [.ref n, .tup xs] h Q E :=
  ⟨n, r, e, d, _, rfl, s, hr, .inr ⟨xs, rfl⟩, (fun m r' e' d' z => by cases z), fun _ _ => q⟩
theorem eqv_refl (t : Tl) : PyData.eqv (Tl.py t) (Tl.py t) = true := by simp [-Bool.forall_bool, -Bool.exists_bool, -List.lookup_eq_none_iff, eqv4, eqv3]
theorem obj_line {n : Nat} {t : Tl} {h : LH} (a : LineT n t h) : isObj "Line" (.ref n) h := by
  obtain ⟨_, _, a⟩ := a
  simp [-Bool.forall_bool, -Bool.exists_bool, -List.lookup_eq_none_iff, isObj, a, lineO]
theorem ty_line {n : Nat} {t : Tl} {h : LH} (a : LineT n t h) : tyD (.ref n) h = some (.cl "Line") := by
  obtain ⟨_, _, a⟩ := a
  exact tyD_ins a
theorem LineT.app {m : Nat} {t : Tl} {h l : LH} (a : LineT m t h) : LineT m t (h ++ l) := let ⟨x, y, z⟩ := a; ⟨x, y, app_at z⟩
theorem V_law_right : ∀ ds h Q E, ds.length = 1 → G_law_right ds h Q E → b_law_right (startD N_law_right ds) h (bodyK Q E) := by
  rintro ds h Q E len ⟨w, rfl, hw, q⟩
  clear len
  show b_law_right [some (.ref w), none, none, none, none, none, none, none, none, none, none, none, none] h _
  refine byK fun κ kr kn ke => ?_
  have fin := fun h' => kr _ h' (q h')
  clear kr q kn ke
  unfold b_law_right
  refine cutS fun T0 e0 => ?_
  simp [-Bool.forall_bool, -Bool.exists_bool, -List.lookup_eq_none_iff]
  obtain ⟨I, hI⟩ : ∃ I : Nat → LV → LH → Prop, I = (fun _ σ' h' => WellAt w h' ∧ ∃ v1 v2 v3 v4 v5 v6 v7 v8 v9 v10 v11 v12 : Option D, σ' = [some (.ref w), v1, v2, v3, v4, v5, v6, v7, v8, v9, v10, v11, v12]) := ⟨_, rfl⟩
  refine forBy I (by rw [hI]; exact ⟨hw, _, _, _, _, _, _, _, _, _, _, _, _, rfl⟩) (fun _ _ _ _ _ => trivial) ?_ ?_
  rotate_left
  · intro σ' h' hh
    rw [hI] at hh
    obtain ⟨_, v1, v2, v3, v4, v5, v6, v7, v8, v9, v10, v11, v12, rfl⟩ := hh
    rw [e0]
    simp [-Bool.forall_bool, -Bool.exists_bool, -List.lookup_eq_none_iff]
    exact fin _
  clear hw e0
  intro i y σ' h1 hy hh
  rw [hI] at hh
  obtain ⟨hw, v1, v2, v3, v4, v5, v6, v7, v8, v9, v10, v11, v12, rfl⟩ := hh
  have nxt : ∀ (h' : LH) (v1 v2 v3 v4 v5 v6 v7 v8 v9 v10 v11 v12 : Option D), WellAt w h' → I (i + 1) [some (.ref w), v1, v2, v3, v4, v5, v6, v7, v8, v9, v10, v11, v12] h' := fun h' v1 v2 v3 v4 v5 v6 v7 v8 v9 v10 v11 v12 z => by rw [hI]; exact ⟨z, _, _, _, _, _, _, _, _, _, _, _, _, rfl⟩
  clear hI
  simp only [gNm_run, List.set_cons_succ, List.set_cons_zero]
  refine cutS fun T1 e1 => ?_
  simp [-Bool.forall_bool, -Bool.exists_bool, -List.lookup_eq_none_iff]
  refine ⟨w, rfl, hw, ?_⟩
  rintro r a c b ⟨t0, rfl, o0⟩
  refine ⟨w, _, rfl, by simp [-Bool.forall_bool, -Bool.exists_bool, -List.lookup_eq_none_iff], by simp [-Bool.forall_bool, -Bool.exists_bool, -List.lookup_eq_none_iff], wsp_of hw ?_⟩
  rintro r a c b hm
  have hw := wellAt_set (a := a) (b := b) (c := c) hw
  generalize h1.set w (wellO a c b) = h2 at *
  have hm : ∃ t : Tl, r = t.D ∧ t.Ok := by
    simp only [List.mem_cons, List.not_mem_nil, or_false] at hm
    rcases hm with rfl | rfl
    · exact ⟨t0, rfl, o0⟩
    · exact ⟨⟨40, 200, "few", 4, 200, "plain", 1, 0⟩, rfl, by decide, by decide, by decide, by decide, ⟨by decide +kernel, by decide, by decide, by decide, by decide⟩, ⟨by decide +kernel, by decide, by decide, by decide, by decide⟩⟩

  obtain ⟨t, rfl, o⟩ := hm
  simp [-Bool.forall_bool, -Bool.exists_bool, -List.lookup_eq_none_iff, Tl.D, told3]
  rw [e1]; clear e1 T1
  refine cutS fun T1 e1 => ?_
  simp [-Bool.forall_bool, -Bool.exists_bool, -List.lookup_eq_none_iff]
  refine S_ok o.s1 ⟨rfl, ?_⟩
  refine S_ok o.s2 ⟨rfl, ?_⟩
  have g1 : SetAt h2.length t.r1 t.e1 t.d1 (h2 ++ [setO t.r1 t.e1 t.d1] ++ [setO t.r2 t.e2 t.d2]) := by unfold SetAt setO; simp [-Bool.forall_bool, -Bool.exists_bool, -List.lookup_eq_none_iff]
  have g2 : SetAt (h2 ++ [setO t.r1 t.e1 t.d1]).length t.r2 t.e2 t.d2 (h2 ++ [setO t.r1 t.e1 t.d1] ++ [setO t.r2 t.e2 t.d2]) := by unfold SetAt setO; simp [-Bool.forall_bool, -Bool.exists_bool, -List.lookup_eq_none_iff]
  have hw3 : WellAt w (h2 ++ [setO t.r1 t.e1 t.d1] ++ [setO t.r2 t.e2 t.d2]) := wellAt_app (wellAt_app hw)
  generalize h2 ++ [setO t.r1 t.e1 t.d1] ++ [setO t.r2 t.e2 t.d2] = h3 at *
  generalize (h2 ++ [setO t.r1 t.e1 t.d1]).length = n2 at *
  generalize h2.length = n1 at *
  have f1 : h3[n1]? = some (.ins "Setting" (setF t.r1 t.e1 t.d1)) := g1
  have f2 : h3[n2]? = some (.ins "Setting" (setF t.r2 t.e2 t.d2)) := g2
  rw [e1]; clear e1 T1
  refine cutS fun T1 e1 => ?_
  simp [-Bool.forall_bool, -Bool.exists_bool, -List.lookup_eq_none_iff, f1, setF]
  refine ⟨n1, _, _, _, rfl, g1, o.s1.r, o.s1.e1, o.s1.e2, o.s1.d1, o.s1.d2, ?_⟩
  simp [-Bool.forall_bool, -Bool.exists_bool, -List.lookup_eq_none_iff, f1]
  rw [e1]; clear e1 T1
  refine cutS fun T1 e1 => ?_
  simp [-Bool.forall_bool, -Bool.exists_bool, -List.lookup_eq_none_iff, told3]
  have l0 := rule_len o.s1.r
  have a1 : (Str.ofString "Setting(").length = 8 := by decide +kernel
  have a2 : (Str.ofString ", ").length = 2 := by decide +kernel
  have a3 : (Str.ofString ")").length = 1 := by decide +kernel
  have l1 := int_len o.s1.e1 o.s1.e2
  have l2 := int_len o.s1.d1 o.s1.d2
  have sz : sizeLine = 16777216 := rfl
  have b1 := o.s1.e1
  have b2 := o.s1.e2
  have b3 := o.s1.d1
  have b4 := o.s1.d2
  refine ⟨by omega, by rw [Str.length_append]; omega, ?_⟩
  refine str_int (i := t.e1) (by have := o.s1.e1; omega) (by have := o.s1.e2; omega) ?_
  rw [oPlus_str]
  refine ⟨by simp only [Str.length_append]; omega, ?_⟩
  rw [oPlus_str]
  refine ⟨by simp only [Str.length_append]; omega, ?_⟩
  refine str_int (i := t.d1) (by have := o.s1.d1; omega) (by have := o.s1.d2; omega) ?_
  rw [oPlus_str]
  refine ⟨by simp only [Str.length_append]; omega, ?_⟩
  rw [oPlus_str]
  refine ⟨by simp only [Str.length_append]; omega, ?_⟩
  have et : Str.ofString "Setting(" ++ t.r1 ++ Str.ofString ", " ++ Str.ofString (toString t.e1) ++ Str.ofString ", " ++ Str.ofString (toString t.d1) ++ Str.ofString ")" = setT t.r1 t.e1 t.d1 := by
    have : Str.empty ++ Str.ofString "Setting(" = Str.ofString "Setting(" := by decide +kernel
    unfold setT
    rw [this]
  rw [et]
  rw [e1]; clear e1 T1
  refine cutS fun T1 e1 => ?_
  simp [-Bool.forall_bool, -Bool.exists_bool, -List.lookup_eq_none_iff]
  obtain ⟨ts, y1, y2, y3⟩ := (sh_cons (T := TS) (h := h3) (m := 1) (one_str (short_rule o.s1.r) (by decide)) (sh_cons (one_int (i := t.e1) (n := 200) (by omega) (by decide)) (sh_cons (one_int (i := t.d1) (n := 200) (by omega) (by decide)) (sh_cons (one_told o.s1) (sh_cons (one_str (short_set o.s1) (by decide)) (sh_cons (one_bl (b := true)) sh_nil)))))).out (by decide)
  refine ⟨1, by decide, _, rfl, ts, y1, y2, y3, 1, by decide, _, rfl, ts, y1, y2, y3, ?_⟩
  simp [-Bool.forall_bool, -Bool.exists_bool, -List.lookup_eq_none_iff]
  refine ⟨by simp [-Bool.forall_bool, -Bool.exists_bool, -List.lookup_eq_none_iff, isObj, f1], ⟨_, tyD_ins f2, true, rfl⟩, n1, _, _, _, _, rfl, g1, o.s1.r, .inl ⟨n2, _, _, _, rfl, g2, o.s2.r⟩, fun m r' e' d' e2 sm => ⟨_, rfl, ?_⟩, fun xs z => (by cases z)⟩
  cases e2
  unfold SetAt at sm
  rw [f2] at sm
  simp [-Bool.forall_bool, -Bool.exists_bool, -List.lookup_eq_none_iff, setF] at sm
  obtain ⟨x1, x2, x3, _⟩ := sm
  rw [← x1, ← x2, ← x3]
  clear x1 x2 x3
  refine ⟨py3 t.r1 t.e1 t.d1, py3 t.r2 t.e2 t.d2, rfl, rfl, shaped3 o.s1.r _ _, shaped3 o.s2.r _ _, ?_⟩
  refine ne_self ?_
  simp [-Bool.forall_bool, -Bool.exists_bool, -List.lookup_eq_none_iff]
  rw [e1]; clear e1 T1
  refine cutS fun T1 e1 => ?_
  simp [-Bool.forall_bool, -Bool.exists_bool, -List.lookup_eq_none_iff]
  have B1 := app_at (l := [.ins "Line" []]) g1
  have B2 := app_at (l := [.ins "Line" []]) g2
  refine L_ok o B1 B2 ⟨rfl, ?_⟩
  have g1 : SetAt n1 t.r1 t.e1 t.d1 (h3 ++ [lineO t (.ref n1) (.ref n2)]) := app_at g1
  have g2 : SetAt n2 t.r2 t.e2 t.d2 (h3 ++ [lineO t (.ref n1) (.ref n2)]) := app_at g2
  have g3 : (h3 ++ [lineO t (.ref n1) (.ref n2)])[h3.length]? = some (lineO t (.ref n1) (.ref n2)) := by simp [-Bool.forall_bool, -Bool.exists_bool, -List.lookup_eq_none_iff]
  have hw := wellAt_app (l := [lineO t (.ref n1) (.ref n2)]) hw3
  generalize h3 ++ [lineO t (.ref n1) (.ref n2)] = h4 at *
  generalize h3.length = n3 at *
  clear B1 B2 f1 f2 hw3 y2
  have f1 : h4[n1]? = some (.ins "Setting" (setF t.r1 t.e1 t.d1)) := g1
  have f2 : h4[n2]? = some (.ins "Setting" (setF t.r2 t.e2 t.d2)) := g2
  have f3 : h4[n3]? = some (.ins "Line" (lineF t.z t.y (.ref n1) (.ref n2) (told3 t.r1 t.e1 t.d1) (told3 t.r2 t.e2 t.d2))) := g3
  have gL : LineT n3 t h4 := ⟨_, _, g3⟩
  rw [e1]; clear e1 T1
  refine cutS fun T1 e1 => ?_
  simp [-Bool.forall_bool, -Bool.exists_bool, -List.lookup_eq_none_iff, f3, lineF]
  refine ⟨n3, _, _, _, _, _, _, rfl, f3, o.z1, o.z2, o.y1, o.y2, ?_⟩
  simp [-Bool.forall_bool, -Bool.exists_bool, -List.lookup_eq_none_iff, f3]
  rw [e1]; clear e1 T1
  refine cutS fun T1 e1 => ?_
  simp [-Bool.forall_bool, -Bool.exists_bool, -List.lookup_eq_none_iff]
  have c1 : (Str.ofString "Line(").length = 5 := by decide +kernel
  have c2 : (Str.ofString " bytes, ").length = 8 := by decide +kernel
  have c3 : (Str.ofString " ticks)").length = 7 := by decide +kernel
  have d1 := int_len o.z1 o.z2
  have d2 := int_len o.y1 o.y2
  have p1 := o.z1
  have p2 := o.z2
  have p3 := o.y1
  have p4 := o.y2
  refine str_int (by omega) (by omega) ?_
  rw [oPlus_str]
  refine ⟨by omega, ?_⟩
  rw [oPlus_str]
  refine ⟨by simp only [Str.length_append]; omega, ?_⟩
  refine str_int (by omega) (by omega) ?_
  rw [oPlus_str]
  refine ⟨by simp only [Str.length_append]; omega, ?_⟩
  rw [oPlus_str]
  refine ⟨by simp only [Str.length_append]; omega, ?_⟩
  have et : Str.ofString "Line(" ++ Str.ofString (toString t.z) ++ Str.ofString " bytes, " ++ Str.ofString (toString t.y) ++ Str.ofString " ticks)" = lineT t.z t.y := by
    have : Str.empty ++ Str.ofString "Line(" = Str.ofString "Line(" := by decide +kernel
    unfold lineT
    rw [this]
  rw [et]
  rw [e1]; clear e1 T1
  refine cutS fun T1 e1 => ?_
  simp [-Bool.forall_bool, -Bool.exists_bool, -List.lookup_eq_none_iff]
  obtain ⟨ts, y1, y2, y3⟩ := (sh_cons (T := TS) (h := h4) (m := 2) (one_int (i := t.z) (n := 200) (by omega) (by decide)) (sh_cons (one_int (i := t.y) (n := 200) (by omega) (by decide)) (sh_cons (one_set g1 o.s1) (sh_cons (one_set g2 o.s2) (sh_cons (one_tup (m := 1) (sh_cons (one_int (i := t.z) (n := 200) (by omega) (by decide)) (sh_cons (one_int (i := t.y) (n := 200) (by omega) (by decide)) (sh_cons (one_told o.s1) (sh_cons (one_told o.s2) sh_nil))))) (sh_cons (one_str (short_line o.z1 o.z2 o.y1 o.y2) (by decide)) (sh_cons (one_bl (b := true)) sh_nil))))))).out (by decide)
  refine ⟨2, by decide, _, rfl, ts, y1, y2, y3, 2, by decide, _, rfl, ts, y1, y2, y3, ?_⟩
  simp [-Bool.forall_bool, -Bool.exists_bool, -List.lookup_eq_none_iff]
  rw [e1]; clear e1 T1
  refine cutS fun T1 e1 => ?_
  simp [-Bool.forall_bool, -Bool.exists_bool, -List.lookup_eq_none_iff]
  refine ⟨t, rfl, o, ?_⟩
  have gM : LineT (h4.length + 2) t (h4 ++ [setO t.r1 t.e1 t.d1, setO t.r2 t.e2 t.d2, lineO t (.ref h4.length) (.ref (h4.length + 1))]) := ⟨_, _, by simp [-Bool.forall_bool, -Bool.exists_bool, -List.lookup_eq_none_iff]; rfl⟩
  have gL := gL.app (l := [setO t.r1 t.e1 t.d1, setO t.r2 t.e2 t.d2, lineO t (.ref h4.length) (.ref (h4.length + 1))])
  have hw := wellAt_app (l := [setO t.r1 t.e1 t.d1, setO t.r2 t.e2 t.d2, lineO t (.ref h4.length) (.ref (h4.length + 1))]) hw
  have g1 : SetAt n1 _ _ _ (h4 ++ [setO t.r1 t.e1 t.d1, setO t.r2 t.e2 t.d2, lineO t (.ref h4.length) (.ref (h4.length + 1))]) := app_at g1
  generalize h4 ++ [setO t.r1 t.e1 t.d1, setO t.r2 t.e2 t.d2, lineO t (.ref h4.length) (.ref (h4.length + 1))] = h5 at *
  generalize h4.length + 2 = n4 at *
  refine ⟨obj_line gL, ⟨_, ty_line gM, true, rfl⟩, eqL_line gL o gM o ⟨_, rfl, ?_⟩⟩
  rw [eqv_refl]
  simp [-Bool.forall_bool, -Bool.exists_bool, -List.lookup_eq_none_iff]
  refine ⟨obj_line gL, ⟨_, rfl⟩, eqL_tup gL o ⟨_, rfl, ?_⟩⟩
  simp [-Bool.forall_bool, -Bool.exists_bool, -List.lookup_eq_none_iff]
  refine ⟨obj_line gL, ⟨_, tyD_ins g1, _, rfl⟩, eqL_set gL o g1 ⟨_, rfl, ?_⟩⟩
  simp [-Bool.forall_bool, -Bool.exists_bool, -List.lookup_eq_none_iff]
  refine ⟨by unfold SetAt at g1; simp [-Bool.forall_bool, -Bool.exists_bool, -List.lookup_eq_none_iff, isObj, g1], ⟨_, rfl⟩, eqS_tup g1 o.s1.r ⟨_, rfl, ?_⟩⟩
  simp [-Bool.forall_bool, -Bool.exists_bool, -List.lookup_eq_none_iff]
  rw [e1]; clear e1 T1
  refine cutS fun T1 e1 => ?_
  simp [-Bool.forall_bool, -Bool.exists_bool, -List.lookup_eq_none_iff]
  have go : ∀ A B : Tl, A.Ok → B.Ok → PyData.eqv (Tl.py t) A.py = false → PyData.eqv (Tl.py t) B.py = false → T1 [some (D.ref w), some y, some (D.int t.z), some (D.int t.y), some (D.tup [D.str t.r1, D.int t.e1, D.int t.d1]),
          some (D.tup [D.str t.r2, D.int t.e2, D.int t.d2]), some (D.ref n1), some (D.ref n2),
          some (D.lst [D.int t.z, D.int t.y, D.ref n1, D.ref n2, D.tup [D.int t.z, D.int t.y, told3 t.r1 t.e1 t.d1, told3 t.r2 t.e2 t.d2], D.str (lineT t.z t.y), D.bl true]),
          some (D.str (lineT t.z t.y)), some (D.ref n3), some (D.lst [A.D, B.D]), v12] h5 { nx := opq I (i + 1), rt := κ.rt, bk := seqK T0 κ, ct := opq I (i + 1), ex := κ.ex } := by
    intro A B oA oB eA eB
    rw [e1]; clear e1 T1
    refine cutS fun T1 e1 => ?_
    simp [-Bool.forall_bool, -Bool.exists_bool, -List.lookup_eq_none_iff]
    have oC : Tl.Ok { t with e1 := t.e1 % 4 + 1 } := ⟨o.z1, o.z2, o.y1, o.y2, ⟨o.s1.r, by show 1 ≤ t.e1 % 4 + 1; omega, by show t.e1 % 4 + 1 ≤ 4; omega, o.s1.d1, o.s1.d2⟩, o.s2⟩
    have oF : Tl.Ok { t with d2 := (t.d2 + 1) % 201 } := ⟨o.z1, o.z2, o.y1, o.y2, o.s1, ⟨o.s2.r, o.s2.e1, o.s2.e2, by show 0 ≤ (t.d2 + 1) % 201; omega, by show (t.d2 + 1) % 201 ≤ 200; omega⟩⟩
    have eC : PyData.eqv (Tl.py t) (Tl.py { t with e1 := t.e1 % 4 + 1 }) = false := by
      have : t.e1 ≠ t.e1 % 4 + 1 := by have := o.s1.e1; have := o.s1.e2; omega
      simp [-Bool.forall_bool, -Bool.exists_bool, -List.lookup_eq_none_iff, eqv4, eqv3, this]
    have eF : PyData.eqv (Tl.py t) (Tl.py { t with d2 := (t.d2 + 1) % 201 }) = false := by
      have : t.d2 ≠ (t.d2 + 1) % 201 := by have := o.s2.d1; have := o.s2.d2; omega
      simp [-Bool.forall_bool, -Bool.exists_bool, -List.lookup_eq_none_iff, eqv4, eqv3, this]
    have all : ∀ u ∈ [A, B, { t with e1 := t.e1 % 4 + 1 }, { t with d2 := (t.d2 + 1) % 201 }], Tl.Ok u ∧ PyData.eqv (Tl.py t) (Tl.py u) = false := by
      intro u hu
      simp only [List.mem_cons, List.not_mem_nil, or_false] at hu
      rcases hu with rfl | rfl | rfl | rfl
      · exact ⟨oA, eA⟩
      · exact ⟨oB, eB⟩
      · exact ⟨oC, eC⟩
      · exact ⟨oF, eF⟩
    change T1 [some (D.ref w), some y, some (D.int t.z), some (D.int t.y), some (D.tup [D.str t.r1, D.int t.e1, D.int t.d1]),
          some (D.tup [D.str t.r2, D.int t.e2, D.int t.d2]), some (D.ref n1), some (D.ref n2),
          some (D.lst [D.int t.z, D.int t.y, D.ref n1, D.ref n2, D.tup [D.int t.z, D.int t.y, told3 t.r1 t.e1 t.d1, told3 t.r2 t.e2 t.d2], D.str (lineT t.z t.y), D.bl true]),
          some (D.str (lineT t.z t.y)), some (D.ref n3), some (D.lst ([A, B, { t with e1 := t.e1 % 4 + 1 }, { t with d2 := (t.d2 + 1) % 201 }].map Tl.D)), v12] h5 _
    have hlen : [A, B, { t with e1 := t.e1 % 4 + 1 }, { t with d2 := (t.d2 + 1) % 201 }].length = 4 := rfl
    generalize [A, B, { t with e1 := t.e1 % 4 + 1 }, { t with d2 := (t.d2 + 1) % 201 }] = us at *
    rw [e1]; clear e1 T1
    simp [-Bool.forall_bool, -Bool.exists_bool, -List.lookup_eq_none_iff]
    refine ⟨fun i acc h' => acc = List.replicate i (.bl false) ∧ WellAt w h' ∧ LineT n3 t h', ⟨rfl, hw, gL⟩, fun _ _ _ _ _ => trivial, ?_, ?_⟩
    · rintro j x acc h' hx ⟨rfl, hw', gL'⟩
      have hj := (List.getElem?_eq_some_iff.mp hx).1
      obtain ⟨u, hu, rfl⟩ := List.mem_map.mp (List.mem_of_getElem? hx)
      obtain ⟨ou, eu⟩ := all u hu
      simp [-Bool.forall_bool, -Bool.exists_bool, -List.lookup_eq_none_iff]
      refine ⟨u, rfl, ou, ?_⟩
      have gM : LineT (h'.length + 2) u (h' ++ [setO u.r1 u.e1 u.d1, setO u.r2 u.e2 u.d2, lineO u (.ref h'.length) (.ref (h'.length + 1))]) := ⟨_, _, by simp [-Bool.forall_bool, -Bool.exists_bool, -List.lookup_eq_none_iff]; rfl⟩
      have gL := gL'.app (l := [setO u.r1 u.e1 u.d1, setO u.r2 u.e2 u.d2, lineO u (.ref h'.length) (.ref (h'.length + 1))])
      have hw := wellAt_app (l := [setO u.r1 u.e1 u.d1, setO u.r2 u.e2 u.d2, lineO u (.ref h'.length) (.ref (h'.length + 1))]) hw'
      generalize h' ++ [setO u.r1 u.e1 u.d1, setO u.r2 u.e2 u.d2, lineO u (.ref h'.length) (.ref (h'.length + 1))] = h6 at *
      generalize h'.length + 2 = n5 at *
      refine ⟨obj_line gL, ⟨_, ty_line gM, true, rfl⟩, eqL_line gL o gM ou ⟨_, rfl, ?_⟩⟩
      rw [eu]
      simp [-Bool.forall_bool, -Bool.exists_bool, -List.lookup_eq_none_iff] at hj
      refine ⟨lt_sizeLine (by omega), ?_, hw, gL⟩
      rw [List.replicate_succ']
    · rintro acc h' ⟨rfl, hw', _⟩
      refine ⟨List.replicate (List.map Tl.D us).length false, by simp [-Bool.forall_bool, -Bool.exists_bool, -List.lookup_eq_none_iff], ?_⟩
      rw [if_neg (by simp [-Bool.forall_bool, -Bool.exists_bool, -List.lookup_eq_none_iff])]
      exact nxt _ _ _ _ _ _ _ _ _ _ _ _ _ hw'
  have ok1 : ∀ z, 1 ≤ z → z ≤ 40 → Tl.Ok { t with z := z } := fun z a b => ⟨a, b, o.y1, o.y2, o.s1, o.s2⟩
  have ok2 : ∀ z, 1 ≤ z → z ≤ 200 → Tl.Ok { t with y := z } := fun z a b => ⟨o.z1, o.z2, a, b, o.s1, o.s2⟩
  have ne1 : ∀ z, z ≠ t.z → PyData.eqv (Tl.py t) (Tl.py { t with z := z }) = false := fun z a => by simp [-Bool.forall_bool, -Bool.exists_bool, -List.lookup_eq_none_iff, eqv4, Ne.symm a]
  have ne2 : ∀ z, z ≠ t.y → PyData.eqv (Tl.py t) (Tl.py { t with y := z }) = false := fun z a => by simp [-Bool.forall_bool, -Bool.exists_bool, -List.lookup_eq_none_iff, eqv4, Ne.symm a]
  split
  · split
    · exact go { t with z := 1 } { t with y := t.y + 1 } (ok1 _ (by omega) (by omega)) (ok2 _ (by omega) (by omega)) (ne1 _ (by omega)) (ne2 _ (by omega))
    · exact go { t with z := 1 } { t with y := 1 } (ok1 _ (by omega) (by omega)) (ok2 _ (by omega) (by omega)) (ne1 _ (by omega)) (ne2 _ (by omega))
  · split
    · exact go { t with z := 2 } { t with y := t.y + 1 } (ok1 _ (by omega) (by omega)) (ok2 _ (by omega) (by omega)) (ne1 _ (by omega)) (ne2 _ (by omega))
    · exact go { t with z := 2 } { t with y := 1 } (ok1 _ (by omega) (by omega)) (ok2 _ (by omega) (by omega)) (ne1 _ (by omega)) (ne2 _ (by omega))
end LL.K02
end

section
set_option Elab.async false
set_option linter.all false
set_option maxRecDepth 100000
set_option maxHeartbeats 4000000
namespace LL.K02
open PySem PySem.Spec PyProof.Rows L2 LL
theorem S_law_grain : FnScope N_law_grain ["_law_mill_here", "_law_many"] (defScope (top 19)) := ⟨rfl, rfl, rfl, by decide +kernel, rfl, by decide +kernel, by decide +kernel⟩
theorem J_law_grain {P : Program} {w : World} {K : Frag} {mg : Str → Option Value} {h base : Heap} (D : Wd w K mg h base) (cdv : Value) (A : Around) (outer : List Env) (s : Shared) (H : Hp) (E : XK) (hc : CodeAt K (He.fAd K ("_law_grain", none)) cdv) (hr : RoomG 1 (A.deeper (envOfC "_law_grain" (defScope (top 19)) s.heap.objs.size (He.fAd K ("_law_grain", none)) cdv))) :
    JSs (cxOf (L2N.CX P w) P w K mg base N_law_grain "_law_grain" (defScope (top 19)) (He.fAd K ("_law_grain", none)) cdv A outer s H E) (fun cls d _ H => E cls d H) (defBody (top 19)) b_law_grain := by
  have S := S_law_grain
  exact (jss_cons (js_asg (je_plus (je_ix (je_var (pe_var (i := 0) rfl (.inl rfl))) je_int) je_int) (jg_sub (je_var (pe_var (i := 0) rfl (.inl rfl))) je_int))
  (jss_cons (js_if (jt_gt (je_ix (je_var (pe_var (i := 0) rfl (.inl rfl))) je_int) je_int)
  (jss_cons (js_asg (je_B call_divmod bsDivmod D.u_divmod rfl (ja_cons (je_BT call_int1 bsInt D.u_int rfl (ja_cons (je_ix (je_var (pe_var (i := 0) rfl (.inl rfl))) je_int) ja_nil)) (ja_cons (je_var (pe_var (i := 1) rfl (.inl rfl))) ja_nil))) (jg_tup rfl (jgs_cons (W := NoW) (jg_sub (je_var (pe_var (i := 0) rfl (.inl rfl))) je_int) (jgs_cons (W := NoW) (jg_name (i := 2) (pg_name S.nd rfl (.inl rfl))) jgs_nil))))
  (jss_one (js_ret (je_var (pe_var (i := 2) rfl (.inl rfl))))))
  jss_nil)
  (jss_cons (js_asg (je_mod (je_BT call_int1 bsInt D.u_int rfl (ja_cons (je_plus (je_plus (je_mul (je_ix (je_var (pe_var (i := 0) rfl (.inl rfl))) je_int) je_int) (je_mul (je_ix (je_var (pe_var (i := 0) rfl (.inl rfl))) je_int) je_int)) (je_mul (je_div (je_ix (je_var (pe_var (i := 0) rfl (.inl rfl))) je_int) je_int) je_int)) ja_nil)) je_int) (jg_sub (je_var (pe_var (i := 0) rfl (.inl rfl))) je_int))
  (jss_one (js_ret (je_mod (je_BT call_int1 bsInt D.u_int rfl (ja_cons (je_div (je_ix (je_var (pe_var (i := 0) rfl (.inl rfl))) je_int) je_int) ja_nil)) (je_var (pe_var (i := 1) rfl (.inl rfl)))))))))
theorem S_law_pick : FnScope N_law_pick ["_law_mill_here", "_law_things"] (defScope (top 20)) := ⟨rfl, rfl, rfl, by decide +kernel, rfl, by decide +kernel, by decide +kernel⟩
theorem J_law_pick {P : Program} {w : World} {K : Frag} {mg : Str → Option Value} {h base : Heap} (D : Wd w K mg h base) (h_law_grain : Keeps P w K mg base 2 (He.fAd K ("_law_grain", none)) 2 G_law_grain) (cdv : Value) (A : Around) (outer : List Env) (s : Shared) (H : Hp) (E : XK) (hc : CodeAt K (He.fAd K ("_law_pick", none)) cdv) (hr : RoomG 2 (A.deeper (envOfC "_law_pick" (defScope (top 20)) s.heap.objs.size (He.fAd K ("_law_pick", none)) cdv))) :
    JSs (cxOf (L2N.CX P w) P w K mg base N_law_pick "_law_pick" (defScope (top 20)) (He.fAd K ("_law_pick", none)) cdv A outer s H E) (fun cls d _ H => E cls d H) (defBody (top 20)) b_law_pick := by
  have S := S_law_pick
  exact (jss_one (js_ret (je_ix (je_var (pe_var (i := 1) rfl (.inl rfl))) (je_call h_law_grain (hr.mono (by decide)) D.g__law_grain D.k_law_grain (L2N.takes_of rfl rfl rfl rfl) (ja_cons (je_var (pe_var (i := 0) rfl (.inl rfl))) (ja_cons (je_B (CallR.or call_len_seq call_len_str) bsLen D.u_len rfl (ja_cons (je_var (pe_var (i := 1) rfl (.inl rfl))) ja_nil)) ja_nil))))))
theorem S_law_ways : FnScope N_law_ways ["_law_mill_here"] (defScope (top 21)) := ⟨rfl, rfl, rfl, by decide +kernel, rfl, by decide +kernel, by decide +kernel⟩
theorem J_law_ways {P : Program} {w : World} {K : Frag} {mg : Str → Option Value} {h base : Heap} (D : Wd w K mg h base) (h_law_pick : Keeps P w K mg base 3 (He.fAd K ("_law_pick", none)) 2 G_law_pick) (h_law_grain : Keeps P w K mg base 2 (He.fAd K ("_law_grain", none)) 2 G_law_grain) (cdv : Value) (A : Around) (outer : List Env) (s : Shared) (H : Hp) (E : XK) (hc : CodeAt K (He.fAd K ("_law_ways", none)) cdv) (hr : RoomG 3 (A.deeper (envOfC "_law_ways" (defScope (top 21)) s.heap.objs.size (He.fAd K ("_law_ways", none)) cdv))) :
    JSs (cxOf (L2N.CX P w) P w K mg base N_law_ways "_law_ways" (defScope (top 21)) (He.fAd K ("_law_ways", none)) cdv A outer s H E) (fun cls d _ H => E cls d H) (defBody (top 21)) b_law_ways := by
  have S := S_law_ways
  exact (jss_cons (js_set (je_call h_law_pick (hr.mono (by decide)) D.g__law_pick D.k_law_pick (L2N.takes_of rfl rfl rfl rfl) (ja_cons (je_var (pe_var (i := 0) rfl (.inl rfl))) (ja_cons (je_lst (ja_cons je_str (ja_cons je_str (ja_cons je_str (ja_cons je_str ja_nil))))) ja_nil))) (fun h => ps_set (i := 1) S.nd rfl (.inl rfl) h))
  (jss_one (js_ret (je_tup (ja_cons (je_var (pe_var (i := 1) rfl (.inl rfl))) (ja_cons (je_plus je_int (je_call h_law_grain (hr.mono (by decide)) D.g__law_grain D.k_law_grain (L2N.takes_of rfl rfl rfl rfl) (ja_cons (je_var (pe_var (i := 0) rfl (.inl rfl))) (ja_cons je_int ja_nil)))) (ja_cons (je_call h_law_pick (hr.mono (by decide)) D.g__law_pick D.k_law_pick (L2N.takes_of rfl rfl rfl rfl) (ja_cons (je_var (pe_var (i := 0) rfl (.inl rfl))) (ja_cons (je_lst (ja_cons je_int (ja_cons je_int (ja_cons je_int (ja_cons je_int (ja_cons je_int (ja_cons (je_call h_law_grain (hr.mono (by decide)) D.g__law_grain D.k_law_grain (L2N.takes_of rfl rfl rfl rfl) (ja_cons (je_var (pe_var (i := 0) rfl (.inl rfl))) (ja_cons je_int ja_nil))) ja_nil))))))) ja_nil))) ja_nil)))))))
theorem S_law_told : FnScope N_law_told ["_law_mill_here"] (defScope (top 22)) := ⟨rfl, rfl, rfl, by decide +kernel, rfl, by decide +kernel, by decide +kernel⟩
theorem J_law_told {P : Program} {w : World} {K : Frag} {mg : Str → Option Value} {h base : Heap} (D : Wd w K mg h base) (h_law_pick : Keeps P w K mg base 3 (He.fAd K ("_law_pick", none)) 2 G_law_pick) (h_law_ways : Keeps P w K mg base 4 (He.fAd K ("_law_ways", none)) 1 G_law_ways) (h_law_grain : Keeps P w K mg base 2 (He.fAd K ("_law_grain", none)) 2 G_law_grain) (cdv : Value) (A : Around) (outer : List Env) (s : Shared) (H : Hp) (E : XK) (hc : CodeAt K (He.fAd K ("_law_told", none)) cdv) (hr : RoomG 4 (A.deeper (envOfC "_law_told" (defScope (top 22)) s.heap.objs.size (He.fAd K ("_law_told", none)) cdv))) :
    JSs (cxOf (L2N.CX P w) P w K mg base N_law_told "_law_told" (defScope (top 22)) (He.fAd K ("_law_told", none)) cdv A outer s H E) (fun cls d _ H => E cls d H) (defBody (top 22)) b_law_told := by
  have S := S_law_told
  exact (jss_cons (js_set (je_call h_law_pick (hr.mono (by decide)) D.g__law_pick D.k_law_pick (L2N.takes_of rfl rfl rfl rfl) (ja_cons (je_var (pe_var (i := 0) rfl (.inl rfl))) (ja_cons (je_lst (ja_cons je_int (ja_cons je_int (ja_cons je_int (ja_cons je_int (ja_cons je_int (ja_cons je_int ja_nil))))))) ja_nil))) (fun h => ps_set (i := 1) S.nd rfl (.inl rfl) h))
  (jss_one (js_ret (je_tup (ja_cons (je_var (pe_var (i := 1) rfl (.inl rfl))) (ja_cons (je_call h_law_pick (hr.mono (by decide)) D.g__law_pick D.k_law_pick (L2N.takes_of rfl rfl rfl rfl) (ja_cons (je_var (pe_var (i := 0) rfl (.inl rfl))) (ja_cons (je_lst (ja_cons je_int (ja_cons je_int (ja_cons je_int (ja_cons (je_plus je_int (je_call h_law_grain (hr.mono (by decide)) D.g__law_grain D.k_law_grain (L2N.takes_of rfl rfl rfl rfl) (ja_cons (je_var (pe_var (i := 0) rfl (.inl rfl))) (ja_cons je_int ja_nil)))) ja_nil))))) ja_nil))) (ja_cons (je_call h_law_ways (hr.mono (by decide)) D.g__law_ways D.k_law_ways (L2N.takes_of rfl rfl rfl rfl) (ja_cons (je_var (pe_var (i := 0) rfl (.inl rfl))) ja_nil)) (ja_cons (je_call h_law_ways (hr.mono (by decide)) D.g__law_ways D.k_law_ways (L2N.takes_of rfl rfl rfl rfl) (ja_cons (je_var (pe_var (i := 0) rfl (.inl rfl))) ja_nil)) ja_nil))))))))
theorem S_InvalidRule_init : FnScope N_InvalidRule_init ["self", "value"] (defScope (inClass (top 3) 0)) := ⟨rfl, rfl, rfl, by decide +kernel, rfl, by decide +kernel, by decide +kernel⟩
theorem S_is_integer : FnScope N_is_integer ["value"] (defScope (top 11)) := ⟨rfl, rfl, rfl, by decide +kernel, rfl, by decide +kernel, by decide +kernel⟩
theorem J_is_integer {P : Program} {w : World} {K : Frag} {mg : Str → Option Value} {h base : Heap} (D : Wd w K mg h base) (cdv : Value) (A : Around) (outer : List Env) (s : Shared) (H : Hp) (E : XK) (hc : CodeAt K (He.fAd K ("is_integer", none)) cdv) (hr : RoomG 1 (A.deeper (envOfC "is_integer" (defScope (top 11)) s.heap.objs.size (He.fAd K ("is_integer", none)) cdv))) :
    JSs (cxOf (L2N.CX P w) P w K mg base N_is_integer "is_integer" (defScope (top 11)) (He.fAd K ("is_integer", none)) cdv A outer s H E) (fun cls d _ H => E cls d H) (defBody (top 11)) b_is_integer := by
  have S := S_is_integer
  exact (jss_one (js_ret (je_and (je_isi (T := .bt "int") (je_var (pe_var (i := 0) rfl (.inl rfl))) (pe_tyn D.u_int rfl) (.ty _) D.is_int D.u_isinstance) (je_one (je_not (je_isi (T := .bt "bool") (je_var (pe_var (i := 0) rfl (.inl rfl))) (pe_tyn D.u_bool rfl) (.ty _) D.is_bool D.u_isinstance))))))
theorem S_is_between : FnScope N_is_between ["value", "low", "high"] (defScope (top 12)) := ⟨rfl, rfl, rfl, by decide +kernel, rfl, by decide +kernel, by decide +kernel⟩
theorem J_is_between {P : Program} {w : World} {K : Frag} {mg : Str → Option Value} {h base : Heap} (D : Wd w K mg h base) (h_is_integer : Keeps P w K mg base 2 (He.fAd K ("is_integer", none)) 1 G_is_integer) (cdv : Value) (A : Around) (outer : List Env) (s : Shared) (H : Hp) (E : XK) (hc : CodeAt K (He.fAd K ("is_between", none)) cdv) (hr : RoomG 2 (A.deeper (envOfC "is_between" (defScope (top 12)) s.heap.objs.size (He.fAd K ("is_between", none)) cdv))) :
    JSs (cxOf (L2N.CX P w) P w K mg base N_is_between "is_between" (defScope (top 12)) (He.fAd K ("is_between", none)) cdv A outer s H E) (fun cls d _ H => E cls d H) (defBody (top 12)) b_is_between := by
  have S := S_is_between
  exact (jss_one (js_ret (je_and (je_call h_is_integer (hr.mono (by decide)) D.g_is_integer D.k_is_integer (L2N.takes_of rfl rfl rfl rfl) (ja_cons (je_var (pe_var (i := 0) rfl (.inl rfl))) ja_nil)) (je_one (je_chain op_le op_le oiLe oiLe (je_var (pe_var (i := 1) rfl (.inl rfl))) (je_var (pe_var (i := 0) rfl (.inl rfl))) (je_var (pe_var (i := 2) rfl (.inl rfl))) (by rfl))))))
theorem S_InvalidNumber_init : FnScope N_InvalidNumber_init ["self", "value"] (defScope (inClass (top 4) 0)) := ⟨rfl, rfl, rfl, by decide +kernel, rfl, by decide +kernel, by decide +kernel⟩
theorem S_check_number : FnScope N_check_number ["value", "low", "high"] (defScope (top 13)) := ⟨rfl, rfl, rfl, by decide +kernel, rfl, by decide +kernel, by decide +kernel⟩
theorem J_check_number {P : Program} {w : World} {K : Frag} {mg : Str → Option Value} {h base : Heap} (D : Wd w K mg h base) (h_is_between : Keeps P w K mg base 3 (He.fAd K ("is_between", none)) 3 G_is_between) (h_InvalidNumber_init : OexK P w K mg base (He.fAd K ("InvalidNumber", some "__init__")) "value") (cdv : Value) (A : Around) (outer : List Env) (s : Shared) (H : Hp) (E : XK) (hc : CodeAt K (He.fAd K ("check_number", none)) cdv) (hr : RoomG 3 (A.deeper (envOfC "check_number" (defScope (top 13)) s.heap.objs.size (He.fAd K ("check_number", none)) cdv))) :
    JSs (cxOf (L2N.CX P w) P w K mg base N_check_number "check_number" (defScope (top 13)) (He.fAd K ("check_number", none)) cdv A outer s H E) (fun cls d _ H => E cls d H) (defBody (top 13)) b_check_number := by
  have S := S_check_number
  exact (jss_one (js_if (jt_not (jt_val (je_call h_is_between (hr.mono (by decide)) D.g_is_between D.k_is_between (L2N.takes_of rfl rfl rfl rfl) (ja_cons (je_var (pe_var (i := 0) rfl (.inl rfl))) (ja_cons (je_var (pe_var (i := 1) rfl (.inl rfl))) (ja_cons (je_var (pe_var (i := 2) rfl (.inl rfl))) ja_nil))))))
  (jss_one (js_raise1 (je_var (pe_var (i := 0) rfl (.inl rfl))) D.xo_InvalidNumber h_InvalidNumber_init (hr.mono (by decide)) D.g_InvalidNumber (L2N.takes_of rfl rfl rfl rfl)))
  jss_nil))
theorem S_Setting_init : FnScope N_Setting_init ["self", "rule", "every", "delay"] (defScope (inClass (top 14) 0)) := ⟨rfl, rfl, rfl, by decide +kernel, rfl, by decide +kernel, by decide +kernel⟩
theorem J_Setting_init {P : Program} {w : World} {K : Frag} {mg : Str → Option Value} {h base : Heap} (D : Wd w K mg h base) (h_InvalidRule_init : OexK P w K mg base (He.fAd K ("InvalidRule", some "__init__")) "value") (h_check_number : Keeps P w K mg base 4 (He.fAd K ("check_number", none)) 3 G_check_number) (cdv : Value) (A : Around) (outer : List Env) (s : Shared) (H : Hp) (E : XK) (hc : CodeAt K (He.fAd K ("Setting", some "__init__")) cdv) (hr : RoomG 4 (A.deeper (envOfC "Setting.__init__" (defScope (inClass (top 14) 0)) s.heap.objs.size (He.fAd K ("Setting", some "__init__")) cdv))) :
    JSs (cxOf (L2N.CX P w) P w K mg base N_Setting_init "Setting.__init__" (defScope (inClass (top 14) 0)) (He.fAd K ("Setting", some "__init__")) cdv A outer s H E) (fun cls d _ H => E cls d H) (defBody (inClass (top 14) 0)) b_Setting_init := by
  have S := S_Setting_init
  exact (jss_cons (js_if (PWPT (jw_or (jt_not (jt_val (je_isi (T := .bt "str") (je_var (pe_var (i := 1) rfl (.inl rfl))) (pe_tyn D.u_str rfl) (.ty _) D.is_str D.u_isinstance))) (jw_or1 (jt_notIn (je_var (pe_var (i := 1) rfl (.inl rfl))) (je_gtup D.g_RULES D.t_RULES D.r_RULES)))))
  (jss_one (js_raise1 (je_var (pe_var (i := 1) rfl (.inl rfl))) D.xo_InvalidRule h_InvalidRule_init (hr.mono (by decide)) D.g_InvalidRule (L2N.takes_of rfl rfl rfl rfl)))
  jss_nil)
  (jss_cons (js_expr (je_call h_check_number (hr.mono (by decide)) D.g_check_number D.k_check_number (L2N.takes_of rfl rfl rfl rfl) (ja_cons (je_var (pe_var (i := 2) rfl (.inl rfl))) (ja_cons je_int (ja_cons (je_gint D.i_MOST_EVERY) ja_nil)))))
  (jss_cons (js_expr (je_call h_check_number (hr.mono (by decide)) D.g_check_number D.k_check_number (L2N.takes_of rfl rfl rfl rfl) (ja_cons (je_var (pe_var (i := 3) rfl (.inl rfl))) (ja_cons je_int (ja_cons (je_gint D.i_MOST_DELAY) ja_nil)))))
  (jss_cons (js_fld D.f_rule (je_var (pe_var (i := 1) rfl (.inl rfl))) (je_var (pe_var (i := 0) rfl (.inl rfl))))
  (jss_cons (js_fld D.f_every (je_var (pe_var (i := 2) rfl (.inl rfl))) (je_var (pe_var (i := 0) rfl (.inl rfl))))
  (jss_cons (js_fld D.f_delay (je_var (pe_var (i := 3) rfl (.inl rfl))) (je_var (pe_var (i := 0) rfl (.inl rfl))))
  (jss_one (js_fld D.f_told (je_tup (ja_cons (je_var (pe_var (i := 1) rfl (.inl rfl))) (ja_cons (je_var (pe_var (i := 2) rfl (.inl rfl))) (ja_cons (je_var (pe_var (i := 3) rfl (.inl rfl))) ja_nil)))) (je_var (pe_var (i := 0) rfl (.inl rfl)))))))))))
theorem S_Setting_repr : FnScope N_Setting_repr ["self"] (defScope (inClass (top 14) 2)) := ⟨rfl, rfl, rfl, by decide +kernel, rfl, by decide +kernel, by decide +kernel⟩
theorem J_Setting_repr {P : Program} {w : World} {K : Frag} {mg : Str → Option Value} {h base : Heap} (D : Wd w K mg h base) (cdv : Value) (A : Around) (outer : List Env) (s : Shared) (H : Hp) (E : XK) (hc : CodeAt K (He.fAd K ("Setting", some "__repr__")) cdv) (hr : RoomG 1 (A.deeper (envOfC "Setting.__repr__" (defScope (inClass (top 14) 2)) s.heap.objs.size (He.fAd K ("Setting", some "__repr__")) cdv))) :
    JSs (cxOf (L2N.CX P w) P w K mg base N_Setting_repr "Setting.__repr__" (defScope (inClass (top 14) 2)) (He.fAd K ("Setting", some "__repr__")) cdv A outer s H E) (fun cls d _ H => E cls d H) (defBody (inClass (top 14) 2)) b_Setting_repr := by
  have S := S_Setting_repr
  exact (jss_one (js_ret (je_fstr (.cons je_str (.cons (je_fmt (je_fld D.f_rule (je_var (pe_var (i := 0) rfl (.inl rfl))))) (.cons je_str (.cons (je_fmt (je_fld D.f_every (je_var (pe_var (i := 0) rfl (.inl rfl))))) (.cons je_str (.cons (je_fmt (je_fld D.f_delay (je_var (pe_var (i := 0) rfl (.inl rfl))))) (.cons je_str .nil))))))))))
theorem S_Setting_eq : FnScope N_Setting_eq ["self", "other"] (defScope (inClass (top 14) 1)) := ⟨rfl, rfl, rfl, by decide +kernel, rfl, by decide +kernel, by decide +kernel⟩
theorem J_Setting_eq {P : Program} {w : World} {K : Frag} {mg : Str → Option Value} {h base : Heap} (D : Wd w K mg h base) (cdv : Value) (A : Around) (outer : List Env) (s : Shared) (H : Hp) (E : XK) (hc : CodeAt K (He.fAd K ("Setting", some "__eq__")) cdv) (hr : RoomG 1 (A.deeper (envOfC "Setting.__eq__" (defScope (inClass (top 14) 1)) s.heap.objs.size (He.fAd K ("Setting", some "__eq__")) cdv))) :
    JSs (cxOf (L2N.CX P w) P w K mg base N_Setting_eq "Setting.__eq__" (defScope (inClass (top 14) 1)) (He.fAd K ("Setting", some "__eq__")) cdv A outer s H E) (fun cls d _ H => E cls d H) (defBody (inClass (top 14) 1)) b_Setting_eq := by
  have S := S_Setting_eq
  exact (jss_one (js_ret (je_and (je_isi (T := .cl "Setting") (je_var (pe_var (i := 1) rfl (.inl rfl))) (pe_cln D.g_Setting) (.own _) D.is_Setting D.u_isinstance) (je_one (je_eqD hr (je_fld D.f_told (je_var (pe_var (i := 0) rfl (.inl rfl)))) (je_fld D.f_told (je_var (pe_var (i := 1) rfl (.inl rfl)))))))))
theorem S_NotASetting_init : FnScope N_NotASetting_init ["self", "value"] (defScope (inClass (top 2) 0)) := ⟨rfl, rfl, rfl, by decide +kernel, rfl, by decide +kernel, by decide +kernel⟩
theorem S_check_setting : FnScope N_check_setting ["value"] (defScope (top 15)) := ⟨rfl, rfl, rfl, by decide +kernel, rfl, by decide +kernel, by decide +kernel⟩
theorem J_check_setting {P : Program} {w : World} {K : Frag} {mg : Str → Option Value} {h base : Heap} (D : Wd w K mg h base) (h_NotASetting_init : OexK P w K mg base (He.fAd K ("NotASetting", some "__init__")) "value") (cdv : Value) (A : Around) (outer : List Env) (s : Shared) (H : Hp) (E : XK) (hc : CodeAt K (He.fAd K ("check_setting", none)) cdv) (hr : RoomG 3 (A.deeper (envOfC "check_setting" (defScope (top 15)) s.heap.objs.size (He.fAd K ("check_setting", none)) cdv))) :
    JSs (cxOf (L2N.CX P w) P w K mg base N_check_setting "check_setting" (defScope (top 15)) (He.fAd K ("check_setting", none)) cdv A outer s H E) (fun cls d _ H => E cls d H) (defBody (top 15)) b_check_setting := by
  have S := S_check_setting
  exact (jss_one (js_if (jt_not (jt_val (je_isi (T := .cl "Setting") (je_var (pe_var (i := 0) rfl (.inl rfl))) (pe_cln D.g_Setting) (.own _) D.is_Setting D.u_isinstance)))
  (jss_one (js_raise1 (je_var (pe_var (i := 0) rfl (.inl rfl))) D.xo_NotASetting h_NotASetting_init (hr.mono (by decide)) D.g_NotASetting (L2N.takes_of rfl rfl rfl rfl)))
  jss_nil))
theorem S_Line_init : FnScope N_Line_init ["self", "size", "way", "near", "far"] (defScope (inClass (top 16) 0)) := ⟨rfl, rfl, rfl, by decide +kernel, rfl, by decide +kernel, by decide +kernel⟩
theorem J_Line_init {P : Program} {w : World} {K : Frag} {mg : Str → Option Value} {h base : Heap} (D : Wd w K mg h base) (h_check_number : Keeps P w K mg base 4 (He.fAd K ("check_number", none)) 3 G_check_number) (h_check_setting : Keeps P w K mg base 4 (He.fAd K ("check_setting", none)) 1 G_check_setting) (cdv : Value) (A : Around) (outer : List Env) (s : Shared) (H : Hp) (E : XK) (hc : CodeAt K (He.fAd K ("Line", some "__init__")) cdv) (hr : RoomG 4 (A.deeper (envOfC "Line.__init__" (defScope (inClass (top 16) 0)) s.heap.objs.size (He.fAd K ("Line", some "__init__")) cdv))) :
    JSs (cxOf (L2N.CX P w) P w K mg base N_Line_init "Line.__init__" (defScope (inClass (top 16) 0)) (He.fAd K ("Line", some "__init__")) cdv A outer s H E) (fun cls d _ H => E cls d H) (defBody (inClass (top 16) 0)) b_Line_init := by
  have S := S_Line_init
  exact (jss_cons (js_expr (je_call h_check_number (hr.mono (by decide)) D.g_check_number D.k_check_number (L2N.takes_of rfl rfl rfl rfl) (ja_cons (je_var (pe_var (i := 1) rfl (.inl rfl))) (ja_cons je_int (ja_cons (je_gint D.i_MOST_SIZE) ja_nil)))))
  (jss_cons (js_expr (je_call h_check_number (hr.mono (by decide)) D.g_check_number D.k_check_number (L2N.takes_of rfl rfl rfl rfl) (ja_cons (je_var (pe_var (i := 2) rfl (.inl rfl))) (ja_cons je_int (ja_cons (je_gint D.i_MOST_WAY) ja_nil)))))
  (jss_cons (js_expr (je_call h_check_setting (hr.mono (by decide)) D.g_check_setting D.k_check_setting (L2N.takes_of rfl rfl rfl rfl) (ja_cons (je_var (pe_var (i := 3) rfl (.inl rfl))) ja_nil)))
  (jss_cons (js_expr (je_call h_check_setting (hr.mono (by decide)) D.g_check_setting D.k_check_setting (L2N.takes_of rfl rfl rfl rfl) (ja_cons (je_var (pe_var (i := 4) rfl (.inl rfl))) ja_nil)))
  (jss_cons (js_fld D.f_size (je_var (pe_var (i := 1) rfl (.inl rfl))) (je_var (pe_var (i := 0) rfl (.inl rfl))))
  (jss_cons (js_fld D.f_way (je_var (pe_var (i := 2) rfl (.inl rfl))) (je_var (pe_var (i := 0) rfl (.inl rfl))))
  (jss_cons (js_fld D.f_near (je_var (pe_var (i := 3) rfl (.inl rfl))) (je_var (pe_var (i := 0) rfl (.inl rfl))))
  (jss_cons (js_fld D.f_far (je_var (pe_var (i := 4) rfl (.inl rfl))) (je_var (pe_var (i := 0) rfl (.inl rfl))))
  (jss_one (js_fld D.f_told (je_tup (ja_cons (je_var (pe_var (i := 1) rfl (.inl rfl))) (ja_cons (je_var (pe_var (i := 2) rfl (.inl rfl))) (ja_cons (je_fld D.f_told (je_var (pe_var (i := 3) rfl (.inl rfl)))) (ja_cons (je_fld D.f_told (je_var (pe_var (i := 4) rfl (.inl rfl)))) ja_nil))))) (je_var (pe_var (i := 0) rfl (.inl rfl)))))))))))))
theorem S_Line_repr : FnScope N_Line_repr ["self"] (defScope (inClass (top 16) 2)) := ⟨rfl, rfl, rfl, by decide +kernel, rfl, by decide +kernel, by decide +kernel⟩
theorem J_Line_repr {P : Program} {w : World} {K : Frag} {mg : Str → Option Value} {h base : Heap} (D : Wd w K mg h base) (cdv : Value) (A : Around) (outer : List Env) (s : Shared) (H : Hp) (E : XK) (hc : CodeAt K (He.fAd K ("Line", some "__repr__")) cdv) (hr : RoomG 1 (A.deeper (envOfC "Line.__repr__" (defScope (inClass (top 16) 2)) s.heap.objs.size (He.fAd K ("Line", some "__repr__")) cdv))) :
    JSs (cxOf (L2N.CX P w) P w K mg base N_Line_repr "Line.__repr__" (defScope (inClass (top 16) 2)) (He.fAd K ("Line", some "__repr__")) cdv A outer s H E) (fun cls d _ H => E cls d H) (defBody (inClass (top 16) 2)) b_Line_repr := by
  have S := S_Line_repr
  exact (jss_one (js_ret (je_fstr (.cons je_str (.cons (je_fmt (je_fld D.f_size (je_var (pe_var (i := 0) rfl (.inl rfl))))) (.cons je_str (.cons (je_fmt (je_fld D.f_way (je_var (pe_var (i := 0) rfl (.inl rfl))))) (.cons je_str .nil))))))))
theorem S_law_made : FnScope N_law_made ["_law_told_here"] (defScope (top 23)) := ⟨rfl, rfl, rfl, by decide +kernel, rfl, by decide +kernel, by decide +kernel⟩
theorem J_law_made {P : Program} {w : World} {K : Frag} {mg : Str → Option Value} {h base : Heap} (D : Wd w K mg h base) (h_Line_init : Keeps P w K mg base 5 (He.fAd K ("Line", some "__init__")) 5 G_Line_init) (h_Setting_init : Keeps P w K mg base 5 (He.fAd K ("Setting", some "__init__")) 4 G_Setting_init) (cdv : Value) (A : Around) (outer : List Env) (s : Shared) (H : Hp) (E : XK) (hc : CodeAt K (He.fAd K ("_law_made", none)) cdv) (hr : RoomG 6 (A.deeper (envOfC "_law_made" (defScope (top 23)) s.heap.objs.size (He.fAd K ("_law_made", none)) cdv))) :
    JSs (cxOf (L2N.CX P w) P w K mg base N_law_made "_law_made" (defScope (top 23)) (He.fAd K ("_law_made", none)) cdv A outer s H E) (fun cls d _ H => E cls d H) (defBody (top 23)) b_law_made := by
  have S := S_law_made
  exact (jss_cons (js_asg (je_var (pe_var (i := 0) rfl (.inl rfl))) (jg_tup rfl (jgs_cons (W := NoW) (jg_name (i := 1) (pg_name S.nd rfl (.inl rfl))) (jgs_cons (W := NoW) (jg_name (i := 2) (pg_name S.nd rfl (.inl rfl))) (jgs_cons (W := NoW) (jg_name (i := 3) (pg_name S.nd rfl (.inl rfl))) (jgs_cons (W := NoW) (jg_name (i := 4) (pg_name S.nd rfl (.inl rfl))) jgs_nil))))))
  (jss_one (js_ret (je_make D.mk_Line h_Line_init (hr.mono (by decide)) D.g_Line (L2N.takes_of rfl rfl rfl rfl) (ja_cons (je_var (pe_var (i := 1) rfl (.inl rfl))) (ja_cons (je_var (pe_var (i := 2) rfl (.inl rfl))) (ja_cons (je_make D.mk_Setting h_Setting_init (hr.mono (by decide)) D.g_Setting (L2N.takes_of rfl rfl rfl rfl) (ja_cons (je_ix (je_var (pe_var (i := 3) rfl (.inl rfl))) je_int) (ja_cons (je_ix (je_var (pe_var (i := 3) rfl (.inl rfl))) je_int) (ja_cons (je_ix (je_var (pe_var (i := 3) rfl (.inl rfl))) je_int) ja_nil)))) (ja_cons (je_make D.mk_Setting h_Setting_init (hr.mono (by decide)) D.g_Setting (L2N.takes_of rfl rfl rfl rfl) (ja_cons (je_ix (je_var (pe_var (i := 4) rfl (.inl rfl))) je_int) (ja_cons (je_ix (je_var (pe_var (i := 4) rfl (.inl rfl))) je_int) (ja_cons (je_ix (je_var (pe_var (i := 4) rfl (.inl rfl))) je_int) ja_nil)))) ja_nil))))))))
theorem S_Line_eq : FnScope N_Line_eq ["self", "other"] (defScope (inClass (top 16) 1)) := ⟨rfl, rfl, rfl, by decide +kernel, rfl, by decide +kernel, by decide +kernel⟩
theorem J_Line_eq {P : Program} {w : World} {K : Frag} {mg : Str → Option Value} {h base : Heap} (D : Wd w K mg h base) (cdv : Value) (A : Around) (outer : List Env) (s : Shared) (H : Hp) (E : XK) (hc : CodeAt K (He.fAd K ("Line", some "__eq__")) cdv) (hr : RoomG 1 (A.deeper (envOfC "Line.__eq__" (defScope (inClass (top 16) 1)) s.heap.objs.size (He.fAd K ("Line", some "__eq__")) cdv))) :
    JSs (cxOf (L2N.CX P w) P w K mg base N_Line_eq "Line.__eq__" (defScope (inClass (top 16) 1)) (He.fAd K ("Line", some "__eq__")) cdv A outer s H E) (fun cls d _ H => E cls d H) (defBody (inClass (top 16) 1)) b_Line_eq := by
  have S := S_Line_eq
  exact (jss_one (js_ret (je_and (je_isi (T := .cl "Line") (je_var (pe_var (i := 1) rfl (.inl rfl))) (pe_cln D.g_Line) (.own _) D.is_Line D.u_isinstance) (je_one (je_eqD hr (je_fld D.f_told (je_var (pe_var (i := 0) rfl (.inl rfl)))) (je_fld D.f_told (je_var (pe_var (i := 1) rfl (.inl rfl)))))))))
theorem S_law_right : FnScope N_law_right ["_law_mill_here"] (defScope (top 24)) := ⟨rfl, rfl, rfl, by decide +kernel, rfl, by decide +kernel, by decide +kernel⟩
theorem J_law_right {P : Program} {w : World} {K : Frag} {mg : Str → Option Value} {h base : Heap} (D : Wd w K mg h base) (h_law_pick : Keeps P w K mg base 3 (He.fAd K ("_law_pick", none)) 2 G_law_pick) (h_law_told : Keeps P w K mg base 5 (He.fAd K ("_law_told", none)) 1 G_law_told) (h_Setting_init : Keeps P w K mg base 5 (He.fAd K ("Setting", some "__init__")) 4 G_Setting_init) (h_Setting_repr : Keeps P w K mg base 2 (He.fAd K ("Setting", some "__repr__")) 1 G_Setting_repr) (h_Setting_eq : Keeps P w K mg base 2 (He.fAd K ("Setting", some "__eq__")) 2 G_Setting_eq) (h_Line_init : Keeps P w K mg base 5 (He.fAd K ("Line", some "__init__")) 5 G_Line_init) (h_Line_repr : Keeps P w K mg base 2 (He.fAd K ("Line", some "__repr__")) 1 G_Line_repr) (h_law_made : Keeps P w K mg base 7 (He.fAd K ("_law_made", none)) 1 G_law_made) (h_Line_eq : Keeps P w K mg base 2 (He.fAd K ("Line", some "__eq__")) 2 G_Line_eq) (hh_Setting_repr : KeepsHot P w K mg base (He.fAd K ("Setting", some "__repr__")) 1 G_Setting_repr) (hw_Setting_init_delay_every_rule : KeepsKw P w K mg base 5 (He.fAd K ("Setting", some "__init__")) 4 1 ["delay", "every", "rule"] [2, 1, 0] G_Setting_init) (hw_Line_init_far_near_way_size : KeepsKw P w K mg base 5 (He.fAd K ("Line", some "__init__")) 5 1 ["far", "near", "way", "size"] [3, 2, 1, 0] G_Line_init) (cdv : Value) (A : Around) (outer : List Env) (s : Shared) (H : Hp) (E : XK) (hc : CodeAt K (He.fAd K ("_law_right", none)) cdv) (hr : RoomG 7 (A.deeper (envOfC "_law_right" (defScope (top 24)) s.heap.objs.size (He.fAd K ("_law_right", none)) cdv))) :
    JSs (cxOf (L2N.CX P w) P w K mg base N_law_right "_law_right" (defScope (top 24)) (He.fAd K ("_law_right", none)) cdv A outer s H E) (fun cls d _ H => E cls d H) (defBody (top 24)) b_law_right := by
  have S := S_law_right
  exact (jss_cons (js_for (passes_of rfl) rfl (ji_range1 D.u_range (ja_cons je_int ja_nil)) (jg_name (i := 1) (pg_name S.nd rfl (.inl rfl)))
  (jss_cons (js_asg (je_call h_law_pick (hr.mono (by decide)) D.g__law_pick D.k_law_pick (L2N.takes_of rfl rfl rfl rfl) (ja_cons (je_var (pe_var (i := 0) rfl (.inl rfl))) (ja_cons (je_lst (ja_cons (je_call h_law_told (hr.mono (by decide)) D.g__law_told D.k_law_told (L2N.takes_of rfl rfl rfl rfl) (ja_cons (je_var (pe_var (i := 0) rfl (.inl rfl))) ja_nil)) (ja_cons (je_tup (ja_cons je_int (ja_cons je_int (ja_cons (je_tup (ja_cons je_str (ja_cons je_int (ja_cons je_int ja_nil)))) (ja_cons (je_tup (ja_cons je_str (ja_cons je_int (ja_cons je_int ja_nil)))) ja_nil))))) ja_nil))) ja_nil))) (jg_tup rfl (jgs_cons (W := NoW) (jg_name (i := 2) (pg_name S.nd rfl (.inl rfl))) (jgs_cons (W := NoW) (jg_name (i := 3) (pg_name S.nd rfl (.inl rfl))) (jgs_cons (W := NoW) (jg_name (i := 4) (pg_name S.nd rfl (.inl rfl))) (jgs_cons (W := NoW) (jg_name (i := 5) (pg_name S.nd rfl (.inl rfl))) jgs_nil))))))
  (jss_cons (js_par (ja_cons (je_makeKw D.mk_Setting hw_Setting_init_delay_every_rule (hr.mono (by decide)) D.g_Setting (L2N.takes_of rfl rfl rfl rfl) (jk_cons (je_ix (je_var (pe_var (i := 4) rfl (.inl rfl))) je_int) (jk_cons (je_ix (je_var (pe_var (i := 4) rfl (.inl rfl))) je_int) (jk_cons (je_ix (je_var (pe_var (i := 4) rfl (.inl rfl))) je_int) jk_nil)))) (ja_cons (je_make D.mk_Setting h_Setting_init (hr.mono (by decide)) D.g_Setting (L2N.takes_of rfl rfl rfl rfl) (ja_cons (je_ix (je_var (pe_var (i := 5) rfl (.inl rfl))) je_int) (ja_cons (je_ix (je_var (pe_var (i := 5) rfl (.inl rfl))) je_int) (ja_cons (je_ix (je_var (pe_var (i := 5) rfl (.inl rfl))) je_int) ja_nil)))) ja_nil)) (fun h => ps_par (i := 6) (j := 7) rfl S.nd rfl rfl (by decide) rfl rfl h rfl))
  (jss_cons (js_set (je_lst (ja_cons (je_fld D.f_rule (je_var (pe_var (i := 6) rfl (.inl rfl)))) (ja_cons (je_fld D.f_every (je_var (pe_var (i := 6) rfl (.inl rfl)))) (ja_cons (je_fld D.f_delay (je_var (pe_var (i := 6) rfl (.inl rfl)))) (ja_cons (je_fld D.f_told (je_var (pe_var (i := 6) rfl (.inl rfl)))) (ja_cons (je_B (cro_repr h_Setting_repr (hr.mono (by decide)) D.m_Setting_repr.at_ D.m_Setting_repr.fn) (bsReprO h_Setting_repr.mono) D.u_repr rfl (ja_cons (je_var (pe_var (i := 6) rfl (.inl rfl))) ja_nil)) (ja_cons (je_BT (cr_bool1 D.bo_Setting) bsBool1 D.u_bool rfl (ja_cons (je_var (pe_var (i := 6) rfl (.inl rfl))) ja_nil)) ja_nil))))))) (fun h => ps_set (i := 8) S.nd rfl (.inl rfl) h))
  (jss_cons (js_set (je_plus (je_plus (je_plus (je_plus (je_plus (je_plus je_str (je_ix (je_var (pe_var (i := 4) rfl (.inl rfl))) je_int)) je_str) (je_BT call_str_int bsStr D.u_str rfl (ja_cons (je_ix (je_var (pe_var (i := 4) rfl (.inl rfl))) je_int) ja_nil))) je_str) (je_BT call_str_int bsStr D.u_str rfl (ja_cons (je_ix (je_var (pe_var (i := 4) rfl (.inl rfl))) je_int) ja_nil))) je_str) (fun h => ps_set (i := 9) S.nd rfl (.inl rfl) h))
  (jss_cons (js_if (PWPT (jw_or (jt_neD hr (je_B (cr_reprI (T := (("Setting", G_Setting_repr) :: [])) hr (ownRs_cons hh_Setting_repr D.m_Setting_repr.at_ D.m_Setting_repr.fn ownRs_nil)) bsReprI D.u_repr rfl (ja_cons (je_var (pe_var (i := 8) rfl (.inl rfl))) ja_nil)) (je_B (cr_reprI (T := (("Setting", G_Setting_repr) :: [])) hr (ownRs_cons hh_Setting_repr D.m_Setting_repr.at_ D.m_Setting_repr.fn ownRs_nil)) bsReprI D.u_repr rfl (ja_cons (je_lst (ja_cons (je_ix (je_var (pe_var (i := 4) rfl (.inl rfl))) je_int) (ja_cons (je_ix (je_var (pe_var (i := 4) rfl (.inl rfl))) je_int) (ja_cons (je_ix (je_var (pe_var (i := 4) rfl (.inl rfl))) je_int) (ja_cons (je_var (pe_var (i := 4) rfl (.inl rfl))) (ja_cons (je_var (pe_var (i := 9) rfl (.inl rfl))) (ja_cons je_bl ja_nil))))))) ja_nil))) (jw_or1 (jt_neD hr (je_eqO h_Setting_eq (hr.mono (by decide)) D.m_Setting_eq.at_ D.m_Setting_eq.fn D.is_Setting D.nf_Setting (je_var (pe_var (i := 6) rfl (.inl rfl))) (je_var (pe_var (i := 7) rfl (.inl rfl)))) (je_eqD hr (je_var (pe_var (i := 4) rfl (.inl rfl))) (je_var (pe_var (i := 5) rfl (.inl rfl))))))))
  (jss_one (js_ret je_bl))
  jss_nil)
  (jss_cons (js_set (je_makeKw D.mk_Line hw_Line_init_far_near_way_size (hr.mono (by decide)) D.g_Line (L2N.takes_of rfl rfl rfl rfl) (jk_cons (je_var (pe_var (i := 7) rfl (.inl rfl))) (jk_cons (je_var (pe_var (i := 6) rfl (.inl rfl))) (jk_cons (je_var (pe_var (i := 3) rfl (.inl rfl))) (jk_cons (je_var (pe_var (i := 2) rfl (.inl rfl))) jk_nil))))) (fun h => ps_set (i := 10) S.nd rfl (.inr rfl) h))
  (jss_cons (js_set (je_lst (ja_cons (je_fld D.f_size (je_var (pe_var (i := 10) rfl (.inr (.inl rfl))))) (ja_cons (je_fld D.f_way (je_var (pe_var (i := 10) rfl (.inr (.inl rfl))))) (ja_cons (je_fld D.f_near (je_var (pe_var (i := 10) rfl (.inr (.inl rfl))))) (ja_cons (je_fld D.f_far (je_var (pe_var (i := 10) rfl (.inr (.inl rfl))))) (ja_cons (je_fld D.f_told (je_var (pe_var (i := 10) rfl (.inr (.inl rfl))))) (ja_cons (je_B (cro_repr h_Line_repr (hr.mono (by decide)) D.m_Line_repr.at_ D.m_Line_repr.fn) (bsReprO h_Line_repr.mono) D.u_repr rfl (ja_cons (je_var (pe_var (i := 10) rfl (.inr (.inl rfl)))) ja_nil)) (ja_cons (je_BT (cr_bool1 D.bo_Line) bsBool1 D.u_bool rfl (ja_cons (je_var (pe_var (i := 10) rfl (.inr (.inl rfl)))) ja_nil)) ja_nil)))))))) (fun h => ps_set (i := 8) S.nd rfl (.inl rfl) h))
  (jss_cons (js_set (je_plus (je_plus (je_plus (je_plus je_str (je_BT call_str_int bsStr D.u_str rfl (ja_cons (je_var (pe_var (i := 2) rfl (.inl rfl))) ja_nil))) je_str) (je_BT call_str_int bsStr D.u_str rfl (ja_cons (je_var (pe_var (i := 3) rfl (.inl rfl))) ja_nil))) je_str) (fun h => ps_set (i := 9) S.nd rfl (.inl rfl) h))
  (jss_cons (js_if (jt_neD hr (je_B (cr_reprI (T := (("Setting", G_Setting_repr) :: [])) hr (ownRs_cons hh_Setting_repr D.m_Setting_repr.at_ D.m_Setting_repr.fn ownRs_nil)) bsReprI D.u_repr rfl (ja_cons (je_var (pe_var (i := 8) rfl (.inl rfl))) ja_nil)) (je_B (cr_reprI (T := (("Setting", G_Setting_repr) :: [])) hr (ownRs_cons hh_Setting_repr D.m_Setting_repr.at_ D.m_Setting_repr.fn ownRs_nil)) bsReprI D.u_repr rfl (ja_cons (je_lst (ja_cons (je_var (pe_var (i := 2) rfl (.inl rfl))) (ja_cons (je_var (pe_var (i := 3) rfl (.inl rfl))) (ja_cons (je_var (pe_var (i := 6) rfl (.inl rfl))) (ja_cons (je_var (pe_var (i := 7) rfl (.inl rfl))) (ja_cons (je_tup (ja_cons (je_var (pe_var (i := 2) rfl (.inl rfl))) (ja_cons (je_var (pe_var (i := 3) rfl (.inl rfl))) (ja_cons (je_var (pe_var (i := 4) rfl (.inl rfl))) (ja_cons (je_var (pe_var (i := 5) rfl (.inl rfl))) ja_nil))))) (ja_cons (je_var (pe_var (i := 9) rfl (.inl rfl))) (ja_cons je_bl ja_nil)))))))) ja_nil)))
  (jss_one (js_ret je_bl))
  jss_nil)
  (jss_cons (js_if (PWPT (jw_or (jt_neO h_Line_eq (hr.mono (by decide)) D.ne_Line D.m_Line_eq.at_ D.m_Line_eq.fn D.is_Line D.nf_Line (je_var (pe_var (i := 10) rfl (.inr (.inl rfl)))) (je_call h_law_made (hr.mono (by decide)) D.g__law_made D.k_law_made (L2N.takes_of rfl rfl rfl rfl) (ja_cons (je_tup (ja_cons (je_var (pe_var (i := 2) rfl (.inl rfl))) (ja_cons (je_var (pe_var (i := 3) rfl (.inl rfl))) (ja_cons (je_var (pe_var (i := 4) rfl (.inl rfl))) (ja_cons (je_var (pe_var (i := 5) rfl (.inl rfl))) ja_nil))))) ja_nil))) (jw_or (jt_eqO h_Line_eq (hr.mono (by decide)) D.m_Line_eq.at_ D.m_Line_eq.fn D.is_Line D.nf_Line (je_var (pe_var (i := 10) rfl (.inr (.inl rfl)))) (je_tup (ja_cons (je_var (pe_var (i := 2) rfl (.inl rfl))) (ja_cons (je_var (pe_var (i := 3) rfl (.inl rfl))) (ja_cons (je_var (pe_var (i := 4) rfl (.inl rfl))) (ja_cons (je_var (pe_var (i := 5) rfl (.inl rfl))) ja_nil)))))) (jw_or (jt_eqO h_Line_eq (hr.mono (by decide)) D.m_Line_eq.at_ D.m_Line_eq.fn D.is_Line D.nf_Line (je_var (pe_var (i := 10) rfl (.inr (.inl rfl)))) (je_var (pe_var (i := 6) rfl (.inl rfl)))) (jw_or1 (jt_eqO h_Setting_eq (hr.mono (by decide)) D.m_Setting_eq.at_ D.m_Setting_eq.fn D.is_Setting D.nf_Setting (je_var (pe_var (i := 6) rfl (.inl rfl))) (je_var (pe_var (i := 4) rfl (.inl rfl)))))))))
  (jss_one (js_ret je_bl))
  jss_nil)
  (jss_cons (js_set (je_lst (ja_cons (je_tup (ja_cons (je_if (jt_gt (je_var (pe_var (i := 2) rfl (.inl rfl))) je_int) je_int je_int) (ja_cons (je_var (pe_var (i := 3) rfl (.inl rfl))) (ja_cons (je_var (pe_var (i := 4) rfl (.inl rfl))) (ja_cons (je_var (pe_var (i := 5) rfl (.inl rfl))) ja_nil))))) (ja_cons (je_tup (ja_cons (je_var (pe_var (i := 2) rfl (.inl rfl))) (ja_cons (je_if (jt_lt (je_var (pe_var (i := 3) rfl (.inl rfl))) je_int) (je_plus (je_var (pe_var (i := 3) rfl (.inl rfl))) je_int) je_int) (ja_cons (je_var (pe_var (i := 4) rfl (.inl rfl))) (ja_cons (je_var (pe_var (i := 5) rfl (.inl rfl))) ja_nil))))) ja_nil))) (fun h => ps_set (i := 11) S.nd rfl (.inl rfl) h))
  (jss_cons (js_set (je_plus (je_var (pe_var (i := 11) rfl (.inl rfl))) (je_lst (ja_cons (je_tup (ja_cons (je_var (pe_var (i := 2) rfl (.inl rfl))) (ja_cons (je_var (pe_var (i := 3) rfl (.inl rfl))) (ja_cons (je_tup (ja_cons (je_ix (je_var (pe_var (i := 4) rfl (.inl rfl))) je_int) (ja_cons (je_plus (je_mod (je_ix (je_var (pe_var (i := 4) rfl (.inl rfl))) je_int) je_int) je_int) (ja_cons (je_ix (je_var (pe_var (i := 4) rfl (.inl rfl))) je_int) ja_nil)))) (ja_cons (je_var (pe_var (i := 5) rfl (.inl rfl))) ja_nil))))) (ja_cons (je_tup (ja_cons (je_var (pe_var (i := 2) rfl (.inl rfl))) (ja_cons (je_var (pe_var (i := 3) rfl (.inl rfl))) (ja_cons (je_var (pe_var (i := 4) rfl (.inl rfl))) (ja_cons (je_tup (ja_cons (je_ix (je_var (pe_var (i := 5) rfl (.inl rfl))) je_int) (ja_cons (je_ix (je_var (pe_var (i := 5) rfl (.inl rfl))) je_int) (ja_cons (je_mod (je_plus (je_ix (je_var (pe_var (i := 5) rfl (.inl rfl))) je_int) je_int) je_int) ja_nil)))) ja_nil))))) ja_nil)))) (fun h => ps_set (i := 11) S.nd rfl (.inl rfl) h))
  (jss_one (js_if (jt_val (je_B (cr_any rfl) bsAny D.u_any rfl (ja_cons (je_lc (own := [("_law_each", 12)]) (p := (.nm 12)) rfl S.nd (ji_seq (je_var (pe_var (i := 11) rfl (.inl rfl)))) (blkOk_by rfl) (by decide) (fun _ _ _ _ _ => pg_name S.nd rfl (.inl rfl)) (fun _ _ _ _ _ => jts_nil) (fun _ _ _ _ _ => (je_eqO h_Line_eq (hr.mono (by decide)) D.m_Line_eq.at_ D.m_Line_eq.fn D.is_Line D.nf_Line (je_var (pe_var (i := 10) rfl (.inr (.inl rfl)))) (je_call h_law_made (hr.mono (by decide)) D.g__law_made D.k_law_made (tk0) (ja_cons (je_var (pe_var (i := 12) rfl (.inl rfl))) ja_nil))))) ja_nil)))
  (jss_one (js_ret je_bl))
  jss_nil)))))))))))))))
  (jss_one (js_ret je_bl)))
theorem S_law_mill : FnScope N_law_mill ["_law_script", "_law_k"] (defScope (top 18)) := ⟨rfl, rfl, rfl, by decide +kernel, rfl, by decide +kernel, by decide +kernel⟩
theorem J_law_mill {P : Program} {w : World} {K : Frag} {mg : Str → Option Value} {h base : Heap} (D : Wd w K mg h base) (cdv : Value) (A : Around) (outer : List Env) (s : Shared) (H : Hp) (E : XK) (hc : CodeAt K (He.fAd K ("_law_mill", none)) cdv) (hr : RoomG 1 (A.deeper (envOfC "_law_mill" (defScope (top 18)) s.heap.objs.size (He.fAd K ("_law_mill", none)) cdv))) :
    JSs (cxOf (L2N.CX P w) P w K mg base N_law_mill "_law_mill" (defScope (top 18)) (He.fAd K ("_law_mill", none)) cdv A outer s H E) (fun cls d _ H => E cls d H) (defBody (top 18)) b_law_mill := by
  have S := S_law_mill
  exact (jss_cons (js_set (je_if (jt_lt (je_var (pe_var (i := 1) rfl (.inl rfl))) (je_B (CallR.or call_len_seq call_len_str) bsLen D.u_len rfl (ja_cons (je_var (pe_var (i := 0) rfl (.inl rfl))) ja_nil))) (je_BT call_int1 bsInt D.u_int rfl (ja_cons (je_ix (je_var (pe_var (i := 0) rfl (.inl rfl))) (je_var (pe_var (i := 1) rfl (.inl rfl)))) ja_nil)) (je_plus (je_mul je_int (je_var (pe_var (i := 1) rfl (.inl rfl)))) je_int)) (fun h => ps_set (i := 2) S.nd rfl (.inl rfl) h))
  (jss_cons (js_set (je_plus je_int (je_mul je_int (je_var (pe_var (i := 1) rfl (.inl rfl))))) (fun h => ps_set (i := 3) S.nd rfl (.inl rfl) h))
  (jss_cons (js_for (passes_of rfl) rfl (ji_seq (je_sl (je_var (pe_var (i := 0) rfl (.inl rfl))) jo_none (jo_some je_int))) (jg_name (i := 4) (pg_name S.nd rfl (.inl rfl)))
  (jss_one (js_set (je_mod (je_BT call_int1 bsInt D.u_int rfl (ja_cons (je_plus (je_mul (je_var (pe_var (i := 3) rfl (.inl rfl))) je_int) (je_mod (je_BT call_int1 bsInt D.u_int rfl (ja_cons (je_var (pe_var (i := 4) rfl (.inl rfl))) ja_nil)) je_int)) ja_nil)) je_int) (fun h => ps_set (i := 3) S.nd rfl (.inl rfl) h))))
  (jss_one (js_ret (je_lstM (ja_cons (je_mod (je_BT call_int1 bsInt D.u_int rfl (ja_cons (je_plus (je_mul (je_var (pe_var (i := 3) rfl (.inl rfl))) je_int) (je_mod (je_var (pe_var (i := 2) rfl (.inl rfl))) je_int)) ja_nil)) je_int) (ja_cons je_int (ja_cons (je_if (PWPT (jw_or (jt_lt (je_var (pe_var (i := 2) rfl (.inl rfl))) je_int) (jw_or1 (jt_ge (je_var (pe_var (i := 2) rfl (.inl rfl))) (je_pow je_int je_int))))) (je_B call_abs bsAbs D.u_abs rfl (ja_cons (je_var (pe_var (i := 2) rfl (.inl rfl))) ja_nil)) je_int) ja_nil)))))))))
theorem S_law : FnScope N_law ["_law_script"] (defScope (top 25)) := ⟨rfl, rfl, rfl, by decide +kernel, rfl, by decide +kernel, by decide +kernel⟩
theorem J_law {P : Program} {w : World} {K : Frag} {mg : Str → Option Value} {h base : Heap} (D : Wd w K mg h base) (h_law_right : Keeps P w K mg base 8 (He.fAd K ("_law_right", none)) 1 G_law_right) (h_law_mill : Keeps P w K mg base 2 (He.fAd K ("_law_mill", none)) 2 G_law_mill) (cdv : Value) (A : Around) (outer : List Env) (s : Shared) (H : Hp) (E : XK) (hc : CodeAt K (He.fAd K ("law", none)) cdv) (hr : RoomG 8 (A.deeper (envOfC "law" (defScope (top 25)) s.heap.objs.size (He.fAd K ("law", none)) cdv))) :
    JSs (cxOf (L2N.CX P w) P w K mg base N_law "law" (defScope (top 25)) (He.fAd K ("law", none)) cdv A outer s H E) (fun cls d _ H => E cls d H) (defBody (top 25)) b_law := by
  have S := S_law
  exact (jss_one (js_ret (je_B (cr_all rfl) bsAll D.u_all rfl (ja_cons (je_lc (own := [("_law_k", 1)]) (p := (.nm 1)) rfl S.nd (ji_range1 D.u_range (ja_cons (je_B (call_max2 rfl) bsMax2 D.u_max rfl (ja_cons je_int (ja_cons (je_B (call_min2 rfl) bsMin2 D.u_min rfl (ja_cons (je_B (CallR.or call_len_seq call_len_str) bsLen D.u_len rfl (ja_cons (je_var (pe_var (i := 0) rfl (.inr (.inl rfl)))) ja_nil)) (ja_cons je_int ja_nil))) ja_nil))) ja_nil)) (blkOk_by rfl) (by decide) (fun _ _ _ _ _ => pg_name S.nd rfl (.inl rfl)) (fun _ _ _ _ _ => jts_nil) (fun _ _ _ _ _ => (je_call h_law_right (hr.mono (by decide)) D.g__law_right D.k_law_right (tk0) (ja_cons (je_call h_law_mill (hr.mono (by decide)) D.g__law_mill D.k_law_mill (tk0) (ja_cons (je_var (pe_var (i := 0) rfl (.inr (.inl rfl)))) (ja_cons (je_var (pe_var (i := 1) rfl (.inl rfl))) ja_nil))) ja_nil)))) ja_nil))))
theorem JH_Setting_repr {P : Program} {w : World} {K : Frag} {mg : Str → Option Value} {h base : Heap} (D : Wd w K mg h base) (cdv : Value) (A : Around) (outer : List Env) (s : Shared) (H : Hp) :
    JSs (cxHot P w K mg base N_Setting_repr "Setting.__repr__" (defScope (inClass (top 14) 2)) (He.fAd K ("Setting", some "__repr__")) cdv A outer s H) (fun _ _ _ _ => False) (defBody (inClass (top 14) 2)) b_Setting_repr := by
  have S := S_Setting_repr
  exact (jss_one (js_ret (je_fstr (.cons je_str (.cons (je_fmt (je_fld D.f_rule (je_var (pe_var (i := 0) rfl (.inl rfl))))) (.cons je_str (.cons (je_fmt (je_fld D.f_every (je_var (pe_var (i := 0) rfl (.inl rfl))))) (.cons je_str (.cons (je_fmt (je_fld D.f_delay (je_var (pe_var (i := 0) rfl (.inl rfl))))) (.cons je_str .nil))))))))))
end LL.K02
end

section
set_option Elab.async false
set_option linter.all false
set_option maxRecDepth 100000
set_option maxHeartbeats 4000000
namespace LL.K02
open PySem PySem.Spec PyProof.Rows L2 LL
theorem K_law_grain {P : Program} {w : World} {K : Frag} {mg : Str → Option Value} {h base : Heap} (D : Wd w K mg h base) : Keeps P w K mg base 2 (He.fAd K ("_law_grain", none)) 2 G_law_grain := by
  obtain ⟨fd, F⟩ := D.fd_law_grain
  exact keeps_of F S_law_grain rfl (FunD.bindsN F fun _ _ _ _ _ _ us hl => match us, hl with | [_, _], _ => rfl) M_law_grain (J_law_grain D ) V_law_grain
theorem K_law_pick {P : Program} {w : World} {K : Frag} {mg : Str → Option Value} {h base : Heap} (D : Wd w K mg h base) (h_law_grain : Keeps P w K mg base 2 (He.fAd K ("_law_grain", none)) 2 G_law_grain) : Keeps P w K mg base 3 (He.fAd K ("_law_pick", none)) 2 G_law_pick := by
  obtain ⟨fd, F⟩ := D.fd_law_pick
  exact keeps_of F S_law_pick rfl (FunD.bindsN F fun _ _ _ _ _ _ us hl => match us, hl with | [_, _], _ => rfl) M_law_pick (J_law_pick D h_law_grain) V_law_pick
theorem K_law_ways {P : Program} {w : World} {K : Frag} {mg : Str → Option Value} {h base : Heap} (D : Wd w K mg h base) (h_law_pick : Keeps P w K mg base 3 (He.fAd K ("_law_pick", none)) 2 G_law_pick) (h_law_grain : Keeps P w K mg base 2 (He.fAd K ("_law_grain", none)) 2 G_law_grain) : Keeps P w K mg base 4 (He.fAd K ("_law_ways", none)) 1 G_law_ways := by
  obtain ⟨fd, F⟩ := D.fd_law_ways
  exact keeps_of F S_law_ways rfl (FunD.bindsN F fun _ _ _ _ _ _ us hl => match us, hl with | [_], _ => rfl) M_law_ways (J_law_ways D h_law_pick h_law_grain) V_law_ways
theorem K_law_told {P : Program} {w : World} {K : Frag} {mg : Str → Option Value} {h base : Heap} (D : Wd w K mg h base) (h_law_pick : Keeps P w K mg base 3 (He.fAd K ("_law_pick", none)) 2 G_law_pick) (h_law_ways : Keeps P w K mg base 4 (He.fAd K ("_law_ways", none)) 1 G_law_ways) (h_law_grain : Keeps P w K mg base 2 (He.fAd K ("_law_grain", none)) 2 G_law_grain) : Keeps P w K mg base 5 (He.fAd K ("_law_told", none)) 1 G_law_told := by
  obtain ⟨fd, F⟩ := D.fd_law_told
  exact keeps_of F S_law_told rfl (FunD.bindsN F fun _ _ _ _ _ _ us hl => match us, hl with | [_], _ => rfl) M_law_told (J_law_told D h_law_pick h_law_ways h_law_grain) V_law_told
theorem K_InvalidRule_init {P : Program} {w : World} {K : Frag} {mg : Str → Option Value} {h base : Heap} (D : Wd w K mg h base) : OexK P w K mg base (He.fAd K ("InvalidRule", some "__init__")) "value" := by
  obtain ⟨fd, F⟩ := D.fd_InvalidRule_init
  exact ⟨fd, _, oex_keeps F S_InvalidRule_init rfl (fun cdv A outer s H E => pss_one (ps_ost (pe_var (i := 0) rfl (.inl rfl)) (pe_var (i := 1) rfl (.inl rfl)))), FunD.bindsN F fun _ _ _ _ _ _ us hl => match us, hl with | [_, _], _ => rfl⟩
theorem K_is_integer {P : Program} {w : World} {K : Frag} {mg : Str → Option Value} {h base : Heap} (D : Wd w K mg h base) : Keeps P w K mg base 2 (He.fAd K ("is_integer", none)) 1 G_is_integer := by
  obtain ⟨fd, F⟩ := D.fd_is_integer
  exact keeps_of F S_is_integer rfl (FunD.bindsN F fun _ _ _ _ _ _ us hl => match us, hl with | [_], _ => rfl) M_is_integer (J_is_integer D ) V_is_integer
theorem K_is_between {P : Program} {w : World} {K : Frag} {mg : Str → Option Value} {h base : Heap} (D : Wd w K mg h base) (h_is_integer : Keeps P w K mg base 2 (He.fAd K ("is_integer", none)) 1 G_is_integer) : Keeps P w K mg base 3 (He.fAd K ("is_between", none)) 3 G_is_between := by
  obtain ⟨fd, F⟩ := D.fd_is_between
  exact keeps_of F S_is_between rfl (FunD.bindsN F fun _ _ _ _ _ _ us hl => match us, hl with | [_, _, _], _ => rfl) M_is_between (J_is_between D h_is_integer) V_is_between
theorem K_InvalidNumber_init {P : Program} {w : World} {K : Frag} {mg : Str → Option Value} {h base : Heap} (D : Wd w K mg h base) : OexK P w K mg base (He.fAd K ("InvalidNumber", some "__init__")) "value" := by
  obtain ⟨fd, F⟩ := D.fd_InvalidNumber_init
  exact ⟨fd, _, oex_keeps F S_InvalidNumber_init rfl (fun cdv A outer s H E => pss_one (ps_ost (pe_var (i := 0) rfl (.inl rfl)) (pe_var (i := 1) rfl (.inl rfl)))), FunD.bindsN F fun _ _ _ _ _ _ us hl => match us, hl with | [_, _], _ => rfl⟩
theorem K_check_number {P : Program} {w : World} {K : Frag} {mg : Str → Option Value} {h base : Heap} (D : Wd w K mg h base) (h_is_between : Keeps P w K mg base 3 (He.fAd K ("is_between", none)) 3 G_is_between) (h_InvalidNumber_init : OexK P w K mg base (He.fAd K ("InvalidNumber", some "__init__")) "value") : Keeps P w K mg base 4 (He.fAd K ("check_number", none)) 3 G_check_number := by
  obtain ⟨fd, F⟩ := D.fd_check_number
  exact keeps_of F S_check_number rfl (FunD.bindsN F fun _ _ _ _ _ _ us hl => match us, hl with | [_, _, _], _ => rfl) M_check_number (J_check_number D h_is_between h_InvalidNumber_init) V_check_number
theorem K_Setting_init {P : Program} {w : World} {K : Frag} {mg : Str → Option Value} {h base : Heap} (D : Wd w K mg h base) (h_InvalidRule_init : OexK P w K mg base (He.fAd K ("InvalidRule", some "__init__")) "value") (h_check_number : Keeps P w K mg base 4 (He.fAd K ("check_number", none)) 3 G_check_number) : Keeps P w K mg base 5 (He.fAd K ("Setting", some "__init__")) 4 G_Setting_init := by
  obtain ⟨fd, F⟩ := D.fd_Setting_init
  exact keeps_of F S_Setting_init rfl (FunD.bindsN F fun _ _ _ _ _ _ us hl => match us, hl with | [_, _, _, _], _ => rfl) M_Setting_init (J_Setting_init D h_InvalidRule_init h_check_number) V_Setting_init
theorem KW_Setting_init_delay_every_rule {P : Program} {w : World} {K : Frag} {mg : Str → Option Value} {h base : Heap} (D : Wd w K mg h base) (h_InvalidRule_init : OexK P w K mg base (He.fAd K ("InvalidRule", some "__init__")) "value") (h_check_number : Keeps P w K mg base 4 (He.fAd K ("check_number", none)) 3 G_check_number) : KeepsKw P w K mg base 5 (He.fAd K ("Setting", some "__init__")) 4 1 ["delay", "every", "rule"] [2, 1, 0] G_Setting_init := by
  obtain ⟨fd, F⟩ := D.fd_Setting_init
  exact keepsKw_of F S_Setting_init rfl (kwB_of F fun _ _ _ _ _ _ us ws h1 h2 => match us, ws, h1, h2 with | [_], [_, _, _], _, _ => rfl) M_Setting_init (J_Setting_init D h_InvalidRule_init h_check_number) V_Setting_init
theorem K_Setting_repr {P : Program} {w : World} {K : Frag} {mg : Str → Option Value} {h base : Heap} (D : Wd w K mg h base) : Keeps P w K mg base 2 (He.fAd K ("Setting", some "__repr__")) 1 G_Setting_repr := by
  obtain ⟨fd, F⟩ := D.fd_Setting_repr
  exact keeps_of F S_Setting_repr rfl (FunD.bindsN F fun _ _ _ _ _ _ us hl => match us, hl with | [_], _ => rfl) M_Setting_repr (J_Setting_repr D ) V_Setting_repr
theorem K_Setting_eq {P : Program} {w : World} {K : Frag} {mg : Str → Option Value} {h base : Heap} (D : Wd w K mg h base) : Keeps P w K mg base 2 (He.fAd K ("Setting", some "__eq__")) 2 G_Setting_eq := by
  obtain ⟨fd, F⟩ := D.fd_Setting_eq
  exact keeps_of F S_Setting_eq rfl (FunD.bindsN F fun _ _ _ _ _ _ us hl => match us, hl with | [_, _], _ => rfl) M_Setting_eq (J_Setting_eq D ) V_Setting_eq
theorem K_NotASetting_init {P : Program} {w : World} {K : Frag} {mg : Str → Option Value} {h base : Heap} (D : Wd w K mg h base) : OexK P w K mg base (He.fAd K ("NotASetting", some "__init__")) "value" := by
  obtain ⟨fd, F⟩ := D.fd_NotASetting_init
  exact ⟨fd, _, oex_keeps F S_NotASetting_init rfl (fun cdv A outer s H E => pss_one (ps_ost (pe_var (i := 0) rfl (.inl rfl)) (pe_var (i := 1) rfl (.inl rfl)))), FunD.bindsN F fun _ _ _ _ _ _ us hl => match us, hl with | [_, _], _ => rfl⟩
theorem K_check_setting {P : Program} {w : World} {K : Frag} {mg : Str → Option Value} {h base : Heap} (D : Wd w K mg h base) (h_NotASetting_init : OexK P w K mg base (He.fAd K ("NotASetting", some "__init__")) "value") : Keeps P w K mg base 4 (He.fAd K ("check_setting", none)) 1 G_check_setting := by
  obtain ⟨fd, F⟩ := D.fd_check_setting
  exact keeps_of F S_check_setting rfl (FunD.bindsN F fun _ _ _ _ _ _ us hl => match us, hl with | [_], _ => rfl) M_check_setting (J_check_setting D h_NotASetting_init) V_check_setting
theorem K_Line_init {P : Program} {w : World} {K : Frag} {mg : Str → Option Value} {h base : Heap} (D : Wd w K mg h base) (h_check_number : Keeps P w K mg base 4 (He.fAd K ("check_number", none)) 3 G_check_number) (h_check_setting : Keeps P w K mg base 4 (He.fAd K ("check_setting", none)) 1 G_check_setting) : Keeps P w K mg base 5 (He.fAd K ("Line", some "__init__")) 5 G_Line_init := by
  obtain ⟨fd, F⟩ := D.fd_Line_init
  exact keeps_of F S_Line_init rfl (FunD.bindsN F fun _ _ _ _ _ _ us hl => match us, hl with | [_, _, _, _, _], _ => rfl) M_Line_init (J_Line_init D h_check_number h_check_setting) V_Line_init
theorem KW_Line_init_far_near_way_size {P : Program} {w : World} {K : Frag} {mg : Str → Option Value} {h base : Heap} (D : Wd w K mg h base) (h_check_number : Keeps P w K mg base 4 (He.fAd K ("check_number", none)) 3 G_check_number) (h_check_setting : Keeps P w K mg base 4 (He.fAd K ("check_setting", none)) 1 G_check_setting) : KeepsKw P w K mg base 5 (He.fAd K ("Line", some "__init__")) 5 1 ["far", "near", "way", "size"] [3, 2, 1, 0] G_Line_init := by
  obtain ⟨fd, F⟩ := D.fd_Line_init
  exact keepsKw_of F S_Line_init rfl (kwB_of F fun _ _ _ _ _ _ us ws h1 h2 => match us, ws, h1, h2 with | [_], [_, _, _, _], _, _ => rfl) M_Line_init (J_Line_init D h_check_number h_check_setting) V_Line_init
theorem K_Line_repr {P : Program} {w : World} {K : Frag} {mg : Str → Option Value} {h base : Heap} (D : Wd w K mg h base) : Keeps P w K mg base 2 (He.fAd K ("Line", some "__repr__")) 1 G_Line_repr := by
  obtain ⟨fd, F⟩ := D.fd_Line_repr
  exact keeps_of F S_Line_repr rfl (FunD.bindsN F fun _ _ _ _ _ _ us hl => match us, hl with | [_], _ => rfl) M_Line_repr (J_Line_repr D ) V_Line_repr
theorem K_law_made {P : Program} {w : World} {K : Frag} {mg : Str → Option Value} {h base : Heap} (D : Wd w K mg h base) (h_Line_init : Keeps P w K mg base 5 (He.fAd K ("Line", some "__init__")) 5 G_Line_init) (h_Setting_init : Keeps P w K mg base 5 (He.fAd K ("Setting", some "__init__")) 4 G_Setting_init) : Keeps P w K mg base 7 (He.fAd K ("_law_made", none)) 1 G_law_made := by
  obtain ⟨fd, F⟩ := D.fd_law_made
  exact keeps_of F S_law_made rfl (FunD.bindsN F fun _ _ _ _ _ _ us hl => match us, hl with | [_], _ => rfl) M_law_made (J_law_made D h_Line_init h_Setting_init) V_law_made
theorem K_Line_eq {P : Program} {w : World} {K : Frag} {mg : Str → Option Value} {h base : Heap} (D : Wd w K mg h base) : Keeps P w K mg base 2 (He.fAd K ("Line", some "__eq__")) 2 G_Line_eq := by
  obtain ⟨fd, F⟩ := D.fd_Line_eq
  exact keeps_of F S_Line_eq rfl (FunD.bindsN F fun _ _ _ _ _ _ us hl => match us, hl with | [_, _], _ => rfl) M_Line_eq (J_Line_eq D ) V_Line_eq
theorem K_law_right {P : Program} {w : World} {K : Frag} {mg : Str → Option Value} {h base : Heap} (D : Wd w K mg h base) (h_law_pick : Keeps P w K mg base 3 (He.fAd K ("_law_pick", none)) 2 G_law_pick) (h_law_told : Keeps P w K mg base 5 (He.fAd K ("_law_told", none)) 1 G_law_told) (h_Setting_init : Keeps P w K mg base 5 (He.fAd K ("Setting", some "__init__")) 4 G_Setting_init) (h_Setting_repr : Keeps P w K mg base 2 (He.fAd K ("Setting", some "__repr__")) 1 G_Setting_repr) (h_Setting_eq : Keeps P w K mg base 2 (He.fAd K ("Setting", some "__eq__")) 2 G_Setting_eq) (h_Line_init : Keeps P w K mg base 5 (He.fAd K ("Line", some "__init__")) 5 G_Line_init) (h_Line_repr : Keeps P w K mg base 2 (He.fAd K ("Line", some "__repr__")) 1 G_Line_repr) (h_law_made : Keeps P w K mg base 7 (He.fAd K ("_law_made", none)) 1 G_law_made) (h_Line_eq : Keeps P w K mg base 2 (He.fAd K ("Line", some "__eq__")) 2 G_Line_eq) (hh_Setting_repr : KeepsHot P w K mg base (He.fAd K ("Setting", some "__repr__")) 1 G_Setting_repr) (hw_Setting_init_delay_every_rule : KeepsKw P w K mg base 5 (He.fAd K ("Setting", some "__init__")) 4 1 ["delay", "every", "rule"] [2, 1, 0] G_Setting_init) (hw_Line_init_far_near_way_size : KeepsKw P w K mg base 5 (He.fAd K ("Line", some "__init__")) 5 1 ["far", "near", "way", "size"] [3, 2, 1, 0] G_Line_init) : Keeps P w K mg base 8 (He.fAd K ("_law_right", none)) 1 G_law_right := by
  obtain ⟨fd, F⟩ := D.fd_law_right
  exact keeps_of F S_law_right rfl (FunD.bindsN F fun _ _ _ _ _ _ us hl => match us, hl with | [_], _ => rfl) M_law_right (J_law_right D h_law_pick h_law_told h_Setting_init h_Setting_repr h_Setting_eq h_Line_init h_Line_repr h_law_made h_Line_eq hh_Setting_repr hw_Setting_init_delay_every_rule hw_Line_init_far_near_way_size) V_law_right
theorem K_law_mill {P : Program} {w : World} {K : Frag} {mg : Str → Option Value} {h base : Heap} (D : Wd w K mg h base) : Keeps P w K mg base 2 (He.fAd K ("_law_mill", none)) 2 G_law_mill := by
  obtain ⟨fd, F⟩ := D.fd_law_mill
  exact keeps_of F S_law_mill rfl (FunD.bindsN F fun _ _ _ _ _ _ us hl => match us, hl with | [_, _], _ => rfl) M_law_mill (J_law_mill D ) V_law_mill
theorem K_law {P : Program} {w : World} {K : Frag} {mg : Str → Option Value} {h base : Heap} (D : Wd w K mg h base) (h_law_right : Keeps P w K mg base 8 (He.fAd K ("_law_right", none)) 1 G_law_right) (h_law_mill : Keeps P w K mg base 2 (He.fAd K ("_law_mill", none)) 2 G_law_mill) : Keeps P w K mg base 9 (He.fAd K ("law", none)) 1 G_law := by
  obtain ⟨fd, F⟩ := D.fd_law
  exact keeps_of F S_law rfl (FunD.bindsN F fun _ _ _ _ _ _ us hl => match us, hl with | [_], _ => rfl) M_law (J_law D h_law_right h_law_mill) V_law
theorem KH_Setting_repr {P : Program} {w : World} {K : Frag} {mg : Str → Option Value} {h base : Heap} (D : Wd w K mg h base) : KeepsHot P w K mg base (He.fAd K ("Setting", some "__repr__")) 1 G_Setting_repr := by
  obtain ⟨fd, F⟩ := D.fd_Setting_repr
  exact keepsHot_of F S_Setting_repr rfl (FunD.bindsN F fun _ _ _ _ _ _ us hl => match us, hl with | [_], _ => rfl) M_Setting_repr (JH_Setting_repr D) V_Setting_repr
theorem K_all {P : Program} {w : World} {K : Frag} {mg : Str → Option Value} {h base : Heap} (D : Wd w K mg h base) : Keeps P w K mg base 9 (He.fAd K ("law", none)) 1 G_law := by
  have h_law_grain := K_law_grain (P := P) D 
  have h_law_pick := K_law_pick (P := P) D h_law_grain
  have h_law_ways := K_law_ways (P := P) D h_law_pick h_law_grain
  have h_law_told := K_law_told (P := P) D h_law_pick h_law_ways h_law_grain
  have h_InvalidRule_init := K_InvalidRule_init (P := P) (w := w) D 
  have h_is_integer := K_is_integer (P := P) D 
  have h_is_between := K_is_between (P := P) D h_is_integer
  have h_InvalidNumber_init := K_InvalidNumber_init (P := P) (w := w) D 
  have h_check_number := K_check_number (P := P) D h_is_between h_InvalidNumber_init
  have h_Setting_init := K_Setting_init (P := P) D h_InvalidRule_init h_check_number
  have hw_Setting_init_delay_every_rule := KW_Setting_init_delay_every_rule (P := P) D h_InvalidRule_init h_check_number
  have hh_Setting_repr := KH_Setting_repr (P := P) (w := w) D
  have h_Setting_repr := K_Setting_repr (P := P) D 
  have h_Setting_eq := K_Setting_eq (P := P) D 
  have h_NotASetting_init := K_NotASetting_init (P := P) (w := w) D 
  have h_check_setting := K_check_setting (P := P) D h_NotASetting_init
  have h_Line_init := K_Line_init (P := P) D h_check_number h_check_setting
  have hw_Line_init_far_near_way_size := KW_Line_init_far_near_way_size (P := P) D h_check_number h_check_setting
  have h_Line_repr := K_Line_repr (P := P) D 
  have h_law_made := K_law_made (P := P) D h_Line_init h_Setting_init
  have h_Line_eq := K_Line_eq (P := P) D 
  have h_law_right := K_law_right (P := P) D h_law_pick h_law_told h_Setting_init h_Setting_repr h_Setting_eq h_Line_init h_Line_repr h_law_made h_Line_eq hh_Setting_repr hw_Setting_init_delay_every_rule hw_Line_init_far_near_way_size
  have h_law_mill := K_law_mill (P := P) D 
  have h_law := K_law (P := P) D h_law_right h_law_mill
  exact h_law
end LL.K02
end

section
set_option Elab.async false
set_option linter.all false
set_option maxRecDepth 100000
set_option maxHeartbeats 0
namespace LL.K02
open PySem PySem.Spec PyProof.Rows L2 LL
theorem run0 (w : World) : HandSHeadRun.RunEq R (PySem.W.view R.prog [25]) hk ob 10000 loose (w.withFollow "special-get-raises" false) := by
  intro os
  kernel_rfl
theorem run1 (w : World) : HandSHeadRun.RunEq R (PySem.W.view R.prog [25]) hk ob 10000 loose (w.withFollow "special-get-raises" true) := by
  intro os
  kernel_rfl
theorem run (w : World) : HandSHeadRun.RunEq R (PySem.W.view R.prog [25]) hk ob 10000 loose w :=
  PySem.W.byRow2 "special-get-raises" (P := fun w => HandSHeadRun.RunEq R (PySem.W.view R.prog [25]) hk ob 10000 loose w) run0 run1 w
end LL.K02
end

section
set_option Elab.async false
set_option linter.all false
set_option maxRecDepth 100000
set_option maxHeartbeats 0
namespace LL.K02
open PySem PySem.Spec PyProof.Rows L2 LL
theorem keeps_end (w : World) (K : Frag) (mg : Str → Option Value) (h base : Heap) (kin : K.In h) (ns : h.Ns mainGlobals mg) (c : He.SaysX fa fn ts tf ex w h K) (tb : ∀ p ∈ tf, LamX.TabB base mg (He.cT K p).1 (He.cT K p).2) :
    Keeps (PySem.Challenge.rw_smallheld_k02_settings_and_lines_made).prog w K mg base 9 (He.ga K "law") 1 (spLaw 63) := K_all ⟨kin, ns, c, tb⟩
end LL.K02
open PySem PySem.W PySem.Calls PyProof.Rows
theorem PySem.Challenge.cw_smallheld_k02_settings_and_lines_made_holds : PySem.Challenge.rw_smallheld_k02_settings_and_lines_made.Holds := by
  w_on; o_law
  refine HandSHeadRun.head_any (r := OpenLaw.row PySem.Challenge.rw_smallheld_k02_settings_and_lines_made) (q := view (OpenLaw.row PySem.Challenge.rw_smallheld_k02_settings_and_lines_made).prog [25]) (H := LL.K02.hk) (ob := LL.K02.ob) (M := 10000) (loose := LL.K02.loose) (d := HandSHeadRun.topDef (OpenLaw.row PySem.Challenge.rw_smallheld_k02_settings_and_lines_made).prog 25) (kwd := []) LL.K02.ob_eq
    (by kernel_rfl) (fun s => by kernel_rfl) LL.K02.run (by kernel_rfl) (by kernel_rfl) (by kernel_rfl) (by rfl) (by first | assumption | decide +kernel) (by decide +kernel) ⟨rfl, rfl, rfl, rfl, rfl, by decide +kernel⟩ ?hw ?hc
  case hw => w_witness2
  case hc =>
    exact LL.walk_L (l := PySem.Challenge.rw_smallheld_k02_settings_and_lines_made) (n := 63) (k := 9) rfl (by decide) (by kernel_rfl) ⟨rfl, by decide, by decide⟩ (by kernel_rfl) (List.mem_of_getElem? (i := 17) rfl) (by decide +kernel) LL.K02.keeps_end
end
