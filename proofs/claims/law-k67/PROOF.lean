import PyProof.Rows.All
import Wide.All
import OpenK.AllK
import Wide.FinOn
import HandS.HeadHook4
import HandS.ForMost
import HandS.Exc
import HandS.ExcOwn
import HandS.WordsExc
import HandS.TryOnly
import HandS.Defaults
import HandS.ExcCtx
import HandS.HeadHook1
import HandS.HeadHook2
import HandS.Lambda
import KE.KAssignIn
import HandS.Flow
import HandS.IsInst
import HandS.Zip
import HandS.Deep
import HandS.FStr
import OpenK.KOps
import KE.SortKeyHeap
import PyProof.ReprReads
import PyProof.ReprRoads
import KE.KSortKey
import PyProof.Rows.CallKwBuiltin
import PyProof.Rows.FactsT3
import HandS.Head0
import HandS.Head1
import HandS.Head2
import HandS.EndBits
import HandS.EndTab
import HandS.Style
import HandS.ExcInit
import HandS.ExcField
import HandS.ExcIs
import HandS.Hot
import HandS.HotCalls
import PyProof.ExcBaseAll.ArithmeticError
import PySem.Challenge.RW_smallheld_k67_deeds_taken_back
section
set_option Elab.async false
set_option linter.all false
/-! LLPar: what hangs on the law: the defs that make lambdas. -/
namespace LL
open PySem
/-- the defs that make lambdas: where they stand, the lambdas' name -/
def lamNames : List (He.Defn × Str) := [(("Session", some "show"), "Session.show.<locals>.<lambda>"), (("_law_listed", none), "_law_listed.<locals>.<lambda>"), (("_law_right", none), "_law_right.<locals>.<lambda>")]
end LL
end

section
set_option Elab.async false
set_option linter.all false
set_option maxRecDepth 100000
set_option maxHeartbeats 1000000
/-! LLCore: a logical layer over the hand layer: immutable data inline (D), a small logical heap (LH) of what is changed, and how they lie in the abstract heap. -/
namespace LL
open PySem PySem.Spec PyProof.Rows L2

theorem takesNo {X : Cx} : L2N.Takes X (fun _ _ _ _ => False) := fun _ _ x => by
  obtain ⟨_, _, _, _, _, _, _, _, _, _, _, _, _, _, _, _, z⟩ := x
  exact z.elim
/-- where the logical objects lie, and what is set aside (a list that is being built) -/
structure Ad where
  ix : List (Option Addr)
  res : List Addr
  /-- the tables of code objects (those of lambdas made here) -/
  tab : List (Addr × Str)
def Ad.no (ι : Ad) (a : Addr) : Prop := some a ∉ ι.ix ∧ a ∉ ι.res
abbrev Ad.push (ι : Ad) (p : Addr) : Ad := ⟨ι.ix ++ [some p], ι.res, ι.tab⟩
/-- logical values: what never changes stands inline, what is changed is an index into the logical heap; dfn: a def of the module; fn: a function that was made at (ι, H), and what is known of its objects; dct: a dict; exc: an exception that is handled -/
inductive D where
  | non | bl (b : Bool) | int (i : Int) | str (x : Str)
  | tup (ds : List D) | lst (ds : List D) | ob (C : Str) (ns : List Str) (ds : List D)
  | ref (n : Nat)
  | dfn (p : He.Defn) | fn (f : Addr) (xs : List (Addr × (Heap → Prop))) (ι : Ad) (H : Hp) | dct (ks : List Key) (ds : List D) | exc (a : Addr) (C : Str) (d : Option Addr) (ns : List Str) (ds : List D)
/-- logical objects -/
inductive O where
  | lst (ds : List D) | ins (C : Str) (fs : List (Str × D)) | gone
abbrev LH := List O
abbrev Frag := PySem.W.Frag

/-- a list that nobody changes any more -/
def KL (K : Frag) (a : Addr) (vs : List V) : Prop :=
  ∃ (its : List Value) (n : Nat), K.lookup a = some { cls := .type "list", dict := none, data := .seq its.toArray n, slots := #[] } ∧ vs.length ≤ sizeLine ∧ Vals vs its
def FzL (K : Frag) (ι : Ad) (H : Hp) (a : Addr) (vs : List V) : Prop :=
  (H a = some (.lst vs) ∧ ι.no a) ∨ (∃ o, H a = some (.frz o (.lst vs))) ∨ KL K a vs
theorem FzL.sq {K : Frag} {ι : Ad} {H : Hp} {a : Addr} {vs : List V} (h : FzL K ι H a vs) : SqL K H a vs := by
  rcases h with ⟨h, _⟩ | ⟨o, h⟩ | h
  · exact .inl (.inl h)
  · exact .inl (.inr ⟨o, h⟩)
  · obtain ⟨its, n, h1, h2, h3⟩ := h
    exact .inr ⟨_, its.toArray, n, h1, rfl, rfl, rfl, by rw [List.size_toArray, ← h3.length]; exact h2, by simpa using h3⟩

/-- what may be written: a list, an instance -/
def MutO (o : Option HO) : Prop := match o with
  | some (.lst _) => True
  | some (.ins _ _ _) => True
  | _ => False
theorem MutO.tup {o : Option HO} (m : MutO o) : ∀ xs, o ≠ some (.tup xs) := by rintro xs rfl; exact m
theorem MutO.frz {o : Option HO} (m : MutO o) : ∀ b u, o ≠ some (.frz b u) := by rintro b u rfl; exact m
theorem MutO.ext {o : Option HO} (m : MutO o) : ∀ f, o ≠ some (.ext f) := by rintro f rfl; exact m
theorem MutO.tbl {o : Option HO} (m : MutO o) : ∀ ps, o ≠ some (.tbl ps) := by rintro ps rfl; exact m
theorem MutO.code {o : Option HO} (m : MutO o) : ∀ c q, o ≠ some (LamX.CodeO c q) := by rintro c q rfl; exact m
/-- something stands there, no table -/
def Lv (H : Hp) (a : Addr) : Prop := ∃ o, H a = some o ∧ ∀ ps, o ≠ .tbl ps
theorem Lv.no {H : Hp} {a : Addr} (h : Lv H a) (n : H a = none) : False := by
  obtain ⟨o, e, _⟩ := h
  rw [n] at e; cases e
theorem Lv.ne {H : Hp} {a b : Addr} (h : Lv H a) (n : H b = none) : a ≠ b := by rintro rfl; exact h.no n
theorem Lv.upd {H : Hp} {a b : Addr} {u : HO} (h : Lv H a) (n : a ≠ b) : Lv (upd H b u) a := by
  obtain ⟨o, e, t⟩ := h
  exact ⟨o, by rw [upd_ne n]; exact e, t⟩
theorem Lv.mu {H : Hp} {a b : Addr} {u : HO} (h : Lv H a) (m : MutO (some u)) : Lv (L2.upd H b u) a := by
  by_cases z : a = b
  · subst z
    exact ⟨u, upd_same, fun ps e => by rw [e] at m; exact m⟩
  · exact h.upd z
/-- a later moment, as far as values ask -/
structure ExtW (ι : Ad) (H : Hp) (ι' : Ad) (H' : Hp) : Prop where
  pre : ∃ l, ι'.ix = ι.ix ++ l ∧ ∀ a, some a ∈ l → ¬ Lv H a ∨ a ∈ ι.res
  res2 : ∀ a, a ∈ ι'.res → a ∈ ι.res ∨ ¬ Lv H a
  keep : ∀ a o, H a = some o → ι.no a → (∀ ps, o ≠ .tbl ps) → H' a = some o
  tups : ∀ a xs, H a = some (.tup xs) → H' a = some (.tup xs)
  frzs : ∀ a o u, H a = some (.frz o u) → H' a = some (.frz o u)
  exts : ∀ a f, H a = some (.ext f) → H' a = some (.ext f)
  there : ∀ a, Lv H a → Lv H' a
theorem ExtW.no {ι ι' : Ad} {H H' : Hp} (e : ExtW ι H ι' H') {a : Addr} (h : Lv H a) (n : ι.no a) : ι'.no a := by
  obtain ⟨l, q, f⟩ := e.pre
  refine ⟨fun hm => ?_, fun hm => ?_⟩
  · rw [q] at hm
    rcases List.mem_append.mp hm with hm | hm
    · exact n.1 hm
    · rcases f a hm with z | z
      · exact z h
      · exact n.2 z
  · rcases e.res2 a hm with z | z
    · exact n.2 z
    · exact z h
mutual
def RelD (K : Frag) (ι : Ad) (H : Hp) : D → V → Prop
  | .non, v => v = .non
  | .bl b, v => v = .bl b
  | .int i, v => v = .int i
  | .str x, v => v = .str x
  | .tup ds, v => ∃ a vs, v = .ref a ∧ SqT K H a vs ∧ RelDs K ι H ds vs
  | .lst ds, v => ∃ a vs, v = .ref a ∧ FzL K ι H a vs ∧ RelDs K ι H ds vs
  | .ob C ns ds, v => ∃ a dx vs, v = .ref a ∧ ι.no a ∧ H a = some (.ins (He.ga K C) dx (ns.zip vs)) ∧ ns.length = ds.length ∧ RelDs K ι H ds vs
  | .ref n, v => ∃ a, ι.ix[n]? = some (some a) ∧ v = .ref a
  | .dfn p, v => v = .ref (He.fAd K p)
  | .fn f xs ι0 H0, v => v = .ref f ∧ (∀ p ∈ xs, H p.1 = some (.ext p.2)) ∧ ExtW ι0 H0 ι H
  | .dct ks ds, v => ∃ a vs, v = .ref a ∧ ι.no a ∧ H a = some (.dK (ks.zip vs)) ∧ ks.length = ds.length ∧ RelDs K ι H ds vs
  | .exc a _ d ns ds, v => v = .ref a ∧ match d with
    | none => ds = []
    | some x => ∃ vs, H x = some (.xd (ns.zip vs)) ∧ ι.no x ∧ ns.length = ds.length ∧ RelDs K ι H ds vs
def RelDs (K : Frag) (ι : Ad) (H : Hp) : List D → List V → Prop
  | [], vs => vs = []
  | d :: ds, vs => ∃ v r, vs = v :: r ∧ RelD K ι H d v ∧ RelDs K ι H ds r
end
def RelFs (K : Frag) (ι : Ad) (H : Hp) : List (Str × D) → List (Str × V) → Prop
  | [], vs => vs = []
  | d :: ds, vs => ∃ v r, vs = (d.1, v) :: r ∧ RelD K ι H d.2 v ∧ RelFs K ι H ds r
theorem tabs_upd {T : List (Addr × Str)} {H : Hp} {a : Addr} {u : HO} (t : LamX.Tabs T H) (h : H a = none ∨ MutO (H a)) : LamX.Tabs T (upd H a u) := by
  intro p hp
  obtain ⟨ps, h1, h2, h3⟩ := t p hp
  refine ⟨ps, ?_, h2, fun pos cv hc => ?_⟩
  · rw [upd_ne]
    · exact h1
    · rintro z
      rw [← z] at h
      rcases h with h | h
      · rw [h1] at h; cases h
      · exact h.tbl _ h1
  · obtain ⟨c, e1, e2⟩ := h3 pos cv hc
    refine ⟨c, e1, ?_⟩
    rw [upd_ne]
    · exact e2
    · rintro z
      rw [← z] at h
      rcases h with h | h
      · rw [e2] at h; cases h
      · exact h.code _ _ e2
/-- the tables of code objects that are known: those of the defs that make lambdas -/
def tabsK (K : Frag) : List (Addr × Str) := (lamNames.filter fun p => PySem.W.codeHdIn K (He.cT K p.1).1 (He.cT K p.1).2).map fun p => ((He.cT K p.1).2, p.2)
def RelO (K : Frag) (ι : Ad) (H : Hp) (a : Addr) : O → Prop
  | .lst ds => ∃ vs, H a = some (.lst vs) ∧ RelDs K ι H ds vs
  | .ins C fs => ∃ dx vs, H a = some (.ins (He.ga K C) dx vs) ∧ RelFs K ι H fs vs
  | .gone => True
structure RelH (K : Frag) (ι : Ad) (H : Hp) (h : LH) : Prop where
  len : ι.ix.length = h.length
  inj : ∀ (n m : Nat) (a : Addr), ι.ix[n]? = some (some a) → ι.ix[m]? = some (some a) → n = m
  live : ∀ a, some a ∈ ι.ix → Lv H a
  liveR : ∀ a, a ∈ ι.res → Lv H a
  disj : ∀ a, some a ∈ ι.ix → a ∉ ι.res
  tabs : LamX.Tabs (tabsK K) H
  obj : ∀ (n : Nat) (o : O), h[n]? = some o → o ≠ .gone → ∃ a, ι.ix[n]? = some (some a) ∧ RelO K ι H a o
def RelS (K : Frag) (ι : Ad) (H : Hp) (σ : List (Option D)) (σV : L2.St) : Prop :=
  σ.length = σV.length ∧ ∀ (i : Nat) (d : D), σ[i]? = some (some d) → ∃ v, σV[i]? = some (some v) ∧ RelD K ι H d v

/-- a later moment -/
structure Ext (ι : Ad) (H : Hp) (ι' : Ad) (H' : Hp) : Prop where
  pre : ∃ l, ι'.ix = ι.ix ++ l ∧ ∀ a, some a ∈ l → ¬ Lv H a
  res1 : ∀ a, a ∈ ι.res → a ∈ ι'.res
  res2 : ∀ a, a ∈ ι'.res → a ∈ ι.res ∨ ¬ Lv H a
  tab : ι'.tab = ι.tab
  keep : ∀ a o, H a = some o → some a ∉ ι.ix → (∀ ps, o ≠ .tbl ps) → H' a = some o
  tups : ∀ a xs, H a = some (.tup xs) → H' a = some (.tup xs)
  frzs : ∀ a o u, H a = some (.frz o u) → H' a = some (.frz o u)
  exts : ∀ a f, H a = some (.ext f) → H' a = some (.ext f)
  there : ∀ a, Lv H a → Lv H' a

theorem Ext.refl (ι : Ad) (H : Hp) : Ext ι H ι H := ⟨⟨[], by simp, fun _ h => by cases h⟩, fun _ h => h, fun _ h => .inl h, rfl, fun _ _ h _ _ => h, fun _ _ h => h, fun _ _ _ h => h, fun _ _ h => h, fun _ h => h⟩
theorem Ext.w {ι ι' : Ad} {H H' : Hp} (e : Ext ι H ι' H') : ExtW ι H ι' H' := ⟨let ⟨l, q, f⟩ := e.pre; ⟨l, q, fun a h => .inl (f a h)⟩, e.res2, fun a o h n t => e.keep a o h n.1 t, e.tups, e.frzs, e.exts, e.there⟩
theorem ExtW.then {ι ι1 ι2 : Ad} {H H1 H2 : Hp} (a : ExtW ι H ι1 H1) (b : ExtW ι1 H1 ι2 H2) : ExtW ι H ι2 H2 := by
  have back : ∀ c, ¬ Lv H1 c → ¬ Lv H c := fun c n h => n (a.there c h)
  refine ⟨?_, fun c h => ?_, fun c o h n t => b.keep c o (a.keep c o h n t) (a.no ⟨o, h, t⟩ n) t, fun c xs h => b.tups c xs (a.tups c xs h), fun c o u h => b.frzs c o u (a.frzs c o u h), fun c f h => b.exts c f (a.exts c f h), fun c h => b.there c (a.there c h)⟩
  · obtain ⟨l, ql, f⟩ := a.pre
    obtain ⟨m, qm, g⟩ := b.pre
    refine ⟨l ++ m, by rw [qm, ql, List.append_assoc], fun c hc => ?_⟩
    rcases List.mem_append.mp hc with hc | hc
    · exact f c hc
    · rcases g c hc with z | z
      · exact .inl (back c z)
      · exact (a.res2 c z).symm
  · rcases b.res2 c h with h | h
    · exact a.res2 c h
    · exact .inr (back c h)
theorem Ext.nx {ι ι' : Ad} {H H' : Hp} (e : Ext ι H ι' H') {a : Addr} (h : Lv H a) (n : some a ∉ ι.ix) : some a ∉ ι'.ix := by
  obtain ⟨l, q, f⟩ := e.pre
  intro hm
  rw [q] at hm
  rcases List.mem_append.mp hm with hm | hm
  · exact n hm
  · exact f a hm h
theorem Ext.ne {ι ι' : Ad} {H H' : Hp} (e : Ext ι H ι' H') {a : Addr} (h : Lv H a) (n : ι.no a) : ι'.no a := by
  refine ⟨e.nx h n.1, fun z => ?_⟩
  rcases e.res2 a z with z | z
  · exact n.2 z
  · exact z h
theorem Ext.trans {ι ι1 ι2 : Ad} {H H1 H2 : Hp} (a : Ext ι H ι1 H1) (b : Ext ι1 H1 ι2 H2) : Ext ι H ι2 H2 := by
  have back : ∀ c, ¬ Lv H1 c → ¬ Lv H c := fun c n h => n (a.there c h)
  refine ⟨?_, fun c h => b.res1 c (a.res1 c h), fun c h => ?_, b.tab.trans a.tab, fun c o h n t => b.keep c o (a.keep c o h n t) (a.nx ⟨o, h, t⟩ n) t, fun c xs h => b.tups c xs (a.tups c xs h), fun c o u h => b.frzs c o u (a.frzs c o u h), fun c f h => b.exts c f (a.exts c f h), fun c h => b.there c (a.there c h)⟩
  · obtain ⟨l, ql, f⟩ := a.pre
    obtain ⟨m, qm, g⟩ := b.pre
    refine ⟨l ++ m, by rw [qm, ql, List.append_assoc], fun c hc => ?_⟩
    rcases List.mem_append.mp hc with hc | hc
    · exact f c hc
    · exact back c (g c hc)
  · rcases b.res2 c h with h | h
    · exact a.res2 c h
    · exact .inr (back c h)
theorem Ext.at_ {ι ι' : Ad} {H H' : Hp} (e : Ext ι H ι' H') {n : Nat} {a : Addr} (h : ι.ix[n]? = some (some a)) : ι'.ix[n]? = some (some a) := by
  obtain ⟨l, q, _⟩ := e.pre
  rw [q, List.getElem?_append_left ((List.getElem?_eq_some_iff.mp h).1)]
  exact h
theorem Ext.sqT {K : Frag} {ι ι' : Ad} {H H' : Hp} (e : Ext ι H ι' H') {a : Addr} {vs : List V} (h : SqT K H a vs) : SqT K H' a vs := by
  rcases h with (h | ⟨o, h⟩) | h
  · exact .inl (.inl (e.tups a vs h))
  · exact .inl (.inr ⟨o, e.frzs a o _ h⟩)
  · exact .inr h
theorem Ext.fzL {K : Frag} {ι ι' : Ad} {H H' : Hp} (e : Ext ι H ι' H') {a : Addr} {vs : List V} (h : FzL K ι H a vs) : FzL K ι' H' a vs := by
  rcases h with ⟨h, n⟩ | ⟨o, h⟩ | h
  · exact .inl ⟨e.keep a _ h n.1 (fun _ z => by cases z), e.ne ⟨_, h, fun _ z => by cases z⟩ n⟩
  · exact .inr (.inl ⟨o, e.frzs a o _ h⟩)
  · exact .inr (.inr h)
mutual
theorem RelD.ext {K : Frag} {ι ι' : Ad} {H H' : Hp} (e : Ext ι H ι' H') : ∀ {d : D} {v : V}, RelD K ι H d v → RelD K ι' H' d v
  | .non, _, h => h
  | .bl _, _, h => h
  | .int _, _, h => h
  | .str _, _, h => h
  | .tup _, _, ⟨a, vs, h1, h2, h3⟩ => ⟨a, vs, h1, e.sqT h2, RelDs.ext e h3⟩
  | .lst _, _, ⟨a, vs, h1, h2, h3⟩ => ⟨a, vs, h1, e.fzL h2, RelDs.ext e h3⟩
  | .ob _ _ _, _, ⟨a, dx, vs, h1, h2, h3, h4, h5⟩ => ⟨a, dx, vs, h1, e.ne ⟨_, h3, fun _ z => by cases z⟩ h2, e.keep a _ h3 h2.1 (fun _ z => by cases z), h4, RelDs.ext e h5⟩
  | .ref _, _, ⟨a, h1, h2⟩ => ⟨a, e.at_ h1, h2⟩
  | .dfn _, _, h => h
  | .fn _ _ _ _, _, ⟨h1, h2, h3⟩ => ⟨h1, fun p hp => e.exts _ _ (h2 p hp), h3.then e.w⟩
  | .dct _ _, _, ⟨a, vs, h1, h2, h3, h4, h5⟩ => ⟨a, vs, h1, e.ne ⟨_, h3, fun _ z => by cases z⟩ h2, e.keep a _ h3 h2.1 (fun _ z => by cases z), h4, RelDs.ext e h5⟩
  | .exc _ _ none _ _, _, h => h
  | .exc _ _ (some _) _ _, _, ⟨h0, vs, h1, h2, h3, h4⟩ => ⟨h0, vs, e.keep _ _ h1 h2.1 (fun _ z => by cases z), e.ne ⟨_, h1, fun _ z => by cases z⟩ h2, h3, RelDs.ext e h4⟩
theorem RelDs.ext {K : Frag} {ι ι' : Ad} {H H' : Hp} (e : Ext ι H ι' H') : ∀ {ds : List D} {vs : List V}, RelDs K ι H ds vs → RelDs K ι' H' ds vs
  | [], _, h => h
  | _ :: _, _, ⟨v, r, h1, h2, h3⟩ => ⟨v, r, h1, RelD.ext e h2, RelDs.ext e h3⟩
end
theorem RelFs.ext {K : Frag} {ι ι' : Ad} {H H' : Hp} (e : Ext ι H ι' H') : ∀ {ds : List (Str × D)} {vs : List (Str × V)}, RelFs K ι H ds vs → RelFs K ι' H' ds vs
  | [], _, h => h
  | _ :: _, _, ⟨v, r, h1, h2, h3⟩ => ⟨v, r, h1, h2.ext e, RelFs.ext e h3⟩
theorem RelS.ext {K : Frag} {ι ι' : Ad} {H H' : Hp} (e : Ext ι H ι' H') {σ : List (Option D)} {σV : L2.St} (h : RelS K ι H σ σV) : RelS K ι' H' σ σV :=
  ⟨h.1, fun i d q => let ⟨v, h1, h2⟩ := h.2 i d q; ⟨v, h1, h2.ext e⟩⟩
theorem RelDs.length {K : Frag} {ι : Ad} {H : Hp} : ∀ {ds : List D} {vs : List V}, RelDs K ι H ds vs → ds.length = vs.length
  | [], _, h => by cases h; rfl
  | _ :: _, _, ⟨v, r, h1, _, h3⟩ => by subst h1; simp [RelDs.length h3]
theorem RelDs.get {K : Frag} {ι : Ad} {H : Hp} : ∀ {ds : List D} {vs : List V} {i : Nat} {d : D}, RelDs K ι H ds vs → ds[i]? = some d → ∃ v, vs[i]? = some v ∧ RelD K ι H d v
  | [], _, _, _, _, e => by simp at e
  | _ :: _, _, 0, _, ⟨v, r, h1, h2, _⟩, e => by
    subst h1; simp at e; subst e; exact ⟨v, rfl, h2⟩
  | _ :: _, _, i + 1, _, ⟨v, r, h1, _, h3⟩, e => by
    subst h1
    obtain ⟨u, q1, q2⟩ := RelDs.get (i := i) h3 (by simpa using e)
    exact ⟨u, by simpa using q1, q2⟩
theorem RelDs.append {K : Frag} {ι : Ad} {H : Hp} : ∀ {ds es : List D} {vs us : List V}, RelDs K ι H ds vs → RelDs K ι H es us → RelDs K ι H (ds ++ es) (vs ++ us)
  | [], _, _, _, h, q => by cases h; exact q
  | _ :: _, _, _, _, ⟨v, r, h1, h2, h3⟩, q => by subst h1; exact ⟨v, _, rfl, h2, RelDs.append h3 q⟩
theorem RelDs.set {K : Frag} {ι : Ad} {H : Hp} {d : D} {v : V} (hd : RelD K ι H d v) : ∀ {ds : List D} {vs : List V} (i : Nat), RelDs K ι H ds vs → RelDs K ι H (ds.set i d) (vs.set i v)
  | [], _, _, h => by cases h; exact rfl
  | _ :: _, _, 0, ⟨u, r, h1, h2, h3⟩ => by subst h1; exact ⟨v, r, rfl, hd, h3⟩
  | _ :: _, _, i + 1, ⟨u, r, h1, h2, h3⟩ => by subst h1; exact ⟨u, _, rfl, h2, RelDs.set hd i h3⟩
theorem RelDs.take {K : Frag} {ι : Ad} {H : Hp} : ∀ {ds : List D} {vs : List V} (n : Nat), RelDs K ι H ds vs → RelDs K ι H (ds.take n) (vs.take n)
  | _, _, 0, _ => by simp [RelDs]
  | [], _, _ + 1, h => by cases h; simp [RelDs]
  | _ :: _, _, n + 1, ⟨u, r, h1, h2, h3⟩ => by subst h1; exact ⟨u, _, rfl, h2, RelDs.take n h3⟩
theorem RelDs.drop {K : Frag} {ι : Ad} {H : Hp} : ∀ {ds : List D} {vs : List V} (n : Nat), RelDs K ι H ds vs → RelDs K ι H (ds.drop n) (vs.drop n)
  | _, _, 0, h => by simpa using h
  | [], _, _ + 1, h => by cases h; simp [RelDs]
  | _ :: _, _, n + 1, ⟨u, r, h1, h2, h3⟩ => by subst h1; simpa using RelDs.drop n h3
theorem RelDs.eraseIdx {K : Frag} {ι : Ad} {H : Hp} : ∀ {ds : List D} {vs : List V} (i : Nat), RelDs K ι H ds vs → RelDs K ι H (ds.eraseIdx i) (vs.eraseIdx i)
  | [], _, _, h => by cases h; simp [RelDs]
  | _ :: _, _, 0, ⟨u, r, h1, h2, h3⟩ => by subst h1; simpa using h3
  | _ :: _, _, n + 1, ⟨u, r, h1, h2, h3⟩ => by subst h1; exact ⟨u, _, rfl, h2, RelDs.eraseIdx n h3⟩

/-! ### logical programs -/
abbrev LV := List (Option D)
/-- an exception: its class, its fields -/
abbrev XL := Str → List (Str × D) → LH → Prop
/-- a computation: slots, heap, wanted end, wanted exception -/
abbrev LX (α : Type) := LV → LH → (α → LH → Prop) → XL → Prop
abbrev LE := LX D
def Mono {α : Type} (m : LX α) : Prop := ∀ (σ : LV) (h : LH) (Q Q' : α → LH → Prop) (E E' : XL), (∀ a h, Q a h → Q' a h) → (∀ c fs h, E c fs h → E' c fs h) → m σ h Q E → m σ h Q' E'
/-- an exception's own dict -/
def RelX (K : Frag) (ι : Ad) (H : Hp) (fs : List (Str × D)) : Option Addr → Prop
  | none => fs = []
  | some d => ∃ vs, H d = some (.xd vs) ∧ RelFs K ι H fs vs ∧ ι.no d
structure LK where
  nx : LV → LH → Prop
  rt : D → LH → Prop
  bk : LV → LH → Prop := fun _ _ => False
  ct : LV → LH → Prop := fun _ _ => False
  ex : Str → List (Str × D) → LV → LH → Prop := fun _ _ _ _ => False
abbrev LS := LV → LH → LK → Prop
structure LK.le (A B : LK) : Prop where
  nx : ∀ σ h, A.nx σ h → B.nx σ h
  rt : ∀ d h, A.rt d h → B.rt d h
  bk : ∀ σ h, A.bk σ h → B.bk σ h
  ct : ∀ σ h, A.ct σ h → B.ct σ h
  ex : ∀ c fs σ h, A.ex c fs σ h → B.ex c fs σ h
def MonoS (m : LS) : Prop := ∀ (σ : LV) (h : LH) (A B : LK), A.le B → m σ h A → m σ h B

section
variable (K : Frag) (W : WX)
/-- what a result relates to -/
abbrev RX (α β : Type) := Ad → Hp → α → β → Prop
def tX {α β : Type} (R : RX α β) (m : LX α) : L2.St → Hp → (β → Hp → Prop) → Prop := fun σV H Q => ∃ ι σ h, RelS K ι H σ σV ∧ RelH K ι H h ∧
  m σ h (fun d h' => ∀ ι' v H', Ext ι H ι' H' → RelH K ι' H' h' → R ι' H' d v → Q v H')
    (fun c fs h' => ∀ ι' dx H', Ext ι H ι' H' → RelH K ι' H' h' → RelX K ι' H' fs dx → W (.ref (He.ga K c)) dx σV H')
abbrev tE (m : LE) : TE := tX K W (RelD K) m
abbrev tA (m : LX (List D)) : TA := tX K W (RelDs K) m
abbrev tT (m : LX Bool) : TT := tX K W (fun _ _ a b => a = b) m
def tS (m : LS) : TS := fun Dn σV H => ∃ ι0 H0 ι σ h, Ext ι0 H0 ι H ∧ RelS K ι H σ σV ∧ RelH K ι H h ∧
  m σ h { nx := fun σ' h' => ∀ ι' σV' H', Ext ι0 H0 ι' H' → RelS K ι' H' σ' σV' → RelH K ι' H' h' → Dn.nx σV' H',
          rt := fun d h' => ∀ ι' v H', Ext ι0 H0 ι' H' → RelH K ι' H' h' → RelD K ι' H' d v → Dn.rt v H',
          bk := fun σ' h' => ∀ ι' σV' H', Ext ι0 H0 ι' H' → RelS K ι' H' σ' σV' → RelH K ι' H' h' → Dn.bk σV' H',
          ct := fun σ' h' => ∀ ι' σV' H', Ext ι0 H0 ι' H' → RelS K ι' H' σ' σV' → RelH K ι' H' h' → Dn.ct σV' H',
          ex := fun c fs σ' h' => ∀ ι' dx σV' H', Ext ι0 H0 ι' H' → RelS K ι' H' σ' σV' → RelH K ι' H' h' → RelX K ι' H' fs dx → W (.ref (He.ga K c)) dx σV' H' }
end
structure JE (X : Cx) (W : WX) (e : Expr) (m : LE) : Prop where
  mono : Mono m
  run : PE X e (tE X.K W m)
structure JT (X : Cx) (W : WX) (e : Expr) (m : LX Bool) : Prop where
  mono : Mono m
  run : PT X e (tT X.K W m)
structure JW (X : Cx) (W : WX) (e : Expr) (m : LX Bool) : Prop where
  mono : Mono m
  run : PW X e (tT X.K W m)
structure JA (X : Cx) (W : WX) (es : List Expr) (m : LX (List D)) : Prop where
  mono : Mono m
  run : PA X es (tA X.K W m)
structure JS (X : Cx) (W : WX) (st : Stmt) (m : LS) : Prop where
  mono : MonoS m
  run : PS X st (tS X.K W m)
structure JSs (X : Cx) (W : WX) (st : List Stmt) (m : LS) : Prop where
  mono : MonoS m
  run : PSs X st (tS X.K W m)

theorem PE.weak {X : Cx} {e : Expr} {t t' : TE} (h : PE X e t) (w : ∀ σ H Q, t' σ H Q → t σ H Q) : PE X e t' := ⟨fun pins s σ H Q I q => h.run pins s σ H Q I (w _ _ _ q)⟩
theorem PT.weak {X : Cx} {e : Expr} {t t' : TT} (h : PT X e t) (w : ∀ σ H Q, t' σ H Q → t σ H Q) : PT X e t' := ⟨fun pins s σ H Q I q => h.run pins s σ H Q I (w _ _ _ q)⟩
theorem PW.weak {X : Cx} {e : Expr} {t t' : TT} (h : PW X e t) (w : ∀ σ H Q, t' σ H Q → t σ H Q) : PW X e t' := ⟨fun wh pins s σ H Q I q => h.run wh pins s σ H Q I (w _ _ _ q)⟩
theorem PA.weak {X : Cx} {es : List Expr} {t t' : TA} (h : PA X es t) (w : ∀ σ H Q, t' σ H Q → t σ H Q) : PA X es t' := ⟨fun pos pins s σ H Q I q => h.run pos pins s σ H Q I (w _ _ _ q)⟩
theorem PS.weak {X : Cx} {e : Stmt} {t t' : TS} (h : PS X e t) (w : ∀ D σ H, t' D σ H → t D σ H) : PS X e t' := ⟨fun pins s σ H Dn I q => h.run pins s σ H Dn I (w _ _ _ q)⟩
theorem PSs.weak {X : Cx} {e : List Stmt} {t t' : TS} (h : PSs X e t) (w : ∀ D σ H, t' D σ H → t D σ H) : PSs X e t' := ⟨fun pins s σ H Dn I q => h.run pins s σ H Dn I (w _ _ _ q)⟩

/-- the way in: from a computation with its own ends -/
theorem tX.into {K : Frag} {W : WX} {α β : Type} {R : RX α β} {m : LX α} (hm : Mono m) {ι : Ad} {σ : LV} {h : LH} {σV : L2.St} {H : Hp} {Q : β → Hp → Prop} (hS : RelS K ι H σ σV) (hH : RelH K ι H h)
    {Q0 : α → LH → Prop} {E0 : XL} (q : m σ h Q0 E0)
    (hQ : ∀ d h1 ι1 v H1, Q0 d h1 → Ext ι H ι1 H1 → RelH K ι1 H1 h1 → R ι1 H1 d v → Q v H1)
    (hE : ∀ c fs h1 ι1 dx H1, E0 c fs h1 → Ext ι H ι1 H1 → RelH K ι1 H1 h1 → RelX K ι1 H1 fs dx → W (.ref (He.ga K c)) dx σV H1) : tX K W R m σV H Q :=
  ⟨ι, σ, h, hS, hH, hm σ h _ _ _ _ (fun d h1 q ι1 v H1 => hQ d h1 ι1 v H1 q) (fun c fs h1 q ι1 dx H1 => hE c fs h1 ι1 dx H1 q) q⟩
end LL
end

section
set_option Elab.async false
set_option linter.all false
set_option maxRecDepth 100000
set_option maxHeartbeats 1000000
/-! LLOps: logical programs and why they are sound: names, constants, operators, tests, displays, subscripts, fields, calls. -/
namespace LL
open PySem PySem.Spec PyProof.Rows L2
variable {X : Cx} {W : WX}

/-! ### heaps -/
section
variable {K : Frag} {ι : Ad} {H : Hp} {h : LH}
theorem RelH.ref {n : Nat} {a : Addr} (hH : RelH K ι H h) (e : ι.ix[n]? = some (some a)) : Lv H a := hH.live a (List.mem_of_getElem? e)
theorem RelH.lst {n : Nat} {a : Addr} {ds : List D} (hH : RelH K ι H h) (e : ι.ix[n]? = some (some a)) (q : h[n]? = some (.lst ds)) : ∃ vs, H a = some (.lst vs) ∧ RelDs K ι H ds vs := by
  obtain ⟨a', e', r⟩ := hH.obj n _ q (by intro z; cases z)
  rw [e] at e'; cases e'
  exact r
theorem RelH.ins {n : Nat} {a : Addr} {C : Str} {fs : List (Str × D)} (hH : RelH K ι H h) (e : ι.ix[n]? = some (some a)) (q : h[n]? = some (.ins C fs)) : ∃ dx vs, H a = some (.ins (He.ga K C) dx vs) ∧ RelFs K ι H fs vs := by
  obtain ⟨a', e', r⟩ := hH.obj n _ q (by intro z; cases z)
  rw [e] at e'; cases e'
  exact r
theorem RelO.ext {ι' : Ad} {H' : Hp} {a : Addr} {o : O} (e : Ext ι H ι' H') (ha : H' a = H a) (r : RelO K ι H a o) : RelO K ι' H' a o := by
  cases o with
  | lst ds => obtain ⟨vs, h1, h2⟩ := r; exact ⟨vs, by rw [ha]; exact h1, h2.ext e⟩
  | ins C fs => obtain ⟨dx, vs, h1, h2⟩ := r; exact ⟨dx, vs, by rw [ha]; exact h1, h2.ext e⟩
  | gone => trivial
/-- a new object that nobody changes any more -/
theorem Ext.new {p : Addr} {u : HO} (hp : H p = none) : Ext ι H ι (upd H p u) := by
  have ne : ∀ a o, H a = some o → a ≠ p := fun a o q => ne_of_none q hp
  refine ⟨⟨[], by simp, fun _ z => by cases z⟩, fun _ h => h, fun _ h => .inl h, rfl, fun a o q _ _ => ?_, fun a xs q => ?_, fun a o w q => ?_, fun a f q => ?_, fun a q => q.upd (q.ne hp)⟩ <;> (rw [upd_ne (ne _ _ q)]; exact q)
theorem RelH.new {p : Addr} {u : HO} (hH : RelH K ι H h) (hp : H p = none) : RelH K ι (upd H p u) h := by
  have ne : ∀ a, some a ∈ ι.ix → a ≠ p := fun a m => (hH.live a m).ne hp
  refine ⟨hH.len, hH.inj, fun a m => ?_, fun a m => ?_, hH.disj, tabs_upd hH.tabs (.inl hp), fun n o q g => ?_⟩
  · exact (hH.live a m).upd (ne a m)
  · exact (hH.liveR a m).upd ((hH.liveR a m).ne hp)
  · obtain ⟨a, e, r⟩ := hH.obj n o q g
    exact ⟨a, e, r.ext (Ext.new hp) (upd_ne (ne a (List.mem_of_getElem? e)))⟩
theorem RelH.notNew {p : Addr} (hH : RelH K ι H h) (hp : H p = none) : ι.no p := by
  refine ⟨fun m => ?_, fun m => ?_⟩
  · exact (hH.live p m).no hp
  · exact (hH.liveR p m).no hp
/-- a new object of the logical heap -/
theorem Ext.push {p : Addr} {u : HO} (hp : H p = none) : Ext ι H (ι.push p) (upd H p u) := by
  have ne : ∀ a o, H a = some o → a ≠ p := fun a o q => ne_of_none q hp
  refine ⟨⟨[some p], rfl, fun a z => ?_⟩, fun _ h => h, fun _ h => .inl h, rfl, fun a o q _ _ => ?_, fun a xs q => ?_, fun a o w q => ?_, fun a f q => ?_, fun a q => q.upd (q.ne hp)⟩
  · simp only [List.mem_singleton, Option.some.injEq] at z; subst z; exact fun l => l.no hp
  all_goals (rw [upd_ne (ne _ _ q)]; exact q)
theorem RelH.push {p : Addr} {u : HO} {o : O} (hH : RelH K ι H h) (hp : H p = none) (hu : ∀ ps, u ≠ .tbl ps) (r : RelO K (ι.push p) (upd H p u) p o) : RelH K (ι.push p) (upd H p u) (h ++ [o]) := by
  have np := hH.notNew hp
  have ne : ∀ a, some a ∈ ι.ix → a ≠ p := fun a m => (hH.live a m).ne hp
  refine ⟨by simp [hH.len], fun n m a e1 e2 => ?_, fun a m => ?_, fun a m => ?_, fun a m => ?_, tabs_upd hH.tabs (.inl hp), fun n o' q g => ?_⟩
  · simp only [] at e1 e2
    rcases List.getElem?_append (l₁ := ι.ix) (l₂ := [some p]) (i := n) ▸ e1 with e1'
    by_cases hn : n < ι.ix.length
    · rw [List.getElem?_append_left hn] at e1
      by_cases hm : m < ι.ix.length
      · rw [List.getElem?_append_left hm] at e2
        exact hH.inj n m a e1 e2
      · rw [List.getElem?_append_right (Nat.le_of_not_lt hm)] at e2
        have := List.mem_of_getElem? e2
        simp only [List.mem_singleton, Option.some.injEq] at this
        subst this
        exact absurd (List.mem_of_getElem? e1) np.1
    · rw [List.getElem?_append_right (Nat.le_of_not_lt hn)] at e1
      have h1 := List.mem_of_getElem? e1
      simp only [List.mem_singleton, Option.some.injEq] at h1
      subst h1
      by_cases hm : m < ι.ix.length
      · rw [List.getElem?_append_left hm] at e2
        exact absurd (List.mem_of_getElem? e2) np.1
      · have l1 := (List.getElem?_eq_some_iff.mp e1).1
        rw [List.getElem?_append_right (Nat.le_of_not_lt hm)] at e2
        have l2 := (List.getElem?_eq_some_iff.mp e2).1
        simp only [List.length_singleton] at l1 l2
        omega
  · rcases List.mem_append.mp m with m | m
    · exact (hH.live a m).upd (ne a m)
    · simp only [List.mem_singleton, Option.some.injEq] at m
      subst m
      exact ⟨u, upd_same, hu⟩
  · exact (hH.liveR a m).upd ((hH.liveR a m).ne hp)
  · rcases List.mem_append.mp m with m | m
    · exact hH.disj a m
    · simp only [List.mem_singleton, Option.some.injEq] at m
      subst m
      exact np.2
  · by_cases hn : n < h.length
    · rw [List.getElem?_append_left hn] at q
      obtain ⟨a, e, r'⟩ := hH.obj n o' q g
      exact ⟨a, by rw [List.getElem?_append_left (by rw [hH.len]; exact hn)]; exact e, r'.ext (Ext.push hp) (upd_ne (ne a (List.mem_of_getElem? e)))⟩
    · have l := (List.getElem?_eq_some_iff.mp q).1
      have en : n = h.length := by simp only [List.length_append, List.length_singleton] at l; omega
      subst en
      rw [List.getElem?_append_right (Nat.le_refl _), Nat.sub_self] at q
      cases q
      exact ⟨p, by rw [← hH.len, List.getElem?_append_right (Nat.le_refl _), Nat.sub_self]; rfl, r⟩
/-- an object of the logical heap is changed -/
theorem Ext.write {n : Nat} {a : Addr} {u : HO} (hH : RelH K ι H h) (e : ι.ix[n]? = some (some a)) (mu : MutO (H a)) (mv : MutO (some u)) : Ext ι H ι (upd H a u) := by
  have ht := mu.tup
  have hf := mu.frz
  refine ⟨⟨[], by simp, fun _ z => by cases z⟩, fun _ h => h, fun _ h => .inl h, rfl, fun b o q m _ => ?_, fun b xs q => ?_, fun b o w q => ?_, fun b f q => ?_, fun b q => q.mu mv⟩
  · rw [upd_ne (by rintro rfl; exact m (List.mem_of_getElem? e))]; exact q
  · rw [upd_ne (by rintro rfl; exact ht xs q)]; exact q
  · rw [upd_ne (by rintro rfl; exact hf o w q)]; exact q
  · rw [upd_ne (by rintro rfl; exact mu.ext f q)]; exact q
theorem RelH.write {n : Nat} {a : Addr} {u : HO} {o : O} (hH : RelH K ι H h) (e : ι.ix[n]? = some (some a)) (mu : MutO (H a)) (ex : Ext ι H ι (upd H a u)) (r : RelO K ι (upd H a u) a o) : RelH K ι (upd H a u) (h.set n o) := by
  refine ⟨by simpa using hH.len, hH.inj, fun b m => ?_, fun b m => ?_, hH.disj, tabs_upd hH.tabs (.inr mu), fun m o' q g => ?_⟩
  · exact ex.there b (hH.live b m)
  · exact ex.there b (hH.liveR b m)
  · by_cases z : n = m
    · subst z
      have l := (List.getElem?_eq_some_iff.mp q).1
      rw [List.length_set] at l
      rw [List.getElem?_set_self l] at q
      cases q
      exact ⟨a, e, r⟩
    · rw [List.getElem?_set_ne z] at q
      obtain ⟨b, e', r'⟩ := hH.obj m o' q g
      have nb : b ≠ a := fun q => z (hH.inj n m a e (q ▸ e'))
      exact ⟨b, e', r'.ext ex (upd_ne nb)⟩
end

/-! ### names and constants -/
def eVar (i : Nat) : LE := fun σ h Q _ => match σ[i]? with | some (some d) => Q d h | _ => False
def eC (d : D) : LE := fun _ h Q _ => Q d h
theorem je_var {i : Nat} {x : Str} {pos : Pos} (h : PE X (.Name x pos) (tVar i)) : JE X W (.Name x pos) (eVar i) := by
  refine ⟨fun σ h Q Q' E E' hQ _ q => ?_, PE.weak h fun σV H Q ⟨ι, σ, h, hS, hH, q⟩ => ?_⟩
  · unfold eVar at *; split at q <;> first | exact hQ _ _ q | exact q.elim
  · unfold eVar at q
    split at q
    · rename_i d e
      obtain ⟨v, e1, r⟩ := hS.2 i d e
      exact ⟨v, e1, q ι v H (.refl _ _) hH r⟩
    · exact q.elim
theorem mono_c {d : D} : Mono (eC d) := fun _ _ _ _ _ _ hQ _ q => hQ _ _ q
theorem je_c {e : Expr} {d : D} {v : V} (h : PE X e (tC v)) (r : ∀ ι H, RelD X.K ι H d v) : JE X W e (eC d) :=
  ⟨mono_c, PE.weak h fun σV H Q ⟨ι, σ, h, hS, hH, q⟩ => q ι v H (.refl _ _) hH (r ι H)⟩
theorem je_int {i : Int} {j pos} : JE X W (.Constant (.int i) j pos) (eC (.int i)) := je_c pe_int fun _ _ => rfl
theorem je_bl {b : Bool} {j pos} : JE X W (.Constant (.bool b) j pos) (eC (.bl b)) := je_c pe_bl fun _ _ => rfl
theorem je_non {j pos} : JE X W (.Constant .none j pos) (eC .non) := je_c pe_non fun _ _ => rfl
theorem je_str {x : Str} {j pos} : JE X W (.Constant (.str x) j pos) (eC (.str x)) := je_c pe_str fun _ _ => rfl
/-- a module's int -/
theorem je_gint {x : Str} {i : Int} {pos : Pos} (hm : ∃ t, X.mg x = some (.int i t)) (hg : Gl X x := by rfl) (hd : (x == ("__debug__" : Str)) = false := by decide) : JE X W (.Name x pos) (eC (.int i)) := by
  obtain ⟨t, hm⟩ := hm
  exact je_c (pe_glob hg hm (v := .int i) ⟨t, rfl⟩ hd) fun _ _ => rfl
/-- a module's tuple -/
theorem je_gtup {x : Str} {ds : List D} {a : Addr} {vs : List V} {pos : Pos} (hm : X.mg x = some (.ref a)) (ht : ∀ H, SqT X.K H a vs) (r : ∀ ι H, RelDs X.K ι H ds vs) (hg : Gl X x := by rfl) (hd : (x == ("__debug__" : Str)) = false := by decide) : JE X W (.Name x pos) (eC (.tup ds)) :=
  je_c (pe_glob hg hm (v := .ref a) rfl hd) fun ι H => ⟨a, vs, rfl, ht H, r ι H⟩

/-! ### operators -/
abbrev LOp := D → D → LH → (D → LH → Prop) → Prop
structure OpS (K : Frag) (r : R2) (op : LOp) : Prop where
  mono : ∀ x y h Q Q', (∀ d h, Q d h → Q' d h) → op x y h Q → op x y h Q'
  run : ∀ ι H h x y vx vy (Q : D → LH → Prop) (Qv : VK), RelH K ι H h → RelD K ι H x vx → RelD K ι H y vy → op x y h Q →
    (∀ d h' ι' v H', Q d h' → Ext ι H ι' H' → RelH K ι' H' h' → RelD K ι' H' d v → Qv v H') → r vx vy H Qv
def eOp (op : LOp) (a b : LE) : LE := fun σ h Q E => a σ h (fun x h1 => b σ h1 (fun y h2 => op x y h2 Q) E) E
theorem mono_op {op : LOp} {a b : LE} (ho : ∀ x y h Q Q', (∀ d h, Q d h → Q' d h) → op x y h Q → op x y h Q') (ha : Mono a) (hb : Mono b) : Mono (eOp op a b) := fun σ h Q Q' E E' hQ hE q =>
  ha σ h _ _ _ _ (fun x h1 q1 => hb σ h1 _ _ _ _ (fun y h2 q2 => ho _ _ _ _ _ hQ q2) hE q1) hE q
theorem op_run {K : Frag} {r : R2} {op : LOp} {a b : LE} (hs : OpS K r op) (ha : Mono a) (hb : Mono b) {σV : L2.St} {H : Hp} {Q : VK} (q : tE K W (eOp op a b) σV H Q) : tOp r (tE K W a) (tE K W b) σV H Q := by
  obtain ⟨ι, σ, h, hS, hH, q⟩ := q
  refine tX.into ha hS hH q (fun x h1 ι1 vx H1 q1 e1 hH1 rx => ?_) (fun c fs h1 ι1 dx H1 q1 e1 hH1 rx => q1 ι1 dx H1 e1 hH1 rx)
  refine tX.into hb (hS.ext e1) hH1 q1 (fun y h2 ι2 vy H2 q2 e2 hH2 ry => ?_) (fun c fs h2 ι2 dx H2 q2 e2 hH2 rx2 => q2 ι2 dx H2 (e1.trans e2) hH2 rx2)
  exact hs.run ι2 H2 h2 x y vx vy _ Q hH2 (rx.ext e2) ry q2 fun d h' ι' v H' q3 e3 hH3 r3 => q3 ι' v H' (e1.trans (e2.trans e3)) hH3 r3
theorem je_op {op : Operator} {r : R2} {lop : LOp} {a b : Expr} {ea eb : LE} {pos : Pos} (ho : OpR X (binaryOp op) r) (hs : OpS X.K r lop) (ha : JE X W a ea) (hb : JE X W b eb) : JE X W (.BinOp a op b pos) (eOp lop ea eb) :=
  ⟨mono_op hs.mono ha.mono hb.mono, PE.weak (pe_op ho ha.run hb.run) fun _ _ _ q => op_run hs ha.mono hb.mono q⟩
theorem je_cmp {op : CmpOp} {r : R2} {lop : LOp} {a b : Expr} {ea eb : LE} {pos : Pos} (ho : OpR X (compareOp op) r) (hs : OpS X.K r lop) (ha : JE X W a ea) (hb : JE X W b eb) (hm : behindInMarks op b = false) : JE X W (.Compare a [op] [b] pos) (eOp lop ea eb) :=
  ⟨mono_op hs.mono ha.mono hb.mono, PE.weak (pe_cmpR ho ha.run hb.run hm) fun _ _ _ q => op_run hs ha.mono hb.mono q⟩
/-- a value that is a bool, as a test -/
def eTest (m : LE) : LX Bool := fun σ h Q E => m σ h (fun d h1 => ∃ b, d = .bl b ∧ Q b h1) E
theorem mono_test {m : LE} (hm : Mono m) : Mono (eTest m) := fun σ h Q Q' E E' hQ hE q => hm σ h _ _ _ _ (fun d h1 ⟨b, e, q1⟩ => ⟨b, e, hQ _ _ q1⟩) hE q
theorem test_run {K : Frag} {m : LE} (hm : Mono m) {σV : L2.St} {H : Hp} {Q : Bool → Hp → Prop} (q : tT K W (eTest m) σV H Q) : tE K W m σV H fun x H' => ∃ k, x = .bl k ∧ Q k H' := by
  obtain ⟨ι, σ, h, hS, hH, q⟩ := q
  refine tX.into hm hS hH q (fun d h1 ι1 v H1 q1 e1 hH1 r => ?_) (fun c fs h1 ι1 dx H1 q1 => q1 ι1 dx H1)
  obtain ⟨b, rfl, q1⟩ := q1
  exact ⟨b, r, q1 ι1 b H1 e1 hH1 rfl⟩
theorem jt_cmp {op : CmpOp} {r : R2} {lop : LOp} {a b : Expr} {ea eb : LE} {pos : Pos} (ho : OpR X (compareOp op) r) (hs : OpS X.K r lop) (ha : JE X W a ea) (hb : JE X W b eb) (hm : behindInMarks op b = false) : JT X W (.Compare a [op] [b] pos) (eTest (eOp lop ea eb)) :=
  ⟨mono_test (mono_op hs.mono ha.mono hb.mono), PT.weak (pt_cmpR ho ha.run hb.run hm) fun σV H Q q => op_run (W := W) hs ha.mono hb.mono (test_run (mono_op hs.mono ha.mono hb.mono) q)⟩
/-- any expression whose value is a bool, as a test -/
theorem jt_val {e : Expr} {m : LE} (h : JE X W e m) (he : ∀ whole, isTrue e X.env whole = (do let v ← whole; standAt e.pos; holding [v] (truthy v)) := by intro _; rfl) : JT X W e (eTest m) :=
  ⟨mono_test h.mono, PT.weak (pt_val h.run he) fun σV H Q q => test_run h.mono q⟩
theorem PWPT {e : Expr} {m : LX Bool} (h : JW X W e m) : JT X W e m := ⟨h.mono, h.run.pt⟩
def eAnd (a b : LX Bool) : LX Bool := fun σ h Q E => a σ h (fun c h1 => if c = true then b σ h1 Q E else Q false h1) E
def eOr (a b : LX Bool) : LX Bool := fun σ h Q E => a σ h (fun c h1 => if c = true then Q true h1 else b σ h1 Q E) E
def eNot (a : LX Bool) : LX Bool := fun σ h Q E => a σ h (fun c h1 => Q (!c) h1) E
theorem mono_and {a b : LX Bool} (ha : Mono a) (hb : Mono b) : Mono (eAnd a b) := fun σ h Q Q' E E' hQ hE q => ha σ h _ _ _ _ (fun c h1 q1 => by
  cases c with
  | true => rw [if_pos rfl] at q1 ⊢; exact hb σ h1 _ _ _ _ hQ hE q1
  | false => rw [if_neg Bool.false_ne_true] at q1 ⊢; exact hQ _ _ q1) hE q
theorem mono_or {a b : LX Bool} (ha : Mono a) (hb : Mono b) : Mono (eOr a b) := fun σ h Q Q' E E' hQ hE q => ha σ h _ _ _ _ (fun c h1 q1 => by
  cases c with
  | true => rw [if_pos rfl] at q1 ⊢; exact hQ _ _ q1
  | false => rw [if_neg Bool.false_ne_true] at q1 ⊢; exact hb σ h1 _ _ _ _ hQ hE q1) hE q
theorem mono_not {a : LX Bool} (ha : Mono a) : Mono (eNot a) := fun σ h Q Q' E E' hQ hE q => ha σ h _ _ _ _ (fun c h1 q1 => hQ _ _ q1) hE q
/-- through a test into what follows -/
theorem tT.into {K : Frag} {m : LX Bool} (hm : Mono m) {ι : Ad} {σ : LV} {h : LH} {σV : L2.St} {H : Hp} {Q : Bool → Hp → Prop} (hS : RelS K ι H σ σV) (hH : RelH K ι H h)
    {Q0 : Bool → LH → Prop} {E0 : XL} (q : m σ h Q0 E0) (hQ : ∀ b h1 ι1 H1, Q0 b h1 → Ext ι H ι1 H1 → RelH K ι1 H1 h1 → Q b H1)
    (hE : ∀ c fs h1 ι1 dx H1, E0 c fs h1 → Ext ι H ι1 H1 → RelH K ι1 H1 h1 → RelX K ι1 H1 fs dx → W (.ref (He.ga K c)) dx σV H1) : tT K W m σV H Q :=
  tX.into hm hS hH q (fun d h1 ι1 v H1 q1 e1 hH1 r => by subst r; exact hQ d h1 ι1 H1 q1 e1 hH1) hE
theorem and_run {K : Frag} {a b : LX Bool} (ha : Mono a) (hb : Mono b) {σV : L2.St} {H : Hp} {Q : Bool → Hp → Prop} (q : tT K W (eAnd a b) σV H Q) : tAnd (tT K W a) (tT K W b) σV H Q := by
  obtain ⟨ι, σ, h, hS, hH, q⟩ := q
  refine tT.into ha hS hH q (fun c h1 ι1 H1 q1 e1 hH1 => ?_) (fun c fs h1 ι1 dx H1 q1 => q1 ι1 dx H1)
  cases c with
  | true =>
    rw [if_pos rfl] at q1 ⊢
    exact tT.into hb (hS.ext e1) hH1 q1 (fun c h2 ι2 H2 q2 e2 hH2 => q2 ι2 c H2 (e1.trans e2) hH2 rfl) fun c fs h2 ι2 dx H2 q2 e2 => q2 ι2 dx H2 (e1.trans e2)
  | false => rw [if_neg Bool.false_ne_true] at q1 ⊢; exact q1 ι1 false H1 e1 hH1 rfl
theorem or_run {K : Frag} {a b : LX Bool} (ha : Mono a) (hb : Mono b) {σV : L2.St} {H : Hp} {Q : Bool → Hp → Prop} (q : tT K W (eOr a b) σV H Q) : tOr (tT K W a) (tT K W b) σV H Q := by
  obtain ⟨ι, σ, h, hS, hH, q⟩ := q
  refine tT.into ha hS hH q (fun c h1 ι1 H1 q1 e1 hH1 => ?_) (fun c fs h1 ι1 dx H1 q1 => q1 ι1 dx H1)
  cases c with
  | true => rw [if_pos rfl] at q1 ⊢; exact q1 ι1 true H1 e1 hH1 rfl
  | false =>
    rw [if_neg Bool.false_ne_true] at q1 ⊢
    exact tT.into hb (hS.ext e1) hH1 q1 (fun c h2 ι2 H2 q2 e2 hH2 => q2 ι2 c H2 (e1.trans e2) hH2 rfl) fun c fs h2 ι2 dx H2 q2 e2 => q2 ι2 dx H2 (e1.trans e2)
section
variable {a b : Expr} {rest : List Expr} {pos : Pos} {A B : LX Bool}
theorem jw_and1 (ha : JT X W a A) : JW X W (.BoolOp .And [a] pos) A := ⟨ha.mono, pw_and1 ha.run⟩
theorem jw_or1 (ha : JT X W a A) : JW X W (.BoolOp .Or [a] pos) A := ⟨ha.mono, pw_or1 ha.run⟩
theorem jw_and (ha : JT X W a A) (hb : JW X W (.BoolOp .And (b :: rest) pos) B) : JW X W (.BoolOp .And (a :: b :: rest) pos) (eAnd A B) :=
  ⟨mono_and ha.mono hb.mono, PW.weak (pw_and ha.run hb.run) fun _ _ _ q => and_run ha.mono hb.mono q⟩
theorem jw_or (ha : JT X W a A) (hb : JW X W (.BoolOp .Or (b :: rest) pos) B) : JW X W (.BoolOp .Or (a :: b :: rest) pos) (eOr A B) :=
  ⟨mono_or ha.mono hb.mono, PW.weak (pw_or ha.run hb.run) fun _ _ _ q => or_run ha.mono hb.mono q⟩
theorem jt_not (ha : JT X W a A) : JT X W (.UnaryOp .Not a pos) (eNot A) :=
  ⟨mono_not ha.mono, PT.weak (pt_not ha.run) fun σV H Q ⟨ι, σ, h, hS, hH, q⟩ => tT.into ha.mono hS hH q (fun c h1 ι1 H1 q1 e1 hH1 => q1 ι1 _ H1 e1 hH1 rfl) fun c fs h1 ι1 dx H1 q1 => q1 ι1 dx H1⟩
end

/-! ### and, or, not, if as values -/
def eAndV (a b : LE) : LE := fun σ h Q E => a σ h (fun d h1 => ∃ c, d = .bl c ∧ if c = true then b σ h1 Q E else Q (.bl false) h1) E
def eOrV (a b : LE) : LE := fun σ h Q E => a σ h (fun d h1 => ∃ c, d = .bl c ∧ if c = true then Q (.bl true) h1 else b σ h1 Q E) E
def eNotV (a : LE) : LE := fun σ h Q E => a σ h (fun d h1 => ∃ c, d = .bl c ∧ Q (.bl (!c)) h1) E
def eIf (t : LX Bool) (a b : LE) : LE := fun σ h Q E => t σ h (fun c h1 => if c = true then a σ h1 Q E else b σ h1 Q E) E
section
variable {a b c : Expr} {rest : List Expr} {pos : Pos} {A B : LE} {T : LX Bool}
theorem je_one {op} (ha : JE X W a A) : JE X W (.BoolOp op [a] pos) A := ⟨ha.mono, pe_one ha.run⟩
theorem je_and (ha : JE X W a A) (hb : JE X W (.BoolOp .And (b :: rest) pos) B) : JE X W (.BoolOp .And (a :: b :: rest) pos) (eAndV A B) := by
  refine ⟨fun σ h Q Q' E E' hQ hE q => ha.mono σ h _ _ _ _ ?_ hE q, PE.weak (pe_and ha.run hb.run) fun σV H Q ⟨ι, σ, h, hS, hH, q⟩ => ?_⟩
  · rintro d h1 ⟨c, e, q1⟩
    refine ⟨c, e, ?_⟩
    cases c with
    | true => rw [if_pos rfl] at q1 ⊢; exact hb.mono σ h1 _ _ _ _ hQ hE q1
    | false => rw [if_neg Bool.false_ne_true] at q1 ⊢; exact hQ _ _ q1
  · refine tX.into ha.mono hS hH q (fun d h1 ι1 v H1 q1 e1 hH1 r => ?_) (fun c fs h1 ι1 dx H1 q1 => q1 ι1 dx H1)
    obtain ⟨c, rfl, q1⟩ := q1
    refine ⟨c, r, ?_⟩
    cases c with
    | true =>
      rw [if_pos rfl] at q1 ⊢
      exact tX.into hb.mono (hS.ext e1) hH1 q1 (fun c h2 ι2 v H2 q2 e2 hH2 => q2 ι2 v H2 (e1.trans e2) hH2) fun c fs h2 ι2 dx H2 q2 e2 => q2 ι2 dx H2 (e1.trans e2)
    | false => rw [if_neg Bool.false_ne_true] at q1 ⊢; exact q1 ι1 _ H1 e1 hH1 rfl
theorem je_or (ha : JE X W a A) (hb : JE X W (.BoolOp .Or (b :: rest) pos) B) : JE X W (.BoolOp .Or (a :: b :: rest) pos) (eOrV A B) := by
  refine ⟨fun σ h Q Q' E E' hQ hE q => ha.mono σ h _ _ _ _ ?_ hE q, PE.weak (pe_or ha.run hb.run) fun σV H Q ⟨ι, σ, h, hS, hH, q⟩ => ?_⟩
  · rintro d h1 ⟨c, e, q1⟩
    refine ⟨c, e, ?_⟩
    cases c with
    | true => rw [if_pos rfl] at q1 ⊢; exact hQ _ _ q1
    | false => rw [if_neg Bool.false_ne_true] at q1 ⊢; exact hb.mono σ h1 _ _ _ _ hQ hE q1
  · refine tX.into ha.mono hS hH q (fun d h1 ι1 v H1 q1 e1 hH1 r => ?_) (fun c fs h1 ι1 dx H1 q1 => q1 ι1 dx H1)
    obtain ⟨c, rfl, q1⟩ := q1
    refine ⟨c, r, ?_⟩
    cases c with
    | true => rw [if_pos rfl] at q1 ⊢; exact q1 ι1 _ H1 e1 hH1 rfl
    | false =>
      rw [if_neg Bool.false_ne_true] at q1 ⊢
      exact tX.into hb.mono (hS.ext e1) hH1 q1 (fun c h2 ι2 v H2 q2 e2 hH2 => q2 ι2 v H2 (e1.trans e2) hH2) fun c fs h2 ι2 dx H2 q2 e2 => q2 ι2 dx H2 (e1.trans e2)
theorem je_not (ha : JE X W a A) : JE X W (.UnaryOp .Not a pos) (eNotV A) := by
  refine ⟨fun σ h Q Q' E E' hQ hE q => ha.mono σ h _ _ _ _ (fun d h1 ⟨c, e, q1⟩ => ⟨c, e, hQ _ _ q1⟩) hE q, PE.weak (pe_not ha.run) fun σV H Q ⟨ι, σ, h, hS, hH, q⟩ => ?_⟩
  refine tX.into ha.mono hS hH q (fun d h1 ι1 v H1 q1 e1 hH1 r => ?_) (fun c fs h1 ι1 dx H1 q1 => q1 ι1 dx H1)
  obtain ⟨c, rfl, q1⟩ := q1
  exact ⟨c, r, q1 ι1 _ H1 e1 hH1 rfl⟩
theorem je_if (ht : JT X W c T) (ha : JE X W a A) (hb : JE X W b B) : JE X W (.IfExp c a b pos) (eIf T A B) := by
  refine ⟨fun σ h Q Q' E E' hQ hE q => ht.mono σ h _ _ _ _ (fun c h1 q1 => ?_) hE q, PE.weak (pe_ifExp ht.run ha.run hb.run) fun σV H Q ⟨ι, σ, h, hS, hH, q⟩ => ?_⟩
  · cases c with
    | true => rw [if_pos rfl] at q1 ⊢; exact ha.mono σ h1 _ _ _ _ hQ hE q1
    | false => rw [if_neg Bool.false_ne_true] at q1 ⊢; exact hb.mono σ h1 _ _ _ _ hQ hE q1
  · refine tT.into ht.mono hS hH q (fun c h1 ι1 H1 q1 e1 hH1 => ?_) (fun c fs h1 ι1 dx H1 q1 => q1 ι1 dx H1)
    cases c with
    | true =>
      rw [if_pos rfl] at q1 ⊢
      exact tX.into ha.mono (hS.ext e1) hH1 q1 (fun c h2 ι2 v H2 q2 e2 hH2 => q2 ι2 v H2 (e1.trans e2) hH2) fun c fs h2 ι2 dx H2 q2 e2 => q2 ι2 dx H2 (e1.trans e2)
    | false =>
      rw [if_neg Bool.false_ne_true] at q1 ⊢
      exact tX.into hb.mono (hS.ext e1) hH1 q1 (fun c h2 ι2 v H2 q2 e2 hH2 => q2 ι2 v H2 (e1.trans e2) hH2) fun c fs h2 ι2 dx H2 q2 e2 => q2 ι2 dx H2 (e1.trans e2)
end

/-! ### arguments and displays -/
def eNil : LX (List D) := fun _ h Q _ => Q [] h
def eCons (a : LE) (r : LX (List D)) : LX (List D) := fun σ h Q E => a σ h (fun x h1 => r σ h1 (fun xs h2 => Q (x :: xs) h2) E) E
def eTup (r : LX (List D)) : LE := fun σ h Q E => r σ h (fun xs h1 => xs.length ≤ sizeLine ∧ Q (.tup xs) h1) E
/-- a list that nobody changes -/
def eLst (r : LX (List D)) : LE := fun σ h Q E => r σ h (fun xs h1 => xs.length ≤ sizeLine ∧ Q (.lst xs) h1) E
/-- a list that will be changed -/
def eLstM (r : LX (List D)) : LE := fun σ h Q E => r σ h (fun xs h1 => xs.length ≤ sizeLine ∧ Q (.ref h1.length) (h1 ++ [.lst xs])) E
section
variable {e : Expr} {es : List Expr} {A : LE} {R : LX (List D)} {pos : Pos}
theorem ja_nil : JA X W [] eNil := ⟨fun _ _ _ _ _ _ hQ _ q => hQ _ _ q, PA.weak pa_nil fun σV H Q ⟨ι, σ, h, hS, hH, q⟩ => q ι [] H (.refl _ _) hH rfl⟩
theorem ja_cons (ha : JE X W e A) (hr : JA X W es R) (hs : starEach (e :: es) X.env = (false, eval e X.env) :: starEach es X.env := by rfl) : JA X W (e :: es) (eCons A R) := by
  refine ⟨fun σ h Q Q' E E' hQ hE q => ha.mono σ h _ _ _ _ (fun d h1 q1 => hr.mono σ h1 _ _ _ _ (fun _ _ q2 => hQ _ _ q2) hE q1) hE q, PA.weak (pa_cons ha.run hr.run hs) fun σV H Q ⟨ι, σ, h, hS, hH, q⟩ => ?_⟩
  refine tX.into ha.mono hS hH q (fun x h1 ι1 vx H1 q1 e1 hH1 rx => ?_) (fun c fs h1 ι1 dx H1 q1 => q1 ι1 dx H1)
  refine tX.into hr.mono (hS.ext e1) hH1 q1 (fun xs h2 ι2 vs H2 q2 e2 hH2 rs => ?_) fun c fs h2 ι2 dx H2 q2 e2 => q2 ι2 dx H2 (e1.trans e2)
  exact q2 ι2 (vx :: vs) H2 (e1.trans e2) hH2 ⟨vx, vs, rfl, rx.ext e2, rs⟩
theorem je_tup {x1} (hr : JA X W es R) : JE X W (.Tuple es x1 pos) (eTup R) := by
  refine ⟨fun σ h Q Q' E E' hQ hE q => hr.mono σ h _ _ _ _ (fun xs h1 ⟨l, q1⟩ => ⟨l, hQ _ _ q1⟩) hE q, PE.weak (pe_tup hr.run) fun σV H Q ⟨ι, σ, h, hS, hH, q⟩ => ?_⟩
  refine tX.into hr.mono hS hH q (fun xs h1 ι1 vs H1 q1 e1 hH1 rs => ?_) (fun c fs h1 ι1 dx H1 q1 => q1 ι1 dx H1)
  obtain ⟨l, q1⟩ := q1
  refine ⟨by rw [← rs.length]; exact l, fun p hp => ?_⟩
  have ex : Ext ι1 H1 ι1 (upd H1 p (.tup vs)) := Ext.new hp
  exact q1 ι1 _ _ (e1.trans ex) (hH1.new hp) ⟨p, vs, rfl, SqT.of upd_same, rs.ext ex⟩
theorem je_lst (hr : JA X W es R) : JE X W (.List es pos) (eLst R) := by
  refine ⟨fun σ h Q Q' E E' hQ hE q => hr.mono σ h _ _ _ _ (fun xs h1 ⟨l, q1⟩ => ⟨l, hQ _ _ q1⟩) hE q, PE.weak (pe_lst hr.run) fun σV H Q ⟨ι, σ, h, hS, hH, q⟩ => ?_⟩
  refine tX.into hr.mono hS hH q (fun xs h1 ι1 vs H1 q1 e1 hH1 rs => ?_) (fun c fs h1 ι1 dx H1 q1 => q1 ι1 dx H1)
  obtain ⟨l, q1⟩ := q1
  refine ⟨by rw [← rs.length]; exact l, fun p hp => ?_⟩
  have ex : Ext ι1 H1 ι1 (upd H1 p (.lst vs)) := Ext.new hp
  exact q1 ι1 _ _ (e1.trans ex) (hH1.new hp) ⟨p, vs, rfl, .inl ⟨upd_same, hH1.notNew hp⟩, rs.ext ex⟩
theorem je_lstM (hr : JA X W es R) : JE X W (.List es pos) (eLstM R) := by
  refine ⟨fun σ h Q Q' E E' hQ hE q => hr.mono σ h _ _ _ _ (fun xs h1 ⟨l, q1⟩ => ⟨l, hQ _ _ q1⟩) hE q, PE.weak (pe_lst hr.run) fun σV H Q ⟨ι, σ, h, hS, hH, q⟩ => ?_⟩
  refine tX.into hr.mono hS hH q (fun xs h1 ι1 vs H1 q1 e1 hH1 rs => ?_) (fun c fs h1 ι1 dx H1 q1 => q1 ι1 dx H1)
  obtain ⟨l, q1⟩ := q1
  refine ⟨by rw [← rs.length]; exact l, fun p hp => ?_⟩
  have ex : Ext ι1 H1 (ι1.push p) (upd H1 p (.lst vs)) := Ext.push hp
  refine q1 _ _ _ (e1.trans ex) (hH1.push hp (fun _ z => by cases z) ⟨vs, upd_same, rs.ext ex⟩) ⟨p, ?_, rfl⟩
  rw [← hH1.len, List.getElem?_append_right (Nat.le_refl _), Nat.sub_self]
  rfl
end

/-! ### integers -/
section
variable {K : Frag}
def opI (C : Int → Int → Prop) (g : Int → Int → D) : LOp := fun x y h Q => match x, y with | .int i, .int j => C i j ∧ Q (g i j) h | _, _ => False
def opI0 (g : Int → Int → D) : LOp := fun x y h Q => match x, y with | .int i, .int j => Q (g i j) h | _, _ => False
theorem opsI {C : Int → Int → Prop} {g : Int → Int → V} {g' : Int → Int → D} (hg : ∀ i j ι H, RelD K ι H (g' i j) (g i j)) : OpS K (rI C g) (opI C g') := by
  refine ⟨fun x y h Q Q' hQ q => ?_, fun ι H h x y vx vy Q Qv hH rx ry q k => ?_⟩
  · unfold opI at *
    split at q
    · exact ⟨q.1, hQ _ _ q.2⟩
    · exact q.elim
  · unfold opI at q
    split at q
    · rename_i i j
      exact ⟨i, j, rx, ry, q.1, k _ h ι _ H q.2 (.refl _ _) hH (hg i j ι H)⟩
    · exact q.elim
theorem opsI0 {g : Int → Int → V} {g' : Int → Int → D} (hg : ∀ i j ι H, RelD K ι H (g' i j) (g i j)) : OpS K (rI0 g) (opI0 g') := by
  refine ⟨fun x y h Q Q' hQ q => ?_, fun ι H h x y vx vy Q Qv hH rx ry q k => ?_⟩
  · unfold opI0 at *
    split at q
    · exact hQ _ _ q
    · exact q.elim
  · unfold opI0 at q
    split at q
    · rename_i i j
      exact ⟨i, j, rx, ry, k _ h ι _ H q (.refl _ _) hH (hg i j ι H)⟩
    · exact q.elim
/-- either of two -/
def opOr (a b : LOp) : LOp := fun x y h Q => a x y h Q ∨ b x y h Q
theorem opsOr {r r' : R2} {a b : LOp} (ha : OpS K r a) (hb : OpS K r' b) : OpS K (fun x y H Q => r x y H Q ∨ r' x y H Q) (opOr a b) :=
  ⟨fun x y h Q Q' hQ q => q.elim (fun q => .inl (ha.mono x y h Q Q' hQ q)) fun q => .inr (hb.mono x y h Q Q' hQ q),
   fun ι H h x y vx vy Q Qv hH rx ry q k => q.elim (fun q => .inl (ha.run ι H h x y vx vy Q Qv hH rx ry q k)) fun q => .inr (hb.run ι H h x y vx vy Q Qv hH rx ry q k)⟩
abbrev oAdd : LOp := opI0 fun i j => .int (i + j)
abbrev oSub : LOp := opI0 fun i j => .int (i - j)
abbrev oMul : LOp := opI CMul fun i j => .int (i * j)
abbrev oMod : LOp := opI (fun _ j => 0 < j) fun i j => .int (i % j)
abbrev oDiv : LOp := opI CDiv fun i j => .int (i / j)
abbrev oPow : LOp := opI CPow fun i j => .int (i ^ j.toNat)
abbrev oLt : LOp := opI0 fun i j => .bl (decide (i < j))
abbrev oLe : LOp := opI0 fun i j => .bl (decide (i ≤ j))
abbrev oGt : LOp := opI0 fun i j => .bl (decide (j < i))
abbrev oGe : LOp := opI0 fun i j => .bl (decide (j ≤ i))
/-- == and != of flat values -/
def flatD : D → D → Option Bool
  | .non, .non => some true
  | .bl a, .bl b => some (a == b)
  | .int a, .int b => some (a == b)
  | .str a, .str b => some (a == b)
  | _, _ => none
def oEq : LOp := fun x y h Q => match x, y with
  | .int i, .int j => Q (.bl (decide (i = j))) h
  | .str i, .str j => Q (.bl (decide (i = j))) h
  | .bl i, .bl j => Q (.bl (decide (i = j))) h
  | _, _ => False
def oNe : LOp := fun x y h Q => match x, y with
  | .int i, .int j => Q (.bl (!decide (i = j))) h
  | .str i, .str j => Q (.bl (!decide (i = j))) h
  | .bl i, .bl j => Q (.bl (!decide (i = j))) h
  | _, _ => False
theorem opsEq : OpS K rEq oEq := by
  refine ⟨fun x y h Q Q' hQ q => ?_, fun ι H h x y vx vy Q Qv hH rx ry q k => ?_⟩
  · unfold oEq at *
    split at q <;> first | exact hQ _ _ q | exact q.elim
  · unfold oEq at q
    split at q
    · rename_i i j
      obtain rfl : vx = .int i := rx
      obtain rfl : vy = .int j := ry
      refine ⟨rfl, k _ h ι _ H q (.refl _ _) hH ?_⟩
      show V.bl _ = V.bl _
      exact congrArg V.bl (decide_eq_decide.mpr ⟨fun e => by injection e, fun e => by rw [e]⟩)
    · rename_i i j
      obtain rfl : vx = .str i := rx
      obtain rfl : vy = .str j := ry
      refine ⟨rfl, k _ h ι _ H q (.refl _ _) hH ?_⟩
      show V.bl _ = V.bl _
      exact congrArg V.bl (decide_eq_decide.mpr ⟨fun e => by injection e, fun e => by rw [e]⟩)
    · rename_i i j
      obtain rfl : vx = .bl i := rx
      obtain rfl : vy = .bl j := ry
      refine ⟨rfl, k _ h ι _ H q (.refl _ _) hH ?_⟩
      show V.bl _ = V.bl _
      exact congrArg V.bl (decide_eq_decide.mpr ⟨fun e => by injection e, fun e => by rw [e]⟩)
    · exact q.elim
theorem opsNe : OpS K rNe oNe := by
  refine ⟨fun x y h Q Q' hQ q => ?_, fun ι H h x y vx vy Q Qv hH rx ry q k => ?_⟩
  · unfold oNe at *
    split at q <;> first | exact hQ _ _ q | exact q.elim
  · unfold oNe at q
    split at q
    · rename_i i j
      obtain rfl : vx = .int i := rx
      obtain rfl : vy = .int j := ry
      refine ⟨rfl, k _ h ι _ H q (.refl _ _) hH ?_⟩
      show V.bl _ = V.bl _
      exact congrArg (fun z => V.bl (!z)) (decide_eq_decide.mpr ⟨fun e => by injection e, fun e => by rw [e]⟩)
    · rename_i i j
      obtain rfl : vx = .str i := rx
      obtain rfl : vy = .str j := ry
      refine ⟨rfl, k _ h ι _ H q (.refl _ _) hH ?_⟩
      show V.bl _ = V.bl _
      exact congrArg (fun z => V.bl (!z)) (decide_eq_decide.mpr ⟨fun e => by injection e, fun e => by rw [e]⟩)
    · rename_i i j
      obtain rfl : vx = .bl i := rx
      obtain rfl : vy = .bl j := ry
      refine ⟨rfl, k _ h ι _ H q (.refl _ _) hH ?_⟩
      show V.bl _ = V.bl _
      exact congrArg (fun z => V.bl (!z)) (decide_eq_decide.mpr ⟨fun e => by injection e, fun e => by rw [e]⟩)
    · exact q.elim
end
section
variable {a b : Expr} {A B : LE} {pos : Pos}
theorem je_add (ha : JE X W a A) (hb : JE X W b B) : JE X W (.BinOp a .Add b pos) (eOp oAdd A B) := je_op op_add (opsI0 fun _ _ _ _ => rfl) ha hb
theorem je_sub (ha : JE X W a A) (hb : JE X W b B) : JE X W (.BinOp a .Sub b pos) (eOp oSub A B) := je_op op_sub (opsI0 fun _ _ _ _ => rfl) ha hb
theorem je_mul (ha : JE X W a A) (hb : JE X W b B) : JE X W (.BinOp a .Mult b pos) (eOp oMul A B) := je_op op_mul (opsI fun _ _ _ _ => rfl) ha hb
theorem je_mod (ha : JE X W a A) (hb : JE X W b B) : JE X W (.BinOp a .Mod b pos) (eOp oMod A B) := je_op op_mod (opsI fun _ _ _ _ => rfl) ha hb
theorem je_div (ha : JE X W a A) (hb : JE X W b B) : JE X W (.BinOp a .FloorDiv b pos) (eOp oDiv A B) := je_op op_fdiv (opsI fun _ _ _ _ => rfl) ha hb
theorem je_pow (ha : JE X W a A) (hb : JE X W b B) : JE X W (.BinOp a .Pow b pos) (eOp oPow A B) := je_op op_pow (opsI fun _ _ _ _ => rfl) ha hb
theorem jt_lt (ha : JE X W a A) (hb : JE X W b B) : JT X W (.Compare a [.Lt] [b] pos) (eTest (eOp oLt A B)) := jt_cmp op_lt (opsI0 fun _ _ _ _ => rfl) ha hb (nomark _)
theorem jt_le (ha : JE X W a A) (hb : JE X W b B) : JT X W (.Compare a [.LtE] [b] pos) (eTest (eOp oLe A B)) := jt_cmp op_le (opsI0 fun _ _ _ _ => rfl) ha hb (nomark _)
theorem jt_gt (ha : JE X W a A) (hb : JE X W b B) : JT X W (.Compare a [.Gt] [b] pos) (eTest (eOp oGt A B)) := jt_cmp op_gt (opsI0 fun _ _ _ _ => rfl) ha hb (nomark _)
theorem jt_ge (ha : JE X W a A) (hb : JE X W b B) : JT X W (.Compare a [.GtE] [b] pos) (eTest (eOp oGe A B)) := jt_cmp op_ge (opsI0 fun _ _ _ _ => rfl) ha hb (nomark _)
theorem jt_eq (ha : JE X W a A) (hb : JE X W b B) : JT X W (.Compare a [.Eq] [b] pos) (eTest (eOp oEq A B)) := jt_cmp op_eq opsEq ha hb (nomark _)
theorem jt_ne (ha : JE X W a A) (hb : JE X W b B) : JT X W (.Compare a [.NotEq] [b] pos) (eTest (eOp oNe A B)) := jt_cmp op_ne opsNe ha hb (nomark _)
theorem je_lt (ha : JE X W a A) (hb : JE X W b B) : JE X W (.Compare a [.Lt] [b] pos) (eOp oLt A B) := je_cmp op_lt (opsI0 fun _ _ _ _ => rfl) ha hb (nomark _)
theorem je_le (ha : JE X W a A) (hb : JE X W b B) : JE X W (.Compare a [.LtE] [b] pos) (eOp oLe A B) := je_cmp op_le (opsI0 fun _ _ _ _ => rfl) ha hb (nomark _)
theorem je_gt (ha : JE X W a A) (hb : JE X W b B) : JE X W (.Compare a [.Gt] [b] pos) (eOp oGt A B) := je_cmp op_gt (opsI0 fun _ _ _ _ => rfl) ha hb (nomark _)
theorem je_ge (ha : JE X W a A) (hb : JE X W b B) : JE X W (.Compare a [.GtE] [b] pos) (eOp oGe A B) := je_cmp op_ge (opsI0 fun _ _ _ _ => rfl) ha hb (nomark _)
theorem je_eq (ha : JE X W a A) (hb : JE X W b B) : JE X W (.Compare a [.Eq] [b] pos) (eOp oEq A B) := je_cmp op_eq opsEq ha hb (nomark _)
theorem je_ne (ha : JE X W a A) (hb : JE X W b B) : JE X W (.Compare a [.NotEq] [b] pos) (eOp oNe A B) := je_cmp op_ne opsNe ha hb (nomark _)
end
end LL
end

section
set_option Elab.async false
set_option linter.all false
set_option maxRecDepth 100000
set_option maxHeartbeats 1000000
/-! LLStm: statements: blocks, assignments, if, while, for, return; targets. -/
namespace LL
open PySem PySem.Spec PyProof.Rows L2
variable {X : Cx} {W : WX}

def exOf (K : LK) (σ : LV) : XL := fun c fs h => K.ex c fs σ h
/-- the ends of a statement, in the abstract heap's words -/
abbrev up (K : Frag) (W : WX) (ι0 : Ad) (H0 : Hp) (Dn : Ends) : LK :=
  { nx := fun σ' h' => ∀ ι' σV' H', Ext ι0 H0 ι' H' → RelS K ι' H' σ' σV' → RelH K ι' H' h' → Dn.nx σV' H',
    rt := fun d h' => ∀ ι' v H', Ext ι0 H0 ι' H' → RelH K ι' H' h' → RelD K ι' H' d v → Dn.rt v H',
    bk := fun σ' h' => ∀ ι' σV' H', Ext ι0 H0 ι' H' → RelS K ι' H' σ' σV' → RelH K ι' H' h' → Dn.bk σV' H',
    ct := fun σ' h' => ∀ ι' σV' H', Ext ι0 H0 ι' H' → RelS K ι' H' σ' σV' → RelH K ι' H' h' → Dn.ct σV' H',
    ex := fun c fs σ' h' => ∀ ι' dx σV' H', Ext ι0 H0 ι' H' → RelS K ι' H' σ' σV' → RelH K ι' H' h' → RelX K ι' H' fs dx → W (.ref (He.ga K c)) dx σV' H' }
theorem tS_eq {K : Frag} {m : LS} {Dn : Ends} {σV : L2.St} {H : Hp} : tS K W m Dn σV H = ∃ ι0 H0 ι σ h, Ext ι0 H0 ι H ∧ RelS K ι H σ σV ∧ RelH K ι H h ∧ m σ h (up K W ι0 H0 Dn) := rfl
theorem LK.le.rfl' (A : LK) : A.le A := ⟨fun _ _ h => h, fun _ _ h => h, fun _ _ h => h, fun _ _ h => h, fun _ _ _ _ h => h⟩

/-! ### blocks -/
def sNil : LS := fun σ h K => K.nx σ h
def sSeq (a b : LS) : LS := fun σ h K => a σ h { K with nx := fun σ' h' => b σ' h' K }
theorem jss_nil : JSs X W [] sNil := ⟨fun σ h A B l q => l.nx _ _ q, PSs.weak pss_nil fun Dn σV H ⟨ι0, H0, ι, σ, h, e, hS, hH, q⟩ => q ι σV H e hS hH⟩
theorem jss_cons {st : Stmt} {rest : List Stmt} {a b : LS} (ha : JS X W st a) (hb : JSs X W rest b) : JSs X W (st :: rest) (sSeq a b) := by
  refine ⟨fun σ h A B l q => ha.mono σ h { A with nx := fun σ' h' => _ } { B with nx := fun σ' h' => _ } ⟨fun σ' h' q' => hb.mono σ' h' A B l q', l.rt, l.bk, l.ct, l.ex⟩ q, PSs.weak (pss_cons ha.run hb.run) fun Dn σV H ⟨ι0, H0, ι, σ, h, e, hS, hH, q⟩ => ?_⟩
  refine ⟨ι0, H0, ι, σ, h, e, hS, hH, ha.mono σ h _ _ ?_ q⟩
  exact ⟨fun σ' h' q' ι' σV' H' e' hS' hH' => ⟨ι0, H0, ι', σ', h', e', hS', hH', q'⟩, fun _ _ q => q, fun _ _ q => q, fun _ _ q => q, fun _ _ _ _ q => q⟩
theorem jss_one {st : Stmt} {a : LS} (ha : JS X W st a) : JSs X W [st] a := ⟨ha.mono, pss_one ha.run⟩
theorem js_pass {pos} : JS X W (.Pass pos) sNil := ⟨fun σ h A B l q => l.nx _ _ q, PS.weak ps_pass fun Dn σV H ⟨ι0, H0, ι, σ, h, e, hS, hH, q⟩ => q ι σV H e hS hH⟩
def sBrk : LS := fun σ h K => K.bk σ h
def sCnt : LS := fun σ h K => K.ct σ h
theorem js_brk {pos} : JS X W (.Break pos) sBrk := ⟨fun σ h A B l q => l.bk _ _ q, PS.weak ps_break fun Dn σV H ⟨ι0, H0, ι, σ, h, e, hS, hH, q⟩ => q ι σV H e hS hH⟩
theorem js_cnt {pos} : JS X W (.Continue pos) sCnt := ⟨fun σ h A B l q => l.ct _ _ q, PS.weak ps_continue fun Dn σV H ⟨ι0, H0, ι, σ, h, e, hS, hH, q⟩ => q ι σV H e hS hH⟩
def sNever : LS := fun _ _ _ => False
theorem js_never {st : Stmt} : JS X W st sNever := ⟨fun σ h A B l q => q.elim, PS.weak ps_never fun Dn σV H ⟨ι0, H0, ι, σ, h, e, hS, hH, q⟩ => q.elim⟩

/-- into an expression within a statement -/
theorem tE.stm {K : Frag} {m : LE} (hm : Mono m) {ι0 ι : Ad} {H0 H : Hp} {σ : LV} {h : LH} {σV : L2.St} {Dn : Ends} {Q : VK} (e : Ext ι0 H0 ι H) (hS : RelS K ι H σ σV) (hH : RelH K ι H h) {Q0 : D → LH → Prop}
    (q : m σ h Q0 (exOf (up K W ι0 H0 Dn) σ)) (hQ : ∀ d h1 ι1 v H1, Q0 d h1 → Ext ι H ι1 H1 → Ext ι0 H0 ι1 H1 → RelS K ι1 H1 σ σV → RelH K ι1 H1 h1 → RelD K ι1 H1 d v → Q v H1) : tE K W m σV H Q :=
  tX.into hm hS hH q (fun d h1 ι1 v H1 q1 e1 hH1 r => hQ d h1 ι1 v H1 q1 e1 (e.trans e1) (hS.ext e1) hH1 r) fun c fs h1 ι1 dx H1 q1 e1 hH1 r => q1 ι1 dx σV H1 (e.trans e1) (hS.ext e1) hH1 r
theorem tT.stm {K : Frag} {m : LX Bool} (hm : Mono m) {ι0 ι : Ad} {H0 H : Hp} {σ : LV} {h : LH} {σV : L2.St} {Dn : Ends} {Q : Bool → Hp → Prop} (e : Ext ι0 H0 ι H) (hS : RelS K ι H σ σV) (hH : RelH K ι H h) {Q0 : Bool → LH → Prop}
    (q : m σ h Q0 (exOf (up K W ι0 H0 Dn) σ)) (hQ : ∀ b h1 ι1 H1, Q0 b h1 → Ext ι H ι1 H1 → Ext ι0 H0 ι1 H1 → RelS K ι1 H1 σ σV → RelH K ι1 H1 h1 → Q b H1) : tT K W m σV H Q :=
  tT.into hm hS hH q (fun b h1 ι1 H1 q1 e1 hH1 => hQ b h1 ι1 H1 q1 e1 (e.trans e1) (hS.ext e1) hH1) fun c fs h1 ι1 dx H1 q1 e1 hH1 r => q1 ι1 dx σV H1 (e.trans e1) (hS.ext e1) hH1 r
theorem exOf.le {A B : LK} (l : A.le B) (σ : LV) : ∀ c fs h, exOf A σ c fs h → exOf B σ c fs h := fun c fs h q => l.ex c fs σ h q

def sExpr (m : LE) : LS := fun σ h K => m σ h (fun _ h1 => K.nx σ h1) (exOf K σ)
theorem js_expr {e : Expr} {m : LE} {pos : Pos} (he : JE X W e m) (hs : swapsWith e none pos.line X.env = pure false := by rfl) : JS X W (.Expr e pos) (sExpr m) :=
  ⟨fun σ h A B l q => he.mono σ h _ _ _ _ (fun _ h1 q1 => l.nx _ _ q1) (exOf.le l σ) q, PS.weak (ps_expr he.run hs) fun Dn σV H ⟨ι0, H0, ι, σ, h, e, hS, hH, q⟩ =>
    tE.stm he.mono e hS hH q fun d h1 ι1 v H1 q1 _ e1 hS1 hH1 _ => q1 ι1 σV H1 e1 hS1 hH1⟩
theorem js_doc {x j pos pos'} : JS X W (.Expr (.Constant (.str x) j pos) pos') sNil := ⟨fun σ h A B l q => l.nx _ _ q, PS.weak ps_doc fun Dn σV H ⟨ι0, H0, ι, σ, h, e, hS, hH, q⟩ => q ι σV H e hS hH⟩
def sRet (m : LE) : LS := fun σ h K => m σ h K.rt (exOf K σ)
theorem js_ret {e : Expr} {m : LE} {pos : Pos} (he : JE X W e m) : JS X W (.Return (some e) pos) (sRet m) :=
  ⟨fun σ h A B l q => he.mono σ h _ _ _ _ l.rt (exOf.le l σ) q, PS.weak (ps_ret he.run) fun Dn σV H ⟨ι0, H0, ι, σ, h, e, hS, hH, q⟩ =>
    tE.stm he.mono e hS hH q fun d h1 ι1 v H1 q1 _ e1 hS1 hH1 r => q1 ι1 v H1 e1 hH1 r⟩
def sRetN : LS := fun _ h K => K.rt .non h
theorem js_retN {pos} : JS X W (.Return none pos) sRetN := ⟨fun σ h A B l q => l.rt _ _ q, PS.weak ps_retN fun Dn σV H ⟨ι0, H0, ι, σ, h, e, hS, hH, q⟩ => q ι .non H e hH rfl⟩
def sIf (t : LX Bool) (a b : LS) : LS := fun σ h K => t σ h (fun c h1 => if c = true then a σ h1 K else b σ h1 K) (exOf K σ)
theorem js_if {c : Expr} {a b : List Stmt} {T : LX Bool} {A B : LS} {pos : Pos} (ht : JT X W c T) (ha : JSs X W a A) (hb : JSs X W b B) : JS X W (.If c a b pos) (sIf T A B) := by
  refine ⟨fun σ h A' B' l q => ht.mono σ h _ _ _ _ ?_ (exOf.le l σ) q, PS.weak (ps_if ht.run ha.run hb.run) fun Dn σV H ⟨ι0, H0, ι, σ, h, e, hS, hH, q⟩ => ?_⟩
  · intro c h1 q1
    cases c with
    | true => rw [if_pos rfl] at q1 ⊢; exact ha.mono σ h1 _ _ l q1
    | false => rw [if_neg Bool.false_ne_true] at q1 ⊢; exact hb.mono σ h1 _ _ l q1
  · refine tT.stm ht.mono e hS hH q fun c h1 ι1 H1 q1 _ e1 hS1 hH1 => ?_
    cases c with
    | true => rw [if_pos rfl] at q1 ⊢; exact ⟨ι0, H0, ι1, σ, h1, e1, hS1, hH1, q1⟩
    | false => rw [if_neg Bool.false_ne_true] at q1 ⊢; exact ⟨ι0, H0, ι1, σ, h1, e1, hS1, hH1, q1⟩

/-! ### targets -/
abbrev LG := D → LV → LH → (LV → LH → Prop) → XL → Prop
def MonoG (g : LG) : Prop := ∀ d σ h (Q Q' : LV → LH → Prop) (E E' : XL), (∀ σ h, Q σ h → Q' σ h) → (∀ c fs h, E c fs h → E' c fs h) → g d σ h Q E → g d σ h Q' E'
/-- the exception's slots are those ahead of the store: a target that may raise stores nothing before -/
def tG (K : Frag) (W : WX) (g : LG) : TG := fun v σV H Qv => ∃ ι σ h d, RelS K ι H σ σV ∧ RelH K ι H h ∧ RelD K ι H d v ∧
  g d σ h (fun σ' h' => ∀ ι' σV' H', Ext ι H ι' H' → RelS K ι' H' σ' σV' → RelH K ι' H' h' → Qv σV' H') (fun c fs h' => ∀ ι' dx σV' H', Ext ι H ι' H' → RelS K ι' H' σ σV' → RelH K ι' H' h' → RelX K ι' H' fs dx → W (.ref (He.ga K c)) dx σV' H')
structure JG (X : Cx) (W : WX) (tg : Expr) (g : LG) : Prop where
  mono : MonoG g
  run : PG X tg (tG X.K W g)
theorem PG.weak {tg : Expr} {t t' : TG} (h : PG X tg t) (w : ∀ v σ H Q, t' v σ H Q → t v σ H Q) : PG X tg t' := ⟨fun pins s σ H v u Q I r q => h.run pins s σ H v u Q I r (w _ _ _ _ q)⟩
theorem RelS.set {K : Frag} {ι : Ad} {H : Hp} {σ : LV} {σV : L2.St} (hS : RelS K ι H σ σV) (i : Nat) {d : D} {v : V} (r : RelD K ι H d v) : RelS K ι H (σ.set i (some d)) (σV.set i (some v)) := by
  refine ⟨by simpa using hS.1, fun j d' q => ?_⟩
  by_cases z : i = j
  · subst z
    have l := (List.getElem?_eq_some_iff.mp q).1
    rw [List.length_set] at l
    rw [List.getElem?_set_self l] at q
    cases q
    exact ⟨v, by rw [List.getElem?_set_self (by rw [← hS.1]; exact l)], r⟩
  · rw [List.getElem?_set_ne z] at q
    obtain ⟨v', e, r'⟩ := hS.2 j d' q
    exact ⟨v', by rw [List.getElem?_set_ne z]; exact e, r'⟩
def gNm (i : Nat) : LG := fun d σ h Q _ => Q (σ.set i (some d)) h
theorem jg_name {i : Nat} {x : Str} {pos : Pos} (h : PG X (.Name x pos) (gName i)) : JG X W (.Name x pos) (gNm i) :=
  ⟨fun d σ h Q Q' E E' hQ _ q => hQ _ _ q, PG.weak h fun v σV H Q ⟨ι, σ, h, d, hS, hH, r, q⟩ => q ι _ H (.refl _ _) (hS.set i r) hH⟩
def sAsg (m : LE) (g : LG) : LS := fun σ h K => m σ h (fun d h1 => g d σ h1 K.nx (exOf K σ)) (exOf K σ)
theorem js_asg {tg e : Expr} {m : LE} {g : LG} {pos : Pos} (he : JE X W e m) (hg : JG X W tg g) (hs : swapsWithSole [tg] e pos.line X.env = pure false := by rfl) (hw : swappedStores [tg] e X.env = pure none := by rfl) (h1 : (assignEach [tg] X.env).map (·.2) = [assign tg X.env] := by rfl) : JS X W (.Assign [tg] e pos) (sAsg m g) := by
  refine ⟨fun σ h A B l q => he.mono σ h _ _ _ _ (fun d h1 q1 => hg.mono d σ h1 _ _ _ _ l.nx (exOf.le l σ) q1) (exOf.le l σ) q, PS.weak (ps_asg he.run hg.run hs hw h1) fun Dn σV H ⟨ι0, H0, ι, σ, h, e, hS, hH, q⟩ => ?_⟩
  refine tE.stm he.mono e hS hH q fun d h1 ι1 v H1 q1 _ e1 hS1 hH1 r => ⟨ι1, σ, h1, d, hS1, hH1, r, ?_⟩
  exact hg.mono d σ h1 _ _ _ _ (fun σ' h' q' ι' σV' H' e' hS' hH' => q' ι' σV' H' (e1.trans e') hS' hH') (fun c fs h' q' ι' dx σV' H' e' hS' hH' r' => q' ι' dx σV' H' (e1.trans e') hS' hH' r') q1
theorem js_set {i : Nat} {x : Str} {e : Expr} {m : LE} {pos pos' : Pos} (he : JE X W e m) (h : ∀ {te : TE}, PE X e te → PS X (.Assign [.Name x pos'] e pos) (tAsg te (gName i))) : JS X W (.Assign [.Name x pos'] e pos) (sAsg m (gNm i)) := by
  refine ⟨fun σ h A B l q => he.mono σ h _ _ _ _ (fun d h1 q1 => l.nx _ _ q1) (exOf.le l σ) q, PS.weak (h he.run) fun Dn σV H ⟨ι0, H0, ι, σ, h, e, hS, hH, q⟩ => ?_⟩
  exact tE.stm he.mono e hS hH q fun d h1 ι1 v H1 q1 _ e1 hS1 hH1 r => q1 ι1 _ H1 e1 (hS1.set i r) hH1

/-! ### while -/
def sWhile (t : LX Bool) (b : LS) : LS := fun σ h K => ∃ I : Nat → LV → LH → Prop, (∃ m, I m σ h) ∧ ∀ m σ h, I m σ h → t σ h (fun c h1 => if c = true then
    b σ h1 { nx := fun σ' h' => ∃ m', m' < m ∧ I m' σ' h', ct := fun σ' h' => ∃ m', m' < m ∧ I m' σ' h', bk := K.nx, rt := K.rt, ex := K.ex } else K.nx σ h1) (exOf K σ)
theorem js_while {c : Expr} {body : List Stmt} {T : LX Bool} {B : LS} {pos : Pos} (hp : PassesOwn (model X.prog X.w) X.A X.env X.xe) (ht : JT X W c T) (hb : JSs X W body B) : JS X W (.While c body [] pos) (sWhile T B) := by
  refine ⟨fun σ h A B' l ⟨I, h0, hI⟩ => ⟨I, h0, fun m σ h q => ht.mono σ h _ _ _ _ ?_ (exOf.le l σ) (hI m σ h q)⟩, PS.weak (ps_while hp ht.run hb.run) fun Dn σV H ⟨ι0, H0, ι, σ, h, e, hS, hH, q⟩ => ?_⟩
  · intro c h1 q1
    cases c with
    | true => rw [if_pos rfl] at q1 ⊢; exact hb.mono σ h1 { A with nx := _, ct := _, bk := A.nx } { B' with nx := _, ct := _, bk := B'.nx } ⟨fun _ _ q => q, l.rt, l.nx, fun _ _ q => q, l.ex⟩ q1
    | false => rw [if_neg Bool.false_ne_true] at q1 ⊢; exact l.nx _ _ q1
  · obtain ⟨I, ⟨m0, h0⟩, hI⟩ := q
    refine ⟨fun m σV H => ∃ ι σ h, Ext ι0 H0 ι H ∧ RelS X.K ι H σ σV ∧ RelH X.K ι H h ∧ I m σ h, ⟨m0, ι, σ, h, e, hS, hH, h0⟩, ?_⟩
    rintro m σV1 H1 ⟨ι1, σ1, h1, e1, hS1, hH1, q1⟩
    refine tT.stm ht.mono e1 hS1 hH1 (hI m σ1 h1 q1) fun c h2 ι2 H2 q2 _ e2 hS2 hH2 => ?_
    cases c with
    | true =>
      rw [if_pos rfl] at q2 ⊢
      refine ⟨fun σV' H' => ∃ ι' σ' h', Ext ι0 H0 ι' H' ∧ RelS X.K ι' H' σ' σV' ∧ RelH X.K ι' H' h' ∧ ∃ m', m' < m ∧ I m' σ' h', fun σV' H' ⟨ι', σ', h', e', hS', hH', m', hm, q'⟩ => ⟨m', hm, ι', σ', h', e', hS', hH', q'⟩, ?_⟩
      refine ⟨ι0, H0, ι2, σ1, h2, e2, hS2, hH2, hb.mono σ1 h2 _ _ ?_ q2⟩
      exact ⟨fun σ' h' q' ι' σV' H' e' hS' hH' => ⟨ι', σ', h', e', hS', hH', q'⟩, fun _ _ q => q, fun _ _ q => q, fun σ' h' q' ι' σV' H' e' hS' hH' => ⟨ι', σ', h', e', hS', hH', q'⟩, fun _ _ _ _ q => q⟩
    | false => rw [if_neg Bool.false_ne_true] at q2 ⊢; exact q2 ι2 σV1 H2 e2 hS2 hH2

/-! ### for -/
/-- what is walked: the items, and what must stay true of the heap meanwhile -/
structure LIt where
  items : List D
  ok : LH → Prop
structure ItRel (K : Frag) (ι1 : Ad) (H1 : Hp) (J : LIt) (Jv : It) : Prop where
  stop : ∀ ι H h, Ext ι1 H1 ι H → RelH K ι H h → J.ok h → Jv.stop J.items.length H
  go : ∀ i x ι H h, J.items[i]? = some x → Ext ι1 H1 ι H → RelH K ι H h → J.ok h → Jv.go i H ∧ ∀ v H', Jv.yld i H v H' → Ext ι H ι H' ∧ RelH K ι H' h ∧ RelD K ι H' x v
abbrev LI := LX LIt
def tI (K : Frag) (W : WX) (m : LI) : TI := tX K W (fun ι H J Jv => ItRel K ι H J Jv) m
structure JI (X : Cx) (W : WX) (tg iter : Expr) (m : LI) : Prop where
  mono : Mono m
  run : PI X tg iter (tI X.K W m)
/-- later moments of the iteration -/
def sFor (m : LI) (g : LG) (b : LS) : LS := fun σ h K => m σ h (fun J h1 => ∃ I : Nat → LV → LH → Prop, I 0 σ h1 ∧ (∀ i σ h, i ≤ J.items.length → I i σ h → J.ok h) ∧
    (∀ i x σ h, J.items[i]? = some x → I i σ h → g x σ h (fun σ2 h2 => b σ2 h2 { nx := I (i + 1), ct := I (i + 1), bk := K.nx, rt := K.rt, ex := K.ex }) (exOf K σ)) ∧
    ∀ σ h, I J.items.length σ h → K.nx σ h) (exOf K σ)
theorem PI.weak {tg iter : Expr} {t t' : TI} (h : PI X tg iter t) (w : ∀ σ H Q, t' σ H Q → t σ H Q) : PI X tg iter t' := ⟨fun pins s σ H R I q => h.run pins s σ H R I (w _ _ _ q)⟩
theorem js_for {tg iter : Expr} {body : List Stmt} {m : LI} {g : LG} {B : LS} {pos : Pos} (hp : PassesOwn (model X.prog X.w) X.A X.env X.xe) (hc : X.calm = true) (hi : JI X W tg iter m) (hg : JG X W tg g) (hb : JSs X W body B)
    (hs : ∀ x, foldedSetIterable iter X.env x = pure x := by intro _; rfl) : JS X W (.For tg iter body [] pos) (sFor m g B) := by
  refine ⟨fun σ h A B' l q => hi.mono σ h _ _ _ _ ?_ (exOf.le l σ) q, PS.weak (ps_for hp hc hi.run hg.run hb.run hs) fun Dn σV H ⟨ι0, H0, ι, σ, h, e, hS, hH, q⟩ => ?_⟩
  · rintro J h1 ⟨I, h0, hok, hstep, hend⟩
    refine ⟨I, h0, hok, fun i x σ h e q => hg.mono x σ h _ _ _ _ (fun σ2 h2 q2 => hb.mono σ2 h2 { A with nx := _, ct := _, bk := A.nx } { B' with nx := _, ct := _, bk := B'.nx } ⟨fun _ _ q => q, l.rt, l.nx, fun _ _ q => q, l.ex⟩ q2) (exOf.le l σ) (hstep i x σ h e q), fun σ h q => l.nx _ _ (hend σ h q)⟩
  · refine tX.into hi.mono hS hH q (fun J h1 ι1 Jv H1 q1 e1 hH1 r => ?_) (fun c fs h1 ι1 dx H1 q1 e1 hH1 r => q1 ι1 dx σV H1 (e.trans e1) (hS.ext e1) hH1 r)
    obtain ⟨I, h0, hok, hstep, hend⟩ := q1
    refine ⟨fun i k σV' H' => k = J.items.length - i ∧ i ≤ J.items.length ∧ ∃ ι' σ' h', Ext ι0 H0 ι' H' ∧ Ext ι1 H1 ι' H' ∧ RelS X.K ι' H' σ' σV' ∧ RelH X.K ι' H' h' ∧ I i σ' h', ⟨_, rfl, Nat.zero_le _, ι1, σ, h1, e.trans e1, .refl _ _, hS.ext e1, hH1, h0⟩, ?_⟩
    rintro i k σV2 H2 ⟨rfl, hi2, ι2, σ2, h2, e2, f2, hS2, hH2, q2⟩
    have ok2 := hok i σ2 h2 hi2 q2
    by_cases hlt : i < J.items.length
    · obtain ⟨x, hx⟩ : ∃ x, J.items[i]? = some x := ⟨_, List.getElem?_eq_getElem hlt⟩
      obtain ⟨go, yl⟩ := r.go i x ι2 H2 h2 hx f2 hH2 ok2
      refine .inr ⟨go, fun σV' H' => ∃ ι' σ' h', Ext ι0 H0 ι' H' ∧ Ext ι1 H1 ι' H' ∧ RelS X.K ι' H' σ' σV' ∧ RelH X.K ι' H' h' ∧ I (i + 1) σ' h', fun σV' H' q' => ⟨_, by omega, rfl, hlt, q'⟩, fun v H3 y => ?_⟩
      obtain ⟨e3, hH3, r3⟩ := yl v H3 y
      have e03 := e2.trans e3
      refine ⟨ι2, σ2, h2, x, hS2.ext e3, hH3, r3, ?_⟩
      refine hg.mono x σ2 h2 _ _ _ _ (fun σ3 h3 q3 ι3 σV3 H4 e4 hS4 hH4 => ?_) (fun c fs h3 q3 ι3 dx σV3 H4 e4 hS4 hH4 r4 => q3 ι3 dx σV3 H4 (e03.trans e4) hS4 hH4 r4) (hstep i x σ2 h2 hx q2)
      refine ⟨ι1, H1, ι3, σ3, h3, f2.trans (e3.trans e4), hS4, hH4, hb.mono σ3 h3 _ _ ?_ q3⟩
      have e01 := e.trans e1
      exact ⟨fun σ' h' q' ι' σV' H' e' hS' hH' => ⟨ι', σ', h', e01.trans e', e', hS', hH', q'⟩, fun d h' q' ι' v' H' e' hH' r' => q' ι' v' H' (e01.trans e') hH' r', fun σ' h' q' ι' σV' H' e' hS' hH' => q' ι' σV' H' (e01.trans e') hS' hH',
        fun σ' h' q' ι' σV' H' e' hS' hH' => ⟨ι', σ', h', e01.trans e', e', hS', hH', q'⟩, fun c fs σ' h' q' ι' dx σV' H' e' hS' hH' r' => q' ι' dx σV' H' (e01.trans e') hS' hH' r'⟩
    · have ei : i = J.items.length := by omega
      subst ei
      exact .inl ⟨r.stop ι2 H2 h2 f2 hH2 ok2, hend σ2 h2 q2 ι2 σV2 H2 e2 hS2 hH2⟩
end LL
end

section
set_option Elab.async false
set_option linter.all false
set_option maxRecDepth 100000
set_option maxHeartbeats 1000000
/-! LLMore: None, chains, fields, subscripts, slices, stores, augmented stores, list methods. -/
namespace LL
open PySem PySem.Spec PyProof.Rows L2
variable {X : Cx} {W : WX}

/-! ### is None -/
def D.isNon : D → Bool | .non => true | _ => false
theorem RelD.isNon {K : Frag} {ι : Ad} {H : Hp} {d : D} {v : V} (r : RelD K ι H d v) : decide (v = V.non) = d.isNon := by
  cases d with
  | non => cases r; rfl
  | bl _ => cases r; rfl
  | int _ => cases r; rfl
  | str _ => cases r; rfl
  | tup _ => obtain ⟨a, vs, rfl, _⟩ := r; rfl
  | lst _ => obtain ⟨a, vs, rfl, _⟩ := r; rfl
  | ob _ _ _ => obtain ⟨a, dx, vs, rfl, _⟩ := r; rfl
  | ref _ => obtain ⟨a, _, rfl⟩ := r; rfl
  | dfn _ => cases r; rfl
  | fn _ _ _ _ => obtain ⟨rfl, _⟩ := r; rfl
  | dct _ _ => obtain ⟨a, vs, rfl, _⟩ := r; rfl
  | exc _ _ d _ _ => obtain ⟨rfl, _⟩ := r; rfl
def oIsN : LOp := fun x y h Q => match y with | .non => Q (.bl x.isNon) h | _ => False
def oNotN : LOp := fun x y h Q => match y with | .non => Q (.bl (!x.isNon)) h | _ => False
theorem opsIsN {K : Frag} : OpS K (fun x y H Q => y = .non ∧ Q (.bl (decide (x = .non))) H) oIsN := by
  refine ⟨fun x y h Q Q' hQ q => ?_, fun ι H h x y vx vy Q Qv hH rx ry q k => ?_⟩
  · unfold oIsN at *; split at q <;> first | exact hQ _ _ q | exact q.elim
  · unfold oIsN at q
    split at q
    · exact ⟨ry, by rw [rx.isNon]; exact k _ h ι _ H q (.refl _ _) hH rfl⟩
    · exact q.elim
theorem opsNotN {K : Frag} : OpS K (fun x y H Q => y = .non ∧ Q (.bl (!decide (x = .non))) H) oNotN := by
  refine ⟨fun x y h Q Q' hQ q => ?_, fun ι H h x y vx vy Q Qv hH rx ry q k => ?_⟩
  · unfold oNotN at *; split at q <;> first | exact hQ _ _ q | exact q.elim
  · unfold oNotN at q
    split at q
    · exact ⟨ry, by rw [rx.isNon]; exact k _ h ι _ H q (.refl _ _) hH rfl⟩
    · exact q.elim
section
variable {a b : Expr} {A B : LE} {pos : Pos}
theorem je_isN (ha : JE X W a A) (hb : JE X W b B) : JE X W (.Compare a [.Is] [b] pos) (eOp oIsN A B) := je_cmp op_isN opsIsN ha hb (nomark _)
theorem je_notN (ha : JE X W a A) (hb : JE X W b B) : JE X W (.Compare a [.IsNot] [b] pos) (eOp oNotN A B) := je_cmp op_notN opsNotN ha hb (nomark _)
theorem jt_isN (ha : JE X W a A) (hb : JE X W b B) : JT X W (.Compare a [.Is] [b] pos) (eTest (eOp oIsN A B)) := jt_cmp op_isN opsIsN ha hb (nomark _)
theorem jt_notN (ha : JE X W a A) (hb : JE X W b B) : JT X W (.Compare a [.IsNot] [b] pos) (eTest (eOp oNotN A B)) := jt_cmp op_notN opsNotN ha hb (nomark _)
end

/-! ### chains a op b op c -/
def eChain (o o' : LOp) (a b c : LE) : LE := fun σ h Q E => a σ h (fun x h1 => b σ h1 (fun y h2 => o x y h2 (fun z h3 => ∃ k, z = .bl k ∧
  if k = true then c σ h3 (fun w h4 => o' y w h4 Q) E else Q (.bl false) h3)) E) E
section
variable {op op' : CmpOp} {r r' : R2} {o o' : LOp} {a b c : Expr} {A B C : LE} {pos : Pos}
theorem mono_chain (hs : OpS X.K r o) (hs' : OpS X.K r' o') (ha : Mono A) (hb : Mono B) (hc : Mono C) : Mono (eChain o o' A B C) := fun σ h Q Q' E E' hQ hE q =>
  ha σ h _ _ _ _ (fun x h1 q1 => hb σ h1 _ _ _ _ (fun y h2 q2 => hs.mono _ _ _ _ _ (fun z h3 ⟨k, e, q3⟩ => ⟨k, e, by
    cases k with
    | true => rw [if_pos rfl] at q3 ⊢; exact hc σ h3 _ _ _ _ (fun w h4 q4 => hs'.mono _ _ _ _ _ hQ q4) hE q3
    | false => rw [if_neg Bool.false_ne_true] at q3 ⊢; exact hQ _ _ q3⟩) q2) hE q1) hE q
theorem chain_run (hs : OpS X.K r o) (hs' : OpS X.K r' o') (ha : Mono A) (hb : Mono B) (hc : Mono C) {σV : L2.St} {H : Hp} {Q : VK} (q : tE X.K W (eChain o o' A B C) σV H Q) : tChain r r' (tE X.K W A) (tE X.K W B) (tE X.K W C) σV H Q := by
  obtain ⟨ι, σ, h, hS, hH, q⟩ := q
  refine tX.into ha hS hH q (fun x h1 ι1 vx H1 q1 e1 hH1 rx => ?_) (fun c fs h1 ι1 dx H1 q1 => q1 ι1 dx H1)
  refine tX.into hb (hS.ext e1) hH1 q1 (fun y h2 ι2 vy H2 q2 e2 hH2 ry => ?_) (fun c fs h2 ι2 dx H2 q2 e2 => q2 ι2 dx H2 (e1.trans e2))
  refine hs.run ι2 H2 h2 x y vx vy _ _ hH2 (rx.ext e2) ry q2 fun z h3 ι3 v3 H3 ⟨k, e, q3⟩ e3 hH3 r3 => ?_
  subst e
  have e03 := e1.trans (e2.trans e3)
  refine ⟨k, r3, ?_⟩
  cases k with
  | true =>
    rw [if_pos rfl] at q3 ⊢
    refine tX.into hc (hS.ext e03) hH3 q3 (fun w h4 ι4 vw H4 q4 e4 hH4 rw' => ?_) (fun c fs h4 ι4 dx H4 q4 e4 => q4 ι4 dx H4 (e03.trans e4))
    exact hs'.run ι4 H4 h4 y w vy vw _ _ hH4 (ry.ext (e3.trans e4)) rw' q4 fun d h' ι' v H' q5 e5 => q5 ι' v H' (e03.trans (e4.trans e5))
  | false => rw [if_neg Bool.false_ne_true] at q3 ⊢; exact q3 ι3 _ H3 e03 hH3 rfl
theorem je_chain (ho : OpR X (compareOp op) r) (ho' : OpR X (compareOp op') r') (hs : OpS X.K r o) (hs' : OpS X.K r' o') (ha : JE X W a A) (hb : JE X W b B) (hc : JE X W c C) (hm : lastMarks [op, op'] [b, c] = false := by with_unfolding_all rfl) :
    JE X W (.Compare a [op, op'] [b, c] pos) (eChain o o' A B C) :=
  ⟨mono_chain hs hs' ha.mono hb.mono hc.mono, PE.weak (pe_chain ho ho' ha.run hb.run hc.run hm) fun _ _ _ q => chain_run hs hs' ha.mono hb.mono hc.mono q⟩
theorem jt_chain (ho : OpR X (compareOp op) r) (ho' : OpR X (compareOp op') r') (hs : OpS X.K r o) (hs' : OpS X.K r' o') (ha : JE X W a A) (hb : JE X W b B) (hc : JE X W c C) (hm : lastMarks [op, op'] [b, c] = false := by with_unfolding_all rfl) :
    JT X W (.Compare a [op, op'] [b, c] pos) (eTest (eChain o o' A B C)) :=
  ⟨mono_test (mono_chain hs hs' ha.mono hb.mono hc.mono), PT.weak (pt_chain ho ho' ha.run hb.run hc.run hm) fun _ _ _ q => chain_run (W := W) hs hs' ha.mono hb.mono hc.mono (test_run (mono_chain hs hs' ha.mono hb.mono hc.mono) q)⟩
abbrev oiLt : ∀ {K : Frag}, OpS K (rI0 fun i j => .bl (decide (i < j))) oLt := opsI0 fun _ _ _ _ => rfl
abbrev oiLe : ∀ {K : Frag}, OpS K (rI0 fun i j => .bl (decide (i ≤ j))) oLe := opsI0 fun _ _ _ _ => rfl
end

/-! ### fields -/
theorem RelFs.look {K : Frag} {ι : Ad} {H : Hp} {f : Str} {d : D} : ∀ {fs : List (Str × D)} {vs : List (Str × V)}, RelFs K ι H fs vs → fs.lookup f = some d → ∃ v, vs.lookup f = some v ∧ RelD K ι H d v
  | [], _, _, e => by cases e
  | (g, d') :: fs, _, ⟨v, r, h1, h2, h3⟩, e => by
    subst h1
    rw [List.lookup_cons] at e ⊢
    cases q : (f == g) with
    | true => rw [q] at e; cases e; exact ⟨v, rfl, h2⟩
    | false => rw [q] at e; exact RelFs.look h3 e
theorem RelFs.zip {K : Frag} {ι : Ad} {H : Hp} : ∀ {ns : List Str} {ds : List D} {vs : List V}, ns.length = ds.length → RelDs K ι H ds vs → RelFs K ι H (ns.zip ds) (ns.zip vs)
  | [], [], _, _, h => by cases h; exact rfl
  | n :: ns, d :: ds, _, l, ⟨v, r, h1, h2, h3⟩ => by subst h1; exact ⟨v, _, rfl, h2, RelFs.zip (by simpa using l) h3⟩
def putD (f : Str) (d : D) : List (Str × D) → List (Str × D)
  | [] => [(f, d)]
  | (g, e) :: r => if g = f then (g, d) :: r else (g, e) :: putD f d r
theorem RelFs.put {K : Frag} {ι : Ad} {H : Hp} {f : Str} {d : D} {v : V} (r : RelD K ι H d v) : ∀ {fs : List (Str × D)} {vs : List (Str × V)}, RelFs K ι H fs vs → RelFs K ι H (putD f d fs) (putF f v vs)
  | [], _, h => by cases h; exact ⟨v, [], rfl, r, rfl⟩
  | (g, d') :: fs, _, ⟨u, us, h1, h2, h3⟩ => by
    subst h1
    unfold putD putF
    split
    · exact ⟨v, us, rfl, r, h3⟩
    · exact ⟨u, _, rfl, h2, RelFs.put r h3⟩
theorem RelFs.length {K : Frag} {ι : Ad} {H : Hp} : ∀ {fs : List (Str × D)} {vs : List (Str × V)}, RelFs K ι H fs vs → fs.length = vs.length
  | [], _, h => by cases h; rfl
  | _ :: _, _, ⟨v, r, h1, _, h3⟩ => by subst h1; simp [RelFs.length h3]
/-- what a class is known to have -/
structure CF (K : Frag) (C f : Str) : Prop where
  c : Cls K (He.ga K C)
  n : NoAttr K (He.ga K C) f
/-- the field f of an instance of one of the classes Cs -/
def getF (Cs : List Str) (f : Str) (d : D) (h : LH) (Q : D → LH → Prop) : Prop := match d with
  | .ob C ns ds => C ∈ Cs ∧ ∃ v, (ns.zip ds).lookup f = some v ∧ Q v h
  | .ref n => match h[n]? with
    | some (.ins C fs) => C ∈ Cs ∧ ∃ v, fs.lookup f = some v ∧ Q v h
    | _ => False
  | _ => False
theorem getF_mono {Cs : List Str} {f : Str} {d : D} {h : LH} {Q Q' : D → LH → Prop} (hQ : ∀ d h, Q d h → Q' d h) (q : getF Cs f d h Q) : getF Cs f d h Q' := by
  unfold getF at *
  split at q
  · obtain ⟨c, v, e, q⟩ := q; exact ⟨c, v, e, hQ _ _ q⟩
  · split at q
    · obtain ⟨c, v, e, q⟩ := q; exact ⟨c, v, e, hQ _ _ q⟩
    · exact q.elim
  · exact q.elim
theorem getF_run {K : Frag} {Cs : List Str} {f : Str} (hc : ∀ C ∈ Cs, CF K C f) {ι : Ad} {H : Hp} {h : LH} {d : D} {v : V} {Q : D → LH → Prop} (hH : RelH K ι H h) (r : RelD K ι H d v) (q : getF Cs f d h Q) :
    ∃ a C dx fs d' v', v = .ref a ∧ H a = some (.ins C dx fs) ∧ Cls K C ∧ NoAttr K C f ∧ fs.lookup f = some v' ∧ RelD K ι H d' v' ∧ Q d' h := by
  unfold getF at q
  split at q
  · rename_i C ns ds
    obtain ⟨c, d', e, q⟩ := q
    obtain ⟨a, dx, vs, rfl, _, h2, h3, h4⟩ := r
    obtain ⟨v', e', r'⟩ := (RelFs.zip h3 h4).look e
    exact ⟨a, _, dx, _, d', v', rfl, h2, (hc C c).c, (hc C c).n, e', r', q⟩
  · rename_i n
    split at q
    · rename_i C fs ho
      obtain ⟨c, d', e, q⟩ := q
      obtain ⟨a, ha, rfl⟩ := r
      obtain ⟨dx, vs, h1, h2⟩ := hH.ins ha ho
      obtain ⟨v', e', r'⟩ := h2.look e
      exact ⟨a, _, dx, _, d', v', rfl, h1, (hc C c).c, (hc C c).n, e', r', q⟩
    · exact q.elim
  · exact q.elim
def eFld (Cs : List Str) (f : Str) (m : LE) : LE := fun σ h Q E => m σ h (fun d h1 => getF Cs f d h1 Q) E
theorem je_fld {Cs : List Str} {f : Str} {e : Expr} {m : LE} {pos : Pos} (hc : ∀ C ∈ Cs, CF X.K C f) (he : JE X W e m) (hb : attributeBase e f X.env (eval e X.env) = eval e X.env := by rfl) : JE X W (.Attribute e f pos) (eFld Cs f m) := by
  refine ⟨fun σ h Q Q' E E' hQ hE q => he.mono σ h _ _ _ _ (fun d h1 q1 => getF_mono hQ q1) hE q, PE.weak (pe_fld he.run hb) fun σV H Q ⟨ι, σ, h, hS, hH, q⟩ => ?_⟩
  refine tX.into he.mono hS hH q (fun d h1 ι1 v H1 q1 e1 hH1 r => ?_) (fun c fs h1 ι1 dx H1 q1 => q1 ι1 dx H1)
  obtain ⟨a, C, dx, fs, d', v', h1, h2, h3, h4, h5, h6, h7⟩ := getF_run hc hH1 r q1
  exact ⟨a, C, dx, fs, v', h1, h2, h3, h4, h5, h7 ι1 v' H1 e1 hH1 h6⟩
/-- the field f of the instance d is stored -/
def setF (Cs : List Str) (f : Str) (d v : D) (h : LH) (Q : LH → Prop) : Prop := match d with
  | .ref n => match h[n]? with
    | some (.ins C fs) => C ∈ Cs ∧ fs.length < 1000 ∧ Q (h.set n (.ins C (putD f v fs)))
    | _ => False
  | _ => False
theorem setF_mono {Cs : List Str} {f : Str} {d v : D} {h : LH} {Q Q' : LH → Prop} (hQ : ∀ h, Q h → Q' h) (q : setF Cs f d v h Q) : setF Cs f d v h Q' := by
  unfold setF at *
  split at q
  · split at q
    · exact ⟨q.1, q.2.1, hQ _ q.2.2⟩
    · exact q.elim
  · exact q.elim
theorem setF_run {K : Frag} {Cs : List Str} {f : Str} (hc : ∀ C ∈ Cs, CF K C f) {ι : Ad} {H : Hp} {h : LH} {d y : D} {v vy : V} {Q : LH → Prop} (hH : RelH K ι H h) (r : RelD K ι H d v) (ry : RelD K ι H y vy) (q : setF Cs f d y h Q) :
    ∃ a C dx fs h', v = .ref a ∧ H a = some (.ins C dx fs) ∧ Cls K C ∧ NoAttr K C f ∧ fs.length < 1000 ∧ Ext ι H ι (upd H a (.ins C dx (putF f vy fs))) ∧ RelH K ι (upd H a (.ins C dx (putF f vy fs))) h' ∧ Q h' := by
  unfold setF at q
  split at q
  · rename_i n
    split at q
    · rename_i C fs ho
      obtain ⟨c, l, q⟩ := q
      obtain ⟨a, ha, rfl⟩ := r
      obtain ⟨dx, vs, h1, h2⟩ := hH.ins ha ho
      have ex : Ext ι H ι (upd H a (.ins (He.ga K C) dx (putF f vy vs))) := Ext.write hH ha (by rw [h1]; trivial) trivial
      exact ⟨a, _, dx, _, _, rfl, h1, (hc C c).c, (hc C c).n, by rw [← h2.length]; exact l, ex, hH.write (o := .ins C (putD f y fs)) ha (by rw [h1]; trivial) ex ⟨dx, _, upd_same, (h2.ext ex).put (ry.ext ex)⟩, q⟩
    · exact q.elim
  · exact q.elim
def sFldA (Cs : List Str) (f : Str) (m o : LE) : LS := fun σ h K => m σ h (fun y h1 => o σ h1 (fun d h2 => setF Cs f d y h2 (K.nx σ)) (exOf K σ)) (exOf K σ)
theorem js_fld {Cs : List Str} {f : Str} {o value : Expr} {A V' : LE} {pos pos' : Pos} (hc : ∀ C ∈ Cs, CF X.K C f) (hv : JE X W value V') (ho : JE X W o A) (hs : swapsWith value (some (.Attribute o f pos')) pos.line X.env = pure false := by rfl) :
    JS X W (.Assign [.Attribute o f pos'] value pos) (sFldA Cs f V' A) := by
  refine ⟨fun σ h A' B l q => hv.mono σ h _ _ _ _ (fun y h1 q1 => ho.mono σ h1 _ _ _ _ (fun d h2 q2 => setF_mono (fun _ q3 => l.nx _ _ q3) q2) (exOf.le l σ) q1) (exOf.le l σ) q, PS.weak (ps_fld ho.run hv.run hs) fun Dn σV H ⟨ι0, H0, ι, σ, h, e, hS, hH, q⟩ => ?_⟩
  refine tE.stm hv.mono e hS hH q fun y h1 ι1 vy H1 q1 _ e1 hS1 hH1 ry => tE.stm ho.mono e1 hS1 hH1 q1 fun d h2 ι2 v H2 q2 f2 e2 hS2 hH2 r => ?_
  obtain ⟨a, C, dx, fs, h', z1, z2, z3, z4, z5, ex, hH3, q3⟩ := setF_run hc hH2 r (ry.ext f2) q2
  exact ⟨a, C, dx, fs, z1, z2, z3, z4, z5, q3 ι2 σV _ (e2.trans ex) (hS2.ext ex) hH3⟩
/-- e.f as a target -/
def gFld (K : Frag) (to : TE) (f : Str) : TG := fun v σ H Q => to σ H fun o H1 => ∃ a C dx fs, o = .ref a ∧ H1 a = some (.ins C dx fs) ∧ Cls K C ∧ NoAttr K C f ∧ fs.length < 1000 ∧ Q σ (upd H1 a (.ins C dx (putF f v fs)))
theorem pg_fld {o : Expr} {f : Str} {pos : Pos} {to : TE} (ho : PE X o to) : PG X (.Attribute o f pos) (gFld X.K to f) := by
  refine ⟨fun pins s σ H v u Q I r h => ?_⟩
  refine PySem.W.kas_attr (thn (ho.run pins s σ H _ I h) fun ov s1 ⟨x, H1, I1, r1, a, C, dx, fs, ex, ea, c, n, l, q⟩ => ?_)
  subst ex
  obtain rfl : ov = Value.ref a := r1
  exact setattr_ok I1 ea c n l r fun s2 I2 => ⟨σ, _, I2, q⟩
def gFd (Cs : List Str) (f : Str) (o : LE) : LG := fun d σ h Q E => o σ h (fun x h1 => setF Cs f x d h1 (Q σ)) E
theorem jg_fld {Cs : List Str} {f : Str} {o : Expr} {A : LE} {pos : Pos} (hc : ∀ C ∈ Cs, CF X.K C f) (ho : JE X W o A) : JG X W (.Attribute o f pos) (gFd Cs f A) := by
  refine ⟨fun d σ h Q Q' E E' hQ hE q => ho.mono σ h _ _ _ _ (fun x h1 q1 => setF_mono (fun _ q2 => hQ _ _ q2) q1) hE q, PG.weak (pg_fld ho.run) fun v σV H Q ⟨ι, σ, h, d, hS, hH, r, q⟩ => ?_⟩
  refine tX.into ho.mono hS hH q (fun x h1 ι1 vx H1 q1 e1 hH1 rx => ?_) (fun c fs h1 ι1 dx H1 q1 e1 => q1 ι1 dx σV H1 e1 (hS.ext e1))
  obtain ⟨a, C, dx, fs, h', z1, z2, z3, z4, z5, ex, hH3, q3⟩ := setF_run hc hH1 rx (r.ext e1) q1
  exact ⟨a, C, dx, fs, z1, z2, z3, z4, z5, q3 ι1 σV _ (e1.trans ex) (hS.ext (e1.trans ex)) hH3⟩
/-- (a, b, ..) as a target -/
def gNl : List D → LV → LH → (LV → LH → Prop) → XL → Prop := fun ds σ h Q _ => ds = [] ∧ Q σ h
def gCs (g : LG) (r : List D → LV → LH → (LV → LH → Prop) → XL → Prop) : List D → LV → LH → (LV → LH → Prop) → XL → Prop := fun ds σ h Q E => match ds with
  | d :: ds' => g d σ h (fun σ' h' => r ds' σ' h' Q E) E
  | [] => False
abbrev LGs := List D → LV → LH → (LV → LH → Prop) → XL → Prop
def MonoGs (g : LGs) : Prop := ∀ d σ h (Q Q' : LV → LH → Prop) (E E' : XL), (∀ σ h, Q σ h → Q' σ h) → (∀ c fs h, E c fs h → E' c fs h) → g d σ h Q E → g d σ h Q' E'
def NoW : WX := fun _ _ _ _ => False
/-- several targets: none of them may raise -/
def tGs (K : Frag) (g : LGs) : TGs := fun vs σV H Qv => ∃ ι σ h ds, RelS K ι H σ σV ∧ RelH K ι H h ∧ RelDs K ι H ds vs ∧
  g ds σ h (fun σ' h' => ∀ ι' σV' H', Ext ι H ι' H' → RelS K ι' H' σ' σV' → RelH K ι' H' h' → Qv σV' H') (fun _ _ _ => False)
structure JGs (X : Cx) (es : List Expr) (g : LGs) : Prop where
  mono : MonoGs g
  run : PGs X es (tGs X.K g)
theorem PGs.weak {es : List Expr} {t t' : TGs} (h : PGs X es t) (w : ∀ v σ H Q, t' v σ H Q → t v σ H Q) : PGs X es t' := ⟨fun pins s σ H v u Q I r q => h.run pins s σ H v u Q I r (w _ _ _ _ q)⟩
theorem jgs_nil : JGs X [] gNl := ⟨fun d σ h Q Q' E E' hQ hE q => ⟨q.1, hQ _ _ q.2⟩, PGs.weak pgs_nil fun vs σV H Q ⟨ι, σ, h, ds, hS, hH, r, e, q⟩ => by subst e; exact ⟨r, q ι σV H (.refl _ _) hS hH⟩⟩
theorem jgs_cons {e : Expr} {es : List Expr} {g : LG} {r : LGs} (hg : JG X W e g) (hr : JGs X es r) (hs : (assignEach (e :: es) X.env).map (·.2) = assign e X.env :: (assignEach es X.env).map (·.2) := by rfl) : JGs X (e :: es) (gCs g r) := by
  refine ⟨fun d σ h Q Q' E E' hQ hE q => ?_, PGs.weak (pgs_cons hg.run hr.run hs) fun vs σV H Q ⟨ι, σ, h, ds, hS, hH, rs, q⟩ => ?_⟩
  · unfold gCs at *
    split at q
    · exact hg.mono _ _ _ _ _ _ _ (fun σ' h' q' => hr.mono _ _ _ _ _ _ _ hQ hE q') hE q
    · exact q.elim
  · unfold gCs at q
    split at q
    · rename_i d ds'
      obtain ⟨v, vr, rfl, r1, r2⟩ := rs
      refine ⟨v, vr, rfl, ι, σ, h, d, hS, hH, r1, hg.mono _ _ _ _ _ _ _ (fun σ' h' q' ι' σV' H' e' hS' hH' => ?_) (fun c fs h q => q.elim) q⟩
      exact ⟨ι', σ', h', ds', hS', hH', r2.ext e', hr.mono _ _ _ _ _ _ _ (fun σ2 h2 q2 ι2 σV2 H2 e2 => q2 ι2 σV2 H2 (e'.trans e2)) (fun _ _ _ q => q) q'⟩
    · exact q.elim
def gTp (n : Nat) (r : LGs) : LG := fun d σ h Q _ => match d with
  | .tup ds => ds.length = n ∧ r ds σ h Q (fun _ _ _ => False)
  | _ => False
theorem jg_tup {es : List Expr} {k n : Nat} {r : LGs} {pos : Pos} (hc : X.calm = true) (h : JGs X es r) (hn : (assignEach es X.env).length = n := by rfl) (hst : (assignEach es X.env).findIdx? (·.1) = none := by rfl) :
    JG X W (.Tuple es k pos) (gTp n r) := by
  refine ⟨fun d σ h' Q Q' E E' hQ hE q => ?_, PG.weak (pg_tup hc h.run hn hst) fun v σV H Q ⟨ι, σ, h', d, hS, hH, rd, q⟩ => ?_⟩
  · unfold gTp at *
    split at q
    · exact ⟨q.1, h.mono _ _ _ _ _ _ _ hQ (fun _ _ _ q => q) q.2⟩
    · exact q.elim
  · unfold gTp at q
    split at q
    · rename_i ds
      obtain ⟨a, vs, rfl, ht, rs⟩ := rd
      exact ⟨a, vs, rfl, ht, by rw [← rs.length]; exact q.1, ι, σ, h', ds, hS, hH, rs, q.2⟩
    · exact q.elim

/-! ### subscripts -/
def atD (ds : List D) (i : Int) : Option D := atI ds i
theorem RelDs.atI {K : Frag} {ι : Ad} {H : Hp} {ds : List D} {vs : List V} {i : Int} {d : D} (r : RelDs K ι H ds vs) (e : atI ds i = some d) : ∃ v, L2.atI vs i = some v ∧ RelD K ι H d v := by
  unfold L2.atI at *
  rw [← r.length]
  cases q : ixN ds.length i with
  | none => rw [q] at e; cases e
  | some j => rw [q] at e; exact r.get e
/-- a list that is read: a frozen one, or an object -/
def seqL (d : D) (h : LH) (Q : List D → Prop) : Prop := match d with
  | .lst ds => Q ds
  | .ref n => match h[n]? with
    | some (.lst ds) => Q ds
    | _ => False
  | _ => False
theorem seqL_mono {d : D} {h : LH} {Q Q' : List D → Prop} (hQ : ∀ ds, Q ds → Q' ds) (q : seqL d h Q) : seqL d h Q' := by
  unfold seqL at *
  split at q
  · exact hQ _ q
  · split at q
    · exact hQ _ q
    · exact q.elim
  · exact q.elim
theorem seqL_run {K : Frag} {ι : Ad} {H : Hp} {h : LH} {d : D} {v : V} {Q : List D → Prop} (hH : RelH K ι H h) (r : RelD K ι H d v) (q : seqL d h Q) :
    ∃ a ds vs, v = .ref a ∧ SqL K H a vs ∧ RelDs K ι H ds vs ∧ Q ds := by
  unfold seqL at q
  split at q
  · obtain ⟨a, vs, rfl, h1, h2⟩ := r
    exact ⟨a, _, vs, rfl, h1.sq, h2, q⟩
  · split at q
    · rename_i ho
      obtain ⟨a, ha, rfl⟩ := r
      obtain ⟨vs, h1, h2⟩ := hH.lst ha ho
      exact ⟨a, _, vs, rfl, SqL.of h1, h2, q⟩
    · exact q.elim
  · exact q.elim
def seqA (d : D) (h : LH) (Q : List D → Prop) : Prop := match d with
  | .tup ds => Q ds
  | d => seqL d h Q
theorem seqA_mono {d : D} {h : LH} {Q Q' : List D → Prop} (hQ : ∀ ds, Q ds → Q' ds) (q : seqA d h Q) : seqA d h Q' := by
  unfold seqA at *
  split at q
  · exact hQ _ q
  · exact seqL_mono hQ q
theorem seqA_run {K : Frag} {ι : Ad} {H : Hp} {h : LH} {d : D} {v : V} {Q : List D → Prop} (hH : RelH K ι H h) (r : RelD K ι H d v) (q : seqA d h Q) :
    ∃ a ds vs, v = .ref a ∧ (SqL K H a vs ∨ SqT K H a vs) ∧ RelDs K ι H ds vs ∧ Q ds := by
  unfold seqA at q
  split at q
  · obtain ⟨a, vs, rfl, h1, h2⟩ := r
    exact ⟨a, _, vs, rfl, .inr h1, h2, q⟩
  · obtain ⟨a, ds, vs, h1, h2, h3, h4⟩ := seqL_run hH r q
    exact ⟨a, ds, vs, h1, .inl h2, h3, h4⟩
def oIx : LOp := fun x y h Q => match y with
  | .int i => seqA x h fun ds => ∃ d, atI ds i = some d ∧ Q d h
  | _ => False
theorem opsIx {K : Frag} : OpS K (rIx K) oIx := by
  refine ⟨fun x y h Q Q' hQ q => ?_, fun ι H h x y vx vy Q Qv hH rx ry q k => ?_⟩
  · unfold oIx at *
    split at q
    · exact seqA_mono (fun ds ⟨d, e, q⟩ => ⟨d, e, hQ _ _ q⟩) q
    · exact q.elim
  · unfold oIx at q
    split at q
    · rename_i i
      obtain rfl : vy = .int i := ry
      obtain ⟨a, ds, vs, rfl, h1, h2, d, e, q⟩ := seqA_run hH rx q
      obtain ⟨v, e', r'⟩ := h2.atI e
      have fin := k d h ι v H q (.refl _ _) hH r'
      rcases h1 with h1 | h1
      · exact .inl ⟨a, vs, i, v, rfl, rfl, h1, e', fin⟩
      · exact .inr (.inl ⟨a, vs, i, v, rfl, rfl, h1, e', fin⟩)
    · exact q.elim
theorem je_ix {a b : Expr} {A B : LE} {pos : Pos} (ha : JE X W a A) (hb : JE X W b B) (hs : PlainIx b := by intro _ _; rfl) : JE X W (.Subscript a b pos) (eOp oIx A B) :=
  ⟨mono_op (opsIx (K := X.K)).mono ha.mono hb.mono, PE.weak (pe_ix ix_seq ha.run hb.run hs) fun _ _ _ q => op_run opsIx ha.mono hb.mono q⟩

/-! ### slices -/
abbrev LO := LX (Option Int)
structure JO (X : Cx) (W : WX) (e : Option Expr) (m : LO) : Prop where
  mono : Mono m
  run : PO X e (tX X.K W (fun _ _ a b => a = b) m)
def eNoPart : LO := fun _ h Q _ => Q none h
def eSomePart (m : LE) : LO := fun σ h Q E => m σ h (fun d h1 => match d with | .int i => Q (some i) h1 | _ => False) E
theorem PO.weak {e : Option Expr} {t t' : TO} (h : PO X e t) (w : ∀ σ H Q, t' σ H Q → t σ H Q) : PO X e t' := ⟨fun pins s σ H Q I q => h.run pins s σ H Q I (w _ _ _ q)⟩
theorem jo_none : JO X W none eNoPart := ⟨fun _ _ _ _ _ _ hQ _ q => hQ _ _ q, PO.weak po_none fun σV H Q ⟨ι, σ, h, hS, hH, q⟩ => q ι none H (.refl _ _) hH rfl⟩
theorem jo_some {e : Expr} {m : LE} (he : JE X W e m) : JO X W (some e) (eSomePart m) := by
  refine ⟨fun σ h Q Q' E E' hQ hE q => he.mono σ h _ _ _ _ (fun d h1 q1 => ?_) hE q, PO.weak (po_some he.run) fun σV H Q ⟨ι, σ, h, hS, hH, q⟩ => ?_⟩
  · split at q1
    · exact hQ _ _ q1
    · exact q1.elim
  · refine tX.into he.mono hS hH q (fun d h1 ι1 v H1 q1 e1 hH1 r => ?_) (fun c fs h1 ι1 dx H1 q1 => q1 ι1 dx H1)
    split at q1
    · rename_i i
      exact ⟨i, r, q1 ι1 _ H1 e1 hH1 rfl⟩
    · exact q1.elim
def cutD (ds : List D) (lo hi : Option Int) : List D := (ds.drop (HT.sIx ds.length 0 lo)).take (HT.sIx ds.length ds.length hi - HT.sIx ds.length 0 lo)
theorem RelDs.cut {K : Frag} {ι : Ad} {H : Hp} {ds : List D} {vs : List V} (r : RelDs K ι H ds vs) (lo hi : Option Int) : RelDs K ι H (cutD ds lo hi) (cutV vs lo hi) := by
  unfold cutD cutV
  rw [r.length]
  exact (r.drop _).take _
/-- a slice of a list (a new one that nobody changes) or of a tuple -/
def eSl (m : LE) (lo hi : LO) : LE := fun σ h Q E => m σ h (fun x h1 => lo σ h1 (fun l h2 => hi σ h2 (fun u h3 => match x with
  | .tup ds => ¬ (HT.sIx ds.length 0 l = 0 ∧ HT.sIx ds.length ds.length u = ds.length) ∧ Q (.tup (cutD ds l u)) h3
  | d => seqL d h3 fun ds => Q (.lst (cutD ds l u)) h3) E) E) E
theorem je_sl {e : Expr} {lo hi : Option Expr} {m : LE} {l u : LO} {p2 pos : Pos} (he : JE X W e m) (hl : JO X W lo l) (hu : JO X W hi u) (h : ∀ {r : V → Option Int → Option Int → Hp → VK → Prop} {te : TE} {tl th : TO}, SlR X r → PE X e te → PO X lo tl → PO X hi th → PE X (.Subscript e (.Slice lo hi none p2) pos) (tSl r te tl th) := by exact fun a b c d => pe_slice a b c d) :
    JE X W (.Subscript e (.Slice lo hi none p2) pos) (eSl m l u) := by
  refine ⟨fun σ h Q Q' E E' hQ hE q => he.mono σ h _ _ _ _ (fun x h1 q1 => hl.mono σ h1 _ _ _ _ (fun l h2 q2 => hu.mono σ h2 _ _ _ _ (fun u h3 q3 => ?_) hE q2) hE q1) hE q, PE.weak (h (SlR.or sl_tup sl_list) he.run hl.run hu.run) fun σV H Q ⟨ι, σ, h, hS, hH, q⟩ => ?_⟩
  · split at q3
    · exact ⟨q3.1, hQ _ _ q3.2⟩
    · exact seqL_mono (fun ds q => hQ _ _ q) q3
  · refine tX.into he.mono hS hH q (fun x h1 ι1 vx H1 q1 e1 hH1 rx => ?_) (fun c fs h1 ι1 dx H1 q1 => q1 ι1 dx H1)
    refine tX.into hl.mono (hS.ext e1) hH1 q1 (fun l h2 ι2 lv H2 q2 e2 hH2 rl => ?_) (fun c fs h2 ι2 dx H2 q2 e2 => q2 ι2 dx H2 (e1.trans e2))
    refine tX.into hu.mono (hS.ext (e1.trans e2)) hH2 q2 (fun u h3 ι3 uv H3 q3 e3 hH3 ru => ?_) (fun c fs h3 ι3 dx H3 q3 e3 => q3 ι3 dx H3 (e1.trans (e2.trans e3)))
    subst rl ru
    have e03 := e1.trans (e2.trans e3)
    have rx3 := rx.ext (e2.trans e3)
    split at q3
    · rename_i ds
      obtain ⟨a, vs, rfl, ht, rs⟩ := rx3
      refine .inl ⟨a, vs, rfl, ht, by rw [← rs.length]; exact q3.1, fun p hp => ?_⟩
      have ex : Ext ι3 H3 ι3 (upd H3 p (.tup (cutV vs l u))) := Ext.new hp
      exact q3.2 ι3 _ _ (e03.trans ex) (hH3.new hp) ⟨p, _, rfl, SqT.of upd_same, (rs.cut l u).ext ex⟩
    · obtain ⟨a, ds, vs, rfl, hs, rs, q4⟩ := seqL_run hH3 rx3 q3
      refine .inr ⟨a, vs, rfl, hs, fun p hp => ?_⟩
      have ex : Ext ι3 H3 ι3 (upd H3 p (.lst (cutV vs l u))) := Ext.new hp
      exact q4 ι3 _ _ (e03.trans ex) (hH3.new hp) ⟨p, _, rfl, .inl ⟨upd_same, hH3.notNew hp⟩, (rs.cut l u).ext ex⟩

/-! ### stores into lists -/
def setL (o i v : D) (h : LH) (Q : LH → Prop) : Prop := match o, i with
  | .ref n, .int k => match h[n]? with
    | some (.lst ds) => ∃ j, ixN ds.length k = some j ∧ Q (h.set n (.lst (ds.set j v)))
    | _ => False
  | _, _ => False
theorem setL_mono {o i v : D} {h : LH} {Q Q' : LH → Prop} (hQ : ∀ h, Q h → Q' h) (q : setL o i v h Q) : setL o i v h Q' := by
  unfold setL at *
  split at q
  · split at q
    · obtain ⟨j, e, q⟩ := q; exact ⟨j, e, hQ _ q⟩
    · exact q.elim
  · exact q.elim
theorem setL_run {K : Frag} {ι : Ad} {H : Hp} {h : LH} {o i v : D} {vo vi vv : V} {Q : LH → Prop} {Qv : Hp → Prop} (hH : RelH K ι H h) (ro : RelD K ι H o vo) (ri : RelD K ι H i vi) (rv : RelD K ι H v vv) (q : setL o i v h Q)
    (k : ∀ h' H', Q h' → Ext ι H ι H' → RelH K ι H' h' → Qv H') : rSetL vo vi vv H Qv := by
  unfold setL at q
  split at q
  · rename_i n k'
    split at q
    · rename_i ds ho
      obtain ⟨j, e, q⟩ := q
      obtain ⟨a, ha, rfl⟩ := ro
      obtain rfl : vi = .int k' := ri
      obtain ⟨vs, h1, h2⟩ := hH.lst ha ho
      have ex : Ext ι H ι (upd H a (.lst (vs.set j vv))) := Ext.write hH ha (by rw [h1]; trivial) trivial
      exact ⟨a, vs, k', j, rfl, rfl, h1, by rw [← h2.length]; exact e, k _ _ q ex (hH.write (o := .lst (ds.set j v)) ha (by rw [h1]; trivial) ex ⟨_, upd_same, (h2.ext ex).set (rv.ext ex) j⟩)⟩
    · exact q.elim
  · exact q.elim
def gSb (o i : LE) : LG := fun d σ h Q E => o σ h (fun x h1 => i σ h1 (fun y h2 => setL x y d h2 (Q σ)) E) E
theorem jg_sub {o i : Expr} {A B : LE} {pos : Pos} (ho : JE X W o A) (hi : JE X W i B) (h : ∀ {to ti : TE}, PE X o to → PE X i ti → PG X (.Subscript o i pos) (gSub to ti rSetL) := by exact fun a b => pg_sub a b set_list) : JG X W (.Subscript o i pos) (gSb A B) := by
  refine ⟨fun d σ h Q Q' E E' hQ hE q => ho.mono σ h _ _ _ _ (fun x h1 q1 => hi.mono σ h1 _ _ _ _ (fun y h2 q2 => setL_mono (fun _ q3 => hQ _ _ q3) q2) hE q1) hE q, PG.weak (h ho.run hi.run) fun v σV H Q ⟨ι, σ, h, d, hS, hH, r, q⟩ => ?_⟩
  refine tX.into ho.mono hS hH q (fun x h1 ι1 vx H1 q1 e1 hH1 rx => ?_) (fun c fs h1 ι1 dx H1 q1 e1 => q1 ι1 dx σV H1 e1 (hS.ext e1))
  refine tX.into hi.mono (hS.ext e1) hH1 q1 (fun y h2 ι2 vy H2 q2 e2 hH2 ry => ?_) (fun c fs h2 ι2 dx H2 q2 e2 => q2 ι2 dx σV H2 (e1.trans e2) (hS.ext (e1.trans e2)))
  have e02 := e1.trans e2
  exact setL_run hH2 (rx.ext e2) ry (r.ext e02) q2 fun h' H' q3 e3 hH3 => q3 ι2 σV H' (e02.trans e3) (hS.ext (e02.trans e3)) hH3

/-! ### augmented stores -/
def rGetL (K : Frag) : V → V → Hp → VK → Prop := rIxL K
theorem get_list : PGet X (rGetL X.K) := by
  intro pins s σ H o i ov iv Q I ro ri h
  obtain ⟨p, xs, k, z, rfl, rfl, hq, he, q⟩ := h
  cases ro
  obtain ⟨t, rfl⟩ := ri
  obtain ⟨its, r, pl, hz⟩ := I.list hq
  obtain ⟨j, h1, h2, h3, h4, h5⟩ := atI_get he
  obtain ⟨w, ew, rw'⟩ := r.get h2
  have hl := r.length
  have hn := line63
  have fin : EP X pins σ Q w s := ⟨z, H, I, rw', q⟩
  by_cases h0 : 0 ≤ k
  · have hj : k.toNat = j := by
      rw [seqIndex_of h0 h5] at h1
      exact Option.some.inj h1
    exact PySem.wpAny_getItem_list pl.isList h0 (by omega) (by rw [hj]; simpa using ew) fin
  · have hj : (k + (its.toArray.size : Int)).toNat = j := by
      rw [seqIndex_neg (by omega) h4] at h1
      rw [List.size_toArray, ← hl]
      exact Option.some.inj h1
    exact PySem.wpAny_getItem_list_neg pl.isList (by omega) (by rw [List.size_toArray] <;> omega) (by omega) (by rw [hj]; simpa using ew) fin
def getI (x y : D) (h : LH) (p : Int) : Prop := match y with | .int k => seqL x h fun ds => atI ds k = some (.int p) | _ => False
/-- o[i] op= e for lists of ints -/
def sAugS (o i e : LE) (f : Int → Int → Int) : LS := fun σ h K => o σ h (fun x h1 => i σ h1 (fun y h2 => ∃ p, getI x y h2 p ∧
  e σ h2 (fun z h3 => match z with | .int q => setL x y (.int (f p q)) h3 (K.nx σ) | _ => False) (exOf K σ)) (exOf K σ)) (exOf K σ)
theorem js_augS {o i e : Expr} {A B C : LE} {op : Operator} {f : Int → Int → Int} {tpos pos : Pos} (ho : JE X W o A) (hi : JE X W i B) (he : JE X W e C) (hp : PIp X op (ipI f))
    (h : ∀ {to ti te : TE} {tget : V → V → Hp → VK → Prop} {tip : TIp} {tset : TSet}, PE X o to → PE X i ti → PGet X tget → PE X e te → PIp X op tip → PSet X tset → PS X (.AugAssign (.Subscript o i tpos) op e pos) (tAugS to ti te tget tip tset) := by exact fun a b c d e f => ps_augS a b c d e f) :
    JS X W (.AugAssign (.Subscript o i tpos) op e pos) (sAugS A B C f) := by
  refine ⟨?_, PS.weak (h ho.run hi.run get_list he.run hp set_list) fun Dn σV H ⟨ι0, H0, ι, σ, h, e, hS, hH, q⟩ => ?_⟩
  · intro σ h A' B' l q
    refine ho.mono σ h _ _ _ _ (fun x h1 q1 => ?_) (exOf.le l σ) q
    refine hi.mono σ h1 _ _ _ _ (fun y h2 q2 => ?_) (exOf.le l σ) q1
    obtain ⟨p, e, q2⟩ := q2
    refine ⟨p, e, he.mono σ h2 _ _ _ _ (fun z h3 q3 => ?_) (exOf.le l σ) q2⟩
    split at q3
    · exact setL_mono (fun _ q => l.nx _ _ q) q3
    · exact q3.elim
  · refine tE.stm ho.mono e hS hH q fun x h1 ι1 vx H1 q1 f1 e1 hS1 hH1 rx => tE.stm hi.mono e1 hS1 hH1 q1 fun y h2 ι2 vy H2 qq f2 e2 hS2 hH2 ry => ?_
    obtain ⟨p, g, q2⟩ := qq
    unfold getI at g
    split at g
    · rename_i k
      obtain rfl : vy = .int k := ry
      obtain ⟨a, ds, vs, rfl, h3, h4, h5⟩ := seqL_run hH2 (rx.ext f2) g
      obtain ⟨v', h6, h7⟩ := h4.atI h5
      obtain rfl : v' = .int p := h7
      refine ⟨a, vs, k, .int p, rfl, rfl, h3, h6, ?_⟩
      refine tE.stm he.mono e2 hS2 hH2 q2 fun z h3 ι3 vz H3 q3 f3 e3 hS3 hH3 rz => ?_
      split at q3
      · rename_i q0
        obtain rfl : vz = .int q0 := rz
        refine ⟨p, q0, rfl, rfl, ?_⟩
        exact setL_run (v := .int (f p q0)) (vv := .int (f p q0)) (i := .int k) (vi := .int k) hH3 ((rx.ext f2).ext f3) rfl rfl q3 fun h' H' q4 e4 hH4 => q4 ι3 σV H' (e3.trans e4) (hS3.ext e4) hH4
      · exact q3.elim
    · exact g.elim
/-- a local name op= e -/
def sAug (i : Nat) (e : LE) (f : Int → Int → Int) : LS := fun σ h K => ∃ p, σ[i]? = some (some (.int p)) ∧ e σ h (fun z h1 => match z with | .int q => K.nx (σ.set i (some (.int (f p q)))) h1 | _ => False) (exOf K σ)
theorem js_aug {i : Nat} {x : Str} {e : Expr} {C : LE} {op : Operator} {f : Int → Int → Int} {pos pos' : Pos} (he : JE X W e C) (h : ∀ {te : TE}, PE X e te → PS X (.AugAssign (.Name x pos') op e pos) (tAug i te (ipI f))) : JS X W (.AugAssign (.Name x pos') op e pos) (sAug i C f) := by
  refine ⟨fun σ h A' B' l ⟨p, e, q⟩ => ⟨p, e, he.mono σ h _ _ _ _ (fun z h1 q1 => ?_) (exOf.le l σ) q⟩, PS.weak (h he.run) fun Dn σV H ⟨ι0, H0, ι, σ, h, e, hS, hH, p, g, q⟩ => ?_⟩
  · split at q1
    · exact l.nx _ _ q1
    · exact q1.elim
  · obtain ⟨v, h1, h2⟩ := hS.2 i _ g
    obtain rfl : v = .int p := h2
    refine ⟨.int p, h1, tE.stm he.mono e hS hH q fun z h1 ι1 vz H1 q1 f1 e1 hS1 hH1 rz => ?_⟩
    split at q1
    · rename_i q0
      obtain rfl : vz = .int q0 := rz
      exact ⟨p, q0, rfl, rfl, q1 ι1 _ H1 e1 (hS1.set i rfl) hH1⟩
    · exact q1.elim
/-- o.f op= e, an int field -/
def sAugF (Cs : List Str) (f : Str) (o e : LE) (g : Int → Int → Int) : LS := fun σ h K => o σ h (fun x h1 => ∃ n C fs p, x = .ref n ∧ h1[n]? = some (.ins C fs) ∧ C ∈ Cs ∧ fs.lookup f = some (.int p) ∧
  e σ h1 (fun z h2 => match z with | .int q => ∃ fs', h2[n]? = some (.ins C fs') ∧ fs'.length < 1000 ∧ K.nx σ (h2.set n (.ins C (putD f (.int (g p q)) fs'))) | _ => False) (exOf K σ)) (exOf K σ)
theorem js_augF {Cs : List Str} {fl : Str} {o e : Expr} {A C : LE} {op : Operator} {rd : V → V → Hp → VK → Prop} {f : Int → Int → Int} {tpos pos : Pos} (hc : ∀ C ∈ Cs, CF X.K C fl) (ho : JE X W o A) (he : JE X W e C) (hop : InOp X op rd) (hrd : ∀ p q H (Q : VK), Q (.int (f p q)) H → rd (.int p) (.int q) H Q) :
    JS X W (.AugAssign (.Attribute o fl tpos) op e pos) (sAugF Cs fl A C f) := by
  refine ⟨?_, PS.weak (ps_fldaug ho.run he.run hop) fun Dn σV H ⟨ι0, H0, ι, σ, h, e, hS, hH, q⟩ => ?_⟩
  · intro σ h A' B' l q
    refine ho.mono σ h _ _ _ _ (fun x h1 q1 => ?_) (exOf.le l σ) q
    obtain ⟨n, C', fs, p, z1, z2, z3, z4, q1⟩ := q1
    refine ⟨n, C', fs, p, z1, z2, z3, z4, he.mono σ h1 _ _ _ _ (fun z h2 q2 => ?_) (exOf.le l σ) q1⟩
    split at q2
    · obtain ⟨fs', y1, y2, q⟩ := q2; exact ⟨fs', y1, y2, l.nx _ _ q⟩
    · exact q2.elim
  · refine tE.stm ho.mono e hS hH q fun x h1 ι1 vx H1 ⟨n, C', fs, p, z1, z2, z3, z4, q1⟩ f1 e1 hS1 hH1 rx => ?_
    subst z1
    obtain ⟨a, ha, rfl⟩ := rx
    obtain ⟨dx, vs, y1, y2⟩ := hH1.ins ha z2
    obtain ⟨v', y3, y4⟩ := y2.look z4
    obtain rfl : v' = .int p := y4
    refine ⟨a, _, dx, vs, .int p, rfl, y1, (hc C' z3).c, (hc C' z3).n, y3, tE.stm he.mono e1 hS1 hH1 q1 fun z h2 ι2 vz H2 q2 f2 e2 hS2 hH2 rz => ?_⟩
    split at q2
    · rename_i q0
      obtain rfl : vz = .int q0 := rz
      refine hrd p q0 H2 _ ?_
      obtain ⟨fs', x1, x2, q3⟩ := q2
      have ha2 := f2.at_ ha
      obtain ⟨dx', vs', w1, w2⟩ := hH2.ins ha2 x1
      have ex : Ext ι2 H2 ι2 (upd H2 a (.ins (He.ga X.K C') dx' (putF fl (.int (f p q0)) vs'))) := Ext.write hH2 ha2 (by rw [w1]; trivial) trivial
      exact ⟨dx', vs', w1, by rw [← w2.length]; exact x2, q3 ι2 σV _ (e2.trans ex) (hS2.ext ex) (hH2.write (o := .ins C' (putD fl (.int (f p q0)) fs')) ha2 (by rw [w1]; trivial) ex ⟨dx', _, upd_same, (w2.ext ex).put (d := .int (f p q0)) (v := .int (f p q0)) rfl⟩)⟩
    · exact q2.elim
theorem in_add' {p q : Int} {H : Hp} {Q : VK} (h : Q (.int (p + q)) H) : L2.rAdd (.int p) (.int q) H Q := ⟨p, q, rfl, rfl, h⟩
theorem in_sub' {p q : Int} {H : Hp} {Q : VK} (h : Q (.int (p - q)) H) : L2.rSub (.int p) (.int q) H Q := ⟨p, q, rfl, rfl, h⟩
/-- del o[i] -/
def sDel (o i : LE) : LS := fun σ h K => o σ h (fun x h1 => i σ h1 (fun y h2 => match x, y with
  | .ref n, .int k => match h2[n]? with
    | some (.lst ds) => -(2 ^ 63) ≤ k ∧ k < 2 ^ 63 ∧ ∃ j, seqIndex? k ds.length = some j ∧ K.nx σ (h2.set n (.lst (ds.eraseIdx j)))
    | _ => False
  | _, _ => False) (exOf K σ)) (exOf K σ)
theorem js_del {o i : Expr} {A B : LE} {tpos pos : Pos} (ho : JE X W o A) (hi : JE X W i B) : JS X W (.Delete [.Subscript o i tpos] pos) (sDel A B) := by
  refine ⟨fun σ h A' B' l q => ho.mono σ h _ _ _ _ (fun x h1 q1 => hi.mono σ h1 _ _ _ _ (fun y h2 q2 => ?_) (exOf.le l σ) q1) (exOf.le l σ) q, PS.weak (ps_delL ho.run hi.run) fun Dn σV H ⟨ι0, H0, ι, σ, h, e, hS, hH, q⟩ => ?_⟩
  · split at q2
    · split at q2
      · obtain ⟨a, b, j, e, q⟩ := q2; exact ⟨a, b, j, e, l.nx _ _ q⟩
      · exact q2.elim
    · exact q2.elim
  · refine tE.stm ho.mono e hS hH q fun x h1 ι1 vx H1 q1 f1 e1 hS1 hH1 rx => tE.stm hi.mono e1 hS1 hH1 q1 fun y h2 ι2 vy H2 q2 f2 e2 hS2 hH2 ry => ?_
    have rx2 := rx.ext f2
    split at q2
    · rename_i n k
      split at q2
      · rename_i ds hd
        obtain ⟨z1, z2, j, z3, q3⟩ := q2
        obtain ⟨a, ha, rfl⟩ := rx2
        obtain rfl : vy = .int k := ry
        obtain ⟨vs, h3, h4⟩ := hH2.lst ha hd
        have ex : Ext ι2 H2 ι2 (upd H2 a (.lst (vs.eraseIdx j))) := Ext.write hH2 ha (by rw [h3]; trivial) trivial
        exact ⟨a, vs, k, j, rfl, rfl, h3, z1, z2, by rw [← h4.length]; exact z3, q3 ι2 σV _ (e2.trans ex) (hS2.ext ex) (hH2.write (o := .lst (ds.eraseIdx j)) ha (by rw [h3]; trivial) ex ⟨_, upd_same, (h4.ext ex).eraseIdx j⟩)⟩
      · exact q2.elim
    · exact q2.elim
end LL
end

section
set_option Elab.async false
set_option linter.all false
set_option maxRecDepth 100000
set_option maxHeartbeats 1000000
/-! LLCall: calls of defs, methods, classes; of built-ins; methods of lists; isinstance. -/
namespace LL
open PySem PySem.Spec PyProof.Rows L2
variable {X : Cx} {W : WX}

/-! ### what a def promises, in logical words -/
abbrev LSp := List D → LH → (D → LH → Prop) → XL → Prop
def MonoP (G : LSp) : Prop := ∀ ds h (Q Q' : D → LH → Prop) (E E' : XL), (∀ d h, Q d h → Q' d h) → (∀ c fs h, E c fs h → E' c fs h) → G ds h Q E → G ds h Q' E'
def spV (K : Frag) (n : Nat) (G : LSp) : Sp := fun vs H Q E => ∃ ι ds h, RelH K ι H h ∧ RelDs K ι H ds vs ∧ ds.length = n ∧
  G ds h (fun d h' => ∀ ι' v H', Ext ι H ι' H' → RelH K ι' H' h' → RelD K ι' H' d v → Q v H')
    (fun c fs h' => ∀ ι' dx H', Ext ι H ι' H' → RelH K ι' H' h' → RelX K ι' H' fs dx → E (.ref (He.ga K c)) dx H')
/-- room, and no repr of a list under way -/
structure RoomG (k : Nat) (A : Around) : Prop where
  r : Room k A
  g : A.guards = some []
theorem RoomG.mono {j k : Nat} {A : Around} (r : RoomG k A) (h : j ≤ k) : RoomG j A := ⟨r.r.mono h, r.g⟩
theorem RoomG.deeper {k : Nat} {A : Around} (r : RoomG (k + 1) A) (env : Env) : RoomG k (A.deeper env) := ⟨r.r.deeper env, r.g⟩
theorem RoomG.in1 {k : Nat} {A : Around} (r : RoomG (k + 1) A) : RoomG k A.in1 := ⟨r.r.in1, r.g⟩
theorem make_guards {A : Around} {C : Addr} {us : List Value} {kw : List (Str × Value)} : (A.under (.builtin "type.__call__" ⟨.ref C :: us, kw⟩)).guards = A.guards := by
  cases h : A.guards <;> simp [Around.under, Code.guards, Code.isGuard, guardIds, pushGuards, h]
theorem RoomG.make {k : Nat} {A : Around} (r : RoomG (k + 1) A) (C : Addr) (us : List Value) (kw : List (Str × Value)) : RoomG k (A.under (.builtin "type.__call__" ⟨.ref C :: us, kw⟩)) := ⟨r.r.make C us kw, by rw [make_guards]; exact r.g⟩
/-- what a def does when it is called where no repr of a list is under way -/
structure FnG (P : Program) (w : World) (K : Frag) (mg : Str → Option Value) (base : Heap) (k : Nat) (f : Addr) (fd : FuncData) (ps : List Str) (sp : Sp) : Prop where
  len : ∀ vs H Q E, sp vs H Q E → vs.length = ps.length
  run : ∀ (A : Around) (outer : List Env) (s : Shared) (H : Hp) (args : Args) (us : List Value) (vs : List V) (Q : VK) (E : XK), RoomG k A → Env0 P w K mg base A outer s H → BindsTo s fd args (ps.zip us) → Vals vs us → sp vs H Q E →
    codeAny (model P w) A (.call (.ref f) args) (CR (L2N.CX P w) outer P w H s Q E) s
theorem FnG.mono {P : Program} {w : World} {K : Frag} {mg : Str → Option Value} {base : Heap} {j k : Nat} {f : Addr} {fd : FuncData} {ps : List Str} {sp : Sp} (F : FnG P w K mg base j f fd ps sp) (h : j ≤ k) : FnG P w K mg base k f fd ps sp :=
  ⟨F.len, fun A outer s H args us vs Q E hr => F.run A outer s H args us vs Q E (hr.mono h)⟩
/-- a def that stands at f keeps the promise G (by at most level k) -/
structure Keeps (P : Program) (w : World) (K : Frag) (mg : Str → Option Value) (base : Heap) (k : Nat) (f : Addr) (n : Nat) (G : LSp) : Prop where
  mono : MonoP G
  ok : ∃ (fd : FuncData) (ps : List Str), ps.length = n ∧ FnG P w K mg base k f fd ps (spV K n G) ∧ Binds K fd ps []
theorem Keeps.up {P : Program} {w : World} {K : Frag} {mg : Str → Option Value} {base : Heap} {j k : Nat} {f : Addr} {n : Nat} {G : LSp} (h : Keeps P w K mg base j f n G) (l : j ≤ k) : Keeps P w K mg base k f n G :=
  ⟨h.mono, let ⟨fd, ps, e, F, b⟩ := h.ok; ⟨fd, ps, e, F.mono l, b⟩⟩
def startD (N : List Str) (ds : List D) : LV := ds.map some ++ List.replicate (N.length - ds.length) none
theorem rel_start {K : Frag} {ι : Ad} {H : Hp} {N : List Str} {ds : List D} {vs : List V} (r : RelDs K ι H ds vs) : RelS K ι H (startD N ds) (L2.start N vs) := by
  have l := r.length
  refine ⟨by simp [startD, L2.start, l], fun i d e => ?_⟩
  unfold startD at e
  by_cases hi : i < ds.length
  · rw [List.getElem?_append_left (by simpa using hi), List.getElem?_map] at e
    cases q : ds[i]? with
    | none => rw [q] at e; cases e
    | some d' =>
      rw [q] at e
      have e2 : d' = d := by simpa using e
      subst e2
      obtain ⟨v, h1, h2⟩ := r.get q
      refine ⟨v, ?_, h2⟩
      unfold L2.start
      rw [List.getElem?_append_left (by simpa using (l ▸ hi)), List.getElem?_map, h1]
      rfl
  · rw [List.getElem?_append_right (by simpa using hi)] at e
    have m := List.mem_of_getElem? e
    have := List.eq_of_mem_replicate m
    cases this
/-- the ends of a def's body -/
abbrev bodyK (Q : D → LH → Prop) (E : XL) : LK := { nx := fun _ h => Q .non h, rt := Q, ex := fun c fs _ h => E c fs h }
/-- the code object of the function at f -/
def CodeAt (K : Frag) (f : Addr) (cdv : Value) : Prop := ∃ (oc : Value) (od : Option Addr) (fd : FuncData) (osl : Array (Option Value)), K.lookup f = some ⟨oc, od, .func fd, osl⟩ ∧ fd.code = cdv ∧ ∃ q, PySem.W.codeIn K cdv q = true
theorem CodeAt.eq {K : Frag} {p : He.Defn} {cdv : Value} (h : CodeAt K (He.fAd K p) cdv) : cdv = .ref (He.cT K p).1 := by
  obtain ⟨oc, od, fd, osl, lk, e, q, hq⟩ := h
  obtain ⟨c, rfl⟩ := He.codeIn_ref hq
  exact congrArg Value.ref (He.codeOf_eq lk e).symm
/-- a def keeps its promise: its body, derived; the promise, shown of the body -/
theorem keeps_of {P : Program} {w : World} {K : Frag} {mg : Str → Option Value} {base : Heap} {x qual : Str} {params : Arguments} {body : List Stmt} {scope : Scope} {dvs : List V} {kws : List (Str × V)} {f : Addr} {fd : FuncData} {N ps : List Str} {k n : Nat} {G : LSp} {b : LS}
    (F : FunD K x qual params body scope dvs kws f fd) (S : FnScope N ps scope) (hn : ps.length = n) (hb : Binds K fd ps []) (hG : MonoP G)
    (hbody : ∀ (cdv : Value) (A : Around) (outer : List Env) (s : Shared) (H : Hp) (E : XK), CodeAt K f cdv → RoomG k (A.deeper (envOfC qual scope s.heap.objs.size f cdv)) →
      JSs (cxOf (L2N.CX P w) P w K mg base N qual scope f cdv A outer s H E) (fun cls d _ H => E cls d H) body b)
    (hv : ∀ ds h Q E, ds.length = n → G ds h Q E → b (startD N ds) h (bodyK Q E)) : Keeps P w K mg base (k + 1) f n G := by
  obtain ⟨oc, od, dV, kV, doc, pm, an, cdv, ct, osl, rfl, lk, hcd, _, _⟩ := F.ex
  have len : ∀ vs H Q E, spV K n G vs H Q E → vs.length = ps.length := fun vs H Q E ⟨ι, ds, h, _, r, l, _⟩ => by rw [← r.length, l, hn]
  refine ⟨hG, _, ps, hn, ⟨len, fun A outer s H args us vs Q E hr e0 hbt hv' hsp => ?_⟩, hb⟩
  refine LamX.run_ofS (k := k) lk hcd S hr.r e0 hbt hv' (len vs H Q E hsp) fun hr' => ?_
  obtain ⟨ι, ds, h, hH, r, l, q⟩ := hsp
  have j := hbody cdv A outer s H E ⟨_, _, _, _, lk, rfl, _, hcd⟩ ⟨hr', hr.g⟩
  refine ⟨_, j.run, ι, H, ι, startD N ds, h, .refl _ _, rel_start r, hH, ?_⟩
  refine j.mono _ _ _ _ ?_ (hv ds h _ _ l q)
  exact ⟨fun σ' h' q' ι' σV' H' e' _ hH' => q' ι' .non H' e' hH' rfl, fun d h' q' ι' v H' e' hH' r' => q' ι' v H' e' hH' r', fun _ _ z => z.elim, fun _ _ z => z.elim, fun c fs σ' h' q' ι' dx σV' H' e' _ hH' r' => q' ι' dx H' e' hH' r'⟩

/-! ### a call is made -/
section
variable {k : Nat} {f : Addr} {fd : FuncData} {ps : List Str} {sp : Sp} {E : L2.St → XK} {x : Str} {p pos : Pos} {e : Expr} {es : List Expr} {t : TA}
theorem ret_of {pins : List (Addr × Obj)} {σ : L2.St} {H : Hp} {s s' : Shared} {Q : VK} {E' : XK} {r : Result} (hx : PassesAt (L2N.CX X.prog X.w) X σ E') (I : Inv X pins σ H s) (hq : CR (L2N.CX X.prog X.w) X.stack X.prog X.w H s Q E' r s') :
    wants (EP X pins σ Q) X.xe r s' := by
  cases r with
  | error e => exact hx pins H s e s' I hq
  | ok fl => cases fl with
    | ret u => exact I.after hq
    | next => exact hq.elim
    | brk => exact hq.elim
    | cont => exact hq.elim
theorem run_fnG {pins : List (Addr × Obj)} {σ : L2.St} {H : Hp} {s : Shared} {Q : VK} {us : List Value} {vs : List V} {A : Around} (F : FnG X.prog X.w X.K X.mg X.base k f fd ps sp) (hr : RoomG k A) (hA : A.frames = some X.stack) (hb : Binds X.K fd ps []) (hx : PassesAt (L2N.CX X.prog X.w) X σ (E σ))
    (I : Inv X pins σ H s) (r : Vals vs us) (h : sp vs H Q (E σ)) : wpAny (model X.prog X.w) A (call (.ref f) us) (EP X pins σ Q) X.xe s := by
  have hl : us.length = ps.length := by rw [← r.length]; exact F.len _ _ _ _ h
  have b := hb s us I.kIn (by rw [List.append_nil]; exact hl)
  rw [List.append_nil] at b
  have e0 := I.env0
  exact wpAny_call (codeAny_mono (F.run A X.stack s H ⟨us, []⟩ us vs Q (E σ) hr ⟨hA, e0.mod, e0.bs, e0.bsz, e0.funs, e0.frf, e0.hok, e0.bare⟩ b r h) fun r s' hq => ret_of hx I hq)
theorem pe_callG (F : FnG X.prog X.w X.K X.mg X.base k f fd ps sp) (hr : RoomG k X.A) (hg : Gl X x) (hm : X.mg x = some (.ref f)) (hk : PySem.W.keepIn X.K (.ref f) = true) (hb : Binds X.K fd ps []) (hx : ∀ σ, PassesAt (L2N.CX X.prog X.w) X σ (E σ))
    (ha : PA X (e :: es) t) (hdb : (x == ("__debug__" : Str)) = false) (he : starEach (e :: es) X.env = (false, eval e X.env) :: starEach es X.env) (hpl : (backTo pos (starEach es X.env)).any (·.1) = false) :
    PE X (.Call (.Name x p) (e :: es) [] pos) (tCallS sp E t) := ⟨fun pins s σ H Q I h =>
  wpAny_Call_Name_kw (ld_glob I hg hm (PySem.W.callWith_K (h₀ := X.base) I.ok.mod.kin hk (thn (ha.run pos pins s σ H _ I h) fun us s1 ⟨vs, H1, I1, r, q⟩ => ⟨I1.kIn, run_fnG F hr I1.env0.frames hb (hx σ) I1 r q⟩) he hpl) hdb)⟩
end

/-! ### calls -/
def eCall (G : LSp) (n : Nat) (A : LX (List D)) : LE := fun σ h Q E => A σ h (fun ds h1 => ds.length = n ∧ G ds h1 Q E) E
theorem mono_call {G : LSp} {n : Nat} {A : LX (List D)} (hG : MonoP G) (hA : Mono A) : Mono (eCall G n A) := fun σ h Q Q' E E' hQ hE q => hA σ h _ _ _ _ (fun ds h1 ⟨l, q1⟩ => ⟨l, hG _ _ _ _ _ _ hQ hE q1⟩) hE q
theorem call_run {K : Frag} {G : LSp} {n : Nat} {A : LX (List D)} (hG : MonoP G) (hA : Mono A) {σV : L2.St} {H : Hp} {Q : VK} (q : tE K W (eCall G n A) σV H Q) : tCallS (spV K n G) (WE W) (tA K W A) σV H Q := by
  obtain ⟨ι, σ, h, hS, hH, q⟩ := q
  refine tX.into hA hS hH q (fun ds h1 ι1 vs H1 q1 e1 hH1 r => ?_) (fun c fs h1 ι1 dx H1 q1 => q1 ι1 dx H1)
  exact ⟨ι1, ds, h1, hH1, r, q1.1, hG _ _ _ _ _ _ (fun d h' q' ι' v H' e' => q' ι' v H' (e1.trans e')) (fun c fs h' q' ι' dx H' e' => q' ι' dx H' (e1.trans e')) q1.2⟩
section
variable {k n : Nat} {f : Addr} {G : LSp} {x : Str} {e : Expr} {es : List Expr} {A : LX (List D)} {p pos : Pos}
theorem je_call (F : Keeps X.prog X.w X.K X.mg X.base k f n G) (hr : RoomG k X.A) (hm : X.mg x = some (.ref f)) (hk : PySem.W.keepIn X.K (.ref f) = true) (tk : L2N.Takes X W) (ha : JA X W (e :: es) A) (hg : Gl X x := by rfl)
    (hdb : (x == ("__debug__" : Str)) = false := by decide) (he : starEach (e :: es) X.env = (false, eval e X.env) :: starEach es X.env := by rfl) (hpl : (backTo pos (starEach es X.env)).any (·.1) = false := by rfl) : JE X W (.Call (.Name x p) (e :: es) [] pos) (eCall G n A) := by
  obtain ⟨hG, fd, ps, hn, F, b⟩ := F
  exact ⟨mono_call hG ha.mono, PE.weak (pe_callG F hr hg hm hk b (fun σ => L2N.passAt tk σ) ha.run hdb he hpl) fun _ _ _ q => call_run hG ha.mono q⟩
theorem je_call0 (F : Keeps X.prog X.w X.K X.mg X.base k f 0 G) (hr : RoomG k X.A) (hm : X.mg x = some (.ref f)) (hk : PySem.W.keepIn X.K (.ref f) = true) (tk : L2N.Takes X W) (hg : Gl X x := by rfl)
    (hdb : (x == ("__debug__" : Str)) = false := by decide) : JE X W (.Call (.Name x p) [] [] pos) (eCall G 0 eNil) := by
  obtain ⟨hG, fd, ps, hn, F, b⟩ := F
  refine ⟨mono_call hG (ja_nil (X := X) (W := W)).mono, ⟨fun pins s σ H Q I h => ?_⟩⟩
  have h := call_run hG (ja_nil (X := X) (W := W)).mono h
  have h0 : tCallS (spV X.K 0 G) (WE W) tNil σ H Q := by
    obtain ⟨ι, σ', h', hS, hH, q⟩ := h
    exact q ι [] H (.refl _ _) hH rfl
  refine wpAny_Call_Name_kw (ld_glob I hg hm ?_ hdb)
  exact PySem.W.callWith_K0 I.kIn hk (run_fnG (E := fun σ => WE W σ) (us := []) F hr I.env0.frames b (L2N.passAt tk σ) I .nil h0)
end
/-- o.m(..): the receiver is an instance of one of C's -/
def isIns (C m : Str) (d : D) (h : LH) : Prop := match d with
  | .ob C' ns ds => C' = C ∧ (ns.zip ds).lookup m = none
  | .ref n => match h[n]? with
    | some (.ins C' fs) => C' = C ∧ fs.lookup m = none
    | _ => False
  | _ => False
theorem RelFs.none {K : Frag} {ι : Ad} {H : Hp} {f : Str} : ∀ {fs : List (Str × D)} {vs : List (Str × V)}, RelFs K ι H fs vs → fs.lookup f = none → vs.lookup f = none
  | [], _, h, _ => by cases h; rfl
  | (g, d') :: fs, _, ⟨v, r, h1, h2, h3⟩, e => by
    subst h1
    rw [List.lookup_cons] at e ⊢
    cases q : (f == g) with
    | true => rw [q] at e; cases e
    | false => rw [q] at e; exact RelFs.none h3 e
theorem isIns_run {K : Frag} {C m : Str} {ι : Ad} {H : Hp} {h : LH} {d : D} {v : V} (hH : RelH K ι H h) (r : RelD K ι H d v) (q : isIns C m d h) : ∃ a dx fs, v = .ref a ∧ H a = some (.ins (He.ga K C) dx fs) ∧ fs.lookup m = none := by
  unfold isIns at q
  split at q
  · obtain ⟨a, dx, vs, rfl, _, h2, h3, h4⟩ := r
    obtain ⟨rfl, q⟩ := q
    exact ⟨a, dx, _, rfl, h2, (RelFs.zip h3 h4).none q⟩
  · split at q
    · rename_i ho
      obtain ⟨a, ha, rfl⟩ := r
      obtain ⟨dx, vs, h1, h2⟩ := hH.ins ha ho
      obtain ⟨rfl, q⟩ := q
      exact ⟨a, dx, vs, rfl, h1, h2.none q⟩
    · exact q.elim
  · exact q.elim
def eMeth (C m : Str) (G : LSp) (n : Nat) (o : LE) (A : LX (List D)) : LE := fun σ h Q E => o σ h (fun x h1 => isIns C m x h1 ∧ A σ h1 (fun ds h2 => ds.length + 1 = n ∧ G (x :: ds) h2 Q E) E) E
/-- o.m(e, ..), what is raised passed on at the slots -/
def tMethS (C : Addr) (m : Str) (sp : Sp) (E : L2.St → XK) (ta : TE) (t : TA) : TE := fun σ H Q => ta σ H fun x H1 => ∃ a dx fs, x = .ref a ∧ H1 a = some (.ins C dx fs) ∧ fs.lookup m = none ∧
  t σ H1 fun vs H2 => sp (x :: vs) H2 Q (E σ)
section
variable {k : Nat} {f C : Addr} {fd : FuncData} {ps : List Str} {sp : Sp} {E : L2.St → XK} {x m : Str} {p pos apos : Pos} {e o : Expr} {es : List Expr} {ta : TE} {t : TA}
theorem pe_methS {pl : Sem Bool} (he : PE X o ta) (c : Cls X.K C) (hm : Meth X.K C m f) (F : FnG X.prog X.w X.K X.mg X.base k f fd ps sp) (hr : RoomG k X.A) (hb : Binds X.K fd ps []) (hx : ∀ σ, PassesAt (L2N.CX X.prog X.w) X σ (E σ)) (ha : PA X (e :: es) t)
    (hst : starEach (e :: es) X.env = (false, eval e X.env) :: starEach es X.env := by rfl) (hpl : (backTo pos (starEach es X.env)).any (·.1) = false := by rfl)
    (ht : eval (.Call (.Attribute o m apos) (e :: es) [] pos) X.env = (do
      let ov ← eval o X.env
      standAt apos.atName
      let (f, first) ← holding [ov] (getMethod ov m pl)
      callWith pos f first (backTo pos (starEach (e :: es) X.env)) (backToKw pos (keywordEach [] X.env))) := by rfl) :
    PE X (.Call (.Attribute o m apos) (e :: es) [] pos) (tMethS C m sp E ta t) := by
  refine ⟨fun pins s σ H Q I h => ?_⟩
  refine PySem.W.methodCall_KW (pl := pl) (thn (he.run pins s σ H _ I h) fun u s1 ⟨x, H1, I1, rx, a, dx, fs, ex, ea, l, q⟩ => ?_) ht
  subst ex
  obtain rfl : u = Value.ref a := rx
  refine getmeth_ok I1 ea c hm l ?_
  refine PySem.W.callWith_K (first := [.ref a]) (h₀ := X.base) I.ok.mod.kin hm.kp (thn (ha.run pos pins s1 σ H1 _ I1 q) fun us s2 ⟨vs, H2, I2, r, q2⟩ => ⟨I2.kIn, ?_⟩) hst hpl
  exact run_fnG (us := .ref a :: us) (vs := .ref a :: vs) F hr I2.env0.frames hb (hx σ) I2 (.cons rfl r) q2
theorem pe_methS0 {pl : Sem Bool} (he : PE X o ta) (c : Cls X.K C) (hm : Meth X.K C m f) (F : FnG X.prog X.w X.K X.mg X.base k f fd ps sp) (hr : RoomG k X.A) (hb : Binds X.K fd ps []) (hx : ∀ σ, PassesAt (L2N.CX X.prog X.w) X σ (E σ))
    (ht : eval (.Call (.Attribute o m apos) [] [] pos) X.env = (do
      let ov ← eval o X.env
      standAt apos.atName
      let (f, first) ← holding [ov] (getMethod ov m pl)
      callWith pos f first (backTo pos (starEach [] X.env)) (backToKw pos (keywordEach [] X.env))) := by rfl) :
    PE X (.Call (.Attribute o m apos) [] [] pos) (tMethS C m sp E ta tNil) := by
  refine ⟨fun pins s σ H Q I h => ?_⟩
  refine PySem.W.methodCall_KW (pl := pl) (thn (he.run pins s σ H _ I h) fun u s1 ⟨x, H1, I1, rx, a, dx, fs, ex, ea, l, q⟩ => ?_) ht
  subst ex
  obtain rfl : u = Value.ref a := rx
  refine getmeth_ok I1 ea c hm l ?_
  exact PySem.W.callWith_K0 (first := [.ref a]) I1.kIn hm.kp (run_fnG (us := [.ref a]) (vs := [.ref a]) F hr I1.env0.frames hb (hx σ) I1 (.cons rfl .nil) q)
end
theorem mono_meth {C m : Str} {G : LSp} {n : Nat} {o : LE} {A : LX (List D)} (hG : MonoP G) (ho : Mono o) (hA : Mono A) : Mono (eMeth C m G n o A) := fun σ h Q Q' E E' hQ hE q =>
  ho σ h _ _ _ _ (fun x h1 ⟨i, q1⟩ => ⟨i, hA σ h1 _ _ _ _ (fun ds h2 ⟨l, q2⟩ => ⟨l, hG _ _ _ _ _ _ hQ hE q2⟩) hE q1⟩) hE q
theorem meth_run {K : Frag} {C m : Str} {G : LSp} {n : Nat} {o : LE} {A : LX (List D)} (hG : MonoP G) (ho : Mono o) (hA : Mono A) {σV : L2.St} {H : Hp} {Q : VK} (q : tE K W (eMeth C m G n o A) σV H Q) : tMethS (He.ga K C) m (spV K n G) (WE W) (tE K W o) (tA K W A) σV H Q := by
  obtain ⟨ι, σ, h, hS, hH, q⟩ := q
  refine tX.into ho hS hH q (fun x h1 ι1 vx H1 q1 e1 hH1 rx => ?_) (fun c fs h1 ι1 dx H1 q1 => q1 ι1 dx H1)
  obtain ⟨a, dx, fs, z1, z2, z3⟩ := isIns_run hH1 rx q1.1
  refine ⟨a, dx, fs, z1, z2, z3, ?_⟩
  refine tX.into hA (hS.ext e1) hH1 q1.2 (fun ds h2 ι2 vs H2 q2 e2 hH2 r => ?_) (fun c fs h2 ι2 dx H2 q2 e2 => q2 ι2 dx H2 (e1.trans e2))
  exact ⟨ι2, x :: ds, h2, hH2, ⟨vx, vs, rfl, rx.ext e2, r⟩, q2.1, hG _ _ _ _ _ _ (fun d h' q' ι' v H' e' => q' ι' v H' (e1.trans (e2.trans e'))) (fun c fs h' q' ι' dx H' e' => q' ι' dx H' (e1.trans (e2.trans e'))) q2.2⟩
section
variable {k n : Nat} {f : Addr} {G : LSp} {C m : Str} {o e : Expr} {es : List Expr} {O : LE} {A : LX (List D)} {apos pos : Pos}
theorem je_meth {pl : Sem Bool} (ho : JE X W o O) (c : Cls X.K (He.ga X.K C)) (hm : Meth X.K (He.ga X.K C) m f) (F : Keeps X.prog X.w X.K X.mg X.base k f n G) (hr : RoomG k X.A) (tk : L2N.Takes X W) (ha : JA X W (e :: es) A)
    (hst : starEach (e :: es) X.env = (false, eval e X.env) :: starEach es X.env := by rfl) (hpl : (backTo pos (starEach es X.env)).any (·.1) = false := by rfl)
    (ht : eval (.Call (.Attribute o m apos) (e :: es) [] pos) X.env = (do
      let ov ← eval o X.env
      standAt apos.atName
      let (f, first) ← holding [ov] (getMethod ov m pl)
      callWith pos f first (backTo pos (starEach (e :: es) X.env)) (backToKw pos (keywordEach [] X.env))) := by rfl) : JE X W (.Call (.Attribute o m apos) (e :: es) [] pos) (eMeth C m G n O A) := by
  obtain ⟨hG, fd, ps, hn, F, b⟩ := F
  exact ⟨mono_meth hG ho.mono ha.mono, PE.weak (pe_methS (pl := pl) ho.run c hm F hr b (fun σ => L2N.passAt tk σ) ha.run hst hpl ht) fun _ _ _ q => meth_run hG ho.mono ha.mono q⟩
theorem je_meth0 {pl : Sem Bool} (ho : JE X W o O) (c : Cls X.K (He.ga X.K C)) (hm : Meth X.K (He.ga X.K C) m f) (F : Keeps X.prog X.w X.K X.mg X.base k f n G) (hr : RoomG k X.A) (tk : L2N.Takes X W)
    (ht : eval (.Call (.Attribute o m apos) [] [] pos) X.env = (do
      let ov ← eval o X.env
      standAt apos.atName
      let (f, first) ← holding [ov] (getMethod ov m pl)
      callWith pos f first (backTo pos (starEach [] X.env)) (backToKw pos (keywordEach [] X.env))) := by rfl) : JE X W (.Call (.Attribute o m apos) [] [] pos) (eMeth C m G n O eNil) := by
  obtain ⟨hG, fd, ps, hn, F, b⟩ := F
  refine ⟨mono_meth hG ho.mono (ja_nil (X := X) (W := W)).mono, PE.weak (pe_methS0 (pl := pl) ho.run c hm F hr b (fun σ => L2N.passAt tk σ) ht) fun σ H Q q => ?_⟩
  obtain ⟨ι, σ', h, hS, hH, q⟩ := q
  refine tX.into ho.mono hS hH q (fun x h1 ι1 vx H1 q1 e1 hH1 rx => ?_) (fun c fs h1 ι1 dx H1 q1 => q1 ι1 dx H1)
  obtain ⟨a, dx, fs, z1, z2, z3⟩ := isIns_run hH1 rx q1.1
  exact ⟨a, dx, fs, z1, z2, z3, ι1, [x], h1, hH1, ⟨vx, [], rfl, rx, rfl⟩, q1.2.1, hG _ _ _ _ _ _ (fun d h' q' ι' v H' e' => q' ι' v H' (e1.trans e')) (fun c fs h' q' ι' dx H' e' => q' ι' dx H' (e1.trans e')) q1.2.2⟩
end

/-! ### C(..) -/
/-- a new instance that will be changed -/
def eMake (C : Str) (G : LSp) (n : Nat) (A : LX (List D)) : LE := fun σ h Q E => A σ h (fun ds h1 => ds.length + 1 = n ∧ G (.ref h1.length :: ds) (h1 ++ [.ins C []]) (fun d h2 => d = .non ∧ Q (.ref h1.length) h2) E) E
def tMakeS (C : Addr) (sp : Sp) (E : L2.St → XK) (t : TA) : TE := fun σ H Q => t σ H fun vs H1 => ∀ x dx, H1 x = none → H1 dx = none → dx ≠ x →
  sp (.ref x :: vs) (upd (upd H1 dx (.own x)) x (.ins C dx [])) (fun v H2 => v = .non ∧ Q (.ref x) H2) (E σ)
section
variable {k : Nat} {f C : Addr} {fd : FuncData} {ps : List Str} {sp : Sp} {E : L2.St → XK} {x m : Str} {p pos apos : Pos} {e o : Expr} {es : List Expr} {ta : TE} {t : TA}
theorem run_makeS {pins : List (Addr × Obj)} {σ : L2.St} {H : Hp} {s : Shared} {Q : VK} {us : List Value} {vs : List V} (M : Mk X.K C f) (F : FnG X.prog X.w X.K X.mg X.base k f fd ps sp) (hr : RoomG (k + 1) X.A) (hb : Binds X.K fd ps [])
    (hx : PassesAt (L2N.CX X.prog X.w) X σ (E σ)) (I : Inv X pins σ H s) (r : Vals vs us)
    (h : ∀ x dx, H x = none → H dx = none → dx ≠ x → sp (.ref x :: vs) (upd (upd H dx (.own x)) x (.ins C dx [])) (fun v H2 => v = .non ∧ Q (.ref x) H2) (E σ)) :
    wpAny (model X.prog X.w) X.A (call (.ref C) us) (EP X pins σ Q) X.xe s := by
  have hq := h (s.heap.objs.size + 1) s.heap.objs.size (I.hok.fresh (Nat.le_succ _)) (I.hok.fresh (Nat.le_refl _)) (Nat.ne_of_lt (Nat.lt_succ_self _))
  have I2 := Inv.made (C := C) I
  have r2 : Vals (V.ref (s.heap.objs.size + 1) :: vs) (Value.ref (s.heap.objs.size + 1) :: us) := .cons rfl r
  have hl : (Value.ref (s.heap.objs.size + 1) :: us).length = ps.length := by
    have e := r2.length
    rw [F.len _ _ _ _ hq] at e
    exact e.symm
  have b := hb _ (Value.ref (s.heap.objs.size + 1) :: us) I2.kIn (by rw [List.append_nil]; exact hl)
  rw [List.append_nil] at b
  refine wpAny_call (make_map (f := f) I.kIn M.makes M.init (beq_iff_eq.mp M.fn) (codeAny_mono (F.run _ X.stack _ _ ⟨Value.ref (s.heap.objs.size + 1) :: us, []⟩ (Value.ref (s.heap.objs.size + 1) :: us) _ _ (E σ) (hr.make C us [])
    (I2.env0.make C us []) b r2 hq) fun r s' hq' => ?_))
  cases r with
  | error e => exact hx pins _ _ e s' I2 hq'
  | ok fl =>
    cases fl with
    | ret u =>
      obtain ⟨v, H', I3, rv, ev, q3⟩ := I2.after hq'
      subst ev
      exact ⟨rv, ⟨V.ref (s.heap.objs.size + 1), H', I3, rfl, q3⟩⟩
    | next => exact False.elim hq'
    | brk => exact False.elim hq'
    | cont => exact False.elim hq'
theorem pe_makeS (M : Mk X.K C f) (F : FnG X.prog X.w X.K X.mg X.base k f fd ps sp) (hr : RoomG (k + 1) X.A) (hg : Gl X x) (hm : X.mg x = some (.ref C)) (hb : Binds X.K fd ps []) (hx : ∀ σ, PassesAt (L2N.CX X.prog X.w) X σ (E σ))
    (ha : PA X (e :: es) t) (hdb : (x == ("__debug__" : Str)) = false := by decide) (he : starEach (e :: es) X.env = (false, eval e X.env) :: starEach es X.env := by rfl) (hpl : (backTo pos (starEach es X.env)).any (·.1) = false := by rfl) :
    PE X (.Call (.Name x p) (e :: es) [] pos) (tMakeS C sp E t) := by
  refine ⟨fun pins s σ H Q I h => ?_⟩
  refine wpAny_Call_Name_kw (ld_glob I hg hm ?_ hdb)
  refine PySem.W.callWith_K (h₀ := X.base) I.ok.mod.kin M.kp (thn (ha.run pos pins s σ H _ I h) fun us s1 ⟨vs, H1, I1, r, q⟩ => ⟨I1.kIn, ?_⟩) he hpl
  exact run_makeS M F hr hb (hx σ) I1 r q
end
/-- the new instance in the heap -/
theorem made_ext {ι : Ad} {H : Hp} {x dx C : Addr} (nx : H x = none) (nd : H dx = none) (ne : dx ≠ x) : Ext ι H (ι.push x) (upd (upd H dx (.own x)) x (.ins C dx [])) := by
  have e1 : Ext ι H ι (upd H dx (.own x)) := Ext.new nd
  have n2 : upd H dx (.own x) x = none := by rw [upd_ne (Ne.symm ne)]; exact nx
  exact e1.trans (Ext.push n2)
theorem made_rel {K : Frag} {ι : Ad} {H : Hp} {h : LH} {x dx : Addr} {C : Str} (hH : RelH K ι H h) (nx : H x = none) (nd : H dx = none) (ne : dx ≠ x) : RelH K (ι.push x) (upd (upd H dx (.own x)) x (.ins (He.ga K C) dx [])) (h ++ [.ins C []]) := by
  have n2 : upd H dx (.own x) x = none := by rw [upd_ne (Ne.symm ne)]; exact nx
  exact (hH.new nd).push n2 (fun _ z => by cases z) ⟨dx, [], upd_same, rfl⟩
section
variable {k n : Nat} {f : Addr} {G : LSp} {C : Str} {e : Expr} {es : List Expr} {A : LX (List D)} {p pos : Pos}
theorem mono_make {C : Str} {G : LSp} {n : Nat} {A : LX (List D)} (hG : MonoP G) (hA : Mono A) : Mono (eMake C G n A) := fun σ h Q Q' E E' hQ hE q =>
  hA σ h _ _ _ _ (fun ds h1 ⟨l, q1⟩ => ⟨l, hG _ _ _ _ _ _ (fun d h2 ⟨z, q2⟩ => ⟨z, hQ _ _ q2⟩) hE q1⟩) hE q
theorem je_make (M : Mk X.K (He.ga X.K C) f) (F : Keeps X.prog X.w X.K X.mg X.base k f n G) (hr : RoomG (k + 1) X.A) (hm : X.mg C = some (.ref (He.ga X.K C))) (tk : L2N.Takes X W) (ha : JA X W (e :: es) A) (hg : Gl X C := by rfl)
    (hdb : (C == ("__debug__" : Str)) = false := by decide) (he : starEach (e :: es) X.env = (false, eval e X.env) :: starEach es X.env := by rfl) (hpl : (backTo pos (starEach es X.env)).any (·.1) = false := by rfl) :
    JE X W (.Call (.Name C p) (e :: es) [] pos) (eMake C G n A) := by
  obtain ⟨hG, fd, ps, hn, F, b⟩ := F
  refine ⟨mono_make hG ha.mono, PE.weak (pe_makeS M F hr hg hm b (fun σ => L2N.passAt tk σ) ha.run hdb he hpl) fun σV H Q ⟨ι, σ, h, hS, hH, q⟩ => ?_⟩
  refine tX.into ha.mono hS hH q (fun ds h1 ι1 vs H1 q1 e1 hH1 r x dx nx nd ne => ?_) (fun c fs h1 ι1 dx H1 q1 => q1 ι1 dx H1)
  have ex : Ext ι1 H1 (ι1.push x) (upd (upd H1 dx (.own x)) x (.ins (He.ga X.K C) dx [])) := made_ext nx nd ne
  have hx : (ι1.push x).ix[h1.length]? = some (some x) := by rw [← hH1.len, List.getElem?_append_right (Nat.le_refl _), Nat.sub_self]; rfl
  refine ⟨_, .ref h1.length :: ds, _, made_rel hH1 nx nd ne, ⟨.ref x, vs, rfl, ⟨x, hx, rfl⟩, r.ext ex⟩, q1.1, hG _ _ _ _ _ _ ?_ ?_ q1.2⟩
  · intro d h' ⟨z, q'⟩ ι' v H' e' hH' rd
    subst z
    exact ⟨rd, q' ι' (.ref x) H' (e1.trans (ex.trans e')) hH' ⟨x, e'.at_ hx, rfl⟩⟩
  · intro c fs h' q' ι' dx' H' e'
    exact q' ι' dx' H' (e1.trans (ex.trans e'))
end

/-! ### built-ins, by values -/
abbrev LB := List D → LH → (D → LH → Prop) → Prop
structure CallS (K : Frag) (r : List V → Hp → VK → Prop) (op : LB) : Prop where
  mono : ∀ ds h (Q Q' : D → LH → Prop), (∀ d h, Q d h → Q' d h) → op ds h Q → op ds h Q'
  run : ∀ ι H h ds vs (Q : D → LH → Prop) (Qv : VK), RelH K ι H h → RelDs K ι H ds vs → op ds h Q →
    (∀ d h' ι' v H', Q d h' → Ext ι H ι' H' → RelH K ι' H' h' → RelD K ι' H' d v → Qv v H') → r vs H Qv
def eB (op : LB) (A : LX (List D)) : LE := fun σ h Q E => A σ h (fun ds h1 => op ds h1 Q) E
section
variable {r : List V → Hp → VK → Prop} {op : LB} {A : LX (List D)} {x : Str} {id T : String} {e : Expr} {es : List Expr} {p pos : Pos}
theorem mono_B (hs : ∀ ds h (Q Q' : D → LH → Prop), (∀ d h, Q d h → Q' d h) → op ds h Q → op ds h Q') (hA : Mono A) : Mono (eB op A) := fun σ h Q Q' E E' hQ hE q => hA σ h _ _ _ _ (fun ds h1 q1 => hs _ _ _ _ hQ q1) hE q
theorem B_run {K : Frag} (hs : CallS K r op) (hA : Mono A) {σV : L2.St} {H : Hp} {Q : VK} (q : tE K W (eB op A) σV H Q) : tCB r (tA K W A) σV H Q := by
  obtain ⟨ι, σ, h, hS, hH, q⟩ := q
  refine tX.into hA hS hH q (fun ds h1 ι1 vs H1 q1 e1 hH1 rs => ?_) (fun c fs h1 ι1 dx H1 q1 => q1 ι1 dx H1)
  exact hs.run ι1 H1 h1 ds vs _ _ hH1 rs q1 fun d h' ι' v H' q' e' => q' ι' v H' (e1.trans e')
theorem je_B (hc : CallR X (.builtin id) r) (hs : CallS X.K r op) (hm : X.mg x = none) (hv : bootBuiltins x = some (.builtin id)) (ha : JA X W (e :: es) A) (hg : Gl X x := by rfl) (hn : x ≠ "__name__" := by decide) (hdb : (x == ("__debug__" : Str)) = false := by decide)
    (h : ∀ {t : TA}, CallR X (.builtin id) r → Gl X x → X.mg x = none → bootBuiltins x = some (.builtin id) → PA X (e :: es) t → PE X (.Call (.Name x p) (e :: es) [] pos) (tCB r t) := by exact fun a b c d e => pe_callB a b c d e) : JE X W (.Call (.Name x p) (e :: es) [] pos) (eB op A) :=
  ⟨mono_B hs.mono ha.mono, PE.weak (h hc hg hm hv ha.run) fun _ _ _ q => B_run hs ha.mono q⟩
theorem je_BT (hc : CallR X (.type T) r) (hs : CallS X.K r op) (hm : X.mg x = none) (hv : bootBuiltins x = some (.type T)) (ha : JA X W (e :: es) A) (hg : Gl X x := by rfl)
    (h : ∀ {t : TA}, CallR X (.type T) r → Gl X x → X.mg x = none → bootBuiltins x = some (.type T) → PA X (e :: es) t → PE X (.Call (.Name x p) (e :: es) [] pos) (tCB r t) := by exact fun a b c d e => pe_callTy a b c d e) : JE X W (.Call (.Name x p) (e :: es) [] pos) (eB op A) :=
  ⟨mono_B hs.mono ha.mono, PE.weak (h hc hg hm hv ha.run) fun _ _ _ q => B_run hs ha.mono q⟩
end
theorem RelDs.one {K : Frag} {ι : Ad} {H : Hp} {d : D} {vs : List V} (r : RelDs K ι H [d] vs) : ∃ v, vs = [v] ∧ RelD K ι H d v := by
  obtain ⟨v, r', e, h1, h2⟩ := r
  cases h2
  exact ⟨v, e, h1⟩
theorem RelDs.two {K : Frag} {ι : Ad} {H : Hp} {d d2 : D} {vs : List V} (r : RelDs K ι H [d, d2] vs) : ∃ v v2, vs = [v, v2] ∧ RelD K ι H d v ∧ RelD K ι H d2 v2 := by
  obtain ⟨v, r', e, h1, v2, r2, e2, h2, h3⟩ := r
  cases h3
  subst e2
  exact ⟨v, v2, e, h1, h2⟩
/-- lists of ints -/
def intsD : List D → Option (List Int)
  | [] => some []
  | .int i :: r => (intsD r).map (i :: ·)
  | _ :: _ => none
theorem intsD_map (ns : List Int) : intsD (ns.map D.int) = some ns := by
  induction ns with
  | nil => rfl
  | cons n ns ih => simp [intsD, ih]
theorem rel_ints {K : Frag} {ι : Ad} {H : Hp} : ∀ {ns : List Int} {vs : List V}, RelDs K ι H (ns.map D.int) vs → vs = ns.map V.int
  | [], _, h => h
  | n :: ns, _, ⟨v, r, e, h1, h2⟩ => by subst e; cases h1; rw [rel_ints h2]; rfl
section
variable {K : Frag}
def bLen : LB := fun ds h Q => match ds with
  | [.str s] => s.length ≤ sizeLine ∧ Q (.int s.length) h
  | [d] => seqA d h fun xs => Q (.int xs.length) h
  | _ => False
theorem bsLen : CallS K (fun xs H Q => (∃ p ys, xs = [.ref p] ∧ (SqL K H p ys ∨ SqT K H p ys) ∧ Q (.int ys.length) H) ∨ (∃ z, xs = [.str z] ∧ z.length ≤ sizeLine ∧ Q (.int z.length) H)) bLen := by
  refine ⟨fun ds h Q Q' hQ q => ?_, fun ι H h ds vs Q Qv hH r q k => ?_⟩
  · unfold bLen at *
    split at q
    · exact ⟨q.1, hQ _ _ q.2⟩
    · exact seqA_mono (fun xs q => hQ _ _ q) q
    · exact q.elim
  · unfold bLen at q
    split at q
    · obtain ⟨v, rfl, rv⟩ := r.one
      exact .inr ⟨_, congrArg (fun z => [z]) rv, q.1, k _ h ι _ H q.2 (.refl _ _) hH rfl⟩
    · obtain ⟨v, rfl, rv⟩ := r.one
      obtain ⟨a, xs, ys, rfl, h1, h2, q⟩ := seqA_run hH rv q
      exact .inl ⟨a, ys, rfl, h1, by rw [← h2.length]; exact k _ h ι _ H q (.refl _ _) hH rfl⟩
    · exact q.elim
def bAbs : LB := fun ds h Q => match ds with | [.int i] => Q (.int (if i < 0 then -i else i)) h | _ => False
theorem bsAbs : CallS K (fun xs H Q => ∃ i, xs = [.int i] ∧ Q (.int (if i < 0 then -i else i)) H) bAbs := by
  refine ⟨fun ds h Q Q' hQ q => ?_, fun ι H h ds vs Q Qv hH r q k => ?_⟩
  · unfold bAbs at *; split at q <;> first | exact hQ _ _ q | exact q.elim
  · unfold bAbs at q
    split at q
    · obtain ⟨v, rfl, rv⟩ := r.one
      exact ⟨_, congrArg (fun z => [z]) rv, k _ h ι _ H q (.refl _ _) hH rfl⟩
    · exact q.elim
def bInt : LB := fun ds h Q => match ds with | [.int i] => Q (.int i) h | [.bl b] => Q (.int (if b then 1 else 0)) h | _ => False
theorem bsInt : CallS K (fun xs H Q => (∃ i, xs = [.int i] ∧ Q (.int i) H) ∨ ∃ k, xs = [.bl k] ∧ Q (.int (if k then 1 else 0)) H) bInt := by
  refine ⟨fun ds h Q Q' hQ q => ?_, fun ι H h ds vs Q Qv hH r q k => ?_⟩
  · unfold bInt at *; split at q <;> first | exact hQ _ _ q | exact q.elim
  · unfold bInt at q
    split at q
    · obtain ⟨v, rfl, rv⟩ := r.one
      exact .inl ⟨_, congrArg (fun z => [z]) rv, k _ h ι _ H q (.refl _ _) hH rfl⟩
    · obtain ⟨v, rfl, rv⟩ := r.one
      exact .inr ⟨_, congrArg (fun z => [z]) rv, k _ h ι _ H q (.refl _ _) hH rfl⟩
    · exact q.elim
def bMax2 : LB := fun ds h Q => match ds with | [.int i, .int j] => Q (.int (if j > i then j else i)) h | _ => False
def bMin2 : LB := fun ds h Q => match ds with | [.int i, .int j] => Q (.int (if j < i then j else i)) h | _ => False
theorem bsMax2 : CallS K (fun xs H Q => ∃ i j, xs = [.int i, .int j] ∧ Q (.int (if j > i then j else i)) H) bMax2 := by
  refine ⟨fun ds h Q Q' hQ q => ?_, fun ι H h ds vs Q Qv hH r q k => ?_⟩
  · unfold bMax2 at *; split at q <;> first | exact hQ _ _ q | exact q.elim
  · unfold bMax2 at q
    split at q
    · obtain ⟨v, v2, rfl, rv, rv2⟩ := r.two
      cases rv; cases rv2
      exact ⟨_, _, rfl, k _ h ι _ H q (.refl _ _) hH rfl⟩
    · exact q.elim
theorem bsMin2 : CallS K (fun xs H Q => ∃ i j, xs = [.int i, .int j] ∧ Q (.int (if j < i then j else i)) H) bMin2 := by
  refine ⟨fun ds h Q Q' hQ q => ?_, fun ι H h ds vs Q Qv hH r q k => ?_⟩
  · unfold bMin2 at *; split at q <;> first | exact hQ _ _ q | exact q.elim
  · unfold bMin2 at q
    split at q
    · obtain ⟨v, v2, rfl, rv, rv2⟩ := r.two
      cases rv; cases rv2
      exact ⟨_, _, rfl, k _ h ι _ H q (.refl _ _) hH rfl⟩
    · exact q.elim
def bDivmod : LB := fun ds h Q => match ds with | [.int i, .int j] => CDiv i j ∧ Q (.tup [.int (i / j), .int (i % j)]) h | _ => False
theorem bsDivmod : CallS K (fun xs H Q => ∃ i j, xs = [.int i, .int j] ∧ CDiv i j ∧ ∀ p, H p = none → Q (.ref p) (upd H p (.tup [.int (i / j), .int (i % j)]))) bDivmod := by
  refine ⟨fun ds h Q Q' hQ q => ?_, fun ι H h ds vs Q Qv hH r q k => ?_⟩
  · unfold bDivmod at *; split at q <;> first | exact ⟨q.1, hQ _ _ q.2⟩ | exact q.elim
  · unfold bDivmod at q
    split at q
    · obtain ⟨v, v2, rfl, rv, rv2⟩ := r.two
      cases rv; cases rv2
      refine ⟨_, _, rfl, q.1, fun p hp => k _ h ι _ _ q.2 (Ext.new hp) (hH.new hp) ⟨p, _, rfl, SqT.of upd_same, _, _, rfl, rfl, _, _, rfl, rfl, rfl⟩⟩
    · exact q.elim
/-- tuple(list), list(list or tuple): new, and nobody changes it -/
def bTuple : LB := fun ds h Q => match ds with | [.tup xs] => Q (.tup xs) h | [d] => seqL d h fun xs => Q (.tup xs) h | _ => False
theorem bsTuple : CallS K (fun xs H Q => ∃ p ys, xs = [.ref p] ∧ ((SqL K H p ys ∧ ∀ l, H l = none → Q (.ref l) (upd H l (.tup ys))) ∨ (SqT K H p ys ∧ Q (.ref p) H))) bTuple := by
  refine ⟨fun ds h Q Q' hQ q => ?_, fun ι H h ds vs Q Qv hH r q k => ?_⟩
  · unfold bTuple at *
    split at q
    · exact hQ _ _ q
    · exact seqL_mono (fun xs q => hQ _ _ q) q
    · exact q.elim
  · unfold bTuple at q
    split at q
    · obtain ⟨v, rfl, rv⟩ := r.one
      obtain ⟨a, ys, rfl, h1, h2⟩ := rv
      exact ⟨a, ys, rfl, .inr ⟨h1, k _ h ι _ H q (.refl _ _) hH ⟨a, ys, rfl, h1, h2⟩⟩⟩
    · obtain ⟨v, rfl, rv⟩ := r.one
      obtain ⟨a, xs, ys, rfl, h1, h2, q⟩ := seqL_run hH rv q
      refine ⟨a, ys, rfl, .inl ⟨h1, fun l hl => k _ h ι _ _ q (Ext.new hl) (hH.new hl) ⟨l, ys, rfl, SqT.of upd_same, h2.ext (Ext.new hl)⟩⟩⟩
    · exact q.elim
def bListF : LB := fun ds h Q => match ds with | [d] => seqA d h fun xs => Q (.lst xs) h | _ => False
/-- list(..) that will be changed -/
def bListM : LB := fun ds h Q => match ds with | [d] => seqA d h fun xs => Q (.ref h.length) (h ++ [.lst xs]) | _ => False
theorem bsListF : CallS K (fun xs H Q => ∃ p ys, xs = [.ref p] ∧ (SqL K H p ys ∨ SqT K H p ys) ∧ ∀ l, H l = none → Q (.ref l) (upd H l (.lst ys))) bListF := by
  refine ⟨fun ds h Q Q' hQ q => ?_, fun ι H h ds vs Q Qv hH r q k => ?_⟩
  · unfold bListF at *
    split at q
    · exact seqA_mono (fun xs q => hQ _ _ q) q
    · exact q.elim
  · unfold bListF at q
    split at q
    · obtain ⟨v, rfl, rv⟩ := r.one
      obtain ⟨a, xs, ys, rfl, h1, h2, q⟩ := seqA_run hH rv q
      exact ⟨a, ys, rfl, h1, fun l hl => k _ h ι _ _ q (Ext.new hl) (hH.new hl) ⟨l, ys, rfl, .inl ⟨upd_same, hH.notNew hl⟩, h2.ext (Ext.new hl)⟩⟩
    · exact q.elim
theorem bsListM : CallS K (fun xs H Q => ∃ p ys, xs = [.ref p] ∧ (SqL K H p ys ∨ SqT K H p ys) ∧ ∀ l, H l = none → Q (.ref l) (upd H l (.lst ys))) bListM := by
  refine ⟨fun ds h Q Q' hQ q => ?_, fun ι H h ds vs Q Qv hH r q k => ?_⟩
  · unfold bListM at *
    split at q
    · exact seqA_mono (fun xs q => hQ _ _ q) q
    · exact q.elim
  · unfold bListM at q
    split at q
    · obtain ⟨v, rfl, rv⟩ := r.one
      obtain ⟨a, xs, ys, rfl, h1, h2, q⟩ := seqA_run hH rv q
      refine ⟨a, ys, rfl, h1, fun l hl => k _ _ _ _ _ q (Ext.push hl) (hH.push hl (fun _ z => by cases z) ⟨ys, upd_same, h2.ext (Ext.push hl)⟩) ⟨l, ?_, rfl⟩⟩
      rw [← hH.len, List.getElem?_append_right (Nat.le_refl _), Nat.sub_self]
      rfl
    · exact q.elim
/-- sum, max, min of a list of ints -/
def bSum : LB := fun ds h Q => match ds with | [d] => seqL d h fun xs => ∃ ns : List Int, xs = ns.map D.int ∧ Q (.int ns.sum) h | _ => False
theorem bsSum : CallS K (rSum K) bSum := by
  refine ⟨fun ds h Q Q' hQ q => ?_, fun ι H h ds vs Q Qv hH r q k => ?_⟩
  · unfold bSum at *
    split at q
    · exact seqL_mono (fun xs ⟨ns, e, q⟩ => ⟨ns, e, hQ _ _ q⟩) q
    · exact q.elim
  · unfold bSum at q
    split at q
    · obtain ⟨v, rfl, rv⟩ := r.one
      obtain ⟨a, xs, ys, rfl, h1, h2, ns, rfl, q⟩ := seqL_run hH rv q
      cases rel_ints h2
      exact ⟨a, ns, rfl, h1, k _ h ι _ H q (.refl _ _) hH rfl⟩
    · exact q.elim
def bMin : LB := fun ds h Q => match ds with | [d] => seqL d h fun xs => ∃ ns : List Int, xs = ns.map D.int ∧ 0 < ns.length ∧ ∀ m, m ∈ ns → (∀ y, y ∈ ns → m ≤ y) → Q (.int m) h | _ => False
def bMax : LB := fun ds h Q => match ds with | [d] => seqL d h fun xs => ∃ ns : List Int, xs = ns.map D.int ∧ 0 < ns.length ∧ ∀ m, m ∈ ns → (∀ y, y ∈ ns → y ≤ m) → Q (.int m) h | _ => False
theorem bsMin : CallS K (rMin K) bMin := by
  refine ⟨fun ds h Q Q' hQ q => ?_, fun ι H h ds vs Q Qv hH r q k => ?_⟩
  · unfold bMin at *
    split at q
    · exact seqL_mono (fun xs ⟨ns, e, l, q⟩ => ⟨ns, e, l, fun m a b => hQ _ _ (q m a b)⟩) q
    · exact q.elim
  · unfold bMin at q
    split at q
    · obtain ⟨v, rfl, rv⟩ := r.one
      obtain ⟨a, xs, ys, rfl, h1, h2, ns, rfl, l, q⟩ := seqL_run hH rv q
      cases rel_ints h2
      exact ⟨a, ns, rfl, h1, l, fun m y z => k _ h ι _ H (q m y z) (.refl _ _) hH rfl⟩
    · exact q.elim
theorem bsMax : CallS K (rMax K) bMax := by
  refine ⟨fun ds h Q Q' hQ q => ?_, fun ι H h ds vs Q Qv hH r q k => ?_⟩
  · unfold bMax at *
    split at q
    · exact seqL_mono (fun xs ⟨ns, e, l, q⟩ => ⟨ns, e, l, fun m a b => hQ _ _ (q m a b)⟩) q
    · exact q.elim
  · unfold bMax at q
    split at q
    · obtain ⟨v, rfl, rv⟩ := r.one
      obtain ⟨a, xs, ys, rfl, h1, h2, ns, rfl, l, q⟩ := seqL_run hH rv q
      cases rel_ints h2
      exact ⟨a, ns, rfl, h1, l, fun m y z => k _ h ι _ H (q m y z) (.refl _ _) hH rfl⟩
    · exact q.elim
theorem rel_bls {ι : Ad} {H : Hp} : ∀ {bs : List Bool} {vs : List V}, RelDs K ι H (bs.map D.bl) vs → vs = bs.map V.bl
  | [], _, h => h
  | n :: ns, _, ⟨v, r, e, h1, h2⟩ => by subst e; cases h1; rw [rel_bls h2]; rfl
def bAll : LB := fun ds h Q => match ds with | [d] => seqL d h fun xs => ∃ bs : List Bool, xs = bs.map D.bl ∧ Q (.bl (bs.all id)) h | _ => False
def bAny : LB := fun ds h Q => match ds with | [d] => seqL d h fun xs => ∃ bs : List Bool, xs = bs.map D.bl ∧ Q (.bl (bs.any id)) h | _ => False
theorem bsAll : CallS K (rAll K) bAll := by
  refine ⟨fun ds h Q Q' hQ q => ?_, fun ι H h ds vs Q Qv hH r q k => ?_⟩
  · unfold bAll at *
    split at q
    · exact seqL_mono (fun xs ⟨ns, e, q⟩ => ⟨ns, e, hQ _ _ q⟩) q
    · exact q.elim
  · unfold bAll at q
    split at q
    · obtain ⟨v, rfl, rv⟩ := r.one
      obtain ⟨a, xs, ys, rfl, h1, h2, bs, rfl, q⟩ := seqL_run hH rv q
      cases rel_bls h2
      exact ⟨a, bs, rfl, h1, k _ h ι _ H q (.refl _ _) hH rfl⟩
    · exact q.elim
theorem bsAny : CallS K (rAny K) bAny := by
  refine ⟨fun ds h Q Q' hQ q => ?_, fun ι H h ds vs Q Qv hH r q k => ?_⟩
  · unfold bAny at *
    split at q
    · exact seqL_mono (fun xs ⟨ns, e, q⟩ => ⟨ns, e, hQ _ _ q⟩) q
    · exact q.elim
  · unfold bAny at q
    split at q
    · obtain ⟨v, rfl, rv⟩ := r.one
      obtain ⟨a, xs, ys, rfl, h1, h2, bs, rfl, q⟩ := seqL_run hH rv q
      cases rel_bls h2
      exact ⟨a, bs, rfl, h1, k _ h ι _ H q (.refl _ _) hH rfl⟩
    · exact q.elim
def bStr : LB := fun ds h Q => match ds with | [.int i] => i.natAbs.log2 < 1920 ∧ Q (.str (toString i)) h | _ => False
theorem bsStr : CallS K (fun xs H Q => ∃ i, xs = [.int i] ∧ i.natAbs.log2 < 1920 ∧ Q (.str (toString i)) H) bStr := by
  refine ⟨fun ds h Q Q' hQ q => ?_, fun ι H h ds vs Q Qv hH r q k => ?_⟩
  · unfold bStr at *; split at q <;> first | exact ⟨q.1, hQ _ _ q.2⟩ | exact q.elim
  · unfold bStr at q
    split at q
    · obtain ⟨v, rfl, rv⟩ := r.one
      exact ⟨_, congrArg (fun z => [z]) rv, q.1, k _ h ι _ H q.2 (.refl _ _) hH rfl⟩
    · exact q.elim
end
end LL
end

section
set_option Elab.async false
set_option linter.all false
set_option maxRecDepth 100000
set_option maxHeartbeats 1000000
/-! LLIter: what is walked, and list comprehensions. -/
namespace LL
open PySem PySem.Spec PyProof.Rows L2
variable {X : Cx} {W : WX}

/-! ### walking a list, a tuple -/
/-- a list or a tuple, by what stands there when the walk begins -/
def iSq (K : Frag) (tl : TE) : TI := fun σ H R => tl σ H fun x H1 => ∃ a, x = .ref a ∧ (((∃ xs, SqL K H1 a xs) ∧ R (Itl K a) H1) ∨ ((∃ xs, SqT K H1 a xs) ∧ R (Itt K a) H1))
theorem pi_sq {tg l : Expr} {tl : TE} (hl : PE X l tl) : PI X tg l (iSq X.K tl) := by
  refine ⟨fun pins s σ H R I h => ?_⟩
  refine thn (hl.run pins s σ H _ I h) fun v s1 ⟨x, H1, I1, r1, q1⟩ => ?_
  obtain ⟨a, e, q⟩ := q1
  subst e
  cases r1
  rcases q with ⟨⟨xs, hq⟩, q⟩ | ⟨⟨xs, hq⟩, q⟩
  · obtain ⟨its, rv, p, hz⟩ := I1.list hq
    refine wpAny_pyIter_list p.isList ?_
    exact pi_one (tk := s1.toks) I1 _ (turn_list a _) ⟨_, Heap.get?_push_size _ rfl, rfl, rfl⟩ q
  · obtain ⟨its, rv, p, hz⟩ := I1.tuple hq
    refine wpAny_pyIter_tuple (show s1.heap.IsTuple a its.toArray from p) ?_
    exact pi_one (tk := s1.toks) I1 _ (turn_tuple a _) ⟨_, Heap.get?_push_size _ rfl, rfl, rfl⟩ q
/-- the items, and that a list which may change stays as it is -/
def walkD (d : D) (h : LH) (Q : LIt → Prop) : Prop := match d with
  | .lst ds => Q ⟨ds, fun _ => True⟩
  | .tup ds => Q ⟨ds, fun _ => True⟩
  | .ref n => match h[n]? with
    | some (.lst ds) => Q ⟨ds, fun h' => h'[n]? = some (.lst ds)⟩
    | _ => False
  | _ => False
def iSeq (m : LE) : LI := fun σ h Q E => m σ h (fun d h1 => walkD d h1 fun J => Q J h1) E
theorem walkD_mono {d : D} {h : LH} {Q Q' : LIt → Prop} (hQ : ∀ J, Q J → Q' J) (q : walkD d h Q) : walkD d h Q' := by
  unfold walkD at *
  split at q
  · exact hQ _ q
  · exact hQ _ q
  · split at q
    · exact hQ _ q
    · exact q.elim
  · exact q.elim
theorem itl_frz {K : Frag} {ι1 : Ad} {H1 : Hp} {a : Addr} {ds : List D} {vs : List V} (hf : FzL K ι1 H1 a vs) (rs : RelDs K ι1 H1 ds vs) : ItRel K ι1 H1 ⟨ds, fun _ => True⟩ (Itl K a) := by
  refine ⟨fun ι H h e hH _ => ⟨vs, (e.fzL hf).sq, by rw [← rs.length]; exact Nat.le_refl _⟩, fun i x ι H h hx e hH _ => ?_⟩
  obtain ⟨v, hv, r⟩ := rs.get hx
  refine ⟨⟨vs, v, (e.fzL hf).sq, hv⟩, fun u H' y => ?_⟩
  obtain ⟨rfl, y⟩ := y
  have := y vs (e.fzL hf).sq
  rw [hv] at this
  cases this
  exact ⟨.refl _ _, hH, r.ext e⟩
theorem itt_rel {K : Frag} {ι1 : Ad} {H1 : Hp} {a : Addr} {ds : List D} {vs : List V} (hf : SqT K H1 a vs) (rs : RelDs K ι1 H1 ds vs) : ItRel K ι1 H1 ⟨ds, fun _ => True⟩ (Itt K a) := by
  refine ⟨fun ι H h e hH _ => ⟨vs, e.sqT hf, by rw [← rs.length]; exact Nat.le_refl _⟩, fun i x ι H h hx e hH _ => ?_⟩
  obtain ⟨v, hv, r⟩ := rs.get hx
  refine ⟨⟨vs, v, e.sqT hf, hv⟩, fun u H' y => ?_⟩
  obtain ⟨rfl, y⟩ := y
  have := y vs (e.sqT hf)
  rw [hv] at this
  cases this
  exact ⟨.refl _ _, hH, r.ext e⟩
theorem itl_mut {K : Frag} {ι1 : Ad} {H1 : Hp} {a : Addr} {n : Nat} {ds : List D} (ha : ι1.ix[n]? = some (some a)) : ItRel K ι1 H1 ⟨ds, fun h' => h'[n]? = some (.lst ds)⟩ (Itl K a) := by
  refine ⟨fun ι H h e hH ok => ?_, fun i x ι H h hx e hH ok => ?_⟩
  · obtain ⟨vs, h1, rs⟩ := hH.lst (e.at_ ha) ok
    exact ⟨vs, .inl (.inl h1), by rw [← rs.length]; exact Nat.le_refl _⟩
  · obtain ⟨vs, h1, rs⟩ := hH.lst (e.at_ ha) ok
    obtain ⟨v, hv, r⟩ := rs.get hx
    refine ⟨⟨vs, v, .inl (.inl h1), hv⟩, fun u H' y => ?_⟩
    obtain ⟨rfl, y⟩ := y
    have := y vs (.inl (.inl h1))
    rw [hv] at this
    cases this
    exact ⟨.refl _ _, hH, r⟩
/-- through a computation into an iteration -/
theorem ji_seq {tg l : Expr} {m : LE} (hl : JE X W l m) : JI X W tg l (iSeq m) := by
  refine ⟨fun σ h Q Q' E E' hQ hE q => hl.mono σ h _ _ _ _ (fun d h1 q1 => walkD_mono (fun J => hQ J h1) q1) hE q, PI.weak (pi_sq hl.run) fun σV H Q ⟨ι, σ, h, hS, hH, q⟩ => ?_⟩
  refine tX.into hl.mono hS hH q (fun d h1 ι1 v H1 q1 e1 hH1 r => ?_) (fun c fs h1 ι1 dx H1 q1 => q1 ι1 dx H1)
  unfold walkD at q1
  split at q1
  · obtain ⟨a, vs, rfl, hf, rs⟩ := r
    exact ⟨a, rfl, .inl ⟨⟨vs, hf.sq⟩, q1 ι1 _ H1 e1 hH1 (itl_frz hf rs)⟩⟩
  · obtain ⟨a, vs, rfl, hf, rs⟩ := r
    exact ⟨a, rfl, .inr ⟨⟨vs, hf⟩, q1 ι1 _ H1 e1 hH1 (itt_rel hf rs)⟩⟩
  · obtain ⟨a, ha, rfl⟩ := r
    split at q1
    · rename_i ho
      obtain ⟨vs, h2, rs⟩ := hH1.lst ha ho
      exact ⟨a, rfl, .inl ⟨⟨vs, .inl (.inl h2)⟩, q1 ι1 _ H1 e1 hH1 (itl_mut ha)⟩⟩
    · exact q1.elim
  · exact q1.elim

/-! ### range -/
def rngD (lo : Int) (n : Nat) : List D := (List.range n).map fun (i : Nat) => D.int (lo + i)
theorem rngD_len (lo : Int) (n : Nat) : (rngD lo n).length = n := by simp [rngD]
theorem rngD_get {lo : Int} {n i : Nat} {x : D} (h : (rngD lo n)[i]? = some x) : i < n ∧ x = .int (lo + i) := by
  have l := (List.getElem?_eq_some_iff.mp h).1
  rw [rngD_len] at l
  refine ⟨l, ?_⟩
  simp [rngD, l] at h
  exact h.symm
theorem it_rng {K : Frag} {ι1 : Ad} {H1 : Hp} {lo : Int} {n : Nat} : ItRel K ι1 H1 ⟨rngD lo n, fun _ => True⟩ (Itr lo n) := by
  refine ⟨fun ι H h e hH _ => Nat.le_of_eq (rngD_len lo n).symm, fun i x ι H h hx e hH _ => ?_⟩
  obtain ⟨l, rfl⟩ := rngD_get hx
  exact ⟨l, fun v H' y => by obtain ⟨rfl, rfl⟩ := y; exact ⟨.refl _ _, hH, rfl⟩⟩
def iRange (A : LX (List D)) : LI := fun σ h Q E => A σ h (fun ds h1 => match ds with
  | [.int j] => -(2 ^ 62) ≤ j ∧ j < 2 ^ 62 ∧ Q ⟨rngD 0 j.toNat, fun _ => True⟩ h1
  | [.int i, .int j] => -(2 ^ 62) ≤ i ∧ i < 2 ^ 62 ∧ -(2 ^ 62) ≤ j ∧ j < 2 ^ 62 ∧ Q ⟨rngD i (j - i).toNat, fun _ => True⟩ h1
  | _ => False) E
theorem mono_range {A : LX (List D)} (hA : Mono A) : Mono (iRange A) := fun σ h Q Q' E E' hQ hE q => hA σ h _ _ _ _ (fun ds h1 q1 => by
  split at q1
  · exact ⟨q1.1, q1.2.1, hQ _ _ q1.2.2⟩
  · exact ⟨q1.1, q1.2.1, q1.2.2.1, q1.2.2.2.1, hQ _ _ q1.2.2.2.2⟩
  · exact q1.elim) hE q
/-- the answer at one argument, at two -/
def iRangeN (k : Nat) (A : LX (List D)) : LI := fun σ h Q E => iRange (fun σ h Q E => A σ h (fun ds h1 => ds.length = k ∧ Q ds h1) E) σ h Q E
theorem ji_range1 {tg a : Expr} {A : LX (List D)} {p pos : Pos} (hm : X.mg "range" = none) (ha : JA X W [a] A) (hg : Gl X "range" := by rfl) (hs : starEach [a] X.env = [(false, eval a X.env)] := by rfl) : JI X W tg (.Call (.Name "range" p) [a] [] pos) (iRangeN 1 A) := by
  have mA : Mono (fun σ h Q E => A σ h (fun ds h1 => ds.length = 1 ∧ Q ds h1) E) := fun σ h Q Q' E E' hQ hE q => ha.mono σ h _ _ _ _ (fun d h1 q => ⟨q.1, hQ _ _ q.2⟩) hE q
  refine ⟨mono_range mA, PI.weak (pi_range1 hg hm ha.run hs) fun σV H Q ⟨ι, σ, h, hS, hH, q⟩ => ?_⟩
  refine tX.into ha.mono hS hH q (fun d h1 ι1 v H1 q1 e1 hH1 r => ?_) (fun c fs h1 ι1 dx H1 q1 => q1 ι1 dx H1)
  obtain ⟨l, q1⟩ := q1
  split at q1
  · obtain ⟨v, rfl, r'⟩ := r.one
    exact ⟨_, by rw [r'], q1.1, q1.2.1, q1.2.2 ι1 _ H1 e1 hH1 it_rng⟩
  · cases l
  · exact q1.elim
theorem ji_range2 {tg a b : Expr} {A : LX (List D)} {p pos : Pos} (hm : X.mg "range" = none) (ha : JA X W [a, b] A) (hg : Gl X "range" := by rfl) (hs : starEach [a, b] X.env = [(false, eval a X.env), (false, eval b X.env)] := by rfl) (hs2 : starEach [b] X.env = [(false, eval b X.env)] := by rfl) :
    JI X W tg (.Call (.Name "range" p) [a, b] [] pos) (iRangeN 2 A) := by
  have mA : Mono (fun σ h Q E => A σ h (fun ds h1 => ds.length = 2 ∧ Q ds h1) E) := fun σ h Q Q' E E' hQ hE q => ha.mono σ h _ _ _ _ (fun d h1 q => ⟨q.1, hQ _ _ q.2⟩) hE q
  refine ⟨mono_range mA, PI.weak (pi_range2 hg hm ha.run hs hs2) fun σV H Q ⟨ι, σ, h, hS, hH, q⟩ => ?_⟩
  refine tX.into ha.mono hS hH q (fun d h1 ι1 v H1 q1 e1 hH1 r => ?_) (fun c fs h1 ι1 dx H1 q1 => q1 ι1 dx H1)
  obtain ⟨l, q1⟩ := q1
  split at q1
  · cases l
  · obtain ⟨v, v2, rfl, r', r2⟩ := r.two
    exact ⟨_, _, by rw [r', r2], ⟨q1.1, q1.2.1, q1.2.2.1, q1.2.2.2.1⟩, q1.2.2.2.2 ι1 _ H1 e1 hH1 it_rng⟩
  · exact q1.elim

/-! ### enumerate -/
def enumD (ds : List D) : List D := ds.zipIdx.map fun p => D.tup [.int (p.2 : Nat), p.1]
theorem enumD_len (ds : List D) : (enumD ds).length = ds.length := by simp [enumD]
theorem enumD_get {ds : List D} {i : Nat} {x : D} (h : (enumD ds)[i]? = some x) : ∃ d, ds[i]? = some d ∧ x = .tup [.int (i : Nat), d] := by
  simp only [enumD, List.getElem?_map, List.getElem?_zipIdx, Nat.zero_add, Option.map_map, Option.map_eq_some_iff] at h
  obtain ⟨d, e, h⟩ := h
  exact ⟨d, e, h.symm⟩
def enumOf (J : LIt) : LIt := ⟨enumD J.items, J.ok⟩
/-- the list that is walked, at any later moment -/
def LstAt (K : Frag) (ι1 : Ad) (H1 : Hp) (J : LIt) (a : Addr) : Prop := ∀ ι H h, Ext ι1 H1 ι H → RelH K ι H h → J.ok h → ∃ vs, SqL K H a vs ∧ RelDs K ι H J.items vs
theorem it_enum {K : Frag} {ι1 : Ad} {H1 : Hp} {J : LIt} {a : Addr} (hl : LstAt K ι1 H1 J a) : ItRel K ι1 H1 (enumOf J) (Ite K a) := by
  refine ⟨fun ι H h e hH ok => ?_, fun i x ι H h hx e hH ok => ?_⟩
  · obtain ⟨vs, h1, rs⟩ := hl ι H h e hH ok
    exact ⟨vs, h1, by rw [← rs.length]; exact Nat.le_of_eq (enumD_len J.items).symm⟩
  · obtain ⟨vs, h1, rs⟩ := hl ι H h e hH ok
    obtain ⟨d, hd, rfl⟩ := enumD_get hx
    obtain ⟨v, hv, r⟩ := rs.get hd
    refine ⟨⟨vs, v, h1, hv⟩, fun u H' y => ?_⟩
    obtain ⟨T, z, rfl, hT, rfl, y⟩ := y
    have := y vs h1
    rw [hv] at this
    cases this
    have ex : Ext ι H ι (upd H T (.tup [.int (i : Nat), v])) := Ext.new hT
    exact ⟨ex, hH.new hT, T, _, rfl, SqT.of upd_same, ⟨_, _, rfl, rfl, _, _, rfl, r.ext ex, rfl⟩⟩
def walkL (d : D) (h : LH) (Q : LIt → Prop) : Prop := match d with
  | .lst ds => Q ⟨ds, fun _ => True⟩
  | .ref n => match h[n]? with
    | some (.lst ds) => Q ⟨ds, fun h' => h'[n]? = some (.lst ds)⟩
    | _ => False
  | _ => False
theorem walkL_mono {d : D} {h : LH} {Q Q' : LIt → Prop} (hQ : ∀ J, Q J → Q' J) (q : walkL d h Q) : walkL d h Q' := by
  unfold walkL at *
  split at q
  · exact hQ _ q
  · split at q
    · exact hQ _ q
    · exact q.elim
  · exact q.elim
theorem walkL_run {K : Frag} {ι : Ad} {H : Hp} {h : LH} {d : D} {v : V} {Q : LIt → Prop} (hH : RelH K ι H h) (r : RelD K ι H d v) (q : walkL d h Q) : ∃ a xs J, v = .ref a ∧ SqL K H a xs ∧ Q J ∧ LstAt K ι H J a := by
  unfold walkL at q
  split at q
  · obtain ⟨a, vs, rfl, hf, rs⟩ := r
    exact ⟨a, vs, _, rfl, hf.sq, q, fun ι' H' h' e _ _ => ⟨vs, (e.fzL hf).sq, rs.ext e⟩⟩
  · obtain ⟨a, ha, rfl⟩ := r
    split at q
    · rename_i ho
      obtain ⟨vs, h2, rs⟩ := hH.lst ha ho
      refine ⟨a, vs, _, rfl, .inl (.inl h2), q, fun ι' H' h' e hH' ok => ?_⟩
      obtain ⟨vs', h3, rs'⟩ := hH'.lst (e.at_ ha) ok
      exact ⟨vs', .inl (.inl h3), rs'⟩
    · exact q.elim
  · exact q.elim
def iEnumL (A : LX (List D)) : LI := fun σ h Q E => A σ h (fun ds h1 => match ds with | [d] => walkL d h1 fun J => Q (enumOf J) h1 | _ => False) E
theorem ji_enum {a : Expr} {A : LX (List D)} {p pos tpos : Pos} {elts : List Expr} {kk : Nat} (hm : X.mg "enumerate" = none) (ha : JA X W [a] A) (hg : Gl X "enumerate" := by rfl) (hs : starEach [a] X.env = [(false, eval a X.env)] := by rfl) :
    JI X W (.Tuple elts kk tpos) (.Call (.Name "enumerate" p) [a] [] pos) (iEnumL A) := by
  refine ⟨fun σ h Q Q' E E' hQ hE q => ha.mono σ h _ _ _ _ (fun ds h1 q1 => ?_) hE q, PI.weak (pi_enum hg hm ha.run hs) fun σV H Q ⟨ι, σ, h, hS, hH, q⟩ => ?_⟩
  · split at q1
    · exact walkL_mono (fun J => hQ _ h1) q1
    · exact q1.elim
  · refine tX.into ha.mono hS hH q (fun d h1 ι1 v H1 q1 e1 hH1 r => ?_) (fun c fs h1 ι1 dx H1 q1 => q1 ι1 dx H1)
    split at q1
    · obtain ⟨v, rfl, r'⟩ := r.one
      obtain ⟨a, xs, J, rfl, h2, q2, hl⟩ := walkL_run hH1 r' q1
      exact ⟨a, xs, rfl, h2, q2 ι1 _ H1 e1 hH1 (it_enum hl)⟩
    · exact q1.elim

/-! ### zip of two lists -/
def zipD (xs ys : List D) : List D := (xs.zip ys).map fun p => D.tup [p.1, p.2]
def zipOf (J J' : LIt) : LIt := ⟨zipD J.items J'.items, fun h => J.ok h ∧ J'.ok h⟩
theorem zipD_get {xs ys : List D} {i : Nat} {x : D} (h : (zipD xs ys)[i]? = some x) : ∃ d e, xs[i]? = some d ∧ ys[i]? = some e ∧ x = .tup [d, e] := by
  simp only [zipD, List.getElem?_map, Option.map_eq_some_iff] at h
  obtain ⟨⟨d, e⟩, q, h⟩ := h
  rw [List.getElem?_zip_eq_some] at q
  exact ⟨d, e, q.1, q.2, h.symm⟩
theorem it_zip {K : Frag} {ι1 : Ad} {H1 : Hp} {J J' : LIt} {a b : Addr} (hl : LstAt K ι1 H1 J a) (hl' : LstAt K ι1 H1 J' b) : ItRel K ι1 H1 (zipOf J J') (Itz K a b) := by
  refine ⟨fun ι H h e hH ok => ?_, fun i x ι H h hx e hH ok => ?_⟩
  · obtain ⟨vs, h1, rs⟩ := hl ι H h e hH ok.1
    obtain ⟨us, h2, ru⟩ := hl' ι H h e hH ok.2
    refine ⟨vs, us, h1, h2, ?_⟩
    rw [← rs.length, ← ru.length]
    show J.items.length ≤ (zipD J.items J'.items).length ∨ J'.items.length ≤ (zipD J.items J'.items).length
    simp only [zipD, List.length_map, List.length_zip]
    omega
  · obtain ⟨vs, h1, rs⟩ := hl ι H h e hH ok.1
    obtain ⟨us, h2, ru⟩ := hl' ι H h e hH ok.2
    obtain ⟨d, d2, hd, hd2, rfl⟩ := zipD_get hx
    obtain ⟨v, hv, r⟩ := rs.get hd
    obtain ⟨v2, hv2, r2⟩ := ru.get hd2
    refine ⟨⟨vs, us, v, v2, h1, h2, hv, hv2⟩, fun u H' y => ?_⟩
    obtain ⟨T, z, z2, rfl, hT, rfl, y, y2⟩ := y
    have := y vs h1
    rw [hv] at this
    cases this
    have := y2 us h2
    rw [hv2] at this
    cases this
    have ex : Ext ι H ι (upd H T (.tup [v, v2])) := Ext.new hT
    exact ⟨ex, hH.new hT, T, _, rfl, SqT.of upd_same, ⟨_, _, rfl, r.ext ex, _, _, rfl, r2.ext ex, rfl⟩⟩
def iZipL (A : LX (List D)) : LI := fun σ h Q E => A σ h (fun ds h1 => match ds with | [d, e] => walkL d h1 fun J => walkL e h1 fun J' => Q (zipOf J J') h1 | _ => False) E
theorem ji_zip {a b : Expr} {A : LX (List D)} {p pos tpos : Pos} {elts : List Expr} {kk : Nat} (hm : X.mg "zip" = none) (ha : JA X W [a, b] A) (hg : Gl X "zip" := by rfl)
    (hs : starEach [a, b] X.env = (false, eval a X.env) :: starEach [b] X.env := by rfl) (hpl : (backTo pos (starEach [b] X.env)).any (·.1) = false := by rfl) :
    JI X W (.Tuple elts kk tpos) (.Call (.Name "zip" p) [a, b] [] pos) (iZipL A) := by
  refine ⟨fun σ h Q Q' E E' hQ hE q => ha.mono σ h _ _ _ _ (fun ds h1 q1 => ?_) hE q, PI.weak (pi_zip hg hm ha.run hs hpl) fun σV H Q ⟨ι, σ, h, hS, hH, q⟩ => ?_⟩
  · split at q1
    · exact walkL_mono (fun J q2 => walkL_mono (fun J' => hQ _ h1) q2) q1
    · exact q1.elim
  · refine tX.into ha.mono hS hH q (fun d h1 ι1 v H1 q1 e1 hH1 r => ?_) (fun c fs h1 ι1 dx H1 q1 => q1 ι1 dx H1)
    split at q1
    · obtain ⟨v, v2, rfl, r', r2⟩ := r.two
      obtain ⟨a, xs, J, rfl, h2, q2, hl⟩ := walkL_run hH1 r' q1
      obtain ⟨b, ys, J', rfl, h3, q3, hl'⟩ := walkL_run hH1 r2 q2
      exact ⟨a, b, xs, ys, rfl, h2, h3, q3 ι1 _ H1 e1 hH1 (it_zip hl hl')⟩
    · exact q1.elim

/-! ### list comprehensions -/
/-- the targets of a comprehension: a name, a tuple of names -/
inductive Pt where
  | nm (i : Nat)
  | tp (is : List Nat)
def setDs : List Nat → List D → LV → LV
  | i :: is, d :: ds, σ => setDs is ds (σ.set i (some d))
  | _, _, σ => σ
def Pt.st (p : Pt) (d : D) (σ : LV) (Q : LV → Prop) : Prop := match p with
  | .nm i => Q (σ.set i (some d))
  | .tp is => match d with
    | .tup ds => ds.length = is.length ∧ Q (setDs is ds σ)
    | _ => False
def gNs : List Nat → TGs
  | [] => gNil
  | i :: is => gCons (gName i) (gNs is)
def Pt.g (K : Frag) : Pt → TG
  | .nm i => gName i
  | .tp is => gTup K is.length (gNs is)
def Pt.own : Pt → List Nat
  | .nm i => [i]
  | .tp is => is
theorem wipe_in {σ : L2.St} {i : Nat} {v : Option V} : ∀ {vs : List Nat}, i ∈ vs → wipe (σ.set i v) vs = wipe σ vs
  | u :: vs, h => by
    unfold wipe
    rcases List.mem_cons.mp h with rfl | h
    · by_cases hi : i ∈ vs
      · rw [wipe_in hi]
      · clear h
        have : ∀ vs : List Nat, wipe (σ.set i v) vs = if i ∈ vs then wipe σ vs else (wipe σ vs).set i v := by
          intro vs
          induction vs with
          | nil => simp [wipe]
          | cons u vs ih =>
            unfold wipe
            rw [ih]
            by_cases h1 : i = u
            · subst h1
              by_cases h2 : i ∈ vs
              · simp [h2]
              · simp [h2, List.set_set]
            · by_cases h2 : i ∈ vs
              · simp [h2]
              · simp only [h2, if_false, List.mem_cons, h1, or_self]
                rw [List.set_comm _ _ h1]
        rw [this, if_neg hi, List.set_set]
    · rw [wipe_in h]
theorem gNs_run {K : Frag} {ι : Ad} {H : Hp} {vs : List Nat} {Q : L2.St → Hp → Prop} : ∀ {is : List Nat} {ds : List D} {us : List V} {σ : LV} {σV : L2.St}, ds.length = is.length → (∀ i ∈ is, i ∈ vs) → RelS K ι H σ σV → RelDs K ι H ds us →
    (∀ σV', RelS K ι H (setDs is ds σ) σV' → wipe σV' vs = wipe σV vs → Q σV' H) → gNs is us σV H Q
  | [], [], us, σ, σV, _, _, hS, rs, k => by cases rs; exact ⟨rfl, k σV hS rfl⟩
  | i :: is, d :: ds, us, σ, σV, l, m, hS, rs, k => by
    obtain ⟨v, r, rfl, r1, r2⟩ := rs
    refine ⟨v, r, rfl, ?_⟩
    refine gNs_run (is := is) (ds := ds) (σ := σ.set i (some d)) (by simpa using l) (fun j hj => m j (by simp [hj])) (hS.set i r1) r2 fun σV' h' w => ?_
    refine k σV' h' ?_
    rw [w]
    exact wipe_in (m i (by simp))
theorem Pt.run {K : Frag} {ι : Ad} {H : Hp} {vs : List Nat} {p : Pt} {d : D} {v : V} {σ : LV} {σV : L2.St} {Q0 : LV → Prop} {Q : L2.St → Hp → Prop} (ho : ∀ i ∈ p.own, i ∈ vs) (hS : RelS K ι H σ σV) (r : RelD K ι H d v) (q : p.st d σ Q0)
    (k : ∀ σ' σV', Q0 σ' → RelS K ι H σ' σV' → wipe σV' vs = wipe σV vs → Q σV' H) : p.g K v σV H Q := by
  cases p with
  | nm i => exact k _ _ q (hS.set i r) (wipe_in (ho i (by simp [Pt.own])))
  | tp is =>
    unfold Pt.st at q
    split at q
    · cases ‹_ = _›
    · rename_i is' e
      cases e
      split at q
      · rename_i ds
        obtain ⟨a, us, rfl, ht, rs⟩ := r
        refine ⟨a, us, rfl, ht, by rw [← rs.length]; exact q.1, ?_⟩
        exact gNs_run q.1 ho hS rs fun σV' h' w => k _ σV' q.2 h' w
      · exact q.elim
def lwipe (σ : LV) : List Nat → LV
  | [] => σ
  | v :: vs => (lwipe σ vs).set v none
theorem RelS.wipe {K : Frag} {ι : Ad} {H : Hp} {σ : LV} {σV : L2.St} (hS : RelS K ι H σ σV) : ∀ vs, RelS K ι H (lwipe σ vs) (L2.wipe σV vs)
  | [] => hS
  | v :: vs => by
    have ih := RelS.wipe hS vs
    refine ⟨by simp [lwipe, L2.wipe, ih.1], fun j d q => ?_⟩
    unfold lwipe at q
    unfold L2.wipe
    by_cases z : v = j
    · subst z
      have l := (List.getElem?_eq_some_iff.mp q).1
      rw [List.length_set] at l
      rw [List.getElem?_set_self l] at q
      cases q
    · rw [List.getElem?_set_ne z] at q ⊢
      exact ih.2 j d q
structure JTs (X : Cx) (W : WX) (es : List Expr) (m : LX Bool) : Prop where
  mono : Mono m
  run : PTs X es (tT X.K W m)
theorem PTs.weak {es : List Expr} {t t' : TT} (h : PTs X es t) (w : ∀ σ H Q, t' σ H Q → t σ H Q) : PTs X es t' := ⟨fun pins s σ H Q I q => h.run pins s σ H Q I (w _ _ _ q)⟩
def eYes : LX Bool := fun _ h Q _ => Q true h
theorem jts_nil : JTs X W [] eYes := ⟨fun _ _ _ _ _ _ hQ _ q => hQ _ _ q, PTs.weak pts_nil fun σV H Q ⟨ι, σ, h, hS, hH, q⟩ => q ι true H (.refl _ _) hH rfl⟩
theorem jts_one {c : Expr} {m : LX Bool} (h : JT X W c m) : JTs X W [c] m := ⟨h.mono, pts_one h.run⟩
abbrev eFor (mi : LI) (p : Pt) (t : LX Bool) (e : LE) (vs : List Nat) (σ : LV) (h : LH) (Q : List D → LH → Prop) (E : XL) : Prop := mi σ h (fun J h1 => ∃ I : Nat → List D → LH → Prop, I 0 [] h1 ∧ (∀ i acc h, i ≤ J.items.length → I i acc h → J.ok h) ∧
  (∀ i x acc h, J.items[i]? = some x → I i acc h → p.st x (lwipe σ vs) fun σ2 => t σ2 h (fun b h2 => if b = true then e σ2 h2 (fun y h3 => acc.length < sizeLine ∧ I (i + 1) (acc ++ [y]) h3) (fun _ _ _ => False) else I (i + 1) acc h2) (fun _ _ _ => False)) ∧
  ∀ acc h, I J.items.length acc h → Q acc h) E
/-- a list that nobody changes -/
def eLC (mi : LI) (p : Pt) (t : LX Bool) (e : LE) (vs : List Nat) : LE := fun σ h Q E => eFor mi p t e vs σ h (fun acc h1 => Q (.lst acc) h1) E
/-- a list that will be changed -/
def eLCM (mi : LI) (p : Pt) (t : LX Bool) (e : LE) (vs : List Nat) : LE := fun σ h Q E => eFor mi p t e vs σ h (fun acc h1 => Q (.ref h1.length) (h1 ++ [.lst acc])) E

/-! setting an address aside -/
def Ad.aside (ι : Ad) (a : Addr) : Ad := ⟨ι.ix, a :: ι.res, ι.tab⟩
/-- with less set aside -/
def Ad.cut (ι : Ad) (r : List Addr) : Ad := ⟨ι.ix, r, ι.tab⟩
section
variable {K : Frag} {ι ι' : Ad} {H H' : Hp} {h : LH} {a : Addr} {r : List Addr}
theorem FzL.back (hr : ∀ b, b ∈ r → b ∈ ι.res) {vs : List V} {b : Addr} (q : FzL K ι H b vs) : FzL K (ι.cut r) H b vs := by
  rcases q with ⟨q, n⟩ | q
  · exact .inl ⟨q, n.1, fun z => n.2 (hr b z)⟩
  · exact .inr q
mutual
theorem RelD.back (hr : ∀ b, b ∈ r → b ∈ ι.res) : ∀ {d : D} {v : V}, RelD K ι H d v → RelD K (ι.cut r) H d v
  | .non, _, h => h
  | .bl _, _, h => h
  | .int _, _, h => h
  | .str _, _, h => h
  | .tup _, _, ⟨a, vs, h1, h2, h3⟩ => ⟨a, vs, h1, h2, RelDs.back hr h3⟩
  | .lst _, _, ⟨a, vs, h1, h2, h3⟩ => ⟨a, vs, h1, h2.back hr, RelDs.back hr h3⟩
  | .ob _ _ _, _, ⟨b, dx, vs, h1, h2, h3, h4, h5⟩ => ⟨b, dx, vs, h1, ⟨h2.1, fun z => h2.2 (hr b z)⟩, h3, h4, RelDs.back hr h5⟩
  | .ref _, _, ⟨a, h1, h2⟩ => ⟨a, h1, h2⟩
  | .dfn _, _, h => h
  | .dct _ _, _, ⟨b, vs, h1, h2, h3, h4, h5⟩ => ⟨b, vs, h1, ⟨h2.1, fun z => h2.2 (hr b z)⟩, h3, h4, RelDs.back hr h5⟩
  | .fn _ _ _ _, _, ⟨h1, h2, h3⟩ => ⟨h1, h2, h3.pre, fun b m => h3.res2 b (hr b m), h3.keep, h3.tups, h3.frzs, h3.exts, h3.there⟩
  | .exc _ _ none _ _, _, h => h
  | .exc _ _ (some _) _ _, _, ⟨h0, vs, h1, h2, h3, h4⟩ => ⟨h0, vs, h1, ⟨h2.1, fun z => h2.2 (hr _ z)⟩, h3, RelDs.back hr h4⟩
theorem RelDs.back (hr : ∀ b, b ∈ r → b ∈ ι.res) : ∀ {ds : List D} {vs : List V}, RelDs K ι H ds vs → RelDs K (ι.cut r) H ds vs
  | [], _, h => h
  | _ :: _, _, ⟨v, r, h1, h2, h3⟩ => ⟨v, r, h1, RelD.back hr h2, RelDs.back hr h3⟩
end
theorem RelFs.back (hr : ∀ b, b ∈ r → b ∈ ι.res) : ∀ {ds : List (Str × D)} {vs : List (Str × V)}, RelFs K ι H ds vs → RelFs K (ι.cut r) H ds vs
  | [], _, h => h
  | _ :: _, _, ⟨v, r, h1, h2, h3⟩ => ⟨v, r, h1, h2.back hr, RelFs.back hr h3⟩
theorem RelO.back (hr : ∀ b, b ∈ r → b ∈ ι.res) {b : Addr} {o : O} (q : RelO K ι H b o) : RelO K (ι.cut r) H b o := by
  cases o with
  | lst ds => obtain ⟨vs, h1, h2⟩ := q; exact ⟨vs, h1, h2.back hr⟩
  | ins C fs => obtain ⟨dx, vs, h1, h2⟩ := q; exact ⟨dx, vs, h1, h2.back hr⟩
  | gone => trivial
theorem RelH.back (hr : ∀ b, b ∈ r → b ∈ ι.res) (q : RelH K ι H h) : RelH K (ι.cut r) H h :=
  ⟨q.len, q.inj, q.live, fun b m => q.liveR b (hr b m), fun b m z => q.disj b m (hr b z), q.tabs, fun n o e g => let ⟨b, e, x⟩ := q.obj n o e g; ⟨b, e, x.back hr⟩⟩
/-- what came since goes again -/
theorem Ext.back (hr : ∀ b, b ∈ ι.res → b ∈ r) (hr' : ∀ b, b ∈ r → b ∈ ι'.res) (e : Ext ι H ι' H') : Ext ι H (ι'.cut r) H' :=
  ⟨e.pre, hr, fun b m => e.res2 b (hr' b m), e.tab, e.keep, e.tups, e.frzs, e.exts, e.there⟩
/-- a new object is laid and set aside -/
theorem Ext.lay {u : HO} (hn : H a = Option.none) : Ext ι H (ι.aside a) (upd H a u) := by
  have ne : ∀ b o, H b = some o → b ≠ a := fun b o q => ne_of_none q hn
  refine ⟨⟨[], by simp [Ad.aside], fun _ z => by cases z⟩, fun b m => List.mem_cons_of_mem _ m, fun b m => ?_, rfl, fun b o q _ _ => ?_, fun b xs q => ?_, fun b o w q => ?_, fun b f q => ?_, fun b q => q.upd (q.ne hn)⟩
  · rcases List.mem_cons.mp m with rfl | m
    · exact .inr fun l => l.no hn
    · exact .inl m
  all_goals (rw [upd_ne (ne _ _ q)]; exact q)
theorem RelH.lay {u : HO} (hH : RelH K ι H h) (hn : H a = Option.none) (hu : ∀ ps, u ≠ .tbl ps) : RelH K (ι.aside a) (upd H a u) h := by
  have ex : Ext ι H (ι.aside a) (upd H a u) := Ext.lay hn
  have ne : ∀ b, some b ∈ ι.ix → b ≠ a := fun b m => (hH.live b m).ne hn
  refine ⟨hH.len, hH.inj, fun b m => ?_, fun b m => ?_, fun b m z => ?_, tabs_upd hH.tabs (.inl hn), fun n o q g => ?_⟩
  · exact (hH.live b m).upd (ne b m)
  · rcases List.mem_cons.mp m with rfl | m
    · exact ⟨u, upd_same, hu⟩
    · exact (hH.liveR b m).upd ((hH.liveR b m).ne hn)
  · rcases List.mem_cons.mp z with z | z
    · exact ne b m z
    · exact hH.disj b m z
  · obtain ⟨b, e, r⟩ := hH.obj n o q g
    exact ⟨b, e, r.ext ex (upd_ne (ne b (List.mem_of_getElem? e)))⟩
/-! what is set aside is written -/
theorem ExtW.put {ι0 : Ad} {H0 : Hp} {u : HO} (e : ExtW ι0 H0 ι H) (m : a ∈ ι.res) (mu : MutO (H a)) (mv : MutO (some u)) : ExtW ι0 H0 ι (upd H a u) := by
  refine ⟨e.pre, e.res2, fun b o q n t => ?_, fun b xs q => ?_, fun b o w q => ?_, fun b f q => ?_, fun b q => (e.there b q).mu mv⟩
  · rw [upd_ne ?_]
    · exact e.keep b o q n t
    · rintro rfl
      rcases e.res2 b m with z | z
      · exact n.2 z
      · exact z ⟨o, q, t⟩
  · rw [upd_ne (by rintro rfl; exact mu.tup xs (e.tups b xs q))]; exact e.tups b xs q
  · rw [upd_ne (by rintro rfl; exact mu.frz o w (e.frzs b o w q))]; exact e.frzs b o w q
  · rw [upd_ne (by rintro rfl; exact mu.ext f (e.exts b f q))]; exact e.exts b f q
mutual
theorem RelD.put {u : HO} (m : a ∈ ι.res) (mu : MutO (H a)) (mv : MutO (some u)) : ∀ {d : D} {v : V}, RelD K ι H d v → RelD K ι (upd H a u) d v
  | .non, _, h => h
  | .bl _, _, h => h
  | .int _, _, h => h
  | .str _, _, h => h
  | .tup _, _, ⟨b, vs, h1, h2, h3⟩ => ⟨b, vs, h1, by
      rcases h2 with (h2 | ⟨o, h2⟩) | h2
      · exact .inl (.inl (by rw [upd_ne (by rintro rfl; exact mu.tup _ h2)]; exact h2))
      · exact .inl (.inr ⟨o, by rw [upd_ne (by rintro rfl; exact mu.frz _ _ h2)]; exact h2⟩)
      · exact .inr h2, RelDs.put m mu mv h3⟩
  | .lst _, _, ⟨b, vs, h1, h2, h3⟩ => ⟨b, vs, h1, by
      rcases h2 with ⟨h2, n⟩ | ⟨o, h2⟩ | h2
      · exact .inl ⟨by rw [upd_ne (by rintro rfl; exact n.2 m)]; exact h2, n⟩
      · exact .inr (.inl ⟨o, by rw [upd_ne (by rintro rfl; exact mu.frz _ _ h2)]; exact h2⟩)
      · exact .inr (.inr h2), RelDs.put m mu mv h3⟩
  | .ob _ _ _, _, ⟨b, dx, vs, h1, h2, h3, h4, h5⟩ => ⟨b, dx, vs, h1, h2, by rw [upd_ne (by rintro rfl; exact h2.2 m)]; exact h3, h4, RelDs.put m mu mv h5⟩
  | .ref _, _, h => h
  | .dfn _, _, h => h
  | .dct _ _, _, ⟨b, vs, h1, h2, h3, h4, h5⟩ => ⟨b, vs, h1, h2, by rw [upd_ne (by rintro rfl; exact h2.2 m)]; exact h3, h4, RelDs.put m mu mv h5⟩
  | .fn _ _ _ _, _, ⟨h1, h2, h3⟩ => ⟨h1, fun p hp => by rw [upd_ne (fun z => mu.ext _ (z ▸ h2 p hp))]; exact h2 p hp, h3.put m mu mv⟩
  | .exc _ _ none _ _, _, h => h
  | .exc _ _ (some _) _ _, _, ⟨h0, vs, h1, h2, h3, h4⟩ => ⟨h0, vs, by rw [upd_ne (by rintro rfl; exact h2.2 m)]; exact h1, h2, h3, RelDs.put m mu mv h4⟩
theorem RelDs.put {u : HO} (m : a ∈ ι.res) (mu : MutO (H a)) (mv : MutO (some u)) : ∀ {ds : List D} {vs : List V}, RelDs K ι H ds vs → RelDs K ι (upd H a u) ds vs
  | [], _, h => h
  | _ :: _, _, ⟨v, r, h1, h2, h3⟩ => ⟨v, r, h1, RelD.put m mu mv h2, RelDs.put m mu mv h3⟩
end
theorem RelFs.put' {u : HO} (m : a ∈ ι.res) (mu : MutO (H a)) (mv : MutO (some u)) : ∀ {ds : List (Str × D)} {vs : List (Str × V)}, RelFs K ι H ds vs → RelFs K ι (upd H a u) ds vs
  | [], _, h => h
  | _ :: _, _, ⟨v, r, h1, h2, h3⟩ => ⟨v, r, h1, h2.put m mu mv, RelFs.put' m mu mv h3⟩
theorem RelH.put {u : HO} (hH : RelH K ι H h) (m : a ∈ ι.res) (nx : some a ∉ ι.ix) (mu : MutO (H a)) (mv : MutO (some u)) : RelH K ι (upd H a u) h := by
  have ht := mu.tup
  have hf := mu.frz
  refine ⟨hH.len, hH.inj, fun b q => ?_, fun b q => ?_, hH.disj, tabs_upd hH.tabs (.inr mu), fun n o q g => ?_⟩
  · exact (hH.live b q).mu mv
  · exact (hH.liveR b q).mu mv
  · obtain ⟨b, e, r⟩ := hH.obj n o q g
    have nb : b ≠ a := by rintro rfl; exact nx (List.mem_of_getElem? e)
    refine ⟨b, e, ?_⟩
    cases o with
    | lst ds => obtain ⟨vs, h1, h2⟩ := r; exact ⟨vs, by rw [upd_ne nb]; exact h1, h2.put m mu mv⟩
    | ins C fs => obtain ⟨dx, vs, h1, h2⟩ := r; exact ⟨dx, vs, by rw [upd_ne nb]; exact h1, h2.put' m mu mv⟩
    | gone => trivial
/-- a later moment, what was not there at the start is written -/
theorem Ext.put {u : HO} (e : Ext ι H ι' H') (hn : H a = Option.none) : Ext ι H ι' (upd H' a u) := by
  have ne : ∀ b o, H b = some o → b ≠ a := fun b o q => ne_of_none q hn
  refine ⟨e.pre, e.res1, e.res2, e.tab, fun b o q n t => ?_, fun b xs q => ?_, fun b o w q => ?_, fun b f q => ?_, fun b q => (e.there b q).upd (q.ne hn)⟩
  · rw [upd_ne (ne _ _ q)]; exact e.keep b o q n t
  · rw [upd_ne (ne _ _ q)]; exact e.tups b xs q
  · rw [upd_ne (ne _ _ q)]; exact e.frzs b o w q
  · rw [upd_ne (ne _ _ q)]; exact e.exts b f q
theorem RelDs.snoc {ι : Ad} {H : Hp} {d : D} {v : V} {ds : List D} {vs : List V} (rs : RelDs K ι H ds vs) (r : RelD K ι H d v) : RelDs K ι H (ds ++ [d]) (vs ++ [v]) := rs.append ⟨v, [], rfl, r, rfl⟩
end
theorem lc_run {K : Frag} {W' : WX} {mi : LI} {p : Pt} {t : LX Bool} {e : LE} {vs : List Nat} {Q : List D → LH → Prop} {E : XL} {σ : LV} {h : LH} {ι : Ad} {H : Hp} {σV : L2.St} {Qv : VK} (hi : Mono mi) (ht : Mono t) (he : Mono e) (ho : ∀ i ∈ p.own, i ∈ vs)
    (hS : RelS K ι H σ σV) (hH : RelH K ι H h) (q : eFor mi p t e vs σ h Q E)
    (hE : ∀ c fs h1 ι1 dx H1, E c fs h1 → Ext ι H ι1 H1 → RelH K ι1 H1 h1 → RelX K ι1 H1 fs dx → W' (.ref (He.ga K c)) dx σV H1)
    (k : ∀ acc h1 D vsV ι1 H1, Q acc h1 → Ext ι H ι1 H1 → RelH K ι1 H1 h1 → ¬ Lv H D → H1 D = some (.lst vsV) → D ∈ ι1.res → some D ∉ ι1.ix → RelDs K ι1 H1 acc vsV → Qv (.ref D) H1) :
    tLc (tI K W' mi) (p.g K) (tT K NoW t) (tE K NoW e) vs σV H Qv := by
  refine tX.into hi hS hH q (fun J h1 ι1 Jv H1 q1 e1 hH1 r D hD => ?_) hE
  obtain ⟨I, i0, hok, step, done⟩ := q1
  have hS1 := hS.ext e1
  have hD0 : ¬ Lv H D := fun l => (e1.there D l).no hD
  let St : Nat → Hp → Prop := fun i H' => ∃ ι' acc vsV h', Ext ι1 H1 ι' H' ∧ RelH K ι' H' h' ∧ D ∈ ι'.res ∧ some D ∉ ι'.ix ∧ H' D = some (.lst vsV) ∧ RelDs K ι' H' acc vsV ∧ I i acc h'
  refine ⟨fun i m H' => i ≤ J.items.length ∧ m = J.items.length - i ∧ St i H', ⟨_, Nat.zero_le _, rfl, ι1.aside D, [], [], h1, Ext.lay hD, hH1.lay hD (fun _ z => by cases z), List.mem_cons_self, fun z => ?_, upd_same, rfl, i0⟩, ?_⟩
  · exact (hH1.live D z).no hD
  rintro i m H' ⟨hi', rfl, ι', acc, vsV, h', e', hH', hm, nD, hDv, rs, hI⟩
  have ok := hok i acc h' hi' hI
  by_cases hlt : i < J.items.length
  · obtain ⟨x, hx⟩ : ∃ x, J.items[i]? = some x := ⟨_, List.getElem?_eq_getElem hlt⟩
    obtain ⟨go, yl⟩ := r.go i x ι' H' h' hx e' hH' ok
    refine .inr ⟨go, fun H'' => St (i + 1) H'', fun H'' q' => ⟨_, by omega, hlt, rfl, q'⟩, fun v H2 y => ?_⟩
    obtain ⟨e2, hH2, rx⟩ := yl v H2 y
    have e12 := e'.trans e2
    have m2 := e2.res1 D hm
    have n2 := e2.nx ⟨_, hDv, fun _ z => by cases z⟩ nD
    have D2 := e2.keep D _ hDv nD (fun _ z => by cases z)
    refine Pt.run (vs := vs) ho ((hS1.ext e12).wipe vs) rx (step i x acc h' hx hI) fun σ3 σV3 q3 hS3 hw => ⟨?_, ?_⟩
    · rw [hw]
      have : ∀ (σ : L2.St) (l l' : List Nat), wipe (wipe σ l) (l' ++ l) = wipe σ (l' ++ l) := by
        intro σ l l'
        induction l' with
        | nil =>
          simp only [List.nil_append]
          have h0 : ∀ (l : List Nat) (i : Nat), (wipe σ l)[i]? = if i ∈ l then (if i < σ.length then some none else none) else σ[i]? := by
            intro l
            induction l with
            | nil => intro i; simp [wipe]
            | cons u l ih =>
              intro i
              unfold wipe
              by_cases hu : u = i
              · subst hu
                rw [List.getElem?_set_self']
                rw [ih u]
                by_cases h1 : u ∈ l <;> by_cases h2 : u < σ.length <;> simp [h1, h2, List.getElem?_eq_none, Nat.le_of_not_lt]
              · rw [List.getElem?_set_ne hu, ih i]
                have : i ≠ u := fun z => hu z.symm
                simp [this]
          have h1 : ∀ (τ : L2.St) (l : List Nat) (i : Nat), (wipe τ l)[i]? = if i ∈ l then (if i < τ.length then some none else none) else τ[i]? := by
            intro τ l
            induction l with
            | nil => intro i; simp [wipe]
            | cons u l ih =>
              intro i
              unfold wipe
              by_cases hu : u = i
              · subst hu
                rw [List.getElem?_set_self']
                rw [ih u]
                by_cases h1 : u ∈ l <;> by_cases h2 : u < τ.length <;> simp [h1, h2, List.getElem?_eq_none, Nat.le_of_not_lt]
              · rw [List.getElem?_set_ne hu, ih i]
                have : i ≠ u := fun z => hu z.symm
                simp [this]
          apply List.ext_getElem?
          intro i
          rw [h1, h0, wipe_length]
          by_cases hi : i ∈ l <;> simp [hi]
        | cons u l' ih => simp only [List.cons_append]; unfold wipe; rw [ih]
      have w := this σV vs []
      simpa using w
    refine tT.into ht hS3 hH2 q3 (fun b h3 ι3 H3 q4 e3 hH3 => ?_) (fun _ _ _ _ _ _ z => z.elim)
    have e13 := e12.trans e3
    have m3 := e3.res1 D m2
    have n3 := e3.nx ⟨_, D2, fun _ z => by cases z⟩ n2
    have D3 := e3.keep D _ D2 n2 (fun _ z => by cases z)
    cases b with
    | false =>
      rw [if_neg Bool.false_ne_true] at q4 ⊢
      exact ⟨ι3, acc, vsV, h3, e13, hH3, m3, n3, D3, rs.ext (e2.trans e3), q4⟩
    | true =>
      rw [if_pos rfl] at q4 ⊢
      refine tX.into he (hS3.ext e3) hH3 q4 (fun y h4 ι4 vy H4 q5 e4 hH4 ry => ?_) (fun _ _ _ _ _ _ z => z.elim)
      have D4 := e4.keep D _ D3 n3 (fun _ z => by cases z)
      have n4 := e4.nx ⟨_, D3, fun _ z => by cases z⟩ n3
      have m4 := e4.res1 D m3
      have rs4 := rs.ext ((e2.trans e3).trans e4)
      have tt : ∀ xs, H4 D ≠ some (.tup xs) := fun xs z => by rw [D4] at z; cases z
      have ff : ∀ o w, H4 D ≠ some (.frz o w) := fun o w z => by rw [D4] at z; cases z
      refine ⟨vsV, D4, by rw [← rs.length]; exact q5.1, ι4, acc ++ [y], vsV ++ [vy], h4, (e13.trans e4).put hD, hH4.put m4 n4 (by rw [D4]; trivial) trivial, m4, n4, upd_same, (rs4.snoc ry).put (u := .lst (vsV ++ [vy])) m4 (by rw [D4]; trivial) trivial, q5.2⟩
  · have ei : i = J.items.length := by omega
    subst ei
    exact .inl ⟨r.stop ι' H' h' e' hH' ok, k acc h' D vsV ι' H' (done acc h' hI) (e1.trans e') hH' hD0 hDv hm nD rs⟩
theorem mono_eFor {mi : LI} {p : Pt} {t : LX Bool} {e : LE} {vs : List Nat} {σ : LV} {h : LH} {Q Q' : List D → LH → Prop} {E E' : XL} (hi : Mono mi) (hQ : ∀ d h, Q d h → Q' d h) (hE : ∀ c fs h, E c fs h → E' c fs h) (q : eFor mi p t e vs σ h Q E) : eFor mi p t e vs σ h Q' E' :=
  hi σ h _ _ _ _ (fun J h1 ⟨I, h0, hok, hs, hd⟩ => ⟨I, h0, hok, hs, fun acc h q => hQ _ _ (hd acc h q)⟩) hE q
section
variable {K : Frag} {ι ι' : Ad} {H H' : Hp} {h : LH} {a : Addr} {r : List Addr}
mutual
theorem RelD.pro (hr : ∀ b, b ∈ r → b ∈ ι.res) (m : a ∈ ι.res) : ∀ {d : D} {v : V}, RelD K ι H d v → RelD K ((ι.cut r).push a) H d v
  | .non, _, h => h
  | .bl _, _, h => h
  | .int _, _, h => h
  | .str _, _, h => h
  | .tup _, _, ⟨a, vs, h1, h2, h3⟩ => ⟨a, vs, h1, h2, RelDs.pro hr m h3⟩
  | .lst _, _, ⟨b, vs, h1, h2, h3⟩ => ⟨b, vs, h1, by
      rcases h2 with ⟨h2, n⟩ | h2
      · refine .inl ⟨h2, fun z => ?_, fun z => n.2 (hr b z)⟩
        rcases List.mem_append.mp z with z | z
        · exact n.1 z
        · simp only [List.mem_singleton, Option.some.injEq] at z
          subst z; exact n.2 m
      · exact .inr h2, RelDs.pro hr m h3⟩
  | .ob _ _ _, _, ⟨b, dx, vs, h1, n, h3, h4, h5⟩ => ⟨b, dx, vs, h1, ⟨fun z => by
      rcases List.mem_append.mp z with z | z
      · exact n.1 z
      · simp only [List.mem_singleton, Option.some.injEq] at z
        subst z; exact n.2 m, fun z => n.2 (hr b z)⟩, h3, h4, RelDs.pro hr m h5⟩
  | .ref n, _, ⟨b, h1, h2⟩ => ⟨b, by
      show (ι.ix ++ [some a])[n]? = _
      rw [List.getElem?_append_left (List.getElem?_eq_some_iff.mp h1).1]; exact h1, h2⟩
  | .dfn _, _, h => h
  | .dct _ _, _, ⟨b, vs, h1, n, h3, h4, h5⟩ => ⟨b, vs, h1, ⟨fun z => by
      rcases List.mem_append.mp z with z | z
      · exact n.1 z
      · simp only [List.mem_singleton, Option.some.injEq] at z
        subst z; exact n.2 m, fun z => n.2 (hr b z)⟩, h3, h4, RelDs.pro hr m h5⟩
  | .fn _ _ _ _, _, ⟨h1, h2, h3⟩ => ⟨h1, h2, by
      obtain ⟨l, q, f⟩ := h3.pre
      refine ⟨l ++ [some a], by simp [Ad.cut, q], fun b z => ?_⟩
      rcases List.mem_append.mp z with z | z
      · exact f b z
      · simp only [List.mem_singleton, Option.some.injEq] at z
        subst z
        exact (h3.res2 b m).symm, fun b z => h3.res2 b (hr b z), h3.keep, h3.tups, h3.frzs, h3.exts, h3.there⟩
  | .exc _ _ none _ _, _, h => h
  | .exc _ _ (some _) _ _, _, ⟨h0, vs, h1, n, h3, h4⟩ => ⟨h0, vs, h1, ⟨fun z => by
      rcases List.mem_append.mp z with z | z
      · exact n.1 z
      · simp only [List.mem_singleton, Option.some.injEq] at z
        subst z; exact n.2 m, fun z => n.2 (hr _ z)⟩, h3, RelDs.pro hr m h4⟩
theorem RelDs.pro (hr : ∀ b, b ∈ r → b ∈ ι.res) (m : a ∈ ι.res) : ∀ {ds : List D} {vs : List V}, RelDs K ι H ds vs → RelDs K ((ι.cut r).push a) H ds vs
  | [], _, h => h
  | _ :: _, _, ⟨v, r, h1, h2, h3⟩ => ⟨v, r, h1, RelD.pro hr m h2, RelDs.pro hr m h3⟩
end
theorem RelFs.pro (hr : ∀ b, b ∈ r → b ∈ ι.res) (m : a ∈ ι.res) : ∀ {ds : List (Str × D)} {vs : List (Str × V)}, RelFs K ι H ds vs → RelFs K ((ι.cut r).push a) H ds vs
  | [], _, h => h
  | _ :: _, _, ⟨v, r, h1, h2, h3⟩ => ⟨v, r, h1, h2.pro hr m, RelFs.pro hr m h3⟩
/-- what was set aside becomes an object of the logical heap -/
theorem RelH.pro (hr : ∀ b, b ∈ r → b ∈ ι.res) (nr : a ∉ r) (m : a ∈ ι.res) (nx : some a ∉ ι.ix) {ds : List D} {vs : List V} (ha : H a = some (.lst vs)) (rs : RelDs K ι H ds vs) (hH : RelH K ι H h) : RelH K ((ι.cut r).push a) H (h ++ [.lst ds]) := by
  refine ⟨by simp [Ad.cut, hH.len], fun i j b e1 e2 => ?_, fun b q => ?_, fun b q => hH.liveR b (hr b q), fun b q z => ?_, hH.tabs, fun i o' q g => ?_⟩
  · simp only [Ad.cut] at e1 e2
    rcases Nat.lt_or_ge i ι.ix.length with hi | hi
    · rw [List.getElem?_append_left hi] at e1
      rcases Nat.lt_or_ge j ι.ix.length with hj | hj
      · rw [List.getElem?_append_left hj] at e2
        exact hH.inj i j b e1 e2
      · rw [List.getElem?_append_right hj] at e2
        have := List.mem_of_getElem? e2
        simp only [List.mem_singleton, Option.some.injEq] at this
        subst this
        exact absurd (List.mem_of_getElem? e1) nx
    · rw [List.getElem?_append_right hi] at e1
      have z1 := List.mem_of_getElem? e1
      simp only [List.mem_singleton, Option.some.injEq] at z1
      subst z1
      rcases Nat.lt_or_ge j ι.ix.length with hj | hj
      · rw [List.getElem?_append_left hj] at e2
        exact absurd (List.mem_of_getElem? e2) nx
      · have l1 := (List.getElem?_eq_some_iff.mp e1).1
        rw [List.getElem?_append_right hj] at e2
        have l2 := (List.getElem?_eq_some_iff.mp e2).1
        simp only [List.length_singleton] at l1 l2
        omega
  · rcases List.mem_append.mp q with q | q
    · exact hH.live b q
    · simp only [List.mem_singleton, Option.some.injEq] at q
      subst q
      exact ⟨_, ha, fun _ z => by cases z⟩
  · rcases List.mem_append.mp q with q | q
    · exact hH.disj b q (hr b z)
    · simp only [List.mem_singleton, Option.some.injEq] at q
      subst q
      exact nr z
  · rcases Nat.lt_or_ge i h.length with hi | hi
    · rw [List.getElem?_append_left hi] at q
      obtain ⟨b, e, r'⟩ := hH.obj i o' q g
      refine ⟨b, by simp only [Ad.cut]; rw [List.getElem?_append_left (by rw [hH.len]; exact hi)]; exact e, ?_⟩
      cases o' with
      | lst ds => obtain ⟨vs, h1, h2⟩ := r'; exact ⟨vs, h1, h2.pro hr m⟩
      | ins C fs => obtain ⟨dx, vs, h1, h2⟩ := r'; exact ⟨dx, vs, h1, h2.pro hr m⟩
      | gone => trivial
    · have l := (List.getElem?_eq_some_iff.mp q).1
      have en : i = h.length := by simp only [List.length_append, List.length_singleton] at l; omega
      subst en
      rw [List.getElem?_append_right (Nat.le_refl _), Nat.sub_self] at q
      cases q
      refine ⟨a, by simp only [Ad.cut]; rw [← hH.len, List.getElem?_append_right (Nat.le_refl _), Nat.sub_self]; rfl, vs, ha, rs.pro hr m⟩
theorem Ext.pro (e : Ext ι H ι' H') (hn : ¬ Lv H a) : Ext ι H ((ι'.cut ι.res).push a) H' := by
  obtain ⟨l, ql, f⟩ := e.pre
  refine ⟨⟨l ++ [some a], by simp [Ad.cut, ql], fun b z => ?_⟩, fun _ z => z, fun _ z => .inl z, e.tab, e.keep, e.tups, e.frzs, e.exts, e.there⟩
  rcases List.mem_append.mp z with z | z
  · exact f b z
  · simp only [List.mem_singleton, Option.some.injEq] at z
    subst z; exact hn
end
section
variable {elt tg iter : Expr} {ifs : List Expr} {scope : Scope} {own : List (Str × Nat)} {pos : Pos} {mi : LI} {p : Pt} {t : LX Bool} {m : LE}
theorem je_lc (hc : X.calm = true) (hN : X.N.Nodup) (hi : JI X W tg iter mi) (ok : BlkOk X.N X.env.scope scope own) (ho : ∀ i ∈ p.own, i ∈ own.map (·.2))
    (hg : ∀ (s : Shared) (H : Hp) (C : Addr) (cl : List (Str × Addr)) (fp : List Addr), PG (X.blk s H scope (compEnvC scope cl C X.env) fp) tg (p.g X.K))
    (ht : ∀ (s : Shared) (H : Hp) (C : Addr) (cl : List (Str × Addr)) (fp : List Addr), JTs (X.blk s H scope (compEnvC scope cl C X.env) fp) NoW ifs t)
    (he : ∀ (s : Shared) (H : Hp) (C : Addr) (cl : List (Str × Addr)) (fp : List Addr), JE (X.blk s H scope (compEnvC scope cl C X.env) fp) NoW elt m)
    (hs : ∀ x, foldedSetIterable iter X.env x = pure x := by intro _; rfl) : JE X W (.ListComp elt [⟨tg, iter, ifs, 0⟩] scope pos) (eLC mi p t m (own.map (·.2))) := by
  have dummy : Shared := X.s_0
  refine ⟨fun σ h Q Q' E E' hQ hE q => mono_eFor hi.mono (fun acc h q => hQ _ _ q) hE q, PE.weak (pe_lc (tt := tT X.K NoW t) (te := tE X.K NoW m) hc hN hi.run ok hg (fun s H C cl fp => (ht s H C cl fp).run) (fun s H C cl fp => (he s H C cl fp).run) hs) fun σV H Q ⟨ι, σ, h, hS, hH, q⟩ => ?_⟩
  refine lc_run hi.mono (ht dummy H 0 [] []).mono (he dummy H 0 [] []).mono ho hS hH q (fun c fs h1 ι1 dx H1 q1 => q1 ι1 dx H1) fun acc h1 D vsV ι1 H1 q1 e1 hH1 hD hD1 hm nD rs => ?_
  have hr : ∀ b, b ∈ ι.res → b ∈ ι1.res := e1.res1
  refine q1 (ι1.cut ι.res) _ H1 (e1.back (fun _ h => h) hr) (hH1.back hr) ⟨D, vsV, rfl, .inl ⟨hD1, nD, fun z => ?_⟩, rs.back hr⟩
  exact hD (hH.liveR D z)
theorem je_lcM (hc : X.calm = true) (hN : X.N.Nodup) (hi : JI X W tg iter mi) (ok : BlkOk X.N X.env.scope scope own) (ho : ∀ i ∈ p.own, i ∈ own.map (·.2))
    (hg : ∀ (s : Shared) (H : Hp) (C : Addr) (cl : List (Str × Addr)) (fp : List Addr), PG (X.blk s H scope (compEnvC scope cl C X.env) fp) tg (p.g X.K))
    (ht : ∀ (s : Shared) (H : Hp) (C : Addr) (cl : List (Str × Addr)) (fp : List Addr), JTs (X.blk s H scope (compEnvC scope cl C X.env) fp) NoW ifs t)
    (he : ∀ (s : Shared) (H : Hp) (C : Addr) (cl : List (Str × Addr)) (fp : List Addr), JE (X.blk s H scope (compEnvC scope cl C X.env) fp) NoW elt m)
    (hs : ∀ x, foldedSetIterable iter X.env x = pure x := by intro _; rfl) : JE X W (.ListComp elt [⟨tg, iter, ifs, 0⟩] scope pos) (eLCM mi p t m (own.map (·.2))) := by
  have dummy : Shared := X.s_0
  refine ⟨fun σ h Q Q' E E' hQ hE q => mono_eFor hi.mono (fun acc h q => hQ _ _ q) hE q, PE.weak (pe_lc (tt := tT X.K NoW t) (te := tE X.K NoW m) hc hN hi.run ok hg (fun s H C cl fp => (ht s H C cl fp).run) (fun s H C cl fp => (he s H C cl fp).run) hs) fun σV H Q ⟨ι, σ, h, hS, hH, q⟩ => ?_⟩
  refine lc_run hi.mono (ht dummy H 0 [] []).mono (he dummy H 0 [] []).mono ho hS hH q (fun c fs h1 ι1 dx H1 q1 => q1 ι1 dx H1) fun acc h1 D vsV ι1 H1 q1 e1 hH1 hD hD1 hm nD rs => ?_
  have hr : ∀ b, b ∈ ι.res → b ∈ ι1.res := e1.res1
  have nr : D ∉ ι.res := fun z => by
    exact hD (hH.liveR D z)
  refine q1 ((ι1.cut ι.res).push D) _ H1 (e1.pro hD) (hH1.pro hr nr hm nD hD1 rs) ⟨D, ?_, rfl⟩
  simp only [Ad.cut]
  rw [← hH1.len, List.getElem?_append_right (Nat.le_refl _), Nat.sub_self]
  rfl
end
section
variable {elt tg iter : Expr} {ifs : List Expr} {scope : Scope} {own : List (Str × Nat)} {pos spos py : Pos} {mi : LI} {p : Pt} {t : LX Bool} {m : LE} {i : Nat} {y : Str}
/-- the form name = [..] on one line -/
theorem js_setLc (hc : X.calm = true) (hN : X.N.Nodup) (hy : X.N[i]? = some y) (hyl : X.env.scope.names.lookup y = some .local) (hsw : swapsWith (.ListComp elt [⟨tg, iter, ifs, 0⟩] scope pos) (some (.Name y py)) spos.line X.env = pure true)
    (hi : JI X W tg iter mi) (ok : BlkOk X.N X.env.scope scope own) (ho : ∀ i ∈ p.own, i ∈ own.map (·.2))
    (hg : ∀ (s : Shared) (H : Hp) (C : Addr) (cl : List (Str × Addr)) (fp : List Addr), PG (X.blk s H scope (compEnvC scope cl C X.env) fp) tg (p.g X.K))
    (ht : ∀ (s : Shared) (H : Hp) (C : Addr) (cl : List (Str × Addr)) (fp : List Addr), JTs (X.blk s H scope (compEnvC scope cl C X.env) fp) NoW ifs t)
    (he : ∀ (s : Shared) (H : Hp) (C : Addr) (cl : List (Str × Addr)) (fp : List Addr), JE (X.blk s H scope (compEnvC scope cl C X.env) fp) NoW elt m)
    (hs : ∀ x, foldedSetIterable iter X.env x = pure x := by intro _; rfl) : JS X W (.Assign [.Name y py] (.ListComp elt [⟨tg, iter, ifs, 0⟩] scope pos) spos) (sAsg (eLC mi p t m (own.map (·.2))) (gNm i)) := by
  have je := je_lc (W := W) (pos := pos) hc hN hi ok ho hg ht he hs
  have dummy : Shared := X.s_0
  refine ⟨fun σ h A B l q => je.mono σ h _ _ _ _ (fun d h1 q1 => l.nx _ _ q1) (exOf.le l σ) q, PS.weak (ps_setLc (tt := tT X.K NoW t) (te := tE X.K NoW m) hc hN hy hyl hsw hi.run ok hg (fun s H C cl fp => (ht s H C cl fp).run) (fun s H C cl fp => (he s H C cl fp).run) hs) fun Dn σV H ⟨ι0, H0, ι, σ, h, e, hS, hH, q⟩ => ?_⟩
  refine lc_run (Qv := fun v H1 => gName i v σV H1 Dn.nx) hi.mono (ht dummy H 0 [] []).mono (he dummy H 0 [] []).mono ho hS hH q (fun c fs h1 ι1 dx H1 q1 e1 hH1 r => q1 ι1 dx σV H1 (e.trans e1) (hS.ext e1) hH1 r) fun acc h1 D vsV ι1 H1 q1 e1 hH1 hD hD1 hm nD rs => ?_
  have hr : ∀ b, b ∈ ι.res → b ∈ ι1.res := e1.res1
  have e2 := e1.back (fun _ h => h) hr
  refine q1 (ι1.cut ι.res) _ H1 (e.trans e2) ((hS.ext e2).set i ⟨D, vsV, rfl, .inl ⟨hD1, nD, fun z => ?_⟩, rs.back hr⟩) (hH1.back hr)
  exact hD (hH.liveR D z)
theorem js_setLcM (hc : X.calm = true) (hN : X.N.Nodup) (hy : X.N[i]? = some y) (hyl : X.env.scope.names.lookup y = some .local) (hsw : swapsWith (.ListComp elt [⟨tg, iter, ifs, 0⟩] scope pos) (some (.Name y py)) spos.line X.env = pure true)
    (hi : JI X W tg iter mi) (ok : BlkOk X.N X.env.scope scope own) (ho : ∀ i ∈ p.own, i ∈ own.map (·.2))
    (hg : ∀ (s : Shared) (H : Hp) (C : Addr) (cl : List (Str × Addr)) (fp : List Addr), PG (X.blk s H scope (compEnvC scope cl C X.env) fp) tg (p.g X.K))
    (ht : ∀ (s : Shared) (H : Hp) (C : Addr) (cl : List (Str × Addr)) (fp : List Addr), JTs (X.blk s H scope (compEnvC scope cl C X.env) fp) NoW ifs t)
    (he : ∀ (s : Shared) (H : Hp) (C : Addr) (cl : List (Str × Addr)) (fp : List Addr), JE (X.blk s H scope (compEnvC scope cl C X.env) fp) NoW elt m)
    (hs : ∀ x, foldedSetIterable iter X.env x = pure x := by intro _; rfl) : JS X W (.Assign [.Name y py] (.ListComp elt [⟨tg, iter, ifs, 0⟩] scope pos) spos) (sAsg (eLCM mi p t m (own.map (·.2))) (gNm i)) := by
  have je := je_lcM (W := W) (pos := pos) hc hN hi ok ho hg ht he hs
  have dummy : Shared := X.s_0
  refine ⟨fun σ h A B l q => je.mono σ h _ _ _ _ (fun d h1 q1 => l.nx _ _ q1) (exOf.le l σ) q, PS.weak (ps_setLc (tt := tT X.K NoW t) (te := tE X.K NoW m) hc hN hy hyl hsw hi.run ok hg (fun s H C cl fp => (ht s H C cl fp).run) (fun s H C cl fp => (he s H C cl fp).run) hs) fun Dn σV H ⟨ι0, H0, ι, σ, h, e, hS, hH, q⟩ => ?_⟩
  refine lc_run (Qv := fun v H1 => gName i v σV H1 Dn.nx) hi.mono (ht dummy H 0 [] []).mono (he dummy H 0 [] []).mono ho hS hH q (fun c fs h1 ι1 dx H1 q1 e1 hH1 r => q1 ι1 dx σV H1 (e.trans e1) (hS.ext e1) hH1 r) fun acc h1 D vsV ι1 H1 q1 e1 hH1 hD hD1 hm nD rs => ?_
  have hr : ∀ b, b ∈ ι.res → b ∈ ι1.res := e1.res1
  have e2 := e1.pro hD
  have nr : D ∉ ι.res := fun z => by
    exact hD (hH.liveR D z)
  refine q1 ((ι1.cut ι.res).push D) _ H1 (e.trans e2) ((hS.ext e2).set i ⟨D, ?_, rfl⟩) (hH1.pro hr nr hm nD hD1 rs)
  simp only [Ad.cut]
  rw [← hH1.len, List.getElem?_append_right (Nat.le_refl _), Nat.sub_self]
  rfl
end
end LL
end

section
set_option Elab.async false
set_option linter.all false
set_option maxRecDepth 100000
set_option maxHeartbeats 1000000
/-! LLData: operators on data of any kind; truth; texts; repr; methods of lists. -/
namespace LL
open PySem PySem.Spec PyProof.Rows L2
variable {X : Cx} {W : WX}

/-! ### a list in its exact form -/
def LstX (K : Frag) (H : Hp) (a : Addr) (xs : List V) : Prop := H a = some (.lst xs) ∨ (∃ o, H a = some (.frz o (.lst xs))) ∨ KL K a xs
theorem FzL.x {K : Frag} {ι : Ad} {H : Hp} {a : Addr} {vs : List V} (h : FzL K ι H a vs) : LstX K H a vs := by
  rcases h with ⟨h, _⟩ | h | h
  · exact .inl h
  · exact .inr (.inl h)
  · exact .inr (.inr h)
theorem LstX.get {pins : List (Addr × Obj)} {σ : L2.St} {H : Hp} {s : Shared} {a : Addr} {xs : List V} (I : Inv X pins σ H s) (h : LstX X.K H a xs) : xs.length ≤ sizeLine ∧ ∃ (its : List Value) (n : Nat), Vals xs its ∧ xs.length = its.length ∧ IsL s.heap a its.toArray n := by
  rcases h with h | ⟨o, h⟩ | ⟨its, n, h1, h2, h3⟩
  · exact I.lstM h
  · obtain ⟨_, z, its, n, r, e⟩ := I.hok a _ h
    exact ⟨z, its, n, r, r.length, e⟩
  · exact ⟨h2, its, n, h3, h3.length, I.kIn a _ h1⟩
theorem seqX_run {K : Frag} {ι : Ad} {H : Hp} {h : LH} {d : D} {v : V} {Q : List D → Prop} (hH : RelH K ι H h) (r : RelD K ι H d v) (q : seqL d h Q) : ∃ a xs ds, v = .ref a ∧ LstX K H a xs ∧ RelDs K ι H ds xs ∧ Q ds := by
  unfold seqL at q
  split at q
  · obtain ⟨a, vs, rfl, hf, rs⟩ := r
    exact ⟨a, vs, _, rfl, hf.x, rs, q⟩
  · obtain ⟨a, ha, rfl⟩ := r
    split at q
    · rename_i ho
      obtain ⟨vs, h1, rs⟩ := hH.lst ha ho
      exact ⟨a, vs, _, rfl, .inl h1, rs, q⟩
    · exact q.elim
  · exact q.elim

/-! ### + -/
def rCatL (K : Frag) : R2 := fun x y H Q => ∃ l b xs zs, x = .ref l ∧ y = .ref b ∧ LstX K H l xs ∧ LstX K H b zs ∧ xs.length + zs.length ≤ sizeLine ∧ ∀ p, H p = none → Q (.ref p) (upd H p (.lst (xs ++ zs)))
theorem op_catL : OpR X (binaryOp .Add) (rCatL X.K) := by
  rintro pins s σ H x y v u Q I rx ry ⟨l, b, xs, zs, rfl, rfl, hx, hz, hl, q⟩
  cases rx
  cases ry
  obtain ⟨_, its, n, r, e1, h1⟩ := hx.get I
  obtain ⟨_, its2, n2, r2, e2, h2⟩ := hz.get I
  refine PySem.P.add_list h1 h2 ?_ (by simp only [List.size_toArray]; omega)
  rw [List.append_toArray]
  exact ⟨.ref _, _, I.lnew (t' := s.toks) (r.append r2) (by rw [List.length_append]; exact hl), rfl, q _ I.fresh⟩
theorem OpR.or {op : Value → Value → Sem Value} {r r' : R2} (h : OpR X op r) (h' : OpR X op r') : OpR X op (fun x y H Q => r x y H Q ∨ r' x y H Q) := fun pins s σ H x y v u Q I rx ry q =>
  q.elim (fun q => h pins s σ H x y v u Q I rx ry q) fun q => h' pins s σ H x y v u Q I rx ry q
/-- +: ints, texts, tuples, lists (a new list that nobody changes) -/
def oPlus : LOp := fun x y h Q => match x, y with
  | .int i, .int j => Q (.int (i + j)) h
  | .str i, .str j => i.length + j.length ≤ sizeLine ∧ Q (.str (i ++ j)) h
  | .tup xs, .tup ys => xs ≠ [] ∧ xs.length + ys.length ≤ sizeLine ∧ Q (.tup (xs ++ ys)) h
  | x, y => seqL x h fun xs => seqL y h fun ys => xs.length + ys.length ≤ sizeLine ∧ Q (.lst (xs ++ ys)) h
abbrev rPlus (K : Frag) : R2 := fun x y H Q => (∃ i j : Int, x = .int i ∧ y = .int j ∧ Q (.int (i + j)) H) ∨ ((∃ i j, x = .str i ∧ y = .str j ∧ i.length + j.length ≤ sizeLine ∧ Q (.str (i ++ j)) H) ∨ (rCatT K x y H Q ∨ rCatL K x y H Q))
theorem opsPlus {K : Frag} : OpS K (rPlus K) oPlus := by
  refine ⟨fun x y h Q Q' hQ q => ?_, fun ι H h x y vx vy Q Qv hH rx ry q k => ?_⟩
  · unfold oPlus at *
    split at q
    · exact hQ _ _ q
    · exact ⟨q.1, hQ _ _ q.2⟩
    · exact ⟨q.1, q.2.1, hQ _ _ q.2.2⟩
    · exact seqL_mono (fun xs q => seqL_mono (fun ys q => ⟨q.1, hQ _ _ q.2⟩) q) q
  · unfold oPlus at q
    split at q
    · exact .inl ⟨_, _, rx, ry, k _ h ι _ H q (.refl _ _) hH rfl⟩
    · exact .inr (.inl ⟨_, _, rx, ry, q.1, k _ h ι _ H q.2 (.refl _ _) hH rfl⟩)
    · rename_i xs ys
      obtain ⟨a, us, rfl, ht, rs⟩ := rx
      obtain ⟨b, ws, rfl, ht2, rs2⟩ := ry
      have l1 := rs.length
      have l2 := rs2.length
      refine .inr (.inr (.inl ⟨a, b, us, ws, rfl, rfl, ht, ht2, ?_, by omega, fun e => ?_, fun _ p hp => ?_⟩))
      · rintro rfl
        exact q.1 (List.length_eq_zero_iff.mp (by simpa using l1))
      · subst e
        have : ys = [] := List.length_eq_zero_iff.mp (by simpa using l2)
        subst this
        rw [List.append_nil] at q
        exact k _ h ι _ H q.2.2 (.refl _ _) hH ⟨a, us, rfl, ht, rs⟩
      · have ex : Ext ι H ι (upd H p (.tup (us ++ ws))) := Ext.new hp
        exact k _ h ι _ _ q.2.2 ex (hH.new hp) ⟨p, _, rfl, SqT.of upd_same, (rs.ext ex).append (rs2.ext ex)⟩
    · obtain ⟨a, us, xs, rfl, h1, rs, q⟩ := seqX_run hH rx q
      obtain ⟨b, ws, ys, rfl, h2, rs2, q⟩ := seqX_run hH ry q
      have l1 := rs.length
      have l2 := rs2.length
      refine .inr (.inr (.inr ⟨a, b, us, ws, rfl, rfl, h1, h2, by omega, fun p hp => ?_⟩))
      have ex : Ext ι H ι (upd H p (.lst (us ++ ws))) := Ext.new hp
      exact k _ h ι _ _ q.2 ex (hH.new hp) ⟨p, _, rfl, .inl ⟨upd_same, hH.notNew hp⟩, (rs.ext ex).append (rs2.ext ex)⟩
theorem op_plus : OpR X (binaryOp .Add) (rPlus X.K) := OpR.or op_add (OpR.or op_add_str (OpR.or op_catT op_catL))
theorem je_plus {a b : Expr} {A B : LE} {pos : Pos} (ha : JE X W a A) (hb : JE X W b B) : JE X W (.BinOp a .Add b pos) (eOp oPlus A B) := je_op op_plus opsPlus ha hb

/-! ### data -/
mutual
def dPy : D → Option PyData
  | .non => some .none
  | .bl b => some (.bool b)
  | .int i => some (.int i)
  | .str x => some (.str x)
  | .tup ds => (dPys ds).map .tuple
  | .lst ds => (dPys ds).map .list
  | .ob _ _ _ => none
  | .ref _ => none
  | .dfn _ => none
  | .fn _ _ _ _ => none
  | .dct _ _ => none
  | .exc _ _ _ _ _ => none
def dPys : List D → Option (List PyData)
  | [] => some []
  | d :: ds => match dPy d, dPys ds with
    | some p, some ps => some (p :: ps)
    | _, _ => none
end
mutual
theorem dp_of {K : Frag} {ι : Ad} {H : Hp} : ∀ {d : D} {v : V} {p : PyData}, RelD K ι H d v → dPy d = some p → Dp K H v p
  | .non, v, _, r, e => by obtain rfl : v = .non := r; simp only [dPy, Option.some.injEq] at e; subst e; exact .non
  | .bl b, v, _, r, e => by obtain rfl : v = .bl b := r; simp only [dPy, Option.some.injEq] at e; subst e; exact .bl b
  | .int i, v, _, r, e => by obtain rfl : v = .int i := r; simp only [dPy, Option.some.injEq] at e; subst e; exact .int i
  | .str x, v, _, r, e => by obtain rfl : v = .str x := r; simp only [dPy, Option.some.injEq] at e; subst e; exact .str x
  | .tup ds, _, _, ⟨a, vs, h1, h2, h3⟩, e => by
    simp only [dPy, Option.map_eq_some_iff] at e
    obtain ⟨ps, e1, e2⟩ := e
    subst h1 e2
    exact .tup h2 (dps_of h3 e1)
  | .lst ds, _, _, ⟨a, vs, h1, h2, h3⟩, e => by
    simp only [dPy, Option.map_eq_some_iff] at e
    obtain ⟨ps, e1, e2⟩ := e
    subst h1 e2
    exact .lst h2.sq (dps_of h3 e1)
  | .ob _ _ _, _, _, _, e => by simp [dPy] at e
  | .ref _, _, _, _, e => by simp [dPy] at e
  | .dfn _, _, _, _, e => by simp [dPy] at e
  | .fn _ _ _ _, _, _, _, e => by simp [dPy] at e
  | .dct _ _, _, _, _, e => by simp [dPy] at e
  | .exc _ _ _ _ _, _, _, _, e => by simp [dPy] at e
theorem dps_of {K : Frag} {ι : Ad} {H : Hp} : ∀ {ds : List D} {vs : List V} {ps : List PyData}, RelDs K ι H ds vs → dPys ds = some ps → DpAll K H vs ps
  | [], vs, _, r, e => by obtain rfl : vs = [] := r; simp only [dPys, Option.some.injEq] at e; subst e; exact .nil
  | d :: ds, _, _, ⟨v, r, h1, h2, h3⟩, e => by
    simp only [dPys] at e
    split at e
    · rename_i p ps e1 e2
      cases e
      subst h1
      exact .cons (dp_of h2 e1) (dps_of h3 e2)
    · cases e
end
/-- .. a list of the logical heap on top -/
def dPyH (h : LH) (d : D) : Option PyData := match d with
  | .ref n => match h[n]? with
    | some (.lst ds) => (dPys ds).map .list
    | _ => none
  | d => dPy d
theorem dpH_of {K : Frag} {ι : Ad} {H : Hp} {h : LH} {d : D} {v : V} {p : PyData} (hH : RelH K ι H h) (r : RelD K ι H d v) (e : dPyH h d = some p) : Dp K H v p := by
  unfold dPyH at e
  split at e
  · obtain ⟨a, ha, rfl⟩ := r
    split at e
    · rename_i ho
      obtain ⟨vs, h1, rs⟩ := hH.lst ha ho
      simp only [Option.map_eq_some_iff] at e
      obtain ⟨ps, e1, rfl⟩ := e
      exact .lst (.inl (.inl h1)) (dps_of rs e1)
    · cases e
  · exact dp_of r e

/-! ### == and != of data -/
def oEqD : LOp := fun x y h Q => match x, y with
  | .int i, .int j => Q (.bl (decide (i = j))) h
  | .str i, .str j => Q (.bl (decide (i = j))) h
  | .bl i, .bl j => Q (.bl (decide (i = j))) h
  | x, y => ∃ p q, dPyH h x = some p ∧ dPyH h y = some q ∧ SeqAt.shaped p = true ∧ SeqAt.shaped q = true ∧ Q (.bl (PyData.eqv p q)) h
def oNeD : LOp := fun x y h Q => match x, y with
  | .int i, .int j => Q (.bl (!decide (i = j))) h
  | .str i, .str j => Q (.bl (!decide (i = j))) h
  | .bl i, .bl j => Q (.bl (!decide (i = j))) h
  | x, y => ∃ p q, dPyH h x = some p ∧ dPyH h y = some q ∧ SeqAt.shaped p = true ∧ SeqAt.shaped q = true ∧ Q (.bl (!PyData.eqv p q)) h
theorem opsEqD {K : Frag} : OpS K (fun x y H Q => rEq x y H Q ∨ rEqD K x y H Q) oEqD := by
  refine ⟨fun x y h Q Q' hQ q => ?_, fun ι H h x y vx vy Q Qv hH rx ry q k => ?_⟩
  · unfold oEqD at *
    split at q <;> first | exact hQ _ _ q | (obtain ⟨p, p', e1, e2, e3, e4, q⟩ := q; exact ⟨p, p', e1, e2, e3, e4, hQ _ _ q⟩)
  · unfold oEqD at q
    split at q
    · exact .inl (opsEq.run ι H h (.int _) (.int _) vx vy Q Qv hH rx ry q k)
    · exact .inl (opsEq.run ι H h (.str _) (.str _) vx vy Q Qv hH rx ry q k)
    · exact .inl (opsEq.run ι H h (.bl _) (.bl _) vx vy Q Qv hH rx ry q k)
    · obtain ⟨p, p', e1, e2, e3, e4, q⟩ := q
      exact .inr ⟨p, p', dpH_of hH rx e1, dpH_of hH ry e2, e3, e4, k _ h ι _ H q (.refl _ _) hH rfl⟩
theorem opsNeD {K : Frag} : OpS K (fun x y H Q => rNe x y H Q ∨ rNeD K x y H Q) oNeD := by
  refine ⟨fun x y h Q Q' hQ q => ?_, fun ι H h x y vx vy Q Qv hH rx ry q k => ?_⟩
  · unfold oNeD at *
    split at q <;> first | exact hQ _ _ q | (obtain ⟨p, p', e1, e2, e3, e4, q⟩ := q; exact ⟨p, p', e1, e2, e3, e4, hQ _ _ q⟩)
  · unfold oNeD at q
    split at q
    · exact .inl (opsNe.run ι H h (.int _) (.int _) vx vy Q Qv hH rx ry q k)
    · exact .inl (opsNe.run ι H h (.str _) (.str _) vx vy Q Qv hH rx ry q k)
    · exact .inl (opsNe.run ι H h (.bl _) (.bl _) vx vy Q Qv hH rx ry q k)
    · obtain ⟨p, p', e1, e2, e3, e4, q⟩ := q
      exact .inr ⟨p, p', dpH_of hH rx e1, dpH_of hH ry e2, e3, e4, k _ h ι _ H q (.refl _ _) hH rfl⟩
section
variable {a b : Expr} {A B : LE} {pos : Pos} {k : Nat}
theorem je_eqD (hr : RoomG k X.A) (ha : JE X W a A) (hb : JE X W b B) : JE X W (.Compare a [.Eq] [b] pos) (eOp oEqD A B) := je_cmp (OpR.or op_eq (op_eqD hr.r.units)) opsEqD ha hb (nomark _)
theorem jt_eqD (hr : RoomG k X.A) (ha : JE X W a A) (hb : JE X W b B) : JT X W (.Compare a [.Eq] [b] pos) (eTest (eOp oEqD A B)) := jt_cmp (OpR.or op_eq (op_eqD hr.r.units)) opsEqD ha hb (nomark _)
theorem je_neD (hr : RoomG k X.A) (ha : JE X W a A) (hb : JE X W b B) : JE X W (.Compare a [.NotEq] [b] pos) (eOp oNeD A B) := je_cmp (OpR.or op_ne (op_neD hr.r.units)) opsNeD ha hb (nomark _)
theorem jt_neD (hr : RoomG k X.A) (ha : JE X W a A) (hb : JE X W b B) : JT X W (.Compare a [.NotEq] [b] pos) (eTest (eOp oNeD A B)) := jt_cmp (OpR.or op_ne (op_neD hr.r.units)) opsNeD ha hb (nomark _)
end

/-! ### in, not in -/
def flD : D → Bool
  | .non => true
  | .bl _ => true
  | .int _ => true
  | .str _ => true
  | _ => false
/-- the flat value -/
def flV : D → V
  | .non => .non
  | .bl b => .bl b
  | .int i => .int i
  | .str x => .str x
  | _ => .non
theorem flD_rel {K : Frag} {ι : Ad} {H : Hp} {d : D} {v : V} (r : RelD K ι H d v) (f : flD d = true) : v = flV d ∧ flatV v = true := by
  cases d with
  | non => obtain rfl : v = .non := r; exact ⟨rfl, rfl⟩
  | bl b => obtain rfl : v = .bl b := r; exact ⟨rfl, rfl⟩
  | int i => obtain rfl : v = .int i := r; exact ⟨rfl, rfl⟩
  | str x => obtain rfl : v = .str x := r; exact ⟨rfl, rfl⟩
  | tup _ => exact absurd f Bool.false_ne_true
  | lst _ => exact absurd f Bool.false_ne_true
  | ob _ _ _ => exact absurd f Bool.false_ne_true
  | ref _ => exact absurd f Bool.false_ne_true
  | dfn _ => exact absurd f Bool.false_ne_true
  | fn _ _ _ _ => exact absurd f Bool.false_ne_true
  | dct _ _ => exact absurd f Bool.false_ne_true
  | exc _ _ _ _ _ => exact absurd f Bool.false_ne_true
theorem flDs_rel {K : Frag} {ι : Ad} {H : Hp} : ∀ {ds : List D} {vs : List V}, RelDs K ι H ds vs → ds.all flD = true → vs = ds.map flV ∧ vs.all flatV = true
  | [], vs, h, _ => by obtain rfl : vs = [] := h; exact ⟨rfl, rfl⟩
  | d :: ds, _, ⟨v, r, h1, h2, h3⟩, f => by
    rw [List.all_cons, Bool.and_eq_true] at f
    obtain ⟨e1, e2⟩ := flD_rel h2 f.1
    obtain ⟨e3, e4⟩ := flDs_rel h3 f.2
    subst h1
    exact ⟨by rw [e1, e3]; rfl, by rw [List.all_cons, e2, e4]; rfl⟩
def inD (x : D) (ds : List D) : Bool := inV (flV x) (ds.map flV)
def oIn (neg : Bool) : LOp := fun x y h Q => flD x = true ∧ seqA y h fun ds => ds.all flD = true ∧ Q (.bl (if neg then !inD x ds else inD x ds)) h
theorem opsIn {K : Frag} {neg : Bool} : OpS K (rIn K neg) (oIn neg) := by
  refine ⟨fun x y h Q Q' hQ q => ⟨q.1, seqA_mono (fun ds q => ⟨q.1, hQ _ _ q.2⟩) q.2⟩, fun ι H h x y vx vy Q Qv hH rx ry q k => ?_⟩
  obtain ⟨a, ds, xs, rfl, h1, rs, q2⟩ := seqA_run hH ry q.2
  obtain ⟨e1, e2⟩ := flD_rel rx q.1
  obtain ⟨e3, e4⟩ := flDs_rel rs q2.1
  refine ⟨a, xs, rfl, h1, e2, e4, ?_⟩
  have := k _ h ι (.bl (if neg then !inD x ds else inD x ds)) H q2.2 (.refl _ _) hH rfl
  unfold inD at this
  rw [e1, e3]
  exact this
section
variable {a b : Expr} {A B : LE} {pos : Pos}
theorem je_in (ha : JE X W a A) (hb : JE X W b B) (hm : behindInMarks .In b = false := by rfl) : JE X W (.Compare a [.In] [b] pos) (eOp (oIn false) A B) := je_cmp op_in_seq opsIn ha hb hm
theorem jt_in (ha : JE X W a A) (hb : JE X W b B) (hm : behindInMarks .In b = false := by rfl) : JT X W (.Compare a [.In] [b] pos) (eTest (eOp (oIn false) A B)) := jt_cmp op_in_seq opsIn ha hb hm
theorem je_notIn (ha : JE X W a A) (hb : JE X W b B) (hm : behindInMarks .NotIn b = false := by rfl) : JE X W (.Compare a [.NotIn] [b] pos) (eOp (oIn true) A B) := je_cmp op_notIn_seq opsIn ha hb hm
theorem jt_notIn (ha : JE X W a A) (hb : JE X W b B) (hm : behindInMarks .NotIn b = false := by rfl) : JT X W (.Compare a [.NotIn] [b] pos) (eTest (eOp (oIn true) A B)) := jt_cmp op_notIn_seq opsIn ha hb hm
end
end LL
end

section
set_option Elab.async false
set_option linter.all false
set_option maxRecDepth 100000
set_option maxHeartbeats 1000000
/-! LLMeth: own special methods, truth, repr, texts, methods of lists. -/
namespace LL
open PySem PySem.Spec PyProof.Rows L2
variable {X : Cx} {W : WX}

/-! ### own special methods: len(o), repr(o), bool(o) -/
section
variable {k : Nat} {f C : Addr} {fd : FuncData} {ps : List Str} {sp : Sp}
theorem own_inst {pins : List (Addr × Obj)} {σ : L2.St} {H : Hp} {s : Shared} {a dx : Addr} {fs : List (Str × V)} (I : Inv X pins σ H s) (h : H a = some (.ins C dx fs)) : ∃ od, PySem.W.InstAt s.heap a (PySem.W.instObj C dx) C od := by
  obtain ⟨m, J, _⟩ := ins_get I.hok h
  obtain ⟨od, J, _⟩ := J.look
  exact ⟨_, J⟩
theorem own_call {pins : List (Addr × Obj)} {σ : L2.St} {H : Hp} {s : Shared} {a : Addr} {A : Around} {Q : VK} (F : FnG X.prog X.w X.K X.mg X.base k f fd ps sp) (hr : RoomG k A) (hA : A.frames = some X.stack) (hb : Binds X.K fd ps []) (I : Inv X pins σ H s)
    (h : sp [.ref a] H Q (fun _ _ _ => False)) : wpAny (model X.prog X.w) A (call (.ref f) [.ref a]) (EP X pins σ Q) X.xe s :=
  run_fnG (E := fun σ => WE NoW σ) (us := [.ref a]) (vs := [.ref a]) F hr hA hb (L2N.passAt takesNo σ) I (.cons rfl .nil) h
def rLenO (sp : Sp) (C : Addr) : List V → Hp → VK → Prop := fun xs H Q => ∃ a dx fs, xs = [.ref a] ∧ H a = some (.ins C dx fs) ∧ sp [.ref a] H (fun v H' => ∃ n : Int, v = .int n ∧ (0 ≤ n ∧ n < 2 ^ 63) ∧ Q (.int n) H') (fun _ _ _ => False)
theorem cr_lenO (F : FnG X.prog X.w X.K X.mg X.base k f fd ps sp) (hr : RoomG (k + 1) X.A) (hb : Binds X.K fd ps []) (hs : PySem.W.findIn X.K (.ref C) "__len__" = some (some (.ref f))) (hf : PySem.W.isFn X.K (.ref f) = true) : CallR X (.builtin "len") (rLenO sp C) := by
  rintro pins s σ H xs us Q I r ⟨a, dx, fs, rfl, h, q⟩
  obtain rfl := Vals.ref1 r
  obtain ⟨od, J⟩ := own_inst I h
  obtain ⟨m, hF⟩ := I.fr
  refine PySem.W.len_K hF I.ok.mod.kin J hs hf (thn (own_call (A := X.A.in1) F hr.in1 I.env0.frames hb I q) fun u s1 ⟨v, H1, I1, rv, n, e, hn, q1⟩ => ?_)
  subst e
  obtain ⟨t, rfl⟩ := rv
  exact ⟨hn, .int n, H1, I1.tok _, ⟨_, rfl⟩, q1⟩
def rReprO (sp : Sp) (C : Addr) : List V → Hp → VK → Prop := fun xs H Q => ∃ a dx fs, xs = [.ref a] ∧ H a = some (.ins C dx fs) ∧ sp [.ref a] H (fun v H' => ∃ x, v = .str x ∧ Q (.str x) H') (fun _ _ _ => False)
theorem cr_reprO (F : FnG X.prog X.w X.K X.mg X.base k f fd ps sp) (hr : RoomG (k + 1) X.A) (hb : Binds X.K fd ps []) (hs : PySem.W.findIn X.K (.ref C) "__repr__" = some (some (.ref f))) (hf : PySem.W.isFn X.K (.ref f) = true) : CallR X (.builtin "repr") (rReprO sp C) := by
  rintro pins s σ H xs us Q I r ⟨a, dx, fs, rfl, h, q⟩
  obtain rfl := Vals.ref1 r
  obtain ⟨od, J⟩ := own_inst I h
  obtain ⟨m, hF⟩ := I.fr
  refine PySem.W.repr_K hr.in1.r.units0 hF I.ok.mod.kin J hs hf (thn (own_call (A := X.A.in1) F hr.in1 I.env0.frames hb I q) fun u s1 ⟨v, H1, I1, rv, x, e, q1⟩ => ?_)
  subst e
  obtain ⟨t, rfl⟩ := rv
  exact ⟨.str x, H1, I1, ⟨t, rfl⟩, q1⟩
/-- the body of len, at an own __len__ -/
theorem len_body {prog : Program} {w : World} {A : Around} {E : Value → Shared → Prop} {s : Shared} {K : Frag} {x : Addr} {ox : Obj} {od : Option Obj} {Q : Value → Shared → Prop} (KX : K.In s.heap) (J : PySem.W.InstAt s.heap x ox C od)
    (hs : PySem.W.findIn K (.ref C) "__len__" = some (some (.ref f))) (hf : PySem.W.isFn K (.ref f) = true) (h : wpAny (model prog w) A (call (.ref f) [.ref x]) (PySem.W.LenBack Q) E s) :
    wpAny (model prog w) A (Builtin.«len» ⟨[.ref x], []⟩) (fun fin s' => ∃ r, fin = .done (.ret r) ∧ Q r s') E s := by
  unfold Builtin.«len»
  refine wpAny_bind (m := oneArg "len" _) (wpAny_pure (wpAny_bind (m := callSpecial? (.ref x) (Str.ofString "__len__")) (PySem.W.special_fn KX J hs (beq_iff_eq.mp hf) (wpAny_mono h (fun r s' hr => ?_) fun _ _ y => y))))
  cases r with
  | int n u =>
    obtain ⟨⟨h0, h1⟩, hq⟩ := hr
    refine wpAny_bind (wpAny_holding (wpAny_pure (wpAny_bind (wpAny_letGo ?_))))
    show wpAny _ _ (if n < 0 then _ else _) _ _ _
    rw [if_neg (Int.not_lt.mpr h0)]
    show wpAny _ _ (if n ≥ 2 ^ 63 then _ else _) _ _ _
    rw [if_neg (Int.not_le.mpr h1)]
    exact wpAny_bind (wpAny_mkInt (wpAny_pure ⟨_, rfl, hq⟩))
  | _ => exact hr.elim
theorem spV_mono {K : Frag} {n : Nat} {G : LSp} (hG : MonoP G) {vs : List V} {H : Hp} {Q Q' : VK} {E : XK} (hQ : ∀ v H, Q v H → Q' v H) (h : spV K n G vs H Q E) : spV K n G vs H Q' E := by
  obtain ⟨ι, ds, h', a, b, c, q⟩ := h
  exact ⟨ι, ds, h', a, b, c, hG _ _ _ _ _ _ (fun d h2 q2 ι' v H' e hH r => hQ _ _ (q2 ι' v H' e hH r)) (fun _ _ _ q2 => q2) q⟩
/-- truth by an own __len__, no __bool__ -/
theorem truthy_lenO {pins : List (Addr × Obj)} {σ : L2.St} {H : Hp} {s : Shared} {a dx : Addr} {fs : List (Str × V)} {A : Around} {Q : Bool → Shared → Prop} (F : FnG X.prog X.w X.K X.mg X.base k f fd ps sp) (hr : RoomG (k + 1) A) (hA : A.frames = some X.stack) (hb : Binds X.K fd ps [])
    (hn : PySem.W.findIn X.K (.ref C) "__bool__" = some none) (hs : PySem.W.findIn X.K (.ref C) "__len__" = some (some (.ref f))) (hf : PySem.W.isFn X.K (.ref f) = true) (I : Inv X pins σ H s) (h : H a = some (.ins C dx fs))
    (q : sp [.ref a] H (fun v H' => ∃ n : Int, v = .int n ∧ (0 ≤ n ∧ n < 2 ^ 63) ∧ ∀ s', Inv X pins σ H' s' → Q (n != 0) s') (fun _ _ _ => False)) : wpAny (model X.prog X.w) A (truthy (.ref a)) Q X.xe s := by
  obtain ⟨od, J⟩ := own_inst I h
  obtain ⟨m, hF⟩ := I.fr
  have KX := I.ok.mod.kin.keeps hF.keep
  have key : wpAny (model X.prog X.w) A (runValue (.builtin "len" ⟨[.ref a], []⟩)) (fun r s' => ∃ n t, r = .int n t ∧ Q (n != 0) s') X.xe s := by
    refine wpAny_runValue (codeAny_builtin entry_len ?_)
    rw [Around.under_plainId plain_len _]
    refine wpAny_mono (len_body (Q := fun r s' => ∃ n t, r = .int n t ∧ Q (n != 0) s') KX J hs hf (thn (own_call (A := A.in1) F hr.in1 hA hb I q) fun u s1 ⟨v, H1, I1, rv, n, e, hn, q1⟩ => by
      subst e
      obtain ⟨t, rfl⟩ := rv
      exact ⟨hn, n, _, rfl, q1 _ (I1.tok _)⟩)) (fun fin s' h' => ?_) fun _ _ e => e
    obtain ⟨r, rfl, hq⟩ := h'
    exact hq
  unfold truthy
  refine wpAny_bind (m := callSpecial? (.ref a) (Str.ofString "__bool__")) (wpAny_bind (wpAny_bind (J.type.here ((PySem.W.looks_findIn KX hn).here (wpAny_pure ?_)))))
  refine wpAny_bind (wpAny_bind (J.type.here ((PySem.W.looks_findIn KX hs).here ?_)))
  exact wpAny_bind (thn key fun r s' ⟨n, t, e, z⟩ => by subst e; exact wpAny_pure z)
def rBoolO (sp : Sp) (C : Addr) : List V → Hp → VK → Prop := fun xs H Q => ∃ a dx fs, xs = [.ref a] ∧ H a = some (.ins C dx fs) ∧ sp [.ref a] H (fun v H' => ∃ n : Int, v = .int n ∧ (0 ≤ n ∧ n < 2 ^ 63) ∧ Q (.bl (n != 0)) H') (fun _ _ _ => False)
/-- bool's body, whatever the truth of x does -/
theorem bool_body {prog : Program} {w : World} {A : Around} {E : Value → Shared → Prop} {s : Shared} {x : Addr} {Q : Value → Shared → Prop} (h : wpAny (model prog w) A (truthy (.ref x)) (fun b s' => Q (.bool b) s') E s) :
    wpAny (model prog w) A (Builtin.«bool.__new__» ⟨[.type "bool", .ref x], []⟩) (fun fin s' => ∃ r, fin = .done (.ret r) ∧ Q r s') E s := by
  have f1 := PySem.F.conv_sub_bool
  unfold Builtin.«bool.__new__»
  repeat (any_goals (first | assumption | (with_reducible refine wpAny_bind (wpAny_mono h (fun b s' z => ?_) fun _ _ e => e)) | wp_step))
  exact ⟨_, rfl, z⟩
theorem cr_boolO {G : LSp} (hG : MonoP G) (Fg : FnG X.prog X.w X.K X.mg X.base k f fd ps (spV X.K 1 G)) (hr : RoomG (k + 3) X.A) (hb : Binds X.K fd ps []) (hn : PySem.W.findIn X.K (.ref C) "__bool__" = some none) (hs : PySem.W.findIn X.K (.ref C) "__len__" = some (some (.ref f)))
    (hf : PySem.W.isFn X.K (.ref f) = true) : CallR X (.type "bool") (rBoolO (spV X.K 1 G) C) := by
  rintro pins s σ H xs us Q I r ⟨a, dx, fs, rfl, h, q⟩
  obtain rfl := Vals.ref1 r
  let S : PySem.Spec := fun A R s => wpAny (model X.prog X.w) A.in1 (truthy (.ref a)) (fun b s' => R (.ok (.ret (.bool b))) s') (fun e s' => R (.error e) s') s
  have hS : MeetsIn X.prog X.w (Builtin.«bool.__new__» ⟨[.type "bool", .ref a], []⟩) S := fun A R s h =>
    wpAny_mono (bool_body (Q := fun r s' => R (.ok (.ret r)) s') h) (fun fin s' ⟨r, e, z⟩ => by subst e; exact z) fun _ _ e => e
  refine callType_newIn PySem.F.called_bool PySem.F.newNe_bool (PySem.F.typeCall_bool_1 _) (PySem.F.newCall_bool_1 _) (fun obj => PySem.F.args_object_init_2 obj _) PySem.F.entry_bool_new hS ?_
  exact truthy_lenO (k := k) (A := X.A.in1.in1) Fg (hr.in1.in1) I.env0.frames hb hn hs hf I h (spV_mono hG (fun v H' ⟨n, e, hn, z⟩ => ⟨n, e, hn, fun s' I' => ⟨rfl, .bl (n != 0), H', I', rfl, z⟩⟩) q)
end
/-- an instance of the class C -/
def isObj (C : Str) (d : D) (h : LH) : Prop := match d with
  | .ob C' _ _ => C' = C
  | .ref n => match h[n]? with
    | some (.ins C' _) => C' = C
    | _ => False
  | _ => False
theorem isObj_run {K : Frag} {C : Str} {ι : Ad} {H : Hp} {h : LH} {d : D} {v : V} (hH : RelH K ι H h) (r : RelD K ι H d v) (q : isObj C d h) : ∃ a dx fs, v = .ref a ∧ H a = some (.ins (He.ga K C) dx fs) := by
  unfold isObj at q
  split at q
  · obtain ⟨a, dx, vs, rfl, _, h2, _, _⟩ := r
    exact ⟨a, dx, _, rfl, by rw [← q]; exact h2⟩
  · split at q
    · rename_i ho
      obtain ⟨a, ha, rfl⟩ := r
      obtain ⟨dx, vs, h1, h2⟩ := hH.ins ha ho
      exact ⟨a, dx, vs, rfl, by rw [← q]; exact h1⟩
    · exact q.elim
  · exact q.elim
def bOwn (C : Str) (G : LSp) (P : D → (D → Prop) → Prop) : LB := fun ds h Q => match ds with
  | [x] => isObj C x h ∧ G [x] h (fun d h2 => P d fun d' => Q d' h2) (fun _ _ _ => False)
  | _ => False
def pLen (d : D) (Q : D → Prop) : Prop := match d with | .int n => (0 ≤ n ∧ n < 2 ^ 63) ∧ Q (.int n) | _ => False
def pRepr (d : D) (Q : D → Prop) : Prop := match d with | .str x => Q (.str x) | _ => False
def pBool (d : D) (Q : D → Prop) : Prop := match d with | .int n => (0 ≤ n ∧ n < 2 ^ 63) ∧ Q (.bl (n != 0)) | _ => False
section
variable {K : Frag} {C : Str} {G : LSp}
theorem spV_of {ι : Ad} {H : Hp} {h : LH} {x : D} {v : V} {Q0 : D → LH → Prop} {Qv : VK} (hG : MonoP G) (hH : RelH K ι H h) (r : RelD K ι H x v) (q : G [x] h Q0 fun _ _ _ => False)
    (k : ∀ d h' ι' u H', Q0 d h' → Ext ι H ι' H' → RelH K ι' H' h' → RelD K ι' H' d u → Qv u H') : spV K 1 G [v] H Qv fun _ _ _ => False :=
  ⟨ι, [x], h, hH, ⟨v, [], rfl, r, rfl⟩, rfl, hG _ _ _ _ _ _ (fun d h' q' ι' u H' e hH' r' => k d h' ι' u H' q' e hH' r') (fun _ _ _ z => z.elim) q⟩
theorem bsLenO (hG : MonoP G) : CallS K (rLenO (spV K 1 G) (He.ga K C)) (bOwn C G pLen) := by
  refine ⟨fun ds h Q Q' hQ q => ?_, fun ι H h ds vs Q Qv hH rs q k => ?_⟩
  · unfold bOwn at *
    split at q
    · refine ⟨q.1, hG _ _ _ _ _ _ (fun d h2 q2 => ?_) (fun _ _ _ z => z) q.2⟩
      unfold pLen at *
      split at q2
      · exact ⟨q2.1, hQ _ _ q2.2⟩
      · exact q2.elim
    · exact q.elim
  · unfold bOwn at q
    split at q
    · obtain ⟨v, rfl, r⟩ := rs.one
      obtain ⟨a, dx, fs, rfl, h1⟩ := isObj_run hH r q.1
      refine ⟨a, dx, fs, rfl, h1, spV_of hG hH r q.2 fun d h' ι' u H' q' e hH' r' => ?_⟩
      unfold pLen at q'
      split at q'
      · exact ⟨_, r', q'.1, k _ h' ι' _ H' q'.2 e hH' rfl⟩
      · exact q'.elim
    · exact q.elim
theorem bsReprO (hG : MonoP G) : CallS K (rReprO (spV K 1 G) (He.ga K C)) (bOwn C G pRepr) := by
  refine ⟨fun ds h Q Q' hQ q => ?_, fun ι H h ds vs Q Qv hH rs q k => ?_⟩
  · unfold bOwn at *
    split at q
    · refine ⟨q.1, hG _ _ _ _ _ _ (fun d h2 q2 => ?_) (fun _ _ _ z => z) q.2⟩
      unfold pRepr at *
      split at q2
      · exact hQ _ _ q2
      · exact q2.elim
    · exact q.elim
  · unfold bOwn at q
    split at q
    · obtain ⟨v, rfl, r⟩ := rs.one
      obtain ⟨a, dx, fs, rfl, h1⟩ := isObj_run hH r q.1
      refine ⟨a, dx, fs, rfl, h1, spV_of hG hH r q.2 fun d h' ι' u H' q' e hH' r' => ?_⟩
      unfold pRepr at q'
      split at q'
      · exact ⟨_, r', k _ h' ι' _ H' q' e hH' rfl⟩
      · exact q'.elim
    · exact q.elim
theorem bsBoolO (hG : MonoP G) : CallS K (rBoolO (spV K 1 G) (He.ga K C)) (bOwn C G pBool) := by
  refine ⟨fun ds h Q Q' hQ q => ?_, fun ι H h ds vs Q Qv hH rs q k => ?_⟩
  · unfold bOwn at *
    split at q
    · refine ⟨q.1, hG _ _ _ _ _ _ (fun d h2 q2 => ?_) (fun _ _ _ z => z) q.2⟩
      unfold pBool at *
      split at q2
      · exact ⟨q2.1, hQ _ _ q2.2⟩
      · exact q2.elim
    · exact q.elim
  · unfold bOwn at q
    split at q
    · obtain ⟨v, rfl, r⟩ := rs.one
      obtain ⟨a, dx, fs, rfl, h1⟩ := isObj_run hH r q.1
      refine ⟨a, dx, fs, rfl, h1, spV_of hG hH r q.2 fun d h' ι' u H' q' e hH' r' => ?_⟩
      unfold pBool at q'
      split at q'
      · exact ⟨_, r', q'.1, k _ h' ι' _ H' q'.2 e hH' rfl⟩
      · exact q'.elim
    · exact q.elim
end
section
variable {k : Nat} {f : Addr} {C : Str} {G : LSp}
theorem cro_len (F : Keeps X.prog X.w X.K X.mg X.base k f 1 G) (hr : RoomG (k + 1) X.A) (hs : PySem.W.findIn X.K (.ref (He.ga X.K C)) "__len__" = some (some (.ref f))) (hf : PySem.W.isFn X.K (.ref f) = true) : CallR X (.builtin "len") (rLenO (spV X.K 1 G) (He.ga X.K C)) := by
  obtain ⟨hG, fd, ps, hn, F, b⟩ := F
  exact cr_lenO F hr b hs hf
theorem cro_repr (F : Keeps X.prog X.w X.K X.mg X.base k f 1 G) (hr : RoomG (k + 1) X.A) (hs : PySem.W.findIn X.K (.ref (He.ga X.K C)) "__repr__" = some (some (.ref f))) (hf : PySem.W.isFn X.K (.ref f) = true) : CallR X (.builtin "repr") (rReprO (spV X.K 1 G) (He.ga X.K C)) := by
  obtain ⟨hG, fd, ps, hn, F, b⟩ := F
  exact cr_reprO F hr b hs hf
theorem cro_bool (F : Keeps X.prog X.w X.K X.mg X.base k f 1 G) (hr : RoomG (k + 3) X.A) (hn : PySem.W.findIn X.K (.ref (He.ga X.K C)) "__bool__" = some none) (hs : PySem.W.findIn X.K (.ref (He.ga X.K C)) "__len__" = some (some (.ref f))) (hf : PySem.W.isFn X.K (.ref f) = true) :
    CallR X (.type "bool") (rBoolO (spV X.K 1 G) (He.ga X.K C)) := by
  obtain ⟨hG, fd, ps, hn', F, b⟩ := F
  exact cr_boolO hG F hr b hn hs hf
end

/-! ### truth -/
def truD (d : D) (h : LH) (Q : Bool → Prop) : Prop := match d with
  | .non => Q false
  | .bl b => Q b
  | .int i => Q (i != 0)
  | .str x => x.length ≤ sizeLine ∧ Q ((x.length : Int) != 0)
  | .tup ds => Q (!ds.isEmpty)
  | d => seqL d h fun ds => Q (!ds.isEmpty)
theorem truD_mono {d : D} {h : LH} {Q Q' : Bool → Prop} (hQ : ∀ b, Q b → Q' b) (q : truD d h Q) : truD d h Q' := by
  unfold truD at *
  split at q <;> first | exact hQ _ q | exact ⟨q.1, hQ _ q.2⟩ | exact seqL_mono (fun _ => hQ _) q
theorem isEmpty_rel {K : Frag} {ι : Ad} {H : Hp} {ds : List D} {vs : List V} (r : RelDs K ι H ds vs) : (!vs.isEmpty) = !ds.isEmpty := by
  cases ds with
  | nil => obtain rfl : vs = [] := r; rfl
  | cons d ds => obtain ⟨v, r', rfl, _⟩ := r; rfl
theorem truD_run {K : Frag} {ι : Ad} {H : Hp} {h : LH} {d : D} {v : V} {Q : Bool → Prop} (hH : RelH K ι H h) (r : RelD K ι H d v) (q : truD d h Q) : ∃ k, TruV K v H k ∧ Q k := by
  unfold truD at q
  split at q
  · obtain rfl : v = .non := r; exact ⟨false, rfl, q⟩
  · rename_i b; obtain rfl : v = .bl b := r; exact ⟨_, rfl, q⟩
  · rename_i i; obtain rfl : v = .int i := r; exact ⟨_, rfl, q⟩
  · rename_i x; obtain rfl : v = .str x := r; exact ⟨_, ⟨q.1, rfl⟩, q.2⟩
  · obtain ⟨a, vs, rfl, h2, rs⟩ := r
    exact ⟨_, .inr (.inl ⟨vs, h2, (isEmpty_rel rs).symm⟩), q⟩
  · obtain ⟨a, ds, vs, rfl, h2, rs, q⟩ := seqL_run hH r q
    exact ⟨_, .inl ⟨vs, h2, (isEmpty_rel rs).symm⟩, q⟩
def eTru (m : LE) : LX Bool := fun σ h Q E => m σ h (fun d h1 => truD d h1 fun b => Q b h1) E
theorem jt_tru {e : Expr} {m : LE} (h : JE X W e m) (he : ∀ whole, isTrue e X.env whole = (do let v ← whole; standAt e.pos; holding [v] (truthy v)) := by intro _; rfl) : JT X W e (eTru m) := by
  refine ⟨fun σ h' Q Q' E E' hQ hE q => h.mono σ h' _ _ _ _ (fun d h1 q1 => truD_mono (fun b => hQ b h1) q1) hE q, PT.weak (pt_truth h.run he) fun σV H Q ⟨ι, σ, h', hS, hH, q⟩ => ?_⟩
  refine tX.into h.mono hS hH q (fun d h1 ι1 v H1 q1 e1 hH1 r => ?_) (fun c fs h1 ι1 dx H1 q1 => q1 ι1 dx H1)
  obtain ⟨k, t, q2⟩ := truD_run hH1 r q1
  exact ⟨k, t, q2 ι1 k H1 e1 hH1 rfl⟩

/-! ### repr of data -/
def rReprD (K : Frag) : List V → Hp → VK → Prop := fun xs H Q => ∃ v p, xs = [v] ∧ Dp K H v p ∧ p.showable = true ∧ p.shown.length ≤ sizeLine ∧ p.depth ≤ 60 ∧ Q (.str p.shown) H
theorem noDict_dp {K : Frag} {H : Hp} : ∀ {p : PyData} {v : V}, Dp K H v p → p.hasDict = false := by
  have key : ∀ n (p : PyData), sizeOf p ≤ n → ∀ v, Dp K H v p → p.hasDict = false := by
    intro n
    induction n with
    | zero => intro p hp; cases p <;> simp at hp
    | succ n ih =>
      have all : ∀ (ps : List PyData), sizeOf ps ≤ n → ∀ vs, DpAll K H vs ps → PyData.hasDictAll ps = false := by
        intro ps
        induction ps with
        | nil => intro _ _ _; simp [PyData.hasDictAll]
        | cons p ps ih2 =>
          intro hz vs h
          cases h with
          | cons h1 h2 =>
            simp only [List.cons.sizeOf_spec] at hz
            simp only [PyData.hasDictAll, ih p (by omega) _ h1, ih2 (by omega) _ h2, Bool.or_self]
      intro p hp v h
      cases h with
      | non => simp [PyData.hasDict]
      | bl => simp [PyData.hasDict]
      | int => simp [PyData.hasDict]
      | str => simp [PyData.hasDict]
      | lst _ h2 => simp only [PyData.hasDict]; exact all _ (by simp only [PyData.list.sizeOf_spec] at hp; omega) _ h2
      | tup _ h2 => simp only [PyData.hasDict]; exact all _ (by simp only [PyData.tuple.sizeOf_spec] at hp; omega) _ h2
  exact fun {p v} h => key _ p (Nat.le_refl _) v h
theorem cr_reprD {k : Nat} (hr : RoomG k X.A) : CallR X (.builtin "repr") (rReprD X.K) := by
  rintro pins s σ H xs us Q I r ⟨v, p, rfl, hd, hs, hz, hp, q⟩
  obtain ⟨u, rfl, ru⟩ := vals1 r
  have hu := hr.r.units
  have nd := noDict_dp hd
  obtain ⟨as, rd⟩ := Dp.reads I p v u hd ru
  cases hd with
  | non => cases ru; exact PySem.P.repr_of_none ⟨.str _, H, I.tok _, ⟨_, rfl⟩, by simpa [PyData.shown] using q⟩
  | bl b => cases ru; exact PySem.P.repr_of_bool ⟨.str _, H, I.tok _, ⟨_, rfl⟩, by simpa [PyData.shown] using q⟩
  | int i => obtain ⟨t, rfl⟩ := ru; exact PySem.P.repr_of_int (by simpa [PyData.showable] using hs) ⟨.str _, H, I.tok _, ⟨_, rfl⟩, by simpa [PyData.shown] using q⟩
  | str x => obtain ⟨t, rfl⟩ := ru; exact PySem.P.repr_of_str ⟨.str _, H, I.tok _, ⟨_, rfl⟩, by simpa [PyData.shown] using q⟩ (by simpa [PyData.shown] using hz)
  | lst h1 h2 =>
    cases ru
    exact repr_of_reads' rd hs (PyData.noDict_hsm nd) hr.g (by omega) (fun _ _ e => e) (fun h' u tk hk => ⟨.str _, H, I.kept hk, ⟨u, rfl⟩, q⟩) hz
  | tup h1 h2 =>
    cases ru
    exact repr_of_reads' rd hs (PyData.noDict_hsm nd) hr.g (by omega) (fun _ _ e => e) (fun h' u tk hk => ⟨.str _, H, I.kept hk, ⟨u, rfl⟩, q⟩) hz
def bReprD : LB := fun ds h Q => match ds with
  | [d] => ∃ p, dPyH h d = some p ∧ p.showable = true ∧ p.shown.length ≤ sizeLine ∧ p.depth ≤ 60 ∧ Q (.str p.shown) h
  | _ => False
theorem bsReprD {K : Frag} : CallS K (rReprD K) bReprD := by
  refine ⟨fun ds h Q Q' hQ q => ?_, fun ι H h ds vs Q Qv hH rs q k => ?_⟩
  · unfold bReprD at *
    split at q
    · obtain ⟨p, e, a, b, c, q⟩ := q; exact ⟨p, e, a, b, c, hQ _ _ q⟩
    · exact q.elim
  · unfold bReprD at q
    split at q
    · obtain ⟨v, rfl, r⟩ := rs.one
      obtain ⟨p, e, a, b, c, q⟩ := q
      exact ⟨v, p, rfl, dpH_of hH r e, a, b, c, k _ h ι _ H q (.refl _ _) hH rfl⟩
    · exact q.elim

/-! ### f-strings -/
/-- the text of {x} -/
def fmtD (d : D) (Q : Str → Prop) : Prop := match d with
  | .str y => y.length ≤ sizeLine ∧ Q y
  | .int i => i.natAbs.log2 < 1920 ∧ Q (toString i)
  | _ => False
def eFmt (m : LE) : LE := fun σ h Q E => m σ h (fun d h1 => fmtD d fun x => Q (.str x) h1) E
theorem je_fmt {e : Expr} {m : LE} {pos : Pos} (he : JE X W e m) : JE X W (.FormattedValue e (-1) none pos) (eFmt m) := by
  refine ⟨fun σ h Q Q' E E' hQ hE q => he.mono σ h _ _ _ _ (fun d h1 q1 => ?_) hE q, PE.weak (pe_fmt he.run) fun σV H Q ⟨ι, σ, h, hS, hH, q⟩ => ?_⟩
  · unfold fmtD at *
    split at q1
    · exact ⟨q1.1, hQ _ _ q1.2⟩
    · exact ⟨q1.1, hQ _ _ q1.2⟩
    · exact q1.elim
  · refine tX.into he.mono hS hH q (fun d h1 ι1 v H1 q1 e1 hH1 r => ?_) (fun c fs h1 ι1 dx H1 q1 => q1 ι1 dx H1)
    unfold fmtD at q1
    split at q1
    · exact .inl ⟨_, r, q1.1, q1.2 ι1 (.str _) H1 e1 hH1 rfl⟩
    · exact .inr ⟨_, r, q1.1, q1.2 ι1 (.str _) H1 e1 hH1 rfl⟩
    · exact q1.elim
inductive JP (X : Cx) (W : WX) : List Expr → List LE → Prop where
  | nil : JP X W [] []
  | cons {e : Expr} {m : LE} {es : List Expr} {ms : List LE} (h : JE X W e m) (r : JP X W es ms) : JP X W (e :: es) (m :: ms)
theorem JP.pj {es : List Expr} {ms : List LE} (h : JP X W es ms) : PJ X es (ms.map fun m => tE X.K W m) := by
  induction h with
  | nil => exact .nil
  | cons h r ih => exact .cons h.run ih
/-- the texts one behind the other -/
def eJoin : List LE → Str → LV → LH → (Str → LH → Prop) → XL → Prop
  | [], acc, _, h, Q, _ => Q acc h
  | m :: ms, acc, σ, h, Q, E => m σ h (fun d h1 => match d with | .str y => (acc ++ y).length ≤ sizeLine ∧ eJoin ms (acc ++ y) σ h1 Q E | _ => False) E
theorem eJoin_mono {es : List Expr} {ms : List LE} (hp : JP X W es ms) : ∀ (acc : Str) (σ : LV) (h : LH) (Q Q' : Str → LH → Prop) (E E' : XL), (∀ x h, Q x h → Q' x h) → (∀ c fs h, E c fs h → E' c fs h) → eJoin ms acc σ h Q E → eJoin ms acc σ h Q' E' := by
  induction hp with
  | nil => exact fun acc σ h Q Q' E E' hQ hE q => hQ _ _ q
  | cons hm _ ih =>
    intro acc σ h Q Q' E E' hQ hE q
    refine hm.mono σ h _ _ _ _ (fun d h1 q1 => ?_) hE q
    cases d with
    | str y => exact ⟨q1.1, ih _ _ _ _ _ _ _ hQ hE q1.2⟩
    | _ => exact q1.elim
theorem eJoin_run {es : List Expr} {ms : List LE} (hp : JP X W es ms) : ∀ (acc : Str) {ι : Ad} {σ : LV} {h : LH} {σV : L2.St} {H : Hp} {Q0 : Str → LH → Prop} {E0 : XL} {Q : Str → Hp → Prop}, RelS X.K ι H σ σV → RelH X.K ι H h → eJoin ms acc σ h Q0 E0 →
    (∀ x h1 ι1 H1, Q0 x h1 → Ext ι H ι1 H1 → RelH X.K ι1 H1 h1 → Q x H1) → (∀ c fs h1 ι1 dx H1, E0 c fs h1 → Ext ι H ι1 H1 → RelH X.K ι1 H1 h1 → RelX X.K ι1 H1 fs dx → W (.ref (He.ga X.K c)) dx σV H1) →
    tJs (ms.map fun m => tE X.K W m) acc σV H Q := by
  induction hp with
  | nil => exact fun acc ι σ h σV H Q0 E0 Q hS hH q k _ => k acc h ι H q (.refl _ _) hH
  | cons hm _ ih =>
    intro acc ι σ h σV H Q0 E0 Q hS hH q k ke
    refine tX.into hm.mono hS hH q (fun d h1 ι1 v H1 q1 e1 hH1 r => ?_) ke
    cases d with
    | str y =>
      obtain rfl : v = .str y := r
      exact ⟨y, rfl, q1.1, ih _ (hS.ext e1) hH1 q1.2 (fun x h2 ι2 H2 q2 e2 hH2 => k x h2 ι2 H2 q2 (e1.trans e2) hH2) fun c fs h2 ι2 dx H2 q2 e2 hH2 r2 => ke c fs h2 ι2 dx H2 q2 (e1.trans e2) hH2 r2⟩
    | _ => exact q1.elim
def eFstr (ms : List LE) : LE := fun σ h Q E => eJoin ms Str.empty σ h (fun x h1 => Q (.str x) h1) E
theorem je_fstr {v1 v2 : Expr} {rest : List Expr} {ms : List LE} {pos : Pos} (hp : JP X W (v1 :: v2 :: rest) ms) : JE X W (.JoinedStr (v1 :: v2 :: rest) pos) (eFstr ms) := by
  refine ⟨fun σ h Q Q' E E' hQ hE q => eJoin_mono hp _ _ _ _ _ _ _ (fun x h1 q1 => hQ _ _ q1) hE q, PE.weak (pe_joined hp.pj) fun σV H Q ⟨ι, σ, h, hS, hH, q⟩ => ?_⟩
  exact eJoin_run hp Str.empty hS hH q (fun x h1 ι1 H1 q1 e1 hH1 => q1 ι1 (.str x) H1 e1 hH1 rfl) fun c fs h1 ι1 dx H1 q1 => q1 ι1 dx H1
end LL
end

section
set_option Elab.async false
set_option linter.all false
set_option maxRecDepth 100000
set_option maxHeartbeats 1000000
/-! LLFrz: what is new is frozen, what is no longer needed is left out of the logical heap. -/
namespace LL
open PySem PySem.Spec PyProof.Rows L2
variable {X : Cx} {W : WX}

mutual
/-- its references lie below k -/
def D.bel (k : Nat) : D → Bool
  | .ref n => decide (n < k)
  | .tup ds => D.bels k ds
  | .lst ds => D.bels k ds
  | .ob _ _ ds => D.bels k ds
  | .non => true
  | .bl _ => true
  | .int _ => true
  | .str _ => true
  | .dfn _ => true
  | .fn _ _ ι _ => decide (ι.ix.length ≤ k)
  | .dct _ ds => D.bels k ds
  | .exc _ _ _ _ ds => D.bels k ds
def D.bels (k : Nat) : List D → Bool
  | [] => true
  | d :: ds => D.bel k d && D.bels k ds
end
def O.bel (k : Nat) : O → Bool
  | .lst ds => D.bels k ds
  | .ins _ fs => D.bels k (fs.map (·.2))
  | .gone => true
mutual
/-- d' is d with what stands at k or above told inline -/
inductive Frz (h : LH) (k : Nat) : D → D → Prop where
  | old {d : D} (b : d.bel k = true) : Frz h k d d
  | tup {ds ds' : List D} (r : Frzs h k ds ds') : Frz h k (.tup ds) (.tup ds')
  | lst {ds ds' : List D} (r : Frzs h k ds ds') : Frz h k (.lst ds) (.lst ds')
  | ob {C : Str} {ns : List Str} {ds ds' : List D} (r : Frzs h k ds ds') : Frz h k (.ob C ns ds) (.ob C ns ds')
  | newL {n : Nat} {ds ds' : List D} (l : k ≤ n) (e : h[n]? = some (.lst ds)) (r : Frzs h k ds ds') : Frz h k (.ref n) (.lst ds')
  | newI {n : Nat} {C : Str} {fs : List (Str × D)} {ds' : List D} (l : k ≤ n) (e : h[n]? = some (.ins C fs)) (r : Frzs h k (fs.map (·.2)) ds') : Frz h k (.ref n) (.ob C (fs.map (·.1)) ds')
inductive Frzs (h : LH) (k : Nat) : List D → List D → Prop where
  | nil : Frzs h k [] []
  | cons {d d' : D} {ds ds' : List D} (a : Frz h k d d') (r : Frzs h k ds ds') : Frzs h k (d :: ds) (d' :: ds')
end
def Ad.trunc (ι : Ad) (k : Nat) : Ad := ⟨ι.ix.take k, ι.res, ι.tab⟩
section
variable {K : Frag} {ι : Ad} {H : Hp} {h : LH} {k : Nat}
theorem Ad.trunc_no {a : Addr} (n : ι.no a) : (ι.trunc k).no a := ⟨fun z => n.1 (List.mem_of_mem_take z), n.2⟩
theorem FzL.trunc {a : Addr} {vs : List V} (q : FzL K ι H a vs) : FzL K (ι.trunc k) H a vs := by
  rcases q with ⟨q, n⟩ | q
  · exact .inl ⟨q, Ad.trunc_no n⟩
  · exact .inr q
theorem trunc_new {n : Nat} {a : Addr} (hH : RelH K ι H h) (e : ι.ix[n]? = some (some a)) (l : k ≤ n) : (ι.trunc k).no a := by
  refine ⟨fun z => ?_, hH.disj a (List.mem_of_getElem? e)⟩
  obtain ⟨m, q⟩ := List.mem_iff_getElem?.mp z
  have lm : m < k := by
    have := (List.getElem?_eq_some_iff.mp q).1
    simp only [Ad.trunc, List.length_take] at this
    omega
  simp only [Ad.trunc, List.getElem?_take, lm, if_true] at q
  have := hH.inj n m a e q
  omega
theorem RelFs.snd : ∀ {fs : List (Str × D)} {vs : List (Str × V)}, RelFs K ι H fs vs → ∃ us, vs = (fs.map (·.1)).zip us ∧ RelDs K ι H (fs.map (·.2)) us
  | [], vs, h => by obtain rfl : vs = [] := h; exact ⟨[], rfl, rfl⟩
  | (f, d) :: fs, vs, ⟨v, r, h1, h2, h3⟩ => by
    obtain ⟨us, e, q⟩ := RelFs.snd h3
    subst h1 e
    exact ⟨v :: us, rfl, v, us, rfl, h2, q⟩
mutual
theorem RelD.below (d : D) {v : V} (r : RelD K ι H d v) : d.bel ι.ix.length = true := by
  cases d with
  | ref n => obtain ⟨a, e, _⟩ := r; simp only [D.bel, decide_eq_true_eq]; exact (List.getElem?_eq_some_iff.mp e).1
  | tup ds => obtain ⟨_, _, _, _, q⟩ := r; simp only [D.bel]; exact RelDs.below ds q
  | lst ds => obtain ⟨_, _, _, _, q⟩ := r; simp only [D.bel]; exact RelDs.below ds q
  | ob C ns ds => obtain ⟨_, _, _, _, _, _, _, q⟩ := r; simp only [D.bel]; exact RelDs.below ds q
  | non => simp [D.bel]
  | bl _ => simp [D.bel]
  | int _ => simp [D.bel]
  | str _ => simp [D.bel]
  | dfn _ => simp [D.bel]
  | dct _ ds => obtain ⟨_, _, _, _, _, _, q⟩ := r; simp only [D.bel]; exact RelDs.below ds q
  | fn _ _ _ _ =>
    obtain ⟨_, _, e⟩ := r
    obtain ⟨l, q, _⟩ := e.pre
    simp only [D.bel, decide_eq_true_eq]
    rw [q]; simp
  | exc _ _ d _ ds =>
    obtain ⟨_, r⟩ := r
    cases d with
    | none => have r : ds = [] := r; subst r; simp [D.bel, D.bels]
    | some x => obtain ⟨_, _, _, _, q⟩ := r; simp only [D.bel]; exact RelDs.below ds q
theorem RelDs.below (ds : List D) {vs : List V} (r : RelDs K ι H ds vs) : D.bels ι.ix.length ds = true := by
  cases ds with
  | nil => simp [D.bels]
  | cons d ds =>
    obtain ⟨v, q, _, h1, h2⟩ := r
    simp only [D.bels, RelD.below d h1, RelDs.below ds h2, Bool.and_self]
end
mutual
theorem RelD.keepB (d : D) {v : V} (r : RelD K ι H d v) (b : d.bel k = true) : RelD K (ι.trunc k) H d v := by
  cases d with
  | ref n =>
    obtain ⟨a, e, rfl⟩ := r
    simp only [D.bel, decide_eq_true_eq] at b
    exact ⟨a, by simp only [Ad.trunc, List.getElem?_take, b, if_true]; exact e, rfl⟩
  | tup ds => obtain ⟨a, vs, h1, h2, q⟩ := r; exact ⟨a, vs, h1, h2, RelDs.keepB ds q (by simpa [D.bel] using b)⟩
  | lst ds => obtain ⟨a, vs, h1, h2, q⟩ := r; exact ⟨a, vs, h1, h2.trunc, RelDs.keepB ds q (by simpa [D.bel] using b)⟩
  | ob C ns ds => obtain ⟨a, dx, vs, h1, h2, h3, h4, q⟩ := r; exact ⟨a, dx, vs, h1, Ad.trunc_no h2, h3, h4, RelDs.keepB ds q (by simpa [D.bel] using b)⟩
  | non => exact r
  | bl _ => exact r
  | int _ => exact r
  | str _ => exact r
  | dfn _ => exact r
  | dct ks ds => obtain ⟨a, vs, h1, h2, h3, h4, q⟩ := r; exact ⟨a, vs, h1, Ad.trunc_no h2, h3, h4, RelDs.keepB ds q (by simpa [D.bel] using b)⟩
  | fn f' xs ι0 H0 =>
    obtain ⟨h1, h2, e⟩ := r
    obtain ⟨l, q, f⟩ := e.pre
    simp only [D.bel, decide_eq_true_eq] at b
    refine ⟨h1, h2, ⟨l.take (k - ι0.ix.length), ?_, fun a z => f a (List.mem_of_mem_take z)⟩, e.res2, e.keep, e.tups, e.frzs, e.exts, e.there⟩
    show ι.ix.take k = _
    rw [q, List.take_append, List.take_of_length_le b]
  | exc _ _ d _ ds =>
    obtain ⟨h0, r⟩ := r
    refine ⟨h0, ?_⟩
    cases d with
    | none => exact r
    | some x => obtain ⟨vs, h1, h2, h3, q⟩ := r; exact ⟨vs, h1, Ad.trunc_no h2, h3, RelDs.keepB ds q (by simpa [D.bel] using b)⟩
theorem RelDs.keepB (ds : List D) {vs : List V} (r : RelDs K ι H ds vs) (b : D.bels k ds = true) : RelDs K (ι.trunc k) H ds vs := by
  cases ds with
  | nil => exact r
  | cons d ds =>
    obtain ⟨v, q, h0, h1, h2⟩ := r
    simp only [D.bels, Bool.and_eq_true] at b
    exact ⟨v, q, h0, RelD.keepB d h1 b.1, RelDs.keepB ds h2 b.2⟩
end
theorem RelFs.keepB : ∀ {fs : List (Str × D)} {vs : List (Str × V)}, RelFs K ι H fs vs → D.bels k (fs.map (·.2)) = true → RelFs K (ι.trunc k) H fs vs
  | [], _, h, _ => h
  | (f, d) :: fs, _, ⟨v, r, h1, h2, h3⟩, b => by
    simp only [List.map_cons, D.bels, Bool.and_eq_true] at b
    exact ⟨v, r, h1, h2.keepB _ b.1, h3.keepB b.2⟩
theorem Frzs.len : ∀ {ds ds' : List D}, Frzs h k ds ds' → ds.length = ds'.length
  | _, _, .nil => rfl
  | _, _, .cons _ q => congrArg Nat.succ (Frzs.len q)
mutual
theorem RelD.frz (hH : RelH K ι H h) : ∀ {d d' : D} {v : V}, Frz h k d d' → RelD K ι H d v → RelD K (ι.trunc k) H d' v
  | _, _, _, .old b, r => r.keepB _ b
  | _, _, _, .tup q, ⟨a, vs, h1, h2, h3⟩ => ⟨a, vs, h1, h2, RelDs.frz hH q h3⟩
  | _, _, _, .lst q, ⟨a, vs, h1, h2, h3⟩ => ⟨a, vs, h1, h2.trunc, RelDs.frz hH q h3⟩
  | _, _, _, .ob q, ⟨a, dx, vs, h1, h2, h3, h4, h5⟩ => ⟨a, dx, vs, h1, Ad.trunc_no h2, h3, h4.trans q.len, RelDs.frz hH q h5⟩
  | _, _, _, .newL l e q, ⟨a, ha, hv⟩ =>
    let ⟨vs, h1, rs⟩ := hH.lst ha e
    ⟨a, vs, hv, .inl ⟨h1, trunc_new hH ha l⟩, RelDs.frz hH q rs⟩
  | _, _, _, .newI l e q, ⟨a, ha, hv⟩ =>
    let ⟨dx, vs, h1, rs⟩ := hH.ins ha e
    let ⟨us, e2, rs2⟩ := rs.snd
    ⟨a, dx, us, hv, trunc_new hH ha l, by rw [← e2]; exact h1, by simpa using q.len, RelDs.frz hH q rs2⟩
theorem RelDs.frz (hH : RelH K ι H h) : ∀ {ds ds' : List D} {vs : List V}, Frzs h k ds ds' → RelDs K ι H ds vs → RelDs K (ι.trunc k) H ds' vs
  | _, _, _, .nil, r => r
  | _, _, _, .cons a q, ⟨v, w, h1, h2, h3⟩ => ⟨v, w, h1, RelD.frz hH a h2, RelDs.frz hH q h3⟩
end
/-- what stands below k looks at nothing above -/
def belH (k : Nat) (h : LH) : Bool := (h.take k).all (O.bel k)
theorem RelH.trunc (hH : RelH K ι H h) (b : belH k h = true) : RelH K (ι.trunc k) H (h.take k) := by
  refine ⟨by simp [Ad.trunc, hH.len], fun n m a e1 e2 => ?_, fun a m => hH.live a (List.mem_of_mem_take m), hH.liveR, fun a m => hH.disj a (List.mem_of_mem_take m), hH.tabs, fun n o q g => ?_⟩
  · simp only [Ad.trunc, List.getElem?_take] at e1 e2
    split at e1
    · split at e2
      · exact hH.inj n m a e1 e2
      · cases e2
    · cases e1
  · have hb := List.all_eq_true.mp b o (List.mem_of_getElem? q)
    rw [List.getElem?_take] at q
    split at q
    · rename_i l
      obtain ⟨a, e, r⟩ := hH.obj n o q g
      refine ⟨a, by simp only [Ad.trunc, List.getElem?_take, l, if_true]; exact e, ?_⟩
      cases o with
      | lst ds => obtain ⟨vs, h1, h2⟩ := r; exact ⟨vs, h1, h2.keepB _ hb⟩
      | ins C fs => obtain ⟨dx, vs, h1, h2⟩ := r; exact ⟨dx, vs, h1, h2.keepB hb⟩
      | gone => trivial
    · cases q
theorem Ext.trunc {ι' : Ad} {H' : Hp} (e : Ext ι H ι' H') (l : ι.ix.length ≤ k) : Ext ι H (ι'.trunc k) H' := by
  obtain ⟨m, q, f⟩ := e.pre
  refine ⟨⟨m.take (k - ι.ix.length), ?_, fun a z => f a (List.mem_of_mem_take z)⟩, e.res1, e.res2, e.tab, e.keep, e.tups, e.frzs, e.exts, e.there⟩
  simp only [Ad.trunc, q, List.take_append]
  rw [List.take_of_length_le l]
end
/-- a result is frozen: d is told as d', the logical heap is cut at k -/
def frzK (k0 : Nat) (Q : D → LH → Prop) : D → LH → Prop := fun d h => ∃ k d', k0 ≤ k ∧ Frz h k d d' ∧ belH k h = true ∧ Q d' (h.take k)
theorem frzK_mono {k0 : Nat} {Q Q' : D → LH → Prop} (hQ : ∀ d h, Q d h → Q' d h) {d : D} {h : LH} (q : frzK k0 Q d h) : frzK k0 Q' d h := let ⟨k, d', a, b, c, q⟩ := q; ⟨k, d', a, b, c, hQ _ _ q⟩
/-- an expression whose value is frozen -/
def eFrz (m : LE) : LE := fun σ h Q E => m σ h (frzK h.length Q) E
theorem je_frz {e : Expr} {m : LE} (he : JE X W e m) : JE X W e (eFrz m) := by
  refine ⟨fun σ h Q Q' E E' hQ hE q => he.mono σ h _ _ _ _ (fun d h1 q1 => frzK_mono hQ q1) hE q, PE.weak he.run fun σV H Q ⟨ι, σ, h, hS, hH, q⟩ => ?_⟩
  refine ⟨ι, σ, h, hS, hH, he.mono σ h _ _ _ _ (fun d h1 q1 ι1 v H1 e1 hH1 r => ?_) (fun c fs h1 q1 => q1) q⟩
  obtain ⟨k, d', a, b, c, q1⟩ := q1
  exact q1 (ι1.trunc k) v H1 (e1.trunc (by rw [hH.len]; exact a)) (hH1.trunc c) (RelD.frz hH1 b r)
/-- a def whose result is frozen -/
theorem keeps_frz {P : Program} {w : World} {K : Frag} {mg : Str → Option Value} {base : Heap} {x qual : Str} {params : Arguments} {body : List Stmt} {scope : Scope} {dvs : List V} {kws : List (Str × V)} {f : Addr} {fd : FuncData} {N ps : List Str} {k n : Nat} {G : LSp} {b : LS}
    (F : FunD K x qual params body scope dvs kws f fd) (S : FnScope N ps scope) (hn : ps.length = n) (hb : Binds K fd ps []) (hG : MonoP G)
    (hbody : ∀ (cdv : Value) (A : Around) (outer : List Env) (s : Shared) (H : Hp) (E : XK), CodeAt K f cdv → RoomG k (A.deeper (envOfC qual scope s.heap.objs.size f cdv)) →
      JSs (cxOf (L2N.CX P w) P w K mg base N qual scope f cdv A outer s H E) (fun cls d _ H => E cls d H) body b)
    (hv : ∀ ds h Q E, ds.length = n → G ds h Q E → b (startD N ds) h (bodyK (frzK h.length Q) E)) : Keeps P w K mg base (k + 1) f n G := by
  obtain ⟨oc, od, dV, kV, doc, pm, an, cdv, ct, osl, rfl, lk, hcd, _, _⟩ := F.ex
  have len : ∀ vs H Q E, spV K n G vs H Q E → vs.length = ps.length := fun vs H Q E ⟨ι, ds, h, _, r, l, _⟩ => by rw [← r.length, l, hn]
  refine ⟨hG, _, ps, hn, ⟨len, fun A outer s H args us vs Q E hr e0 hbt hv' hsp => ?_⟩, hb⟩
  refine LamX.run_ofS (k := k) lk hcd S hr.r e0 hbt hv' (len vs H Q E hsp) fun hr' => ?_
  obtain ⟨ι, ds, h, hH, r, l, q⟩ := hsp
  have j := hbody cdv A outer s H E ⟨_, _, _, _, lk, rfl, _, hcd⟩ ⟨hr', hr.g⟩
  refine ⟨_, j.run, ι, H, ι, startD N ds, h, .refl _ _, rel_start r, hH, ?_⟩
  refine j.mono _ _ _ _ ?_ (hv ds h _ _ l q)
  have fin : ∀ d h', frzK h.length (fun d h' => ∀ ι' v H', Ext ι H ι' H' → RelH K ι' H' h' → RelD K ι' H' d v → Q v H') d h' → ∀ ι' v H', Ext ι H ι' H' → RelH K ι' H' h' → RelD K ι' H' d v → Q v H' := fun d h' ⟨k, d', a, b, c, q'⟩ ι' v H' e' hH' r' =>
    q' (ι'.trunc k) v H' (e'.trunc (by rw [hH.len]; exact a)) (hH'.trunc c) (RelD.frz hH' b r')
  exact ⟨fun σ' h' q' ι' σV' H' e' _ hH' => fin .non h' q' ι' .non H' e' hH' rfl, fun d h' q' ι' v H' e' hH' r' => fin d h' q' ι' v H' e' hH' r', fun _ _ z => z.elim, fun _ _ z => z.elim, fun c fs σ' h' q' ι' dx σV' H' e' _ hH' r' => q' ι' dx H' e' hH' r'⟩

/-! ### .. where what stood before is as it was -/
theorem RelFs.below {K : Frag} {ι : Ad} {H : Hp} : ∀ {fs : List (Str × D)} {vs : List (Str × V)}, RelFs K ι H fs vs → D.bels ι.ix.length (fs.map (·.2)) = true
  | [], _, _ => by simp [D.bels]
  | (f, d) :: fs, _, ⟨v, r, _, h2, h3⟩ => by simp only [List.map_cons, D.bels, RelD.below d h2, RelFs.below h3, Bool.and_self]
theorem RelH.wf {K : Frag} {ι : Ad} {H : Hp} {h : LH} (hH : RelH K ι H h) : h.all (O.bel h.length) = true := by
  rw [List.all_eq_true]
  intro o ho
  obtain ⟨n, e⟩ := List.mem_iff_getElem?.mp ho
  cases o with
  | gone => rfl
  | lst ds =>
    obtain ⟨a, _, vs, _, r⟩ := hH.obj n _ e (by simp)
    have := RelDs.below ds r
    rw [hH.len] at this
    exact this
  | ins C fs =>
    obtain ⟨a, _, dx, vs, _, r⟩ := hH.obj n _ e (by simp)
    have := RelFs.below r
    rw [hH.len] at this
    exact this
/-- a result is frozen; the logical heap is what it was -/
def frz0K (h0 : LH) (Q : D → LH → Prop) : D → LH → Prop := fun d h => ∃ d', Frz h h0.length d d' ∧ h.take h0.length = h0 ∧ Q d' h0
theorem frz0K.frzK {K : Frag} {ι : Ad} {H : Hp} {h0 h : LH} {Q : D → LH → Prop} {d : D} (hH : RelH K ι H h0) (q : frz0K h0 Q d h) : frzK h0.length Q d h := by
  obtain ⟨d', f, e, q⟩ := q
  refine ⟨h0.length, d', Nat.le_refl _, f, ?_, by rw [e]; exact q⟩
  unfold belH
  rw [e]
  exact hH.wf
theorem frz0K_mono {h0 : LH} {Q Q' : D → LH → Prop} (hQ : ∀ d h, Q d h → Q' d h) {d : D} {h : LH} (q : frz0K h0 Q d h) : frz0K h0 Q' d h := let ⟨d', a, b, q⟩ := q; ⟨d', a, b, hQ _ _ q⟩
def eFrz0 (m : LE) : LE := fun σ h Q E => m σ h (frz0K h Q) E
theorem je_frz0 {e : Expr} {m : LE} (he : JE X W e m) : JE X W e (eFrz0 m) := by
  refine ⟨fun σ h Q Q' E E' hQ hE q => he.mono σ h _ _ _ _ (fun d h1 q1 => frz0K_mono hQ q1) hE q, PE.weak (je_frz he).run fun σV H Q ⟨ι, σ, h, hS, hH, q⟩ => ⟨ι, σ, h, hS, hH, he.mono σ h _ _ _ _ (fun d h1 q1 => q1.frzK hH) (fun c fs h1 q1 => q1) q⟩⟩
/-- a def whose result is frozen, what stood before is as it was -/
theorem keeps_frz0 {P : Program} {w : World} {K : Frag} {mg : Str → Option Value} {base : Heap} {x qual : Str} {params : Arguments} {body : List Stmt} {scope : Scope} {dvs : List V} {kws : List (Str × V)} {f : Addr} {fd : FuncData} {N ps : List Str} {k n : Nat} {G : LSp} {b : LS}
    (F : FunD K x qual params body scope dvs kws f fd) (S : FnScope N ps scope) (hn : ps.length = n) (hb : Binds K fd ps []) (hG : MonoP G)
    (hbody : ∀ (cdv : Value) (A : Around) (outer : List Env) (s : Shared) (H : Hp) (E : XK), CodeAt K f cdv → RoomG k (A.deeper (envOfC qual scope s.heap.objs.size f cdv)) →
      JSs (cxOf (L2N.CX P w) P w K mg base N qual scope f cdv A outer s H E) (fun cls d _ H => E cls d H) body b)
    (hv : ∀ ds h Q E, ds.length = n → G ds h Q E → b (startD N ds) h (bodyK (frz0K h Q) E)) : Keeps P w K mg base (k + 1) f n G := by
  obtain ⟨oc, od, dV, kV, doc, pm, an, cdv, ct, osl, rfl, lk, hcd, _, _⟩ := F.ex
  have len : ∀ vs H Q E, spV K n G vs H Q E → vs.length = ps.length := fun vs H Q E ⟨ι, ds, h, _, r, l, _⟩ => by rw [← r.length, l, hn]
  refine ⟨hG, _, ps, hn, ⟨len, fun A outer s H args us vs Q E hr e0 hbt hv' hsp => ?_⟩, hb⟩
  refine LamX.run_ofS (k := k) lk hcd S hr.r e0 hbt hv' (len vs H Q E hsp) fun hr' => ?_
  obtain ⟨ι, ds, h, hH, r, l, q⟩ := hsp
  have j := hbody cdv A outer s H E ⟨_, _, _, _, lk, rfl, _, hcd⟩ ⟨hr', hr.g⟩
  refine ⟨_, j.run, ι, H, ι, startD N ds, h, .refl _ _, rel_start r, hH, ?_⟩
  refine j.mono _ _ _ _ ?_ (hv ds h _ _ l q)
  have fin : ∀ d h', frz0K h (fun d h' => ∀ ι' v H', Ext ι H ι' H' → RelH K ι' H' h' → RelD K ι' H' d v → Q v H') d h' → ∀ ι' v H', Ext ι H ι' H' → RelH K ι' H' h' → RelD K ι' H' d v → Q v H' := fun d h' q0 ι' v H' e' hH' r' =>
    let ⟨k, d', a, b, c, q'⟩ := q0.frzK hH
    q' (ι'.trunc k) v H' (e'.trunc (by rw [hH.len]; exact a)) (hH'.trunc c) (RelD.frz hH' b r')
  exact ⟨fun σ' h' q' ι' σV' H' e' _ hH' => fin .non h' q' ι' .non H' e' hH' rfl, fun d h' q' ι' v H' e' hH' r' => fin d h' q' ι' v H' e' hH' r', fun _ _ z => z.elim, fun _ _ z => z.elim, fun c fs σ' h' q' ι' dx σV' H' e' _ hH' r' => q' ι' dx H' e' hH' r'⟩

end LL
end

section
set_option Elab.async false
set_option linter.all false
set_option maxRecDepth 100000
set_option maxHeartbeats 1000000
/-! LLKit: methods of lists, isinstance. -/
namespace LL
open PySem PySem.Spec PyProof.Rows L2
variable {X : Cx} {W : WX}

/-! ### methods of lists -/
abbrev LM := D → List D → LH → (D → LH → Prop) → Prop
structure MtS (K : Frag) (r : V → List V → Hp → VK → Prop) (op : LM) : Prop where
  mono : ∀ x ds h (Q Q' : D → LH → Prop), (∀ d h, Q d h → Q' d h) → op x ds h Q → op x ds h Q'
  run : ∀ ι H h x vx ds vs (Q : D → LH → Prop) (Qv : VK), RelH K ι H h → RelD K ι H x vx → RelDs K ι H ds vs → op x ds h Q →
    (∀ d h' ι' v H', Q d h' → Ext ι H ι' H' → RelH K ι' H' h' → RelD K ι' H' d v → Qv v H') → r vx vs H Qv
/-- o.m(..): o is a list -/
def eMt (op : LM) (o : LE) (A : LX (List D)) : LE := fun σ h Q E => o σ h (fun x h1 => (seqL x h1 fun _ => True) ∧ A σ h1 (fun ds h2 => op x ds h2 Q) E) E
section
variable {r : V → List V → Hp → VK → Prop} {op : LM} {o e : Expr} {es : List Expr} {O : LE} {A : LX (List D)} {name : Str} {id : String} {apos pos : Pos}
theorem mono_mt (hs : MtS X.K r op) (ho : Mono O) (ha : Mono A) : Mono (eMt op O A) := fun σ h Q Q' E E' hQ hE q => ho σ h _ _ _ _ (fun x h1 ⟨t, q1⟩ => ⟨t, ha σ h1 _ _ _ _ (fun ds h2 q2 => hs.mono x ds h2 _ _ hQ q2) hE q1⟩) hE q
theorem mt_run (hs : MtS X.K r op) (ho : Mono O) (ha : Mono A) {σV : L2.St} {H : Hp} {Q : VK} (q : tE X.K W (eMt op O A) σV H Q) : tBM X.K "list" r (tE X.K W O) (tA X.K W A) σV H Q := by
  obtain ⟨ι, σ, h, hS, hH, q⟩ := q
  refine tX.into ho hS hH q (fun x h1 ι1 vx H1 q1 e1 hH1 rx => ?_) (fun c fs h1 ι1 dx H1 q1 => q1 ι1 dx H1)
  obtain ⟨a, ds, vs, rfl, hl, _, _⟩ := seqL_run hH1 rx q1.1
  refine ⟨.inl ⟨rfl, vs, hl⟩, ?_⟩
  refine tX.into ha (hS.ext e1) hH1 q1.2 (fun ds h2 ι2 vs H2 q2 e2 hH2 rs => ?_) (fun c fs h2 ι2 dx H2 q2 e2 => q2 ι2 dx H2 (e1.trans e2))
  exact hs.run ι2 H2 h2 x _ ds vs _ _ hH2 (rx.ext e2) rs q2 fun d h' ι' v H' q' e' => q' ι' v H' (e1.trans (e2.trans e'))
theorem je_mt (hm : MtR X id r) (hs : MtS X.K r op) (slot : Slot "list" name id) (hty : typeOf (.builtin id) = pure (.type "method_descriptor")) (ho : JE X W o O) (ha : JA X W (e :: es) A)
    (h : ∀ {to : TE} {t : TA}, PE X o to → PA X (e :: es) t → PE X (.Call (.Attribute o name apos) (e :: es) [] pos) (tBM X.K "list" r to t)) : JE X W (.Call (.Attribute o name apos) (e :: es) [] pos) (eMt op O A) :=
  ⟨mono_mt hs ho.mono ha.mono, PE.weak (h ho.run ha.run) fun _ _ _ q => mt_run hs ho.mono ha.mono q⟩
theorem je_mt0 (hs : MtS X.K r op) (ho : JE X W o O) (h : ∀ {to : TE}, PE X o to → PE X (.Call (.Attribute o name apos) [] [] pos) (tBM0 X.K "list" r to)) : JE X W (.Call (.Attribute o name apos) [] [] pos) (eMt op O eNil) := by
  refine ⟨mono_mt hs ho.mono (ja_nil (X := X) (W := W)).mono, PE.weak (h ho.run) fun σV H Q ⟨ι, σ, h, hS, hH, q⟩ => ?_⟩
  refine tX.into ho.mono hS hH q (fun x h1 ι1 vx H1 q1 e1 hH1 rx => ?_) (fun c fs h1 ι1 dx H1 q1 => q1 ι1 dx H1)
  obtain ⟨a, ds, vs, rfl, hl, _, _⟩ := seqL_run hH1 rx q1.1
  exact ⟨.inl ⟨rfl, vs, hl⟩, hs.run ι1 H1 h1 x _ [] [] _ _ hH1 rx rfl q1.2 fun d h' ι' v H' q' e' => q' ι' v H' (e1.trans e')⟩
end
def mAppend : LM := fun x ds h Q => match x, ds with
  | .ref n, [y] => match h[n]? with
    | some (.lst xs) => xs.length < sizeLine ∧ Q .non (h.set n (.lst (xs ++ [y])))
    | _ => False
  | _, _ => False
theorem RelDs.snoc' {K : Frag} {ι : Ad} {H : Hp} {d : D} {v : V} {ds : List D} {vs : List V} (rs : RelDs K ι H ds vs) (r : RelD K ι H d v) : RelDs K ι H (ds ++ [d]) (vs ++ [v]) := rs.append ⟨v, [], rfl, r, rfl⟩
theorem msAppend {K : Frag} : MtS K rAppend mAppend := by
  refine ⟨fun x ds h Q Q' hQ q => ?_, fun ι H h x vx ds vs Q Qv hH rx rs q k => ?_⟩
  · unfold mAppend at *
    split at q
    · split at q
      · exact ⟨q.1, hQ _ _ q.2⟩
      · exact q.elim
    · exact q.elim
  · unfold mAppend at q
    split at q
    · split at q
      · rename_i ho
        obtain ⟨a, ha, rfl⟩ := rx
        obtain ⟨us, h1, ru⟩ := hH.lst ha ho
        obtain ⟨v, rfl, r⟩ := rs.one
        have mu : MutO (H a) := by rw [h1]; trivial
        have ex : Ext ι H ι (upd H a (.lst (us ++ [v]))) := Ext.write hH ha mu trivial
        exact ⟨a, us, v, rfl, rfl, h1, by rw [← ru.length]; exact q.1, k _ _ ι _ _ q.2 ex (hH.write (o := .lst (_ ++ [_])) ha mu ex ⟨_, upd_same, (ru.ext ex).snoc' (r.ext ex)⟩) rfl⟩
      · exact q.elim
    · exact q.elim
/-- pop() of the last item -/
def mPop : LM := fun x ds h Q => match x, ds with
  | .ref n, [] => match h[n]? with
    | some (.lst xs) => ∃ y, xs[xs.length - 1]? = some y ∧ Q y (h.set n (.lst xs.dropLast))
    | _ => False
  | _, _ => False
theorem RelDs.dropLast {K : Frag} {ι : Ad} {H : Hp} {ds : List D} {vs : List V} (rs : RelDs K ι H ds vs) : RelDs K ι H ds.dropLast vs.dropLast := by
  rw [List.dropLast_eq_take, List.dropLast_eq_take, ← rs.length]
  exact rs.take _
theorem msPop {K : Frag} : MtS K rPop mPop := by
  refine ⟨fun x ds h Q Q' hQ q => ?_, fun ι H h x vx ds vs Q Qv hH rx rs q k => ?_⟩
  · unfold mPop at *
    split at q
    · split at q
      · obtain ⟨y, e, q⟩ := q; exact ⟨y, e, hQ _ _ q⟩
      · exact q.elim
    · exact q.elim
  · unfold mPop at q
    split at q
    · split at q
      · rename_i ho
        obtain ⟨a, ha, rfl⟩ := rx
        obtain ⟨us, h1, ru⟩ := hH.lst ha ho
        obtain rfl : vs = [] := rs
        obtain ⟨y, e, q⟩ := q
        obtain ⟨v, hv, r⟩ := ru.get e
        have mu : MutO (H a) := by rw [h1]; trivial
        have ex : Ext ι H ι (upd H a (.lst us.dropLast)) := Ext.write hH ha mu trivial
        exact ⟨a, us, v, rfl, rfl, h1, by rw [← ru.length]; exact hv, k _ _ ι _ _ q ex (hH.write (o := .lst _) ha mu ex ⟨_, upd_same, (ru.ext ex).dropLast⟩) (r.ext ex)⟩
      · exact q.elim
    · exact q.elim

/-! ### isinstance -/
inductive Ty where
  | bt (s : String)
  | cl (C : Str)
deriving DecidableEq
def Ty.v (K : Frag) : Ty → Value
  | .bt s => .type s
  | .cl C => .ref (He.ga K C)
def tyD (d : D) (h : LH) : Option Ty := match d with
  | .non => some (.bt "NoneType")
  | .bl _ => some (.bt "bool")
  | .int _ => some (.bt "int")
  | .str _ => some (.bt "str")
  | .tup _ => some (.bt "tuple")
  | .lst _ => some (.bt "list")
  | .ob C _ _ => some (.cl C)
  | .ref n => match h[n]? with
    | some (.lst _) => some (.bt "list")
    | some (.ins C _) => some (.cl C)
    | _ => none
  | .dfn _ => none
  | .fn _ _ _ _ => none
  | .dct _ _ => some (.bt "dict")
  | .exc _ _ _ _ _ => none
/-- what isinstance asks of an own class -/
def insB (K : Frag) (C : Str) : Bool := decide (PySem.W.findIn K (.ref (He.ga K C)) "__class__" = some (some (.builtin "object.__class__"))) &&
  (decide (PySem.W.specialIn K (.builtin "object.__class__") "__get__" = some (some (.builtin "getset_descriptor.__get__"))) &&
  (decide (PySem.W.takesIn K (.builtin "object.__class__") = some true) && decide (PySem.W.mroIn K (He.ga K C) (.type "object") = some true)))
/-- an answer of isinstance(x, T), x of the type t -/
def isB (K : Frag) (T : Ty) (p : Ty × Bool) : Bool := decide (PySem.W.kitOne K (p.1.v K) (T.v K) = some p.2) && match p.1 with
  | .cl C => insB K C && (Fa.ok' K C)
  | .bt _ => true
where Fa.ok' (K : Frag) (C : Str) : Bool := (He.Fa.cls C).ok K
theorem tyX_tup {K : Frag} {H : Hp} {a : Addr} {xs : List V} (h : SqT K H a xs) : TyX K H (.ref a) (.type "tuple") := by
  rcases h with (h | ⟨o, h⟩) | ⟨o, its, n, h1, h2, _⟩
  · exact .base (.tup h)
  · exact .fTuple h
  · exact .kTuple h1 h2
theorem tyX_lst {K : Frag} {H : Hp} {a : Addr} {xs : List V} (h : SqL K H a xs) : TyX K H (.ref a) (.type "list") := by
  rcases h with (h | ⟨o, h⟩) | ⟨o, its, n, h1, h2, _⟩
  · exact .base (.lst h)
  · exact .base (.frz h)
  · exact .kList h1 h2
def eIsi (l : List (Ty × Bool)) (m : LE) : LE := fun σ h Q E => m σ h (fun d h1 => ∃ t b, tyD d h1 = some t ∧ l.lookup t = some b ∧ Q (.bl b) h1) E
theorem isi_run {K : Frag} {ι : Ad} {H : Hp} {h : LH} {d : D} {v : V} {T t : Ty} {b : Bool} (hH : RelH K ι H h) (r : RelD K ι H d v) (e : tyD d h = some t) (q : isB K T (t, b) = true) : TyX K H v (t.v K) ∧ PySem.W.kitOne K (t.v K) (T.v K) = some b := by
  unfold isB at q
  obtain ⟨q1, q2⟩ := He.ba q
  refine ⟨?_, of_decide_eq_true q1⟩
  have ins : ∀ {C : Str} {a dx : Addr} {fs : List (Str × V)}, t = .cl C → H a = some (.ins (He.ga K C) dx fs) → TyX K H (.ref a) (t.v K) := by
    rintro C a dx fs rfl h1
    obtain ⟨z1, z2⟩ := He.ba q2
    unfold insB at z1
    obtain ⟨y1, y2⟩ := He.ba z1
    obtain ⟨y3, y4⟩ := He.ba y2
    obtain ⟨y5, y6⟩ := He.ba y4
    exact .base (.ins h1 (He.cls_ok z2) (of_decide_eq_true y1) (of_decide_eq_true y3) (of_decide_eq_true y5) (of_decide_eq_true y6))
  unfold tyD at e
  split at e
  · cases e; obtain rfl : v = .non := r; exact .base .non
  · cases e; rename_i b; obtain rfl : v = .bl b := r; exact .base (.bl b)
  · cases e; rename_i i; obtain rfl : v = .int i := r; exact .base (.int i)
  · cases e; rename_i x; obtain rfl : v = .str x := r; exact .base (.str x)
  · cases e; obtain ⟨a, vs, rfl, h2, _⟩ := r; exact tyX_tup h2
  · cases e; obtain ⟨a, vs, rfl, h2, _⟩ := r; exact tyX_lst h2.sq
  · cases e; obtain ⟨a, dx, vs, rfl, _, h2, _, _⟩ := r; exact ins rfl h2
  · obtain ⟨a, ha, rfl⟩ := r
    split at e
    · rename_i ho; cases e; obtain ⟨vs, h1, _⟩ := hH.lst ha ho; exact .base (.lst h1)
    · rename_i ho; cases e; obtain ⟨dx, vs, h1, _⟩ := hH.ins ha ho; exact ins rfl h1
    · cases e
  · cases e
  · cases e
  · cases e; obtain ⟨a, vs, rfl, _, h2, _⟩ := r; exact .base (.dK h2)
  · cases e
theorem lookup_all {l : List (Ty × Bool)} {t : Ty} {b : Bool} {p : Ty × Bool → Bool} (e : l.lookup t = some b) (h : l.all p = true) : p (t, b) = true := by
  induction l with
  | nil => cases e
  | cons q l ih =>
    obtain ⟨t', b'⟩ := q
    rw [List.all_cons, Bool.and_eq_true] at h
    rw [List.lookup_cons] at e
    cases z : (t == t') with
    | true => rw [z] at e; cases e; rw [beq_iff_eq.mp z]; exact h.1
    | false => rw [z] at e; exact ih e h.2
/-- isinstance(e, T) -/
theorem je_isi {e : Expr} {m : LE} {T : Ty} {tv : V} {x : Str} {l : List (Ty × Bool)} {p p2 pos : Pos} (he : JE X W e m) (hT : PE X (.Name x p2) (tC tv)) (k : ClsV tv (T.v X.K)) (hl : l.all (isB X.K T) = true) (hm : X.mg "isinstance" = none) (hg : Gl X "isinstance" := by rfl)
    (h : ∀ {t : TA}, CallR X (.builtin "isinstance") (rIsi X.K) → Gl X "isinstance" → X.mg "isinstance" = none → PA X [e, .Name x p2] t → PE X (.Call (.Name "isinstance" p) [e, .Name x p2] [] pos) (tCB (rIsi X.K) t) := by exact fun a b c d => pe_callB a b c rfl d)
    (ha : ∀ {te tT : TE}, PE X e te → PE X (.Name x p2) tT → PA X [e, .Name x p2] (tCons te (tCons tT tNil)) := by exact fun a b => pa_cons a (pa_cons b pa_nil)) : JE X W (.Call (.Name "isinstance" p) [e, .Name x p2] [] pos) (eIsi l m) := by
  refine ⟨fun σ h Q Q' E E' hQ hE q => he.mono σ h _ _ _ _ (fun d h1 ⟨t, b, e1, e2, q1⟩ => ⟨t, b, e1, e2, hQ _ _ q1⟩) hE q, PE.weak (h call_isi hg hm (ha he.run hT)) fun σV H Q ⟨ι, σ, h, hS, hH, q⟩ => ?_⟩
  refine tX.into he.mono hS hH q (fun d h1 ι1 v H1 q1 e1 hH1 r => ?_) (fun c fs h1 ι1 dx H1 q1 => q1 ι1 dx H1)
  obtain ⟨t, b, e2, e3, q2⟩ := q1
  obtain ⟨z1, z2⟩ := isi_run hH1 r e2 (lookup_all e3 hl)
  exact ⟨v, tv, _, _, b, rfl, k, z1, z2, q2 ι1 _ H1 e1 hH1 rfl⟩
end LL
end

section
set_option Elab.async false
set_option linter.all false
set_option maxRecDepth 100000
set_option maxHeartbeats 1000000
/-! LLSort: sorted(xs, key=lambda x: ..), the key's body one of a few forms. -/
namespace LL
open PySem PySem.Spec PyProof.Rows L2
variable {X : Cx} {W : WX}

/-! ### a lambda of one parameter is called -/
/-- the code of a lambda of one parameter -/
structure Lam1 (x : Str) (scope : Scope) : Prop where
  kind : scope.kind = .function
  co : scope.isCoroutine = false
  gen : scope.isGenerator = false
  loc : scope.names.lookup x = some .local
  own : ∀ y ∈ scope.names, y.2 ≠ .cell
abbrev l1Env (q : Str) (scope : Scope) (L f c' : Addr) (cl : List (Str × Addr)) : Env := PySem.W.envX q scope L f (.ref c') cl
theorem lam1_call {prog : Program} {w : World} {A : Around} {E : Value → Shared → Prop} {s : Shared} {f c' : Addr} {x q : Str} {params : Arguments} {body : Expr} {scope : Scope} {cl : List (Str × Addr)} {pm ctv v : Value} {Q : Value → Shared → Prop} (S : Lam1 x scope) (hd : A.depth < recursionLimit)
    (hf : s.heap.get? f = some (PySem.W.kla_obj "<lambda>" q params body scope cl pm c' ctv)) (hc : ∃ (oc : Obj) (vs : Array Value) (t : Tok), s.heap.get? c' = some oc ∧ oc.data = .fields vs ∧ vs[1]? = some (.str q t)) (hl : s.heap.NoLimit)
    (hb : bindArgs (PySem.W.kla_fn "<lambda>" q params body scope cl pm (.ref c') ctv) ⟨[v], []⟩ = pure [(x, v)])
    (h : ∀ h₁ m, h₁.Ns s.heap.objs.size m → m x = some v → (∀ b o, s.heap.get? b = some o → h₁.get? b = some o) →
      wpAny (model prog w) (A.deeper (l1Env q scope s.heap.objs.size f c' cl)) (eval body (l1Env q scope s.heap.objs.size f c' cl)) Q (fun _ _ => False) { s with heap := h₁, toks := s.toks + 1 }) :
    wpAny (model prog w) A (call (.ref f) [v]) Q E s := by
  obtain ⟨oc, vs, t, h1, h2, h3⟩ := hc
  refine wpAny_call (PySem.W.kla_callFunE hd hf rfl S.co S.gen rfl ⟨c', oc, vs, t, rfl, h1, h2, h3⟩ ?_)
  rw [hb]
  refine wpAny_pure (wpAny_newFunctionEnv S.own (fun y hy => ?_) (fun h₁ hns hsb => ⟨hl.fresh _ hsb, ?_⟩) S.kind)
  · simp only [List.mem_singleton] at hy
    subst hy
    exact S.loc
  · refine PySem.W.kla_codeExpr (wpAny_mono (h h₁ _ hns (by simp) fun b o e => hsb.extBut b o (Nat.ne_of_lt (Heap.lt_size e)) (Heap.get?_push_of_some _ e)) (fun _ _ z => z) fun _ _ z => z.elim)

/-! ### the keys' bodies -/
/-- the body gives the key k of a tuple with these items -/
def KeyB (x : Str) (body : Expr) (key : List Value → PyData → Prop) : Prop := ∀ (prog : Program) (w : World) (A : Around) (E : Value → Shared → Prop) (s : Shared) (env : Env) (m : Str → Option Value) (t : Addr) (its : List Value) (k : PyData),
  env.scope.kind = .function → env.kindOf x = some .local → s.heap.Ns env.locals m → m x = some (.ref t) → IsTup s.heap t its.toArray → its.length ≤ sizeLine → key its k → wpAny (model prog w) A (eval body env) (PySem.W.KeyPure k s) E s
theorem ints_reads {h : Heap} : ∀ {us : List Value} {ns : List Int}, IntsAre us ns → ReadsAll h us (ns.map PyData.int) []
  | _, _, .nil => .nil
  | _, _, .cons n t r => .cons (as := []) (bs := []) (.int n t) (ints_reads r)
/-- x[:2] -/
theorem key_two {x : Str} {p1 p2 p3 p4 : Pos} {k1 : Nat} (hx : (x == ("__debug__" : Str)) = false) : KeyB x (.Subscript (.Name x p1) (.Slice none (some (.Constant (.int 2) k1 p2)) none p3) p4) fun its k => ∃ i j t u r, its = .int i t :: .int j u :: r ∧ r ≠ [] ∧ k = .tuple [.int i, .int j] := by
  rintro prog w A E s env m t its k hk hx2 hn hm ht hz ⟨i, j, ti, tj, r, rfl, hr, rfl⟩
  refine Subscript_ (wpAny_Name (wpAny_loadName_local hk hx2 hn hm ?_) hx)
  refine wpAny_Slice ?_
  rw [evalPart_none]
  refine wpAny_pure ?_
  rw [evalPart_some]
  refine wpAny_Constant_int (wpAny_pure ?_)
  obtain ⟨o, h1, h2, h3⟩ := ht
  have ht2 : IsTup (s.heap.push { cls := .type "slice", data := .fields #[.none, .int 2 s.toks, .none] }) t (.int i ti :: .int j tj :: r : List Value).toArray := ⟨o, Heap.get?_push_of_some _ h1, h2, h3⟩
  refine tail_any (ops := [.ref s.heap.objs.size, .ref t]) ⟨o, Heap.get?_push_of_some _ h1, h2⟩ slot_tuple_getitem.lookup ?_ (by with_unfolding_all rfl)
  have l : 2 < (.int i ti :: .int j tj :: r : List Value).length := by
    cases r with
    | nil => exact absurd rfl hr
    | cons => simp only [List.length_cons]; omega
  have e2 : HT.sIx (.int i ti :: .int j tj :: r : List Value).toArray.size (.int i ti :: .int j tj :: r : List Value).toArray.size (some 2) = 2 := by
    have := HT.sIx_nat (.int i ti :: .int j tj :: r : List Value).toArray.size (.int i ti :: .int j tj :: r : List Value).toArray.size 2
    rw [show (((2 : Nat) : Int)) = 2 from rfl] at this
    rw [this, List.size_toArray]
    omega
  refine HT.getItem_tuple_cut (lo := none) (hi := some 2) ht2 (Heap.IsSliceOf.new ..) .none (.int 2 _) ?_ ?_ (by simpa using hz)
  · rw [HT.sIx_none, e2, List.size_toArray]
    omega
  · rw [HT.sIx_none, e2]
    refine ⟨_, s.toks + 1, rfl, fun b o e => Heap.get?_push_of_some _ (Heap.get?_push_of_some _ e), ?_⟩
    exact Reads.tuple (Heap.get?_push_size _ rfl) rfl rfl (ints_reads (ns := [i, j]) (.cons i ti (.cons j tj .nil)))
/-- x[0] * 2 + x[1] -/
theorem key_sum {x : Str} {p1 p2 p3 p4 p5 p6 p7 p8 p9 : Pos} {k1 k2 k3 : Nat} (hx : (x == ("__debug__" : Str)) = false) :
    KeyB x (.BinOp (.BinOp (.Subscript (.Name x p1) (.Constant (.int 0) k1 p2) p3) .Mult (.Constant (.int 2) k2 p4) p5) .Add (.Subscript (.Name x p6) (.Constant (.int 1) k3 p7) p8) p9) fun its k => ∃ i j t u r, its = .int i t :: .int j u :: r ∧ CMul i 2 ∧ k = .int (i * 2 + j) := by
  rintro prog w A E s env m t its k hk hx2 hn hm ht hz ⟨i, j, ti, tj, r, rfl, hr, rfl⟩
  have item : ∀ (n : Int) (y : Value) (k : Nat) (p p' p'' : Pos) (tk : Nat) (Q : Value → Shared → Prop), seqIndex? n (.int i ti :: .int j tj :: r : List Value).toArray.size = some n.toNat → (.int i ti :: .int j tj :: r : List Value).toArray[n.toNat]? = some y → -(2 ^ 63) ≤ n → n < 2 ^ 63 →
      (∀ tk', Q y { s with toks := tk' }) → wpAny (model prog w) A (eval (.Subscript (.Name x p) (.Constant (.int n) k p') p'') env) Q E { s with toks := tk } := by
    intro n y k p p' p'' tk Q h1 h2 h3 h4 hq
    refine Subscript_ (wpAny_Name (wpAny_loadName_local hk hx2 hn hm ?_) hx)
    refine wpAny_Constant_int ?_
    obtain ⟨o, z1, z2, z3⟩ := ht
    exact tail_any (ops := [.ref t, .int n tk]) ⟨o, z1, z2⟩ slot_tuple_getitem.lookup (PyProof.Rows.getItem_tuple ⟨o, z1, z2, z3⟩ h3 h4 h1 h2 (hq _)) (by with_unfolding_all rfl)
  have l2 : 2 ≤ (.int i ti :: .int j tj :: r : List Value).toArray.size := by simp
  refine wpAny_BinOp (wpAny_BinOp (item 0 (.int i ti) k1 p1 p2 p3 s.toks _ (PySem.StrLaws.seqIndex_nonneg (by omega) (by omega)) rfl (by omega) (by omega) fun tk => ?_))
  refine wpAny_Constant_int (mul_int ?_ hr.ok)
  refine item 1 (.int j tj) k3 p6 p7 p8 _ _ (PySem.StrLaws.seqIndex_nonneg (by omega) (by omega)) rfl (by omega) (by omega) fun tk => ?_
  exact add_int ⟨s.heap, _, rfl, fun _ _ e => e, .int _ _⟩
/-! ### sorted(e, key=lambda x: ..) -/
theorem extN_sqT {K : Frag} {H H' : Hp} {a : Addr} {xs : List V} (e : LamX.ExtN H H') (h : SqT K H a xs) : SqT K H' a xs := by
  rcases h with (h | ⟨o, h⟩) | h
  · exact .inl (.inl (e a _ h (fun _ z => by cases z)))
  · exact .inl (.inr ⟨o, e a _ h (fun _ z => by cases z)⟩)
  · exact .inr h
theorem extN_sqL {K : Frag} {H H' : Hp} {a : Addr} {xs : List V} (e : LamX.ExtN H H') (h : SqL K H a xs) : SqL K H' a xs := by
  rcases h with (h | ⟨o, h⟩) | h
  · exact .inl (.inl (e a _ h (fun _ z => by cases z)))
  · exact .inl (.inr ⟨o, e a _ h (fun _ z => by cases z)⟩)
  · exact .inr h
theorem each_vals {α : Type} : ∀ {us : List Value} {bs : List (V × α)}, PySem.W.EachIs (fun u (b : V × α) => RelV b.1 u) us bs → Vals (bs.map (·.1)) us
  | _, _, .nil => .nil
  | _, _, .cons h r => .cons h (each_vals r)
theorem vals_each {α : Type} : ∀ {us : List Value} {bs : List (V × α)}, Vals (bs.map (·.1)) us → PySem.W.EachIs (fun u (b : V × α) => RelV b.1 u) us bs
  | us, [], r => by cases r; exact .nil
  | us, b :: bs, r => by cases r with | cons h r => exact .cons h (vals_each r)
/-- the tables that a lambda of this def needs -/
structure LamT (X : Cx) (T : List (Addr × Str)) (c P : Addr) : Prop where
  tb : LamX.TabB X.base X.mg c P
  code : X.env.code = .ref c
  mem : (P, X.env.qual ++ "<lambda>") ∈ T
  uni : ∀ p ∈ T, p.1 = P → p.2 = X.env.qual ++ "<lambda>"
def tSortK (K : Frag) (T : List (Addr × Str)) (key : List Value → PyData → Prop) (te : TE) : TE := fun σ H Q => te σ H fun x H1 => LamX.Tabs T H1 ∧ ∃ (a : Addr) (bs : List (V × PyData)), x = .ref a ∧ SqL K H1 a (bs.map (·.1)) ∧
  (∀ b ∈ bs, ∃ a xs, b.1 = .ref a ∧ SqT K H1 a xs ∧ ∀ us, Vals xs us → key us b.2) ∧ PySem.W.AllAlike (bs.map (·.2)) ∧ PySem.W.Sortable (bs.map (·.2)) ∧ (∀ b ∈ bs, b.2.depth ≤ 4) ∧
  ∀ H2, LamX.ExtN H1 H2 → LamX.Tabs T H2 → ∀ p, H2 p = none → Q (.ref p) (upd H2 p (.lst ((bs.mergeSort (PySem.W.dataLe false (·.2))).map (·.1))))
theorem pe_sortK {e : Expr} {te : TE} {p pos lpos kpos : Pos} {params : Arguments} {body : Expr} {scope : Scope} {x : Str} {T : List (Addr × Str)} {c P : Addr} {k : Nat} {key : List Value → PyData → Prop} (he : PE X e te) (hr : RoomG k X.A) (L : LamT X T c P) (S : Lam1 x scope) (hb : KeyB x body key)
    (hbind : ∀ (q : Str) (cl : List (Str × Addr)) (pm cv ctv v : Value), bindArgs (PySem.W.kla_fn "<lambda>" q params body scope cl pm cv ctv) ⟨[v], []⟩ = pure [(x, v)])
    (hm : X.mg "sorted" = none) (hfree : ∀ y ∈ scope.names, y.2 ≠ .free) (hdef : defaultsOf params X.env = ([], [])) (hg : Gl X "sorted") (hs : backTo pos (starEach [e] X.env) = (false, eval e X.env) :: backTo pos (starEach [] X.env)) (hpl : (backTo pos (starEach [e] X.env)).any (·.1) = false)
    (hkw : ((backToKw pos (keywordEach [⟨some "key", .Lambda params body scope lpos, kpos⟩] X.env)).map (·.2)) = [do let v ← eval (.Lambda params body scope lpos) X.env; standAt pos; pure v]) (hkn : (backToKw pos (keywordEach [⟨some "key", .Lambda params body scope lpos, kpos⟩] X.env)).filterMap (·.1) = [Str.ofString "key"])
    (hall : (backToKw pos (keywordEach [⟨some "key", .Lambda params body scope lpos, kpos⟩] X.env)).all (·.1.isSome) = true) (hnone : (backToKw pos (keywordEach [⟨some "key", .Lambda params body scope lpos, kpos⟩] X.env)).any (·.1.isNone) = false) :
    PE X (.Call (.Name "sorted" p) [e] [⟨some "key", .Lambda params body scope lpos, kpos⟩] pos) (tSortK X.K T key te) := by
  refine ⟨fun pins s σ H Q I h => wpAny_Call_Name_kw (ld_blt I hg hm PyProof.Rows.boot_sorted (PyProof.Rows.callWith_kw (rest := []) ?_ hs hpl hall hnone))⟩
  rw [hs, hkw, hkn]
  refine Calls.spliced_cons (thn (he.run pins s σ H _ I h) fun u s1 ⟨v, H1, I1, r1, hT, a, bs, ev, hl, hk, al, so, dp, q⟩ => Calls.spliced_nil ?_)
  subst ev
  obtain rfl : u = Value.ref a := r1
  show wpAny _ _ ((do let v ← eval (.Lambda params body scope lpos) X.env; standAt pos; pure v) >>= _) _ _ _
  refine wpAny_bind (wpAny_bind (LamX.lam_make2 I1 L.tb L.code L.mem L.uni hT hdef (fun y hy e => absurd e (hfree y hy)) fun f c' pm ctv H2 s2 I2 eN T2 hf hfn hfr hc => wpAny_bind (wpAny_standAt (wpAny_pure ?_))))
  show wpAny _ _ (evalAll [] >>= _) _ _ _
  refine wpAny_bind (wpAny_pure (wpAny_pure ?_))
  obtain ⟨its, rv, pl, hz⟩ := I2.list (extN_sqL eN hl)
  have hlen : bs.length ≤ sizeLine := by simpa using hz
  have hd : X.A.in1.in1.depth < recursionLimit := hr.r.depth
  obtain ⟨⟨oc, vs, t, hoc, hdc, hvc⟩, _, _⟩ := I2.hok c' _ hc
  refine PySem.W.sorted_key_data (b := false) (fun b : V × PyData => b.2) pl.isList (vals_each rv) al so hlen (fun b hb => ?_) (ksk_s1 _ _) (fun _ => ksk_l1 _ _) (fun _ => ksk_t1 _ _) (fun u b ru hb' g tk kp => ?_) (fun out c2 h' tk kp fr hD ln eo => ?_)
  · have := hr.r.units
    have := dp b hb
    omega
  · obtain ⟨a', xs, e1, hq, hkey⟩ := hk b hb'
    rw [e1] at ru
    obtain rfl : u = Value.ref a' := ru
    obtain ⟨its', rv', ⟨o', g1, g2, g3⟩, hz'⟩ := I2.tuple (extN_sqT eN hq)
    have lim : g.NoLimit := I2.nolimit.keeps kp
    refine lam1_call S hd (kp _ _ hf) ⟨oc, vs, t, kp _ _ hoc, hdc, hvc⟩ lim (hbind _ _ _ _ _ _) fun h₁ m hns hm' kp1 => ?_
    have hl1 : (l1Env (X.env.qual ++ "<lambda>") scope g.objs.size f c' (cloFrom X.env.cells scope.names [])).kindOf x = some .local := S.loc
    refine wpAny_mono (hb _ _ _ (fun _ _ => False) _ _ m a' its' b.2 S.kind hl1 hns hm' ⟨o', kp1 _ _ (kp _ _ g1), g2, g3⟩ (by rw [← rv'.length]; exact hz') (hkey its' rv')) (fun u s3 hkp => ?_) fun _ _ z => z
    obtain ⟨h3, tk3, rfl, k3, r3⟩ := hkp
    exact ⟨h3, tk3, rfl, fun b o e => k3 b o (kp1 b o e), r3⟩
  · have vo := each_vals eo
    have lo : ((bs.mergeSort (PySem.W.dataLe false (·.2))).map (·.1)).length ≤ sizeLine := by simpa using hlen
    refine ⟨.ref (s2.heap.objs.size + 1), _, I2.laid (t' := tk) (o := .lst ((bs.mergeSort (PySem.W.dataLe false (·.2))).map (·.1))) kp (Nat.le_succ _) ⟨lo, out, c2, vo, hD⟩, rfl, q H2 eN T2 _ (I2.hok.fresh (Nat.le_succ _))⟩
/-! ### .. in logical words -/
/-- the first two items of a tuple, if they are ints and one more follows -/
def k2 (d : D) : Int × Int := match d with
  | .tup (.int i :: .int j :: _ :: _) => (i, j)
  | _ => (0, 0)
def is2 (d : D) : Bool := match d with
  | .tup (.int _ :: .int _ :: _ :: _) => true
  | _ => false
def le2 (a b : D) : Bool := decide ((k2 a).1 < (k2 b).1 ∨ ((k2 a).1 = (k2 b).1 ∧ (k2 a).2 ≤ (k2 b).2))
def leS (a b : D) : Bool := decide ((k2 a).1 * 2 + (k2 a).2 ≤ (k2 b).1 * 2 + (k2 b).2)
/-- sorted by the two -/
def eSort2 (m : LE) : LE := fun σ h Q E => m σ h (fun d h1 => seqL d h1 fun ds => ds.all is2 = true ∧ Q (.lst (ds.mergeSort le2)) h1) E
def eSortS (m : LE) : LE := fun σ h Q E => m σ h (fun d h1 => seqL d h1 fun ds => ds.all is2 = true ∧ (∀ d ∈ ds, CMul (k2 d).1 2) ∧ Q (.lst (ds.mergeSort leS)) h1) E
theorem is2_rel {K : Frag} {ι : Ad} {H : Hp} {d : D} {v : V} (r : RelD K ι H d v) (h : is2 d = true) : ∃ a xs, v = .ref a ∧ SqT K H a xs ∧ ∀ us, Vals xs us → ∃ t u rr, us = .int (k2 d).1 t :: .int (k2 d).2 u :: rr ∧ rr ≠ [] := by
  unfold is2 at h
  split at h
  · rename_i i j x r'
    obtain ⟨a, xs, rfl, hq, v1, w1, rfl, e1, v2, w2, rfl, e2, v3, w3, rfl, e3, _⟩ := r
    obtain rfl : v1 = .int i := e1
    obtain rfl : v2 = .int j := e2
    refine ⟨a, _, rfl, hq, fun us r => ?_⟩
    cases r with
    | cons r1 r =>
      cases r with
      | cons r2 r =>
        cases r with
        | cons r3 r =>
          obtain ⟨t, rfl⟩ := r1
          obtain ⟨u, rfl⟩ := r2
          exact ⟨t, u, _, rfl, by simp⟩
  · cases h
theorem rels_zip {K : Frag} {ι : Ad} {H : Hp} : ∀ {ds : List D} {vs : List V}, RelDs K ι H ds vs → ∃ T : List (V × D), T.map (·.1) = vs ∧ T.map (·.2) = ds ∧ ∀ p ∈ T, RelD K ι H p.2 p.1
  | [], vs, h => by obtain rfl : vs = [] := h; exact ⟨[], rfl, rfl, by simp⟩
  | d :: ds, _, ⟨v, r, h1, h2, h3⟩ => by
    obtain ⟨T, e1, e2, q⟩ := rels_zip h3
    subst h1 e1 e2
    refine ⟨(v, d) :: T, rfl, rfl, fun p hp => ?_⟩
    rcases List.mem_cons.mp hp with rfl | hp
    · exact h2
    · exact q p hp
theorem rels_of {K : Frag} {ι : Ad} {H : Hp} : ∀ {T : List (V × D)}, (∀ p ∈ T, RelD K ι H p.2 p.1) → RelDs K ι H (T.map (·.2)) (T.map (·.1))
  | [], _ => rfl
  | p :: T, h => ⟨p.1, T.map (·.1), rfl, h p (by simp), rels_of fun q hq => h q (by simp [hq])⟩
/-- a later moment, where a lambda is made and a list is laid -/
theorem Ext.nt {K : Frag} {ι : Ad} {H H' : Hp} {h : LH} (e : LamX.ExtN H H') : Ext ι H ι H' := by
  refine ⟨⟨[], by simp, fun _ z => by cases z⟩, fun _ h => h, fun _ h => .inl h, rfl, fun a o q _ t => e a o q t, fun a xs q => e a _ q (fun _ z => by cases z), fun a o u q => e a _ q (fun _ z => by cases z), fun a f q => e a _ q (fun _ z => by cases z), fun a ⟨o, q, t⟩ => ⟨o, e a o q t, t⟩⟩
theorem RelH.nt {K : Frag} {ι : Ad} {H H' : Hp} {h : LH} (hH : RelH K ι H h) (e : LamX.ExtN H H') (t : LamX.Tabs (tabsK K) H') : RelH K ι H' h := by
  have ex : Ext ι H ι H' := Ext.nt (K := K) (h := h) e
  refine ⟨hH.len, hH.inj, fun a m => ex.there a (hH.live a m), fun a m => ex.there a (hH.liveR a m), hH.disj, t, fun n o q g => ?_⟩
  obtain ⟨a, e1, r⟩ := hH.obj n o q g
  refine ⟨a, e1, ?_⟩
  cases o with
  | lst ds => obtain ⟨vs, h1, h2⟩ := r; exact ⟨vs, e a _ h1 (fun _ z => by cases z), h2.ext ex⟩
  | ins C fs => obtain ⟨dx, vs, h1, h2⟩ := r; exact ⟨dx, vs, e a _ h1 (fun _ z => by cases z), h2.ext ex⟩
  | gone => trivial
/-- the sorting of the items by their keys -/
theorem sort_run {K : Frag} {key : List Value → PyData → Prop} {kf : D → PyData} {le : D → D → Bool} {ok : D → Prop} (hk : ∀ ι H d v, RelD K ι H d v → is2 d = true → ok d → ∃ a xs, v = .ref a ∧ SqT K H a xs ∧ ∀ us, Vals xs us → key us (kf d)) (hal : ∀ ds : List D, PySem.W.AllAlike (ds.map kf)) (hso : ∀ ds : List D, PySem.W.Sortable (ds.map kf))
    (hd : ∀ d, (kf d).depth ≤ 4) (hle : ∀ a b : D, PySem.W.dataLe false kf a b = le a b) {m : LE} (hm : Mono m) {σV : L2.St} {H : Hp} {Qv : VK} {Q0 : LV → LH → (D → LH → Prop) → XL → Prop}
    (q : tE K W (fun σ h Q E => m σ h (fun d h1 => seqL d h1 fun ds => ds.all is2 = true ∧ (∀ d ∈ ds, ok d) ∧ Q (.lst (ds.mergeSort le)) h1) E) σV H Qv) : tSortK K (tabsK K) key (tE K W m) σV H Qv := by
  obtain ⟨ι, σ, h, hS, hH, q⟩ := q
  refine tX.into hm hS hH q (fun d h1 ι1 v H1 q1 e1 hH1 r => ⟨hH1.tabs, ?_⟩) (fun c fs h1 ι1 dx H1 q1 => q1 ι1 dx H1)
  obtain ⟨a, ds, vs, rfl, hl, rs, h2, h3, q2⟩ := seqL_run hH1 r q1
  obtain ⟨T, rfl, rfl, hT⟩ := rels_zip rs
  have e2 : (T.map fun p => (p.1, kf p.2)).map (·.1) = T.map (·.1) := by simp
  have e3 : (T.map fun p => (p.1, kf p.2)).map (·.2) = (T.map (·.2)).map kf := by simp
  refine ⟨a, T.map fun p => (p.1, kf p.2), rfl, by rw [e2]; exact hl, fun b hb => ?_, by rw [e3]; exact hal _, by rw [e3]; exact hso _, fun b hb => ?_, fun H2 eN tN p hp => ?_⟩
  · obtain ⟨z, hz, rfl⟩ := List.mem_map.mp hb
    have hm2 : z.2 ∈ T.map (·.2) := List.mem_map.mpr ⟨z, hz, rfl⟩
    exact hk _ _ _ _ (hT z hz) (List.all_eq_true.mp h2 _ hm2) (h3 _ hm2)
  · obtain ⟨z, hz, rfl⟩ := List.mem_map.mp hb
    exact hd _
  · have s1 : (T.map fun p => (p.1, kf p.2)).mergeSort (PySem.W.dataLe false (·.2)) = (T.mergeSort fun a b => le a.2 b.2).map fun p => (p.1, kf p.2) := by
      rw [List.map_mergeSort]
      intro x _ y _
      exact (hle x.2 y.2).symm
    have s2 : (T.map (·.2)).mergeSort le = (T.mergeSort fun a b => le a.2 b.2).map (·.2) := by
      rw [List.map_mergeSort]
      intro x _ y _
      rfl
    have e4 : ((T.mergeSort fun a b => le a.2 b.2).map fun p => (p.1, kf p.2)).map (·.1) = (T.mergeSort fun a b => le a.2 b.2).map (·.1) := by simp
    rw [s1, e4]
    rw [s2] at q2
    have ex1 : Ext ι1 H1 ι1 H2 := Ext.nt (K := K) (h := h1) eN
    have hH2 := hH1.nt eN tN
    have ex2 : Ext ι1 H2 ι1 (upd H2 p (.lst ((T.mergeSort fun a b => le a.2 b.2).map (·.1)))) := Ext.new hp
    refine q2 ι1 _ _ (e1.trans (ex1.trans ex2)) (hH2.new hp) ⟨p, _, rfl, .inl ⟨upd_same, hH2.notNew hp⟩, rels_of fun z hz => ?_⟩
    exact (hT z ((List.mergeSort_perm _ _).mem_iff.mp hz)).ext (ex1.trans ex2)
theorem mono_sort2 {m : LE} (hm : Mono m) : Mono (eSort2 m) := fun σ h Q Q' E E' hQ hE q => hm σ h _ _ _ _ (fun d h1 q1 => seqL_mono (fun ds q => ⟨q.1, hQ _ _ q.2⟩) q1) hE q
theorem mono_sortS {m : LE} (hm : Mono m) : Mono (eSortS m) := fun σ h Q Q' E E' hQ hE q => hm σ h _ _ _ _ (fun d h1 q1 => seqL_mono (fun ds q => ⟨q.1, q.2.1, hQ _ _ q.2.2⟩) q1) hE q
abbrev kf2 (d : D) : PyData := .tuple [.int (k2 d).1, .int (k2 d).2]
abbrev kfS (d : D) : PyData := .int ((k2 d).1 * 2 + (k2 d).2)
section
variable {e : Expr} {m : LE} {p pos lpos kpos p1 p2 p3 p4 p5 p6 p7 p8 p9 : Pos} {i1 i2 i3 : Nat} {params : Arguments} {scope : Scope} {x : Str} {c P : Addr} {k : Nat}
theorem je_sort2 (he : JE X W e m) (h : ∀ {te : TE}, PE X e te → PE X (.Call (.Name "sorted" p) [e] [⟨some "key", .Lambda params (.Subscript (.Name x p1) (.Slice none (some (.Constant (.int 2) i1 p2)) none p3) p4) scope lpos, kpos⟩] pos)
      (tSortK X.K (tabsK X.K) (fun its k => ∃ i j t u r, its = .int i t :: .int j u :: r ∧ r ≠ [] ∧ k = .tuple [.int i, .int j]) te)) :
    JE X W (.Call (.Name "sorted" p) [e] [⟨some "key", .Lambda params (.Subscript (.Name x p1) (.Slice none (some (.Constant (.int 2) i1 p2)) none p3) p4) scope lpos, kpos⟩] pos) (eSort2 m) := by
  refine ⟨mono_sort2 he.mono, PE.weak (h he.run) fun σV H Q q => sort_run (kf := kf2) (le := le2) (ok := fun _ => True) (fun ι H d v r i _ => ?_) (fun ds => PySem.W.AllAlike.of fun _ _ => by simp [PySem.W.alike, PySem.W.alikeAll]) (fun ds => PySem.W.Sortable.tuples fun _ => ⟨_, _, rfl⟩) (fun d => by simp [PyData.depth, PyData.depthAll]) (fun a b => ?_) he.mono (Q0 := fun _ _ _ _ => True) ?_⟩
  · obtain ⟨a, xs, e1, e2, e3⟩ := is2_rel r i
    refine ⟨a, xs, e1, e2, fun us hv => ?_⟩
    obtain ⟨t, u, rr, e4, e5⟩ := e3 us hv
    exact ⟨_, _, t, u, rr, e4, e5, rfl⟩
  · exact congrFun (congrFun (PySem.W.dataLe_ii (fun d => (k2 d).1) (fun d => (k2 d).2)) a) b
  · obtain ⟨ι, σ, h, hS, hH, q⟩ := q
    exact ⟨ι, σ, h, hS, hH, he.mono σ h _ _ _ _ (fun d h1 q1 => seqL_mono (fun ds q => ⟨q.1, fun _ _ => trivial, q.2⟩) q1) (fun _ _ _ q => q) q⟩
theorem je_sortS (he : JE X W e m) (h : ∀ {te : TE}, PE X e te → PE X (.Call (.Name "sorted" p) [e] [⟨some "key", .Lambda params (.BinOp (.BinOp (.Subscript (.Name x p1) (.Constant (.int 0) i1 p2) p3) .Mult (.Constant (.int 2) i2 p4) p5) .Add (.Subscript (.Name x p6) (.Constant (.int 1) i3 p7) p8) p9) scope lpos, kpos⟩] pos)
      (tSortK X.K (tabsK X.K) (fun its k => ∃ i j t u r, its = .int i t :: .int j u :: r ∧ CMul i 2 ∧ k = .int (i * 2 + j)) te)) :
    JE X W (.Call (.Name "sorted" p) [e] [⟨some "key", .Lambda params (.BinOp (.BinOp (.Subscript (.Name x p1) (.Constant (.int 0) i1 p2) p3) .Mult (.Constant (.int 2) i2 p4) p5) .Add (.Subscript (.Name x p6) (.Constant (.int 1) i3 p7) p8) p9) scope lpos, kpos⟩] pos) (eSortS m) := by
  refine ⟨mono_sortS he.mono, PE.weak (h he.run) fun σV H Q q => sort_run (kf := kfS) (le := leS) (ok := fun d => CMul (k2 d).1 2) (fun ι H d v r i hc => ?_) (fun ds => PySem.W.AllAlike.of fun _ _ => by simp [PySem.W.alike]) (fun ds => ?_) (fun d => by simp [PyData.depth]) (fun a b => ?_) he.mono (Q0 := fun _ _ _ _ => True) q⟩
  · obtain ⟨a, xs, e1, e2, e3⟩ := is2_rel r i
    refine ⟨a, xs, e1, e2, fun us hv => ?_⟩
    obtain ⟨t, u, rr, e4, e5⟩ := e3 us hv
    exact ⟨_, _, t, u, rr, e4, hc, rfl⟩
  · exact PySem.W.Sortable.others fun _ => ⟨by simp, by simp⟩
  · exact congrFun (congrFun (PySem.W.dataLe_int (fun d => (k2 d).1 * 2 + (k2 d).2)) a) b
end
end LL
end

section
set_option Elab.async false
set_option linter.all false
set_option maxRecDepth 100000
set_option maxHeartbeats 1000000
/-! LLEnd: the law is called at the top; the head's Hook. -/
namespace LL
open PySem PySem.Spec PyProof.Rows L2

/-! ### the call at the top -/
section
variable {P : Program} {w : World} {K : Frag} {mg mb : Str → Option Value} {k : Nat} {fa a : Addr} {cs : List (Addr × Addr)} {G : LSp} {s1 : Shared} {vs : List Value} {ns : List Int}
/-- what is tracked at the start: the script (if the written part does not hold it), the tables -/
def H0 (K : Frag) (a : Addr) (vs : List Value) (ns : List Int) (tb : List Addr) : Hp := fun b =>
  if b = a then (match K.lookup a with | none => some (.frz { cls := .type "list", data := .seq vs.toArray } (.lst (ns.map V.int))) | some _ => none) else if b ∈ tb then some (.tbl #[]) else none
abbrev emptyT : Obj := { cls := .none, data := .fields #[] }
abbrev scriptO (vs : List Value) : Obj := { cls := .type "list", data := .seq vs.toArray }
/-- the facts of the heap behind the top -/
structure TopH (K : Frag) (mg mb : Str → Option Value) (cs : List (Addr × Addr)) (a : Addr) (vs : List Value) (s1 : Shared) : Prop where
  kin : K.In s1.heap
  ns : s1.heap.Ns mainGlobals mg
  nb : s1.heap.Ns builtinsNs mb
  bb : ∀ x : Str, x ≠ "__name__" → mb x = bootBuiltins x
  lim : s1.heap.NoLimit
  gens : s1.gens = #[]
  tab : ∀ p ∈ cs, s1.heap.get? p.2 = some emptyT
  out : ∀ p ∈ cs, K.lookup p.2 = none
  cod : ∀ p ∈ cs, PySem.W.CodeHd s1.heap p.1 p.2
  bm : ∃ (bm : Addr) (ob : Obj), mg "__builtins__" = some (.ref bm) ∧ bm ≠ builtinsNs ∧ s1.heap.get? bm = some ob ∧ ob.cls = .type "module" ∧ ob.dict = some builtinsNs ∧ ob.data = .plain
  scr : s1.heap.get? a = some (scriptO vs)
theorem cx_none {H : Hp} {e : Value} {s s' : Shared} (h : L2N.CX P w [] H s (fun _ _ _ => False) e s') : False := by
  obtain ⟨_, _, _, _, _, _, _, _, _, _, _, _, z⟩ := h
  exact z
section
variable (T : TopH K mg mb cs a vs s1)
include T
theorem TopH.tabAt {b : Addr} (h : b ∈ cs.map (·.2)) : s1.heap.get? b = some emptyT := by
  obtain ⟨p, hp, rfl⟩ := List.mem_map.mp h
  exact T.tab p hp
theorem TopH.aNo : a ∉ cs.map (·.2) := fun z => by
  have := T.tabAt z
  rw [T.scr] at this
  exact nomatch congrArg Obj.data (Option.some.inj this)
/-- an object that is no list and no table is not tracked -/
theorem TopH.free {b : Addr} {o : Obj} (e : s1.heap.get? b = some o) (n1 : o ≠ scriptO vs) (n2 : o ≠ emptyT) : H0 K a vs ns (cs.map (·.2)) b = none := by
  unfold H0
  split
  · rename_i z
    subst z
    rw [T.scr] at e
    exact absurd (Option.some.inj e).symm n1
  · split
    · rename_i z
      rw [T.tabAt z] at e
      exact absurd (Option.some.inj e).symm n2
    · rfl
theorem TopH.kfree {b : Addr} {o : Obj} (e : K.lookup b = some o) : H0 K a vs ns (cs.map (·.2)) b = none := by
  unfold H0
  split
  · rename_i z
    subst z
    rw [e]
  · split
    · rename_i z
      obtain ⟨p, hp, rfl⟩ := List.mem_map.mp z
      rw [T.out p hp] at e; cases e
    · rfl
theorem TopH.ok (hi : IntsAre vs ns) (hl : ns.length ≤ sizeLine) : HOk P w (H0 K a vs ns (cs.map (·.2))) s1.heap := by
  intro b u e
  unfold H0 at e
  split at e
  · rename_i z
    subst z
    split at e
    · cases e
      exact ⟨T.scr, by rw [List.length_map]; exact hl, vs, _, vals_ints hi, T.scr⟩
    · cases e
  · split at e
    · cases e
      exact T.tabAt ‹_›
    · cases e
theorem TopH.nsK {b : Addr} {m : Str → Option Value} (h : s1.heap.Ns b m) : (hidT s1.heap (H0 K a vs ns (cs.map (·.2)))).Ns b m := by
  obtain ⟨o, es, ep, e, d, r⟩ := h
  exact ⟨o, es, ep, hidT_get e (T.free e (by rintro rfl; cases d) (by rintro rfl; cases d)), d, r⟩
theorem TopH.kB : K.In (hidT s1.heap (H0 K a vs ns (cs.map (·.2)))) := fun b o e => hidT_get (T.kin b o e) (T.kfree e)
theorem TopH.tabB : ∀ p ∈ cs, LamX.TabB (hidT s1.heap (H0 K a vs ns (cs.map (·.2)))) mg p.1 p.2 := fun p hp => by
  have ne : ∀ {b : Addr} {o : Obj}, s1.heap.get? b = some o → o ≠ emptyT → b ≠ p.2 := fun e n z => n (by rw [z, T.tab p hp] at e; exact (Option.some.inj e).symm)
  refine ⟨?_, ?_, fun z => ?_⟩
  · obtain ⟨o, us, file, tf, flags, tg, inF, text, tt, e1, r1, r2, r3, r4, r5, r6, r7, r8, hne⟩ := T.cod p hp
    exact ⟨o, us, file, tf, flags, tg, inF, text, tt, hidT_get e1 (T.free e1 (by rintro rfl; cases r2) (by rintro rfl; cases r2; simp at r3)), r1, r2, r3, r4, r5, r6, r7, r8, hne⟩
  · obtain ⟨bm, ob, b1, b2, b3, b4, b5, b6⟩ := T.bm
    refine ⟨bm, ob, b1, b2, fun q => ?_, ne b3 (by rintro rfl; cases b6), hidT_get b3 (T.free b3 (by rintro rfl; cases b6) (by rintro rfl; cases b6)), b4, b5, b6⟩
    obtain ⟨o, es, ep, e, d, _⟩ := T.ns
    rw [q, e] at b3
    cases b3
    rw [d] at b6
    cases b6
  · obtain ⟨o, es, ep, e, d, _⟩ := T.ns
    exact ne e (by rintro rfl; cases d) z
theorem TopH.call (hi : IntsAre vs ns) (hl : ns.length ≤ sizeLine) (hr : RoomG k callerA) (F : ∀ base : Heap, K.In base → base.Ns mainGlobals mg → (∀ p ∈ cs, LamX.TabB base mg p.1 p.2) → Keeps P w K mg base k fa 1 G)
    (hsp : ∀ H : Hp, (∀ p ∈ cs, H p.2 = some (.tbl #[])) → LstX K H a (ns.map V.int) → spV K 1 G [.ref a] H (fun v _ => v = .bl true) fun _ _ _ => False) :
    codeAny (model P w) callerA (.call (.ref fa) ⟨[.ref a], []⟩) (fun r s' => r = .ok (.ret (.bool true)) ∧ OldK s1.heap s'.heap ∧ s'.os = s1.os ∧ AllBare s'.gens) s1 := by
  have hH : ∀ p ∈ cs, H0 K a vs ns (cs.map (·.2)) p.2 = some (.tbl #[]) := fun p hp => by
    have m : p.2 ∈ cs.map (·.2) := List.mem_map.mpr ⟨p, hp, rfl⟩
    unfold H0
    rw [if_neg (fun z => T.aNo (by rw [← z]; exact m)), if_pos m]
  have hS : LstX K (H0 K a vs ns (cs.map (·.2))) a (ns.map V.int) := by
    cases q : K.lookup a with
    | none => exact .inr (.inl ⟨_, by unfold H0; rw [if_pos rfl, q]⟩)
    | some o =>
      have := T.kin a o q
      rw [T.scr] at this
      cases this
      exact .inr (.inr ⟨vs, _, q, by rw [List.length_map]; exact hl, vals_ints hi⟩)
  have e0 : Env0 P w K mg (hidT s1.heap (H0 K a vs ns (cs.map (·.2)))) callerA [] s1 (H0 K a vs ns (cs.map (·.2))) :=
    ⟨rfl, ⟨T.kB, T.nsK T.ns, ⟨mb, T.nsK T.nb, T.bb⟩, let ⟨mc, h1, h2⟩ := T.lim; ⟨mc, T.nsK h1, h2⟩⟩, fun b o e => of_hidT e, Nat.le_of_eq (hidT_size _ _), trivial, fun b hb => absurd (show b ∈ ([] : List Addr) from hb) (by simp), T.ok hi hl, .of_eq T.gens⟩
  obtain ⟨hG, fd, ps, hn, Fg, hb⟩ := F _ T.kB (T.nsK T.ns) T.tabB
  have b1 : BindsTo s1 fd ⟨[.ref a], []⟩ (ps.zip ([Value.ref a] ++ [])) := hb s1 [.ref a] T.kin (by rw [hn]; rfl)
  refine codeAny_mono (Fg.run callerA [] s1 _ ⟨[.ref a], []⟩ ([Value.ref a] ++ []) [V.ref a] _ _ hr e0 b1 (.cons (show RelV (V.ref a) (Value.ref a) from rfl) .nil) (hsp _ hH hS)) fun r s' h => ?_
  match r, h with
  | .error e, h => exact (cx_none (show L2N.CX P w [] _ s1 _ e s' from h)).elim
  | .ok .next, h => exact h.elim
  | .ok .brk, h => exact h.elim
  | .ok .cont, h => exact h.elim
  | .ok (.ret u), ⟨v, H', os, bare, un, hok', r', q⟩ =>
    obtain rfl : v = .bl true := q
    obtain rfl : u = Value.bool true := r'
    have old : ∀ b o, b ∉ cs.map (·.2) → s1.heap.get? b = some o → s'.heap.get? b = some o := fun b o nb e => by
      cases q : H0 K a vs ns (cs.map (·.2)) b with
      | none => exact un.keep b o e q (by intro z; exact absurd (show b ∈ ([] : List Addr) from z) (by simp)) (by simp)
      | some u =>
        have z := q
        unfold H0 at z
        split at z
        · rename_i zz
          subst zz
          split at z
          · cases z
            obtain ⟨e1, _⟩ := hok' b _ (un.frzs b _ _ q)
            rw [T.scr] at e
            rw [← Option.some.inj e]
            exact e1
          · cases z
        · first | cases z | (rw [if_neg nb] at z; cases z)
    have grown : ∀ p ∈ cs, ∃ more : Array Value, s'.heap.get? p.2 = some { cls := .none, data := .fields more } := fun p hp =>
      let ⟨more, z⟩ := un.tbls p.2 #[] (hH p hp)
      ⟨_, hok' p.2 _ z⟩
    refine ⟨rfl, ⟨fun b o e => ?_, fun b o e => ?_⟩, os, bare⟩
    · by_cases hb : b ∈ cs.map (·.2)
      · obtain ⟨p, hp, rfl⟩ := List.mem_map.mp hb
        obtain ⟨more, hm⟩ := grown p hp
        rw [T.tab p hp] at e
        cases e
        exact .inr (.inl ⟨((T.cod p hp).tab (T.tab p hp)).isCodeTable, rfl, #[], more, rfl, by rw [Array.empty_append]; exact hm⟩)
      · exact .inl (old b o hb e)
    · by_cases hb : b ∈ cs.map (·.2)
      · obtain ⟨p, hp, rfl⟩ := List.mem_map.mp hb
        obtain ⟨more, hm⟩ := grown p hp
        exact ⟨_, hm⟩
      · exact ⟨o, old b o hb e⟩
end
end
/-! ### the head's Hook: a part of the heap, told by a short way -/
def refsT (o : Obj) : List Addr := match o.data with
  | .seq its _ => its.toList.flatMap He.refV
  | .dict es _ => es.toList.flatMap fun e => He.refV e.val
  | .func fd => He.refV fd.code ++ He.refV fd.defaults ++ He.refV fd.kwdefaults
  | .cls cd => cd.ns :: cd.mro.flatMap He.refV
  | .fields vs => vs.toList.flatMap He.refV
  | _ => []
def stepT (g : Addr → Option Obj) (as : List Addr) : List Addr := as.flatMap fun a => match g a with
  | some o => refsT o
  | none => []
def reachT (g : Addr → Option Obj) : Nat → List Addr → List Addr
  | 0, as => as
  | n + 1, as => as ++ reachT g n (stepT g as)
abbrev asT (g : Addr → Option Obj) (n : Nat) : List Addr := reachT g n [mainGlobals]
open He in
def obsL (n : Nat) (fa : List Fa) (fn : List DefD) (ts : List Tab) (tf : List Defn) (ex : Frag → Bool) (g : Addr → Option Obj) : AlX := (obsT fa fn ts (frT g (asT g n)), ex (frT g (asT g n)) && tabsB g tf (frT g (asT g n)))
open He in
theorem saysL {n : Nat} {fa : List Fa} {fn : List DefD} {ts : List Tab} {tf : List Defn} {ex : Frag → Bool} {w : World} {h : Heap} (e : obsL n fa fn ts tf ex h.get? = valX fn ts w) : SaysX fa fn ts tf ex w h (frT h.get? (asT h.get? n)) := by
  obtain ⟨m1, m2⟩ := ba (congrArg Prod.snd e)
  have tab : ∀ p ∈ tf, PySem.W.codeHdIn (frT h.get? (asT h.get? n)) (cT (frT h.get? (asT h.get? n)) p).1 (cT (frT h.get? (asT h.get? n)) p).2 = true ∧ ∃ o, h.get? (cT (frT h.get? (asT h.get? n)) p).2 = some o ∧ emptyTab o = true := fun p hp => by
    obtain ⟨z1, z2⟩ := ba (List.all_eq_true.mp m2 p hp)
    cases q : h.get? (cT (frT h.get? (asT h.get? n)) p).2 with
    | none => rw [q] at z2; cases z2
    | some o => rw [q] at z2; exact ⟨z1, o, rfl, z2⟩
  refine ⟨congrArg Prod.fst e, m1, fun p hp => (tab p hp).1, fun p hp => ?_, fun p hp => ?_⟩
  · obtain ⟨_, o, q, z⟩ := tab p hp
    exact frT_none q z
  · obtain ⟨_, o, q, z⟩ := tab p hp
    rw [q, emptyTab_eq z]
open He in
def hookL (n : Nat) (fa : List Fa) (fn : List DefD) (ts : List Tab) (tf : List Defn) (ex : Frag → Bool) : PySem.W.Hook where
  α := AlX
  obs := fun s => obsL n fa fn ts tf ex s.heap.get?
  val := fun w => valX fn ts w
  says := fun w h => ∃ K : Frag, K.In h ∧ SaysX fa fn ts tf ex w h K
  of := fun _ _ e => ⟨_, frT_in, saysL e⟩
  keeps := fun _ _ _ ⟨K, hK, c⟩ k => ⟨K, PySem.W.Frag.In.keeps hK k, ⟨c.t, c.more, c.hd, c.out, fun p hp => k _ _ (c.empty p hp)⟩⟩
theorem obsL_eq {n : Nat} {fa : List He.Fa} {fn : List He.DefD} {ts : List He.Tab} {tf : List He.Defn} {ex : Frag → Bool} {g : Addr → Option Obj} {s : Shared} (h : ∀ a, g a = s.heap.get? a) : obsL n fa fn ts tf ex g = (hookL n fa fn ts tf ex).obs s := by
  have e : g = s.heap.get? := funext h
  rw [e]
  rfl
/-- the tables that are known are told apart -/
def tabsOk (K : Frag) : Bool := decide ((tabsK K).map (·.1)).Nodup
theorem tabs_uni {K : Frag} (h : tabsOk K = true) {P : Addr} {q : Str} (m : (P, q) ∈ tabsK K) : ∀ p ∈ tabsK K, p.1 = P → p.2 = q := by
  have nd : ((tabsK K).map (·.1)).Nodup := of_decide_eq_true h
  intro p hp e
  subst e
  have key : ∀ (l : List (Addr × Str)), (l.map (·.1)).Nodup → ∀ p ∈ l, ∀ r ∈ l, p.1 = r.1 → p = r := by
    intro l
    induction l with
    | nil => intro _ p hp; cases hp
    | cons x l ih =>
      intro nd p hp r hr e
      rw [List.map_cons, List.nodup_cons] at nd
      rcases List.mem_cons.mp hp with h1 | h1
      · rcases List.mem_cons.mp hr with h2 | h2
        · rw [h1, h2]
        · exact (nd.1 (List.mem_map.mpr ⟨r, h2, by rw [← e, h1]⟩)).elim
      · rcases List.mem_cons.mp hr with h2 | h2
        · exact (nd.1 (List.mem_map.mpr ⟨p, h1, by rw [e, h2]⟩)).elim
        · exact ih nd.2 p h1 r h2 e
  exact congrArg Prod.snd (key _ nd p hp (p.1, q) m rfl)
/-- a def that makes a lambda -/
theorem lamT_of {X : Cx} {p : He.Defn} {q : Str} (hm : (p, q) ∈ lamNames) (hc : PySem.W.codeHdIn X.K (He.cT X.K p).1 (He.cT X.K p).2 = true) (ht : tabsOk X.K = true) (tb : LamX.TabB X.base X.mg (He.cT X.K p).1 (He.cT X.K p).2) (hcode : X.env.code = .ref (He.cT X.K p).1) (hq : X.env.qual ++ "<lambda>" = q) :
    LamT X (tabsK X.K) (He.cT X.K p).1 (He.cT X.K p).2 := by
  have m : ((He.cT X.K p).2, q) ∈ tabsK X.K := List.mem_map.mpr ⟨(p, q), List.mem_filter.mpr ⟨hm, hc⟩, rfl⟩
  subst hq
  exact ⟨tb, hcode, m, tabs_uni ht m⟩

/-! ### the law's own promise -/
/-- the law: at every script of at most n ints of that many bits it answers True -/
def spLaw (n : Nat) : LSp := fun ds h Q _ => ∃ ns : List Int, ds = [.lst (ns.map D.int)] ∧ h = [] ∧ ns.length ≤ n ∧ (∀ z ∈ ns, Builtin.Int.intBits z ≤ 1048576) ∧ ∀ d h', d = .bl true → Q d h'
theorem mono_law {n : Nat} : MonoP (spLaw n) := fun ds h Q Q' E E' hQ hE ⟨ns, a, b, c, d, e⟩ => ⟨ns, a, b, c, d, fun d h' z => hQ _ _ (e d h' z)⟩
theorem rel_ints' {K : Frag} {ι : Ad} {H : Hp} : ∀ ns : List Int, RelDs K ι H (ns.map D.int) (ns.map V.int)
  | [] => rfl
  | n :: ns => ⟨.int n, _, rfl, rfl, rel_ints' ns⟩
theorem law_sp {K : Frag} {n : Nat} {H : Hp} {a : Addr} {ns : List Int} (hl : ns.length ≤ n) (hb : ∀ z ∈ ns, Builtin.Int.intBits z ≤ 1048576) (hT : LamX.Tabs (tabsK K) H) (hS : LstX K H a (ns.map V.int)) :
    spV K 1 (spLaw n) [.ref a] H (fun v _ => v = .bl true) fun _ _ _ => False := by
  refine ⟨⟨[], [], []⟩, [.lst (ns.map D.int)], [], ⟨rfl, fun n m a e => by simp at e, fun a m => by simp at m, fun a m => by simp at m, fun a m => by simp at m, hT, fun n o q => by simp at q⟩, ⟨.ref a, [], rfl, ⟨a, ns.map V.int, rfl, ?_, rel_ints' ns⟩, rfl⟩, rfl, ns, rfl, rfl, hl, hb, fun d h' e ι' v H' _ _ r => ?_⟩
  · rcases hS with h | h | h
    · exact .inl ⟨h, by simp [Ad.no]⟩
    · exact .inr (.inl h)
    · exact .inr (.inr h)
  · subst e
    exact r
open He in
/-- THE END: the law's def keeps its promise over every base -/
theorem walk_L {l : PySem.W.OpenLaw} {n k : Nat} {q : Program} {loose : List Str} {XP : (Str → Option Value) → Heap → Prop} {fa : List Fa} {fn : List DefD} {ts : List Tab} {ex : Frag → Bool} {d : DefRec} {m : Nat} {tf : List Defn}
    (hn : l.most = some n) (hn2 : n ≤ sizeLine) (hdf : d.params.defaults = []) (hr : Room k callerA) (hd : d.name = "law") (hglo : Fa.glo "law" ∈ fa) (htf : ∀ p ∈ lamNames, p.1 ∈ tf)
    (F : ∀ (w : World) (K : Frag) (mg : Str → Option Value) (h base : Heap), K.In h → h.Ns mainGlobals mg → SaysX fa fn ts tf ex w h K → (∀ p ∈ tf, LamX.TabB base mg (cT K p).1 (cT K p).2) → Keeps l.prog w K mg base k (ga K "law") 1 (spLaw n)) :
    PySem.W.WalkO q loose XP (fun w h => (hookL m fa fn ts tf ex).says w h) l.row.toRowW d [] (fun f vs => PySem.call f vs) := by
  refine Att.attach_callB hn hdf fun w s₀ s₁ mg mb fa' o pm cd doc a vs ns G Y ho hdt hcd hmg hobj hints hlen hbits hg => ?_
  obtain ⟨K, KX, c⟩ := Y
  have e := (hd ▸ hmg).symm.trans (He.glo_ok KX G.T.g (He.SaysD.facts c.t.d hglo))
  cases e
  have T : TopH K mg mb (tf.map (cT K)) a vs s₁ := ⟨KX, G.T.g, G.T.b, G.T.builtins, G.T.nolimit, hg, fun p hp => by
      obtain ⟨r, hr, rfl⟩ := List.mem_map.mp hp
      exact c.empty r hr, fun p hp => by
      obtain ⟨r, hr, rfl⟩ := List.mem_map.mp hp
      exact c.out r hr, fun p hp => by
      obtain ⟨r, hr, rfl⟩ := List.mem_map.mp hp
      exact PySem.W.codeHd_of_K KX (c.hd r hr), G.T.bmain, hobj⟩
  refine T.call hints (Nat.le_trans hlen hn2) ⟨hr, rfl⟩ (fun base KB hns tb => F w K mg _ base KX G.T.g c fun p hp => tb _ (List.mem_map.mpr ⟨p, hp, rfl⟩)) fun H hH hS => law_sp hlen hbits (fun p hp => ?_) hS
  obtain ⟨r, hr, rfl⟩ := List.mem_map.mp hp
  obtain ⟨hr1, _⟩ := List.mem_filter.mp hr
  exact LamX.TabS.nil (hH _ (List.mem_map.mpr ⟨r.1, htf r hr1, rfl⟩))
end LL
end

section
set_option Elab.async false
set_option linter.all false
set_option maxRecDepth 100000
set_option maxHeartbeats 1000000
/-! LLAsg: a, b = x, y (and three) with plain local names; -x; the names of built-in types. -/
namespace LL
open PySem PySem.Spec PyProof.Rows L2
variable {X : Cx} {W : WX}

def sPar (i j : Nat) (A : LX (List D)) : LS := fun σ h K => A σ h (fun ds h1 => match ds with | [d, e] => K.nx ((σ.set i (some d)).set j (some e)) h1 | _ => False) (exOf K σ)
def sPar3 (i j l : Nat) (A : LX (List D)) : LS := fun σ h K => A σ h (fun ds h1 => match ds with | [d, e, f] => K.nx (((σ.set i (some d)).set j (some e)).set l (some f)) h1 | _ => False) (exOf K σ)
theorem RelDs.three {K : Frag} {ι : Ad} {H : Hp} {d d2 d3 : D} {vs : List V} (r : RelDs K ι H [d, d2, d3] vs) : ∃ v v2 v3, vs = [v, v2, v3] ∧ RelD K ι H d v ∧ RelD K ι H d2 v2 ∧ RelD K ι H d3 v3 := by
  obtain ⟨v, r', e, h1, h⟩ := r
  obtain ⟨v2, v3, e2, h2, h3⟩ := RelDs.two h
  subst e2
  exact ⟨v, v2, v3, e, h1, h2, h3⟩
theorem js_par {i j : Nat} {es : List Expr} {A : LX (List D)} {st : Stmt} (ha : JA X W es A) (h : ∀ {ta : TA}, PA X es ta → PS X st (tPar i j ta)) : JS X W st (sPar i j A) := by
  refine ⟨fun σ h A' B l q => ha.mono σ h _ _ _ _ (fun ds h1 q1 => ?_) (exOf.le l σ) q, PS.weak (h ha.run) fun Dn σV H ⟨ι0, H0, ι, σ, h, e, hS, hH, q⟩ => ?_⟩
  · split at q1
    · exact l.nx _ _ q1
    · exact q1.elim
  · refine tX.into ha.mono hS hH q (fun ds h1 ι1 vs H1 q1 e1 hH1 r => ?_) (fun c fs h1 ι1 dx H1 q1 e1 hH1 r => q1 ι1 dx σV H1 (e.trans e1) (hS.ext e1) hH1 r)
    split at q1
    · obtain ⟨v, v2, rfl, r1, r2⟩ := r.two
      exact ⟨v, v2, rfl, q1 ι1 _ H1 (e.trans e1) (((hS.ext e1).set i r1).set j r2) hH1⟩
    · exact q1.elim
theorem js_par3 {i j l : Nat} {es : List Expr} {A : LX (List D)} {st : Stmt} (ha : JA X W es A) (h : ∀ {ta : TA}, PA X es ta → PS X st (tPar3 i j l ta)) : JS X W st (sPar3 i j l A) := by
  refine ⟨fun σ h A' B le q => ha.mono σ h _ _ _ _ (fun ds h1 q1 => ?_) (exOf.le le σ) q, PS.weak (h ha.run) fun Dn σV H ⟨ι0, H0, ι, σ, h, e, hS, hH, q⟩ => ?_⟩
  · split at q1
    · exact le.nx _ _ q1
    · exact q1.elim
  · refine tX.into ha.mono hS hH q (fun ds h1 ι1 vs H1 q1 e1 hH1 r => ?_) (fun c fs h1 ι1 dx H1 q1 e1 hH1 r => q1 ι1 dx σV H1 (e.trans e1) (hS.ext e1) hH1 r)
    split at q1
    · obtain ⟨v, v2, v3, rfl, r1, r2, r3⟩ := r.three
      exact ⟨v, v2, v3, rfl, q1 ι1 _ H1 (e.trans e1) ((((hS.ext e1).set i r1).set j r2).set l r3) hH1⟩
    · exact q1.elim
def eNeg (m : LE) : LE := fun σ h Q E => m σ h (fun d h1 => match d with | .int i => Q (.int (-i)) h1 | _ => False) E
theorem je_neg {e : Expr} {m : LE} {pos : Pos} (he : JE X W e m) : JE X W (.UnaryOp .USub e pos) (eNeg m) := by
  refine ⟨fun σ h Q Q' E E' hQ hE q => he.mono σ h _ _ _ _ (fun d h1 q1 => ?_) hE q, PE.weak (pe_un un_neg he.run) fun σV H Q ⟨ι, σ, h, hS, hH, q⟩ => ?_⟩
  · split at q1
    · exact hQ _ _ q1
    · exact q1.elim
  · refine tX.into he.mono hS hH q (fun d h1 ι1 v H1 q1 e1 hH1 r => ?_) (fun c fs h1 ι1 dx H1 q1 => q1 ι1 dx H1)
    split at q1
    · rename_i i
      exact ⟨i, r, q1 ι1 _ H1 e1 hH1 rfl⟩
    · exact q1.elim
/-- the name of a built-in type -/
theorem pe_tyn {x : Str} {n : String} {pos : Pos} (hm : X.mg x = none) (hv : bootBuiltins x = some (.type n)) (hg : Gl X x := by rfl) (hn : x ≠ "__name__" := by decide) (hd : (x == ("__debug__" : Str)) = false := by decide) : PE X (.Name x pos) (tC (.ty n)) := pe_bltn hg hm hv (v := .ty n) rfl hn hd
/-- the name of an own class -/
theorem pe_cln {C : Str} {pos : Pos} (hm : X.mg C = some (.ref (He.ga X.K C))) (hg : Gl X C := by rfl) (hd : (C == ("__debug__" : Str)) = false := by decide) : PE X (.Name C pos) (tC (.ref (He.ga X.K C))) := pe_glob hg hm (v := .ref (He.ga X.K C)) rfl hd
end LL
end

section
set_option Elab.async false
set_option linter.all false
set_option maxRecDepth 100000
/-! LLSim: rules by which simp runs a logical body (a part is opened when it is run, not before). -/
namespace LL
open PySem PySem.Spec PyProof.Rows
/-- a value that is a bool -/
def tstD (d : D) (R : Bool → Prop) : Prop := ∃ b, d = .bl b ∧ R b
@[simp] theorem tstD_bl {b : Bool} {R : Bool → Prop} : tstD (.bl b) R = R b := propext ⟨fun ⟨c, e, r⟩ => by cases e; exact r, fun r => ⟨b, rfl, r⟩⟩
/-- what follows, closed until it is run -/
def seqK (r : LS) (K : LK) : LV → LH → Prop := fun σ h => r σ h K
/-- what a walk asks behind its iterable -/
def compAt (J : LIt) (p : Pt) (t : LX Bool) (e : LE) (vs : List Nat) (σ : LV) (h1 : LH) (Q : List D → LH → Prop) : Prop := ∃ I : Nat → List D → LH → Prop, I 0 [] h1 ∧ (∀ i acc h, i ≤ J.items.length → I i acc h → J.ok h) ∧
  (∀ i x acc h, J.items[i]? = some x → I i acc h → p.st x (lwipe σ vs) fun σ2 => t σ2 h (fun b h2 => if b = true then e σ2 h2 (fun y h3 => acc.length < sizeLine ∧ I (i + 1) (acc ++ [y]) h3) (fun _ _ _ => False) else I (i + 1) acc h2) (fun _ _ _ => False)) ∧
  ∀ acc h, I J.items.length acc h → Q acc h
def forAt (J : LIt) (g : LG) (b : LS) (σ : LV) (h1 : LH) (K : LK) : Prop := ∃ I : Nat → LV → LH → Prop, I 0 σ h1 ∧ (∀ i σ h, i ≤ J.items.length → I i σ h → J.ok h) ∧
    (∀ i x σ h, J.items[i]? = some x → I i σ h → g x σ h (fun σ2 h2 => b σ2 h2 { nx := I (i + 1), ct := I (i + 1), bk := K.nx, rt := K.rt, ex := K.ex }) (exOf K σ)) ∧
    ∀ σ h, I J.items.length σ h → K.nx σ h
section
variable {m a b c o e : LE} {A : LX (List D)} {t u : LX Bool} {s r : LS} {g : LG} {gs : LGs} {mi : LI} {op op' : LOp} {σ : LV} {h : LH} {Q : D → LH → Prop} {Qs : List D → LH → Prop} {Qb : Bool → LH → Prop} {R : LV → LH → Prop} {QI : LIt → LH → Prop} {E : XL} {K : LK} {d : D} {ds : List D} {i j l n : Nat} {C f : Str} {Cs : List Str}
@[simp] theorem exOf_run : exOf K σ = fun cl fs h => K.ex cl fs σ h := (rfl)
@[simp] theorem le_sizeLine (e : n ≤ 16777216) : n ≤ sizeLine := e
@[simp] theorem lt_sizeLine (e : n < 16777216) : n < sizeLine := e
@[simp] theorem sSeq_run : sSeq s r σ h K = s σ h { K with nx := seqK r K } := (rfl)
@[simp] theorem seqK_run : seqK r K σ h = r σ h K := (rfl)
@[simp] theorem sNil_run : sNil σ h K = K.nx σ h := (rfl)
@[simp] theorem sNever_run : sNever σ h K = False := (rfl)
@[simp] theorem sBrk_run : sBrk σ h K = K.bk σ h := (rfl)
@[simp] theorem sCnt_run : sCnt σ h K = K.ct σ h := (rfl)
@[simp] theorem sExpr_run : sExpr m σ h K = m σ h (fun _ h1 => K.nx σ h1) (exOf K σ) := (rfl)
@[simp] theorem sRet_run : sRet m σ h K = m σ h K.rt (exOf K σ) := (rfl)
@[simp] theorem sRetN_run : sRetN σ h K = K.rt .non h := (rfl)
@[simp] theorem sIf_run : sIf t s r σ h K = t σ h (fun c h1 => if c = true then s σ h1 K else r σ h1 K) (exOf K σ) := (rfl)
@[simp] theorem sAsg_run : sAsg m g σ h K = m σ h (fun d h1 => g d σ h1 K.nx (exOf K σ)) (exOf K σ) := (rfl)
@[simp] theorem gNm_run : gNm i d σ h R E = R (σ.set i (some d)) h := (rfl)
@[simp] theorem gSb_run : gSb a b d σ h R E = a σ h (fun x h1 => b σ h1 (fun y h2 => setL x y d h2 (R σ)) E) E := (rfl)
@[simp] theorem gFd_run : gFd Cs f o d σ h R E = o σ h (fun x h1 => setF Cs f x d h1 (R σ)) E := (rfl)
@[simp] theorem gTp_run : gTp n gs (.tup ds) σ h R E = (ds.length = n ∧ gs ds σ h R (fun _ _ _ => False)) := (rfl)
@[simp] theorem gNl_run : gNl ds σ h R E = (ds = [] ∧ R σ h) := (rfl)
@[simp] theorem gCs_run : gCs g gs (d :: ds) σ h R E = g d σ h (fun σ' h' => gs ds σ' h' R E) E := (rfl)
@[simp] theorem eC_run : eC d σ h Q E = Q d h := (rfl)
@[simp] theorem eOp_run : eOp op a b σ h Q E = a σ h (fun x h1 => b σ h1 (fun y h2 => op x y h2 Q) E) E := (rfl)
@[simp] theorem eTest_run : eTest m σ h Qb E = m σ h (fun d h1 => tstD d fun b => Qb b h1) E := (rfl)
@[simp] theorem eTru_run : eTru m σ h Qb E = m σ h (fun d h1 => truD d h1 fun b => Qb b h1) E := (rfl)
@[simp] theorem eAnd_run : eAnd t u σ h Qb E = t σ h (fun c h1 => if c = true then u σ h1 Qb E else Qb false h1) E := (rfl)
@[simp] theorem eOr_run : eOr t u σ h Qb E = t σ h (fun c h1 => if c = true then Qb true h1 else u σ h1 Qb E) E := (rfl)
@[simp] theorem eNot_run : eNot t σ h Qb E = t σ h (fun c h1 => Qb (!c) h1) E := (rfl)
@[simp] theorem eYes_run : eYes σ h Qb E = Qb true h := (rfl)
@[simp] theorem eAndV_run : eAndV a b σ h Q E = a σ h (fun d h1 => tstD d fun c => if c = true then b σ h1 Q E else Q (.bl false) h1) E := (rfl)
@[simp] theorem eOrV_run : eOrV a b σ h Q E = a σ h (fun d h1 => tstD d fun c => if c = true then Q (.bl true) h1 else b σ h1 Q E) E := (rfl)
@[simp] theorem eNotV_run : eNotV a σ h Q E = a σ h (fun d h1 => tstD d fun c => Q (.bl (!c)) h1) E := (rfl)
@[simp] theorem eIf_run : eIf t a b σ h Q E = t σ h (fun c h1 => if c = true then a σ h1 Q E else b σ h1 Q E) E := (rfl)
@[simp] theorem eNil_run : eNil σ h Qs E = Qs [] h := (rfl)
@[simp] theorem eCons_run : eCons a A σ h Qs E = a σ h (fun x h1 => A σ h1 (fun xs h2 => Qs (x :: xs) h2) E) E := (rfl)
@[simp] theorem eTup_run : eTup A σ h Q E = A σ h (fun xs h1 => xs.length ≤ sizeLine ∧ Q (.tup xs) h1) E := (rfl)
@[simp] theorem eLst_run : eLst A σ h Q E = A σ h (fun xs h1 => xs.length ≤ sizeLine ∧ Q (.lst xs) h1) E := (rfl)
@[simp] theorem eLstM_run : eLstM A σ h Q E = A σ h (fun xs h1 => xs.length ≤ sizeLine ∧ Q (.ref h1.length) (h1 ++ [.lst xs])) E := (rfl)
@[simp] theorem eChain_run : eChain op op' a b c σ h Q E = a σ h (fun x h1 => b σ h1 (fun y h2 => op x y h2 (fun z h3 => tstD z fun k => if k = true then c σ h3 (fun w h4 => op' y w h4 Q) E else Q (.bl false) h3)) E) E := (rfl)
@[simp] theorem eFld_run : eFld Cs f m σ h Q E = m σ h (fun d h1 => getF Cs f d h1 Q) E := (rfl)
@[simp] theorem sFldA_run : sFldA Cs f m o σ h K = m σ h (fun y h1 => o σ h1 (fun d h2 => setF Cs f d y h2 (K.nx σ)) (exOf K σ)) (exOf K σ) := (rfl)
@[simp] theorem eNoPart_run {Q : Option Int → LH → Prop} : eNoPart σ h Q E = Q none h := (rfl)
def somePart (d : D) (h : LH) (Q : Option Int → LH → Prop) : Prop := match d with | .int i => Q (some i) h | _ => False
@[simp] theorem somePart_int {i : Int} {Q : Option Int → LH → Prop} : somePart (.int i) h Q = Q (some i) h := (rfl)
@[simp] theorem eSomePart_run {Q : Option Int → LH → Prop} : eSomePart m σ h Q E = m σ h (fun d h1 => somePart d h1 Q) E := (rfl)
def slcD (x : D) (l u : Option Int) (h : LH) (Q : D → LH → Prop) : Prop := match x with
  | .tup ds => ¬ (HT.sIx ds.length 0 l = 0 ∧ HT.sIx ds.length ds.length u = ds.length) ∧ Q (.tup (cutD ds l u)) h
  | d => seqL d h fun ds => Q (.lst (cutD ds l u)) h
@[simp] theorem eSl_run {lo hi : LO} : eSl m lo hi σ h Q E = m σ h (fun x h1 => lo σ h1 (fun l h2 => hi σ h2 (fun u h3 => slcD x l u h3 Q) E) E) E := (rfl)
@[simp] theorem slcD_lst {l u : Option Int} : slcD (.lst ds) l u h Q = Q (.lst (cutD ds l u)) h := (rfl)
@[simp] theorem slcD_ref {l u : Option Int} (q : h[n]? = some (.lst ds)) : slcD (.ref n) l u h Q = Q (.lst (cutD ds l u)) h := by show seqL (.ref n) h _ = _; unfold seqL; simp only [q]
@[simp] theorem slcD_tup {l u : Option Int} : slcD (.tup ds) l u h Q = (¬ (HT.sIx ds.length 0 l = 0 ∧ HT.sIx ds.length ds.length u = ds.length) ∧ Q (.tup (cutD ds l u)) h) := (rfl)
/-- behind an amount -/
def intD (z : D) (R : Int → Prop) : Prop := match z with | .int q => R q | _ => False
@[simp] theorem intD_int {q : Int} {R : Int → Prop} : intD (.int q) R = R q := (rfl)
@[simp] theorem sAugS_run {f : Int → Int → Int} : sAugS a b e f σ h K = a σ h (fun x h1 => b σ h1 (fun y h2 => ∃ p, getI x y h2 p ∧ e σ h2 (fun z h3 => intD z fun q => setL x y (.int (f p q)) h3 (K.nx σ)) (exOf K σ)) (exOf K σ)) (exOf K σ) := (rfl)
@[simp] theorem sAug_run {f : Int → Int → Int} : sAug i e f σ h K = ∃ p, σ[i]? = some (some (.int p)) ∧ e σ h (fun z h1 => intD z fun q => K.nx (σ.set i (some (.int (f p q)))) h1) (exOf K σ) := (rfl)
@[simp] theorem getI_run {x : D} {k p : Int} : getI x (.int k) h p = seqL x h fun ds => L2.atI ds k = some (.int p) := (rfl)
@[simp] theorem eB_run {op : LB} : eB op A σ h Q E = A σ h (fun ds h1 => op ds h1 Q) E := (rfl)
@[simp] theorem eCall_run {G : LSp} : eCall G n A σ h Q E = A σ h (fun ds h1 => ds.length = n ∧ G ds h1 Q E) E := (rfl)
@[simp] theorem eMeth_run {G : LSp} : eMeth C f G n o A σ h Q E = o σ h (fun x h1 => isIns C f x h1 ∧ A σ h1 (fun ds h2 => ds.length + 1 = n ∧ G (x :: ds) h2 Q E) E) E := (rfl)
@[simp] theorem eMake_run {G : LSp} : eMake C G n A σ h Q E = A σ h (fun ds h1 => ds.length + 1 = n ∧ G (.ref h1.length :: ds) (h1 ++ [.ins C []]) (fun d h2 => d = .non ∧ Q (.ref h1.length) h2) E) E := (rfl)
@[simp] theorem eNeg_run : eNeg m σ h Q E = m σ h (fun d h1 => intD d fun i => Q (.int (-i)) h1) E := (rfl)
@[simp] theorem eIsi_run {l : List (Ty × Bool)} : eIsi l m σ h Q E = m σ h (fun d h1 => ∃ t b, tyD d h1 = some t ∧ l.lookup t = some b ∧ Q (.bl b) h1) E := (rfl)
@[simp] theorem iSeq_run : iSeq m σ h QI E = m σ h (fun d h1 => walkD d h1 fun J => QI J h1) E := (rfl)
def rng1 (ds : List D) (h : LH) (Q : LIt → LH → Prop) : Prop := match ds with
  | [.int j] => -(2 ^ 62) ≤ j ∧ j < 2 ^ 62 ∧ Q ⟨rngD 0 j.toNat, fun _ => True⟩ h
  | [.int i, .int j] => -(2 ^ 62) ≤ i ∧ i < 2 ^ 62 ∧ -(2 ^ 62) ≤ j ∧ j < 2 ^ 62 ∧ Q ⟨rngD i (j - i).toNat, fun _ => True⟩ h
  | _ => False
@[simp] theorem rng1_one {j : Int} : rng1 [.int j] h QI = (-(2 ^ 62) ≤ j ∧ j < 2 ^ 62 ∧ QI ⟨rngD 0 j.toNat, fun _ => True⟩ h) := (rfl)
@[simp] theorem rng1_two {i j : Int} : rng1 [.int i, .int j] h QI = (-(2 ^ 62) ≤ i ∧ i < 2 ^ 62 ∧ -(2 ^ 62) ≤ j ∧ j < 2 ^ 62 ∧ QI ⟨rngD i (j - i).toNat, fun _ => True⟩ h) := (rfl)
@[simp] theorem iRangeN_run {k : Nat} : iRangeN k A σ h QI E = A σ h (fun ds h1 => ds.length = k ∧ rng1 ds h1 QI) E := (rfl)
def enum1 (ds : List D) (h : LH) (Q : LIt → LH → Prop) : Prop := match ds with | [d] => walkL d h fun J => Q (enumOf J) h | _ => False
@[simp] theorem enum1_one : enum1 [d] h QI = walkL d h fun J => QI (enumOf J) h := (rfl)
@[simp] theorem iEnumL_run : iEnumL A σ h QI E = A σ h (fun ds h1 => enum1 ds h1 QI) E := (rfl)
def zip1 (ds : List D) (h : LH) (Q : LIt → LH → Prop) : Prop := match ds with | [d, e] => walkL d h fun J => walkL e h fun J' => Q (zipOf J J') h | _ => False
@[simp] theorem zip1_two {d' : D} : zip1 [d, d'] h QI = walkL d h fun J => walkL d' h fun J' => QI (zipOf J J') h := (rfl)
@[simp] theorem iZipL_run : iZipL A σ h QI E = A σ h (fun ds h1 => zip1 ds h1 QI) E := (rfl)
@[simp] theorem eLC_run {p : Pt} {vs : List Nat} : eLC mi p t e vs σ h Q E = mi σ h (fun J h1 => compAt J p t e vs σ h1 fun acc h2 => Q (.lst acc) h2) E := (rfl)
@[simp] theorem eLCM_run {p : Pt} {vs : List Nat} : eLCM mi p t e vs σ h Q E = mi σ h (fun J h1 => compAt J p t e vs σ h1 fun acc h2 => Q (.ref h2.length) (h2 ++ [.lst acc])) E := (rfl)
@[simp] theorem sFor_run : sFor mi g s σ h K = mi σ h (fun J h1 => forAt J g s σ h1 K) (exOf K σ) := (rfl)
@[simp] theorem st_nm {R : LV → Prop} : Pt.st (.nm i) d σ R = R (σ.set i (some d)) := (rfl)
@[simp] theorem st_tp {is : List Nat} {R : LV → Prop} : Pt.st (.tp is) (.tup ds) σ R = (ds.length = is.length ∧ R (LL.setDs is ds σ)) := (rfl)
@[simp] theorem setDs_cons {is : List Nat} : LL.setDs (i :: is) (d :: ds) σ = LL.setDs is ds (σ.set i (some d)) := (rfl)
@[simp] theorem setDs_nil : LL.setDs [] ds σ = σ := by unfold LL.setDs; rfl
@[simp] theorem lwipe_nil : lwipe σ [] = σ := (rfl)
@[simp] theorem lwipe_cons {vs : List Nat} : lwipe σ (i :: vs) = (lwipe σ vs).set i none := (rfl)
def two1 (ds : List D) (R : D → D → Prop) : Prop := match ds with | [d, e] => R d e | _ => False
@[simp] theorem two1_two {d' : D} {R : D → D → Prop} : two1 [d, d'] R = R d d' := (rfl)
@[simp] theorem sPar_run : sPar i j A σ h K = A σ h (fun ds h1 => two1 ds fun d e => K.nx ((σ.set i (some d)).set j (some e)) h1) (exOf K σ) := (rfl)
def three1 (ds : List D) (R : D → D → D → Prop) : Prop := match ds with | [d, e, f] => R d e f | _ => False
@[simp] theorem three1_three {d' d'' : D} {R : D → D → D → Prop} : three1 [d, d', d''] R = R d d' d'' := (rfl)
@[simp] theorem sPar3_run : sPar3 i j l A σ h K = A σ h (fun ds h1 => three1 ds fun d e f => K.nx (((σ.set i (some d)).set j (some e)).set l (some f)) h1) (exOf K σ) := (rfl)
def delAt (x y : D) (h : LH) (R : LH → Prop) : Prop := match x, y with
  | .ref n, .int k => match h[n]? with
    | some (.lst ds) => -(2 ^ 63) ≤ k ∧ k < 2 ^ 63 ∧ ∃ j, seqIndex? k ds.length = some j ∧ R (h.set n (.lst (ds.eraseIdx j)))
    | _ => False
  | _, _ => False
@[simp] theorem sDel_run : sDel a b σ h K = a σ h (fun x h1 => b σ h1 (fun y h2 => delAt x y h2 (K.nx σ)) (exOf K σ)) (exOf K σ) := (rfl)
@[simp] theorem delAt_ref {k : Int} {R : LH → Prop} (q : h[n]? = some (.lst ds)) : delAt (.ref n) (.int k) h R = (-(2 ^ 63) ≤ k ∧ k < 2 ^ 63 ∧ ∃ j, seqIndex? k ds.length = some j ∧ R (h.set n (.lst (ds.eraseIdx j)))) := by unfold delAt; simp only [q]
@[simp] theorem eFrz0_run : eFrz0 m σ h Q E = m σ h (frz0K h Q) E := (rfl)
@[simp] theorem eFrz_run : eFrz m σ h Q E = m σ h (frzK h.length Q) E := (rfl)
@[simp] theorem eSort2_run : eSort2 m σ h Q E = m σ h (fun d h1 => seqL d h1 fun ds => ds.all is2 = true ∧ Q (.lst (ds.mergeSort le2)) h1) E := (rfl)
@[simp] theorem eSortS_run : eSortS m σ h Q E = m σ h (fun d h1 => seqL d h1 fun ds => ds.all is2 = true ∧ (∀ d ∈ ds, L2.CMul (k2 d).1 2) ∧ Q (.lst (ds.mergeSort leS)) h1) E := (rfl)
@[simp] theorem eFmt_run : eFmt m σ h Q E = m σ h (fun d h1 => fmtD d fun x => Q (.str x) h1) E := (rfl)
@[simp] theorem fmtD_str {y : Str} {R : Str → Prop} : fmtD (.str y) R = (y.length ≤ sizeLine ∧ R y) := (rfl)
@[simp] theorem fmtD_int {k : Int} {R : Str → Prop} : fmtD (.int k) R = (k.natAbs.log2 < 1920 ∧ R (toString k)) := (rfl)
def strD (d : D) (R : Str → Prop) : Prop := match d with | .str y => R y | _ => False
@[simp] theorem strD_str {y : Str} {R : Str → Prop} : strD (.str y) R = R y := (rfl)
@[simp] theorem eFstr_run {ms : List LE} : eFstr ms σ h Q E = eJoin ms Str.empty σ h (fun x h1 => Q (.str x) h1) E := (rfl)
@[simp] theorem eJoin_nil {acc : Str} {R : Str → LH → Prop} : eJoin [] acc σ h R E = R acc h := (rfl)
@[simp] theorem eJoin_cons {ms : List LE} {acc : Str} {R : Str → LH → Prop} : eJoin (m :: ms) acc σ h R E = m σ h (fun d h1 => strD d fun y => (acc ++ y).length ≤ sizeLine ∧ eJoin ms (acc ++ y) σ h1 R E) E := (rfl)
@[simp] theorem bOwn_run {G : LSp} {P : D → (D → Prop) → Prop} : bOwn C G P [d] h Q = (isObj C d h ∧ G [d] h (fun d h2 => P d fun d' => Q d' h2) (fun _ _ _ => False)) := (rfl)
@[simp] theorem pLen_int {k : Int} {R : D → Prop} : pLen (.int k) R = ((0 ≤ k ∧ k < 2 ^ 63) ∧ R (.int k)) := (rfl)
@[simp] theorem pBool_int {k : Int} {R : D → Prop} : pBool (.int k) R = ((0 ≤ k ∧ k < 2 ^ 63) ∧ R (.bl (k != 0))) := (rfl)
@[simp] theorem pRepr_str {y : Str} {R : D → Prop} : pRepr (.str y) R = R (.str y) := (rfl)
end
/-- the ends of a body are kept closed (the kernel's check of what simp did stays small) -/
theorem byK {b : LS} {σ : LV} {h : LH} {Q : D → LH → Prop} {E : XL} (H : ∀ κ : LK, (∀ d h, Q d h → κ.rt d h) → (∀ σ h, Q .non h → κ.nx σ h) → (∀ c fs σ h, E c fs h → κ.ex c fs σ h) → b σ h κ) : b σ h (bodyK Q E) := H _ (fun _ _ q => q) (fun _ _ q => q) (fun _ _ _ _ q => q)
/-- a later round, closed for simp -/
def dec (I : Nat → LV → LH → Prop) (m : Nat) (σ : LV) (h : LH) : Prop := ∃ m', m' < m ∧ I m' σ h
def opq (I : Nat → LV → LH → Prop) (m : Nat) (σ : LV) (h : LH) : Prop := I m σ h
theorem whileBy {t : LX Bool} {b : LS} {σ : LV} {h : LH} {K : LK} (I : Nat → LV → LH → Prop) (m : Nat) (h0 : I m σ h)
    (hs : ∀ m σ h, I m σ h → t σ h (fun c h1 => if c = true then b σ h1 { nx := dec I m, ct := dec I m, bk := K.nx, rt := K.rt, ex := K.ex } else K.nx σ h1) (exOf K σ)) : sWhile t b σ h K := ⟨I, ⟨m, h0⟩, hs⟩
/-- .. with a test that only looks -/
theorem whileT {t : LX Bool} {b : LS} {σ : LV} {h : LH} {K : LK} (I : Nat → LV → LH → Prop) (m : Nat) (h0 : I m σ h)
    (hs : ∀ m σ h, I m σ h → ∃ c : Bool, (∀ Qb E, Qb c h → t σ h Qb E) ∧ (c = true → b σ h { nx := dec I m, ct := dec I m, bk := K.nx, rt := K.rt, ex := K.ex }) ∧ (c = false → K.nx σ h)) : sWhile t b σ h K := by
  refine whileBy I m h0 fun m σ h q => ?_
  obtain ⟨c, h1, h2, h3⟩ := hs m σ h q
  refine h1 _ _ ?_
  cases c with
  | true => rw [if_pos rfl]; exact h2 rfl
  | false => rw [if_neg Bool.false_ne_true]; exact h3 rfl
theorem forBy {J : LIt} {g : LG} {b : LS} {σ : LV} {h : LH} {K : LK} (I : Nat → LV → LH → Prop) (h0 : I 0 σ h) (hok : ∀ i σ h, i ≤ J.items.length → I i σ h → J.ok h)
    (hs : ∀ i x σ h, J.items[i]? = some x → I i σ h → g x σ h (fun σ2 h2 => b σ2 h2 { nx := opq I (i + 1), ct := opq I (i + 1), bk := K.nx, rt := K.rt, ex := K.ex }) (exOf K σ))
    (he : ∀ σ h, I J.items.length σ h → K.nx σ h) : forAt J g b σ h K := ⟨I, h0, hok, hs, he⟩
section
variable {h : LH} {Q : D → LH → Prop} {σ : LV} {E : XL} {i j : Int} {n : Nat}
@[simp] theorem eVar_at {i : Nat} {d : D} (e : σ[i]? = some (some d)) : eVar i σ h Q E = Q d h := by unfold eVar; rw [e]
@[simp] theorem oPlus_int : oPlus (.int i) (.int j) h Q = Q (.int (i + j)) h := by unfold oPlus; rfl
@[simp] theorem oPlus_lst {xs ys : List D} : oPlus (.lst xs) (.lst ys) h Q = (xs.length + ys.length ≤ sizeLine ∧ Q (.lst (xs ++ ys)) h) := by unfold oPlus; rfl
@[simp] theorem oPlus_str {x y : Str} : oPlus (.str x) (.str y) h Q = (x.length + y.length ≤ sizeLine ∧ Q (.str (x ++ y)) h) := by unfold oPlus; rfl
@[simp] theorem oPlus_tup {xs ys : List D} : oPlus (.tup xs) (.tup ys) h Q = (xs ≠ [] ∧ xs.length + ys.length ≤ sizeLine ∧ Q (.tup (xs ++ ys)) h) := by unfold oPlus; rfl
@[simp] theorem oPlus_rl {xs ys : List D} (e : h[n]? = some (.lst xs)) : oPlus (.ref n) (.lst ys) h Q = (xs.length + ys.length ≤ sizeLine ∧ Q (.lst (xs ++ ys)) h) := by unfold oPlus seqL; simp only [e]
@[simp] theorem oPlus_rr {m : Nat} {xs ys : List D} (e : h[n]? = some (.lst xs)) (e2 : h[m]? = some (.lst ys)) : oPlus (.ref n) (.ref m) h Q = (xs.length + ys.length ≤ sizeLine ∧ Q (.lst (xs ++ ys)) h) := by unfold oPlus seqL; simp only [e, e2]
@[simp] theorem oSub_int : oSub (.int i) (.int j) h Q = Q (.int (i - j)) h := (rfl)
@[simp] theorem oMul_int : oMul (.int i) (.int j) h Q = (L2.CMul i j ∧ Q (.int (i * j)) h) := (rfl)
@[simp] theorem oMod_int : oMod (.int i) (.int j) h Q = (0 < j ∧ Q (.int (i % j)) h) := (rfl)
@[simp] theorem oDiv_int : oDiv (.int i) (.int j) h Q = (L2.CDiv i j ∧ Q (.int (i / j)) h) := (rfl)
@[simp] theorem oPow_int : oPow (.int i) (.int j) h Q = (L2.CPow i j ∧ Q (.int (i ^ j.toNat)) h) := (rfl)
@[simp] theorem oLt_int : oLt (.int i) (.int j) h Q = Q (.bl (decide (i < j))) h := (rfl)
@[simp] theorem oLe_int : oLe (.int i) (.int j) h Q = Q (.bl (decide (i ≤ j))) h := (rfl)
@[simp] theorem oGt_int : oGt (.int i) (.int j) h Q = Q (.bl (decide (j < i))) h := (rfl)
@[simp] theorem oGe_int : oGe (.int i) (.int j) h Q = Q (.bl (decide (j ≤ i))) h := (rfl)
@[simp] theorem oIsN_non {x : D} : oIsN x .non h Q = Q (.bl x.isNon) h := (rfl)
@[simp] theorem oNotN_non {x : D} : oNotN x .non h Q = Q (.bl (!x.isNon)) h := (rfl)
@[simp] theorem isNon_non : D.isNon .non = true := (rfl)
@[simp] theorem isNon_int : D.isNon (.int i) = false := (rfl)
@[simp] theorem oIx_int {x : D} : oIx x (.int i) h Q = seqA x h (fun ds => ∃ d, L2.atI ds i = some d ∧ Q d h) := (rfl)
@[simp] theorem seqA_tup {ds : List D} {R : List D → Prop} : seqA (.tup ds) h R = R ds := (rfl)
@[simp] theorem seqA_lst {ds : List D} {R : List D → Prop} : seqA (.lst ds) h R = R ds := (rfl)
@[simp] theorem seqL_lst {ds : List D} {R : List D → Prop} : seqL (.lst ds) h R = R ds := (rfl)
@[simp] theorem seqA_ref {ds : List D} {R : List D → Prop} (e : h[n]? = some (.lst ds)) : seqA (.ref n) h R = R ds := by unfold seqA seqL; simp [e]
@[simp] theorem seqL_ref {ds : List D} {R : List D → Prop} (e : h[n]? = some (.lst ds)) : seqL (.ref n) h R = R ds := by unfold seqL; simp [e]
@[simp] theorem setL_ref {ds : List D} {v : D} {R : LH → Prop} (e : h[n]? = some (.lst ds)) : setL (.ref n) (.int i) v h R = ∃ j, L2.ixN ds.length i = some j ∧ R (h.set n (.lst (ds.set j v))) := by unfold setL; simp [e]
/-- what stands there is an instance -/
def getFo (Cs : List Str) (f : Str) (o : O) (h : LH) (Q : D → LH → Prop) : Prop := match o with | .ins C fs => C ∈ Cs ∧ ∃ v, fs.lookup f = some v ∧ Q v h | _ => False
@[simp] theorem getFo_ins {Cs : List Str} {f : Str} {C : Str} {fs : List (Str × D)} : getFo Cs f (.ins C fs) h Q = (C ∈ Cs ∧ ∃ v, fs.lookup f = some v ∧ Q v h) := (rfl)
@[simp] theorem getF_ref {Cs : List Str} {f : Str} {o : O} (e : h[n]? = some o) : getF Cs f (.ref n) h Q = getFo Cs f o h Q := by unfold getF; simp only [e]; cases o <;> rfl
@[simp] theorem getF_ob {Cs : List Str} {f : Str} {C : Str} {ns : List Str} {ds : List D} : getF Cs f (.ob C ns ds) h Q = (C ∈ Cs ∧ ∃ v, (ns.zip ds).lookup f = some v ∧ Q v h) := (rfl)
def setFo (Cs : List Str) (f : Str) (n : Nat) (o : O) (v : D) (h : LH) (R : LH → Prop) : Prop := match o with | .ins C fs => C ∈ Cs ∧ fs.length < 1000 ∧ R (h.set n (.ins C (putD f v fs))) | _ => False
@[simp] theorem setFo_ins {Cs : List Str} {f : Str} {C : Str} {fs : List (Str × D)} {v : D} {R : LH → Prop} : setFo Cs f n (.ins C fs) v h R = (C ∈ Cs ∧ fs.length < 1000 ∧ R (h.set n (.ins C (putD f v fs)))) := (rfl)
@[simp] theorem setF_ref {Cs : List Str} {f : Str} {o : O} {v : D} {R : LH → Prop} (e : h[n]? = some o) : setF Cs f (.ref n) v h R = setFo Cs f n o v h R := by unfold setF; simp only [e]; cases o <;> rfl
def isInsO (C m : Str) (o : O) : Prop := match o with | .ins C' fs => C' = C ∧ fs.lookup m = none | _ => False
@[simp] theorem isInsO_ins {C C' m : Str} {fs : List (Str × D)} : isInsO C m (.ins C' fs) = (C' = C ∧ fs.lookup m = none) := (rfl)
@[simp] theorem isIns_ref {C m : Str} {o : O} (e : h[n]? = some o) : isIns C m (.ref n) h = isInsO C m o := by unfold isIns; simp only [e]; cases o <;> rfl
@[simp] theorem isIns_ob {C C' m : Str} {ns : List Str} {ds : List D} : isIns C m (.ob C' ns ds) h = (C' = C ∧ (ns.zip ds).lookup m = none) := (rfl)
def isObjO (C : Str) (o : O) : Prop := match o with | .ins C' _ => C' = C | _ => False
@[simp] theorem isObjO_ins {C C' : Str} {fs : List (Str × D)} : isObjO C (.ins C' fs) = (C' = C) := (rfl)
@[simp] theorem isObj_ref {C : Str} {o : O} (e : h[n]? = some o) : isObj C (.ref n) h = isObjO C o := by unfold isObj; simp only [e]; cases o <;> rfl
@[simp] theorem isObj_ob {C C' : Str} {ns : List Str} {ds : List D} : isObj C (.ob C' ns ds) h = (C' = C) := (rfl)
@[simp] theorem walkD_lst {ds : List D} {R : LIt → Prop} : walkD (.lst ds) h R = R ⟨ds, fun _ => True⟩ := (rfl)
@[simp] theorem walkD_tup {ds : List D} {R : LIt → Prop} : walkD (.tup ds) h R = R ⟨ds, fun _ => True⟩ := (rfl)
@[simp] theorem walkD_ref {ds : List D} {R : LIt → Prop} (e : h[n]? = some (.lst ds)) : walkD (.ref n) h R = R ⟨ds, fun h' => h'[n]? = some (.lst ds)⟩ := by unfold walkD; simp [e]
@[simp] theorem bLen_str {s : Str} : bLen [.str s] h Q = (s.length ≤ sizeLine ∧ Q (.int s.length) h) := (rfl)
@[simp] theorem bLen_lst {ds : List D} : bLen [.lst ds] h Q = Q (.int ds.length) h := (rfl)
@[simp] theorem bLen_tup {ds : List D} : bLen [.tup ds] h Q = Q (.int ds.length) h := (rfl)
@[simp] theorem bLen_ref {ds : List D} (e : h[n]? = some (.lst ds)) : bLen [.ref n] h Q = Q (.int ds.length) h := by unfold bLen; simp [e]
@[simp] theorem bAbs_int : bAbs [.int i] h Q = Q (.int (if i < 0 then -i else i)) h := (rfl)
@[simp] theorem bInt_int : bInt [.int i] h Q = Q (.int i) h := (rfl)
@[simp] theorem bInt_bl {b : Bool} : bInt [.bl b] h Q = Q (.int (if b then 1 else 0)) h := (rfl)
@[simp] theorem bMax2_int : bMax2 [.int i, .int j] h Q = Q (.int (if j > i then j else i)) h := (rfl)
@[simp] theorem bMin2_int : bMin2 [.int i, .int j] h Q = Q (.int (if j < i then j else i)) h := (rfl)
@[simp] theorem bDivmod_int : bDivmod [.int i, .int j] h Q = (L2.CDiv i j ∧ Q (.tup [.int (i / j), .int (i % j)]) h) := (rfl)
@[simp] theorem bTuple_tup {ds : List D} : bTuple [.tup ds] h Q = Q (.tup ds) h := (rfl)
@[simp] theorem bTuple_lst {ds : List D} : bTuple [.lst ds] h Q = Q (.tup ds) h := (rfl)
@[simp] theorem bTuple_ref {ds : List D} (e : h[n]? = some (.lst ds)) : bTuple [.ref n] h Q = Q (.tup ds) h := by unfold bTuple; simp [e]
@[simp] theorem bSum_lst {ds : List D} : bSum [.lst ds] h Q = ∃ ns : List Int, ds = ns.map D.int ∧ Q (.int ns.sum) h := (rfl)
@[simp] theorem mAppend_ref {xs : List D} {y : D} (e : h[n]? = some (.lst xs)) : mAppend (.ref n) [y] h Q = (xs.length < sizeLine ∧ Q .non (h.set n (.lst (xs ++ [y])))) := by unfold mAppend; simp [e]
@[simp] theorem eMt_run {op : LM} {o : LE} {A : LX (List D)} : eMt op o A σ h Q E = o σ h (fun x h1 => (seqL x h1 fun _ => True) ∧ A σ h1 (fun ds h2 => op x ds h2 Q) E) E := (rfl)
@[simp] theorem atI_nat {α : Type} {xs : List α} (h0 : 0 ≤ i) (h1 : i < xs.length) : L2.atI xs i = xs[i.toNat]? := by
  unfold L2.atI L2.ixN
  rw [if_pos h0, if_pos h1]; rfl
@[simp] theorem atI_last {α : Type} {xs : List α} (h1 : 0 < xs.length) : L2.atI xs (-1) = xs[xs.length - 1]? := by
  unfold L2.atI L2.ixN
  rw [if_neg (by decide), if_pos (by omega)]
  show xs[(-1 + (xs.length : Int)).toNat]? = _
  congr 1
  omega
@[simp] theorem ixN_nat {n : Nat} (h0 : 0 ≤ i) (h1 : i < n) : L2.ixN n i = some i.toNat := by
  unfold L2.ixN
  rw [if_pos h0, if_pos h1]
@[simp] theorem set_get {o o' : O} (e : h[n]? = some o) : (h.set n o')[n]? = some o' := by
  rw [List.getElem?_set_self (by exact (List.getElem?_eq_some_iff.mp e).1)]
@[simp] theorem set_get_ne {m : Nat} {o' : O} (e : n ≠ m) : (h.set n o')[m]? = h[m]? := List.getElem?_set_ne e
@[simp] theorem cPow_nat (h0 : 0 ≤ j) (h1 : j ≤ 1000000) (h2 : i.natAbs < 18446744073709551616) : L2.CPow i j := ⟨h0, h1, h2⟩
@[simp] theorem cDiv_nat (h0 : 0 < j) (h1 : j < 1073741824) : L2.CDiv i j := ⟨h0, h1⟩
@[simp] theorem cMul_l (h0 : -(2 ^ 64) < i) (h1 : i < 2 ^ 64) : L2.CMul i j := .inl ⟨h0, h1⟩
@[simp] theorem cMul_r (h0 : -(2 ^ 64) < j) (h1 : j < 2 ^ 64) : L2.CMul i j := .inr ⟨h0, h1⟩
theorem mod_lt' {k : Int} (h : 0 < k) : i % k < k := Int.emod_lt_of_pos i h
theorem mod_nn {k : Int} (h : 0 < k) : 0 ≤ i % k := Int.emod_nonneg i (by omega)
end

section
variable {h l : LH} {n k : Nat} {o : O}
@[simp] theorem app_old (e : h[n]? = some o) : (h ++ l)[n]? = some o := by rw [List.getElem?_append_left (List.getElem?_eq_some_iff.mp e).1]; exact e
@[simp] theorem app_new : (h ++ l)[h.length + k]? = l[k]? := by rw [List.getElem?_append_right (by omega)]; congr 1; omega
@[simp] theorem app_new0 : (h ++ l)[h.length]? = l[0]? := by rw [List.getElem?_append_right (by omega)]; congr 1; omega
@[simp] theorem app_set : (h ++ l).set (h.length + k) o = h ++ l.set k o := by rw [List.set_append_right _ _ (by omega)]; congr 2; omega
@[simp] theorem app_set0 : (h ++ l).set h.length o = h ++ l.set 0 o := by rw [List.set_append_right _ _ (by omega)]; congr 2; omega
theorem app_setOld (e : n < h.length) : (h ++ l).set n o = h.set n o ++ l := List.set_append_left _ _ e
end
/-! names -/
theorem ofString_inj {a b : String} (h : Str.ofString a = Str.ofString b) : a = b := by
  rw [Str.ofString_eq_toList, Str.ofString_eq_toList] at h
  have h := congrArg (fun s : Str => s.cps.toList) h
  simp only [List.toList_toArray] at h
  have key : ∀ xs ys : List Char, xs.map Char.toNat = ys.map Char.toNat → xs = ys := by
    intro xs
    induction xs with
    | nil => intro ys e; cases ys with | nil => rfl | cons y ys => simp at e
    | cons x xs ih => intro ys e; cases ys with | nil => simp at e | cons y ys => simp only [List.map_cons, List.cons.injEq] at e; rw [ih ys e.2, Char.ext (UInt32.toNat_inj.mp e.1)]
  have : a.toList = b.toList := key _ _ h
  rw [← String.ofList_toList (s := a), this, String.ofList_toList]
@[simp] theorem ofString_eq {a b : String} : (Str.ofString a = Str.ofString b) = (a = b) := propext ⟨ofString_inj, fun h => by rw [h]⟩
@[simp] theorem lookup_if {β : Type} {a k : Str} {b : β} {es : List (Str × β)} : List.lookup a ((k, b) :: es) = if a = k then some b else List.lookup a es := by
  rw [List.lookup_cons]
  by_cases z : a = k
  · simp [z]
  · rw [if_neg z, show (a == k) = false from by simpa using z]
@[simp] theorem putD_if {f g : Str} {d e : D} {r : List (Str × D)} : putD f d ((g, e) :: r) = if g = f then (g, d) :: r else (g, e) :: putD f d r := (rfl)
@[simp] theorem putD_nil {f : Str} {d : D} : putD f d [] = [(f, d)] := (rfl)
section
variable {h : LH} {Q : D → LH → Prop} {σ : LV} {E : XL} {i j : Int} {n : Nat}
@[simp] theorem oEqD_int : oEqD (.int i) (.int j) h Q = Q (.bl (decide (i = j))) h := (rfl)
@[simp] theorem oNeD_int : oNeD (.int i) (.int j) h Q = Q (.bl (!decide (i = j))) h := (rfl)
@[simp] theorem oEqD_str {x y : Str} : oEqD (.str x) (.str y) h Q = Q (.bl (decide (x = y))) h := (rfl)
@[simp] theorem oNeD_str {x y : Str} : oNeD (.str x) (.str y) h Q = Q (.bl (!decide (x = y))) h := (rfl)
@[simp] theorem truD_bl {b : Bool} {R : Bool → Prop} : truD (.bl b) h R = R b := (rfl)
@[simp] theorem bListM_lst {ds : List D} : bListM [.lst ds] h Q = Q (.ref h.length) (h ++ [.lst ds]) := (rfl)
@[simp] theorem tyD_int : tyD (.int i) h = some (.bt "int") := (rfl)
@[simp] theorem tyD_str {x : Str} : tyD (.str x) h = some (.bt "str") := (rfl)
@[simp] theorem tyD_ob {C : Str} {ns : List Str} {ds : List D} : tyD (.ob C ns ds) h = some (.cl C) := (rfl)
@[simp] theorem bMin_run {d : D} : bMin [d] h Q = seqL d h fun xs => ∃ ns : List Int, xs = ns.map D.int ∧ 0 < ns.length ∧ ∀ m, m ∈ ns → (∀ y, y ∈ ns → m ≤ y) → Q (.int m) h := (rfl)
@[simp] theorem bMax_run {d : D} : bMax [d] h Q = seqL d h fun xs => ∃ ns : List Int, xs = ns.map D.int ∧ 0 < ns.length ∧ ∀ m, m ∈ ns → (∀ y, y ∈ ns → y ≤ m) → Q (.int m) h := (rfl)
@[simp] theorem bAll_run {d : D} : bAll [d] h Q = seqL d h fun xs => ∃ bs : List Bool, xs = bs.map D.bl ∧ Q (.bl (bs.all id)) h := (rfl)
@[simp] theorem bAny_run {d : D} : bAny [d] h Q = seqL d h fun xs => ∃ bs : List Bool, xs = bs.map D.bl ∧ Q (.bl (bs.any id)) h := (rfl)
@[simp] theorem oIn_run {neg : Bool} {x y : D} : oIn neg x y h Q = (flD x = true ∧ seqA y h fun ds => ds.all flD = true ∧ Q (.bl (if neg then !inD x ds else inD x ds)) h) := (rfl)
@[simp] theorem bReprD_run {d : D} : bReprD [d] h Q = ∃ p, dPyH h d = some p ∧ p.showable = true ∧ p.shown.length ≤ sizeLine ∧ p.depth ≤ 60 ∧ Q (.str p.shown) h := (rfl)
end
/-- a walk over two items -/
theorem forAt_two {g : LG} {b : LS} {σ : LV} {h : LH} {K : LK} {x y : D} {ok : LH → Prop} (hok : ∀ h, ok h)
    (q : g x σ h (fun σ2 h2 => b σ2 h2 { K with nx := fun σ3 h3 => g y σ3 h3 (fun σ4 h4 => b σ4 h4 { K with nx := K.nx, ct := K.nx, bk := K.nx }) (exOf K σ3), ct := fun σ3 h3 => g y σ3 h3 (fun σ4 h4 => b σ4 h4 { K with nx := K.nx, ct := K.nx, bk := K.nx }) (exOf K σ3), bk := K.nx }) (exOf K σ)) : forAt ⟨[x, y], ok⟩ g b σ h K := by
  refine ⟨fun i σ' h' => match i with | 0 => σ' = σ ∧ h' = h | 1 => g y σ' h' (fun σ4 h4 => b σ4 h4 { K with nx := K.nx, ct := K.nx, bk := K.nx }) (exOf K σ') | _ => K.nx σ' h', ⟨rfl, rfl⟩, fun _ _ _ _ _ => hok _, fun i z σ' h' e q' => ?_, fun σ' h' q' => q'⟩
  match i, e, q' with
  | 0, e, ⟨e1, e2⟩ => subst e1 e2; cases e; exact q
  | 1, e, q' => cases e; exact q'
/-- a comprehension that changes nothing -/
theorem comp_pure {J : LIt} {p : Pt} {t : LX Bool} {e : LE} {vs : List Nat} {σ : LV} {h : LH} {Q : List D → LH → Prop} (f : D → Option D) (hok : J.ok h) (hlen : J.items.length < sizeLine)
    (hst : ∀ x ∈ J.items, ∀ R : Option D → LH → Prop, R (f x) h → p.st x (lwipe σ vs) fun σ2 => t σ2 h (fun b h2 => if b = true then e σ2 h2 (fun y h3 => R (some y) h3) (fun _ _ _ => False) else R none h2) (fun _ _ _ => False))
    (q : Q (J.items.filterMap f) h) : compAt J p t e vs σ h Q := by
  refine ⟨fun i acc h' => acc = (J.items.take i).filterMap f ∧ h' = h, ⟨by simp, rfl⟩, fun i acc h' _ hI => by rw [hI.2]; exact hok, fun i x acc h' hx hI => ?_, fun acc h' hI => by rw [hI.1, hI.2, List.take_length]; exact q⟩
  obtain ⟨ea, eh⟩ := hI
  subst ea
  subst eh
  have hl := (List.getElem?_eq_some_iff.mp hx).1
  have tk : J.items.take (i + 1) = J.items.take i ++ [x] := by rw [List.take_succ, hx]; rfl
  have l1 : ((J.items.take i).filterMap f).length < sizeLine := by
    have a := List.length_filterMap_le f (J.items.take i)
    have b : (J.items.take i).length ≤ J.items.length := by rw [List.length_take]; omega
    omega
  refine hst x (List.mem_of_getElem? hx) (fun o h3 => match o with | some y => ((J.items.take i).filterMap f).length < sizeLine ∧ (J.items.take i).filterMap f ++ [y] = (J.items.take (i + 1)).filterMap f ∧ h3 = h' | none => (J.items.take i).filterMap f = (J.items.take (i + 1)).filterMap f ∧ h3 = h') ?_
  cases q : f x with
  | some y => exact ⟨l1, by rw [tk, List.filterMap_append, List.filterMap_cons, q]; rfl, rfl⟩
  | none => exact ⟨by rw [tk, List.filterMap_append, List.filterMap_cons, q]; simp, rfl⟩
end LL
end

section
set_option Elab.async false
set_option linter.all false
set_option maxRecDepth 100000
set_option maxHeartbeats 1000000
/-! LLExc: raise, try .. except, the field of a caught error, a lambda without parameters handed to a def. -/
namespace LL
open PySem PySem.Spec PyProof.Rows L2
variable {X : Cx} {W : WX}

/-! ### raise -/
section
variable {x : Str} {p pos pos' : Pos}
theorem pmk_own0 {C : Addr} {bmB : List Value} {B newId initId : String} (F : ExcBaseFacts B newId initId bmB) (q : PySem.W.excIn X.K C bmB newId = true) (gC : X.mg x = some (.ref C)) (kC : PySem.W.keepIn X.K (.ref C) = true) (r : Raises X (.ref C)) (hg : Gl X x)
    (hdb : (x == ("__debug__" : Str)) = false) : L2N.PMk X (.Call (.Name x p) [] [] pos) (fun _ H Q => Q (.ref C) none H) := by
  intro pins s σ H Q I h
  refine wpAny_Call_Name_kw (ld_glob I hg gC ?_ hdb)
  refine PySem.W.callWith_K0 I.kIn kC ?_
  show wpAny _ _ (call (.ref C) []) _ _ _
  obtain ⟨bm, N, nm, qn, bs, hdct, sn, sub, ab, col, dd, k0, k1, k2, k3, k5, mN, hC, hN, hni, T⟩ := exc_obj I.kIn q
  exact wpAny_call_exc_subT F T hC hN hni (fun h' e hm => L2N.mk_of I hm r h (I.hok.gone hm.new)) (Nat.zero_le _)
def sRaise0 (C : Str) : LS := fun σ h K => K.ex C [] σ h
theorem js_raise0 {bmB : List Value} {B newId initId : String} (F : ExcBaseFacts B newId initId bmB) (q : PySem.W.excIn X.K (He.ga X.K x) bmB newId = true) (gC : X.mg x = some (.ref (He.ga X.K x))) (kC : PySem.W.keepIn X.K (.ref (He.ga X.K x)) = true) (r : Raises X (.ref (He.ga X.K x))) (tk : L2N.Takes X W)
    (hc : X.calm = true := by rfl) (hg : Gl X x := by rfl) (hdb : (x == ("__debug__" : Str)) = false := by decide) : JS X W (.Raise (some (.Call (.Name x p) [] [] pos)) none pos') (sRaise0 x) :=
  ⟨fun σ h A B l q => l.ex _ _ _ _ q, PS.weak (L2N.ps_raise hc tk (pmk_own0 F q gC kC r hg hdb)) fun Dn σV H ⟨ι0, H0, ι, σ, h, e, hS, hH, q⟩ => q ι none σV H e hS hH rfl⟩
/-- an error class whose own __init__ sets the one field f -/
def spOex (K : Frag) (f : Str) : Sp := fun vs H Q _ => ∃ a C v, vs = [.ref a, v] ∧ OexC K C ∧ PySem.W.findIn K (.ref C) f = some none ∧ H a = some (exo a C none) ∧ ∀ dx, H dx = none → dx ≠ a → Q .non (upd (upd H dx (exd dx [(f, v)])) a (exo a C (some dx)))
theorem oex_keeps {P : Program} {w : World} {K : Frag} {mg : Str → Option Value} {base : Heap} {qual : Str} {params : Arguments} {body : List Stmt} {scope : Scope} {f : Str} {fI : Addr} {fd : FuncData} {N : List Str} {p : Str}
    (F : FunD K "__init__" qual params body scope [] [] fI fd) (S : FnScope N ["self", p] scope) (hN : N = (["self", p] : List Str))
    (hbody : ∀ (cdv : Value) (A : Around) (outer : List Env) (s : Shared) (H : Hp) (E : XK), PSs (cxOf (L2N.CX P w) P w K mg base N qual scope fI cdv A outer s H E) body (tOst K f (tVar 0) (tVar 1))) : FnOk P w K mg base (L2N.CX P w) 1 fI fd ["self", p] (spOex K f) := by
  obtain ⟨oc, od, dV, kV, doc, pm, an, cdv, ct, osl, rfl, lk, hcd, _, _⟩ := F.ex
  refine fn_of lk hcd S (fun vs H Q E ⟨a, C, v, e, _⟩ => by rw [e]; rfl) fun A outer s H vs Q E _ hsp => ⟨_, hbody cdv A outer s H E, ?_⟩
  obtain ⟨a, C, v, rfl, T, hno, ha, q⟩ := hsp
  subst hN
  exact ⟨v, rfl, .ref a, rfl, a, C, rfl, T, hno, .inl ⟨ha, fun dx n ne => q dx n ne⟩⟩
def sRaise1 (C f : Str) (m : LE) : LS := fun σ h K => m σ h (fun d h1 => K.ex C [(f, d)] σ h1) (exOf K σ)
theorem upd_eq_del {H : Hp} {a dx : Addr} {o o' u z : HO} (ha : H a = none) (ne : dx ≠ a) : upd (del (upd (upd (upd H a o) dx o') a u) a) dx z = upd H dx z := by
  funext b
  by_cases hb : b = dx
  · rw [hb, upd_same, upd_same]
  · rw [upd_ne hb, upd_ne hb]
    by_cases hc : b = a
    · rw [hc, del_same, ha]
    · rw [del_ne hc, upd_ne hc, upd_ne hb, upd_ne hc]
/-- C(e), C an own class whose own __init__ keeps sp -/
theorem pmkG {bmB : List Value} {B newId initId : String} (FB : ExcBaseFacts B newId initId bmB) {x : Str} {e : Expr} {ta : TA} {p pos : Pos} {C fI : Addr} {k : Nat} {fd : FuncData} {ps : List Str} {sp : Sp} {nm q : Str} {N : Addr} {bs bm : List Value} {sn : List Str} {sub : List Value} {ab : Bool} {col : Option Bool} {dd : Option Addr} {k0 k1 k2 k3 k5 : Option Value}
    (hC : X.K.lookup C = some (excClassObj nm q C N bs bm true sn sub ab col dd k0 k1 k2 k3 k5 newId)) (hT : ∀ Y : String, bm.contains (.type Y) = bmB.contains (.type Y)) (kC : PySem.W.keepIn X.K (.ref C) = true) (rs : Raises X (.ref C)) (iC : PySem.W.findIn X.K (.ref C) "__init__" = some (some (.ref fI))) (tI : PySem.W.typeIn X.K (.ref fI) = some (.type "function"))
    (F1 : FnOk X.prog X.w X.K X.mg X.base (L2N.CX X.prog X.w) k fI fd ps sp) (hr : Room (k + 1) X.A) (hb : Binds X.K fd ps []) (hx : Passes (L2N.CX X.prog X.w) X (fun _ _ _ => False)) (hg : Gl X x) (hm : X.mg x = some (.ref C)) (ha : PA X [e] ta)
    (hdb : (x == ("__debug__" : Str)) = false) (he : starEach [e] X.env = (false, eval e X.env) :: starEach [] X.env) : L2N.PMk X (.Call (.Name x p) [e] [] pos) (tMkO C sp [] ta) := by
  intro pins s σ H Q I h
  refine wpAny_Call_Name_kw (ld_glob I hg hm ?_ hdb)
  refine PySem.W.callWith_K (h₀ := X.base) I.ok.mod.kin kC (thn (ha.run pos pins s σ H _ I h) fun us s1 ⟨vs, H1, I1, r1, hz, q1⟩ => ⟨I1.kIn, ?_⟩) he rfl
  show wpAny _ _ (call (.ref C) us) _ _ _
  obtain ⟨hp, g, dr, tk, os⟩ := s1
  have hsz : hp.objs.size ≤ hp.objs.size + 1 := Nat.le_succ _
  have hn : H1 (hp.objs.size + 1) = none := I1.hok.fresh hsz
  have hq := q1 (hp.objs.size + 1) hn
  have kk : ∀ b o, hp.get? b = some o → ((hp.push (PySem.W.kdv_tup us)).push (PySem.HandSPX.excO C hp.objs.size)).get? b = some o := fun b o e => Heap.get?_push_of_some _ (Heap.get?_push_of_some _ e)
  have hget : ((hp.push (PySem.W.kdv_tup us)).push (PySem.HandSPX.excO C hp.objs.size)).get? (hp.objs.size + 1) = some (PySem.HandSPX.excO C hp.objs.size) := by heap_get
  have I2 : Inv X pins σ (upd H1 (hp.objs.size + 1) (exo (hp.objs.size + 1) C none)) ⟨(hp.push (PySem.W.kdv_tup us)).push (PySem.HandSPX.excO C hp.objs.size), g, dr, tk, os⟩ :=
    I1.laid (t' := tk) (a := hp.objs.size + 1) (o := exo (hp.objs.size + 1) C none) (h' := (hp.push (PySem.W.kdv_tup us)).push (PySem.HandSPX.excO C hp.objs.size)) kk hsz (exo_ok hget)
  rw [List.append_nil] at hq
  have r2 : Vals (V.ref (hp.objs.size + 1) :: vs) (Value.ref (hp.objs.size + 1) :: us) := .cons rfl r1
  have hl : (Value.ref (hp.objs.size + 1) :: us ++ []).length = ps.length := by
    rw [List.append_nil]
    have e := r2.length
    rw [F1.len _ _ _ _ hq] at e
    exact e.symm
  have hus : us.length ≤ sizeLine := by
    rw [← Paired.length r1, sizeLine_eq]
    omega
  have hbt := hb ⟨(hp.push (PySem.W.kdv_tup us)).push (PySem.HandSPX.excO C hp.objs.size), g, dr, tk, os⟩ (Value.ref (hp.objs.size + 1) :: us) I2.kIn hl
  rw [List.append_nil] at hbt
  refine wpAny_call (PySem.HandSPX.call_own FB hT (I1.kIn _ _ hC) (PySem.W.looks_findIn I1.kIn iC) (fun self => PySem.W.bind_fn I1.kIn self tI) hus
    (codeAny_mono (F1.run _ X.stack _ _ ⟨Value.ref (hp.objs.size + 1) :: us, []⟩ (Value.ref (hp.objs.size + 1) :: us) _ _ (fun _ _ _ => False) (hr.make C us []) (I2.env0.make C us []) hbt r2 hq) fun r s' hq' => ?_))
  cases r with
  | error er => exact hx pins σ _ _ er s' I2 hq'
  | ok fl =>
    cases fl with
    | ret u =>
      obtain ⟨v, H2, os2, bare2, un2, hok2, rv, ev, d, fs, ea, ed, hd1, q2⟩ := hq'
      subst ev
      obtain ⟨h2, g2, d2, t2, os'⟩ := s'
      obtain ⟨t0, G, J, kG, ge, hoe, na⟩ := mk_end0 (d2 := d2) (t2 := t2) I1 hsz kk un2 hok2 os2 bare2 ea ed hd1
      exact ⟨rv, _, _, _, ⟨G, g2, d2, t2, os'⟩, _, .ref C, some d, rfl, J, kG, ge, hoe, ⟨rfl, rfl, fun vs e => by cases e; rfl⟩, rfl, rfl, na, rfl, bare2, rs, q2⟩
    | next => exact False.elim hq'
    | brk => exact False.elim hq'
    | cont => exact False.elim hq'
/-- what the written part says of an error class whose own __init__ sets the field f -/
structure OexF (K : Frag) (x f : Str) : Prop where
  T : OexC K (He.ga K x)
  hno : PySem.W.findIn K (.ref (He.ga K x)) f = some none
  iC : PySem.W.findIn K (.ref (He.ga K x)) "__init__" = some (some (.ref (He.ma K (He.ga K x) "__init__")))
  tI : PySem.W.typeIn K (.ref (He.ma K (He.ga K x) "__init__")) = some (.type "function")
/-- its __init__ keeps its promise -/
structure OexK (P : Program) (w : World) (K : Frag) (mg : Str → Option Value) (base : Heap) (fI : Addr) (f : Str) : Prop where
  ex : ∃ (fd : FuncData) (ps : List Str), FnOk P w K mg base (L2N.CX P w) 1 fI fd ps (spOex K f) ∧ Binds K fd ps []
theorem js_raise1 {f : Str} {e : Expr} {m : LE} (he : JE X W e m) (O : OexF X.K x f) (hk : OexK X.prog X.w X.K X.mg X.base (He.ma X.K (He.ga X.K x) "__init__") f) (hr : RoomG 2 X.A)
    (gC : X.mg x = some (.ref (He.ga X.K x))) (tk : L2N.Takes X W) (hc : X.calm = true := by rfl) (hg : Gl X x := by rfl) (hdb : (x == ("__debug__" : Str)) = false := by decide) (hs : starEach [e] X.env = (false, eval e X.env) :: starEach [] X.env := by rfl)
    (hpa : ∀ {t : TE}, PE X e t → PA X [e] (tCons t tNil) := by exact fun a => pa_cons a pa_nil) :
    JS X W (.Raise (some (.Call (.Name x p) [e] [] pos)) none pos') (sRaise1 x f m) := by
  have ha : PA X [e] (tCons (tE X.K W m) tNil) := hpa he.run
  obtain ⟨T, hno, iC, tI⟩ := O
  obtain ⟨fd, ps, F1, hb⟩ := hk.ex
  obtain ⟨nm, q, N, bs, bm, sn, sub, ab, col, dd, k0, k1, k2, k3, k5, hC, hbm⟩ := T.cls
  refine ⟨fun σ h A B l q => he.mono σ h _ _ _ _ (fun d h1 q1 => l.ex _ _ _ _ q1) (exOf.le l σ) q, PS.weak (L2N.ps_raise hc tk (pmkG F.excBase_ValueError hC (fun Y => PySem.HandSPX.refsVE_contains Y _ hbm) T.kC (raises_own T.exC T.tyC) iC tI F1 hr.r hb (fun _ _ _ _ _ _ _ z => False.elim (let ⟨_, _, _, _, _, _, _, _, _, _, _, _, y⟩ := z; y)) hg gC ha hdb hs)) fun Dn σV H ⟨ι0, H0, ι, σ, h, e, hS, hH, q⟩ => ?_⟩
  refine tE.stm he.mono e hS hH q fun d h1 ι1 v H1 q1 e2 e1 hS1 hH1 rd => ?_
  refine ⟨by simp, fun a na => ⟨a, He.ga X.K x, v, rfl, T, hno, upd_same, fun dx nd ne => ⟨rfl, dx, [(f, v)], upd_same, ?_, ?_, ?_⟩⟩⟩
  · rw [upd_ne ne, upd_same]
  · rw [upd_ne ne] at nd; exact nd
  · rw [upd_ne ne] at nd
    rw [upd_eq_del na ne]
    have ex : Ext ι1 H1 ι1 (upd H1 dx (.xd [(f, v)])) := Ext.new nd
    exact q1 ι1 (some dx) σV _ (e1.trans ex) (hS1.ext ex) (hH1.new nd) ⟨_, upd_same, ⟨v, [], rfl, rd.ext ex, rfl⟩, hH1.notNew nd⟩
end

/-! ### try: clauses with and without a name -/
/-- a clause: the class, the slot of its name, what the suite reads -/
structure Hd where
  c : Value
  i : Option Nat
  ts : Addr → Value → Option Addr → TS
def unset (D : Ends) (i : Nat) : Ends := { nx := fun σ' H' => D.nx (σ'.set i none) H', rt := D.rt, bk := fun σ' H' => D.bk (σ'.set i none) H', ct := fun σ' H' => D.ct (σ'.set i none) H' }
def suiteOf (q : Hd) (a : Addr) (cls : Value) (d : Option Addr) (D : Ends) (σ : L2.St) (H : Hp) : Prop := match q.i with
  | none => q.ts a cls d D σ H
  | some i => q.ts a cls d (unset D i) (σ.set i (some (.ref a))) H
/-- what the clauses wish of an exception of the body, one after the other -/
def wMix (K : Frag) (Wout : WX) (D : Ends) : List Hd → WX
  | [] => Wout
  | q :: r => fun cls d σ H => ∃ b, PySem.W.exmOne K cls q.c = some b ∧ (b = true → ∀ a, H a = none → suiteOf q a cls d D σ H) ∧ (b = false → wMix K Wout D r cls d σ H)
def NmOk (X : Cx) : Option Str → Option Nat → Prop
  | none, none => True
  | some n, some i => X.N[i]? = some n ∧ X.env.kindOf n = some .local
  | _, _ => False
inductive HdsX (X : Cx) : List ExceptHandler → List Hd → Prop
  | nil : HdsX X [] []
  | cons {x : Str} {c : Value} {n : Option Str} {i : Option Nat} {ts : Addr → Value → Option Addr → TS} {b₀ : Stmt} {suite : List Stmt} {np pos' : Pos} {hds : List ExceptHandler} {l : List Hd} (hc : Names X x c) (hn : NmOk X n i)
      (hsu : ∀ (a : Addr) (oe : Obj) (cls : Value) (d : Option Addr) (pn : List (Addr × Obj)), L2N.Zn cls d oe → (∃ vs, oe.data = .fields vs) → PSs (X.suite a ((a, oe) :: pn)) (b₀ :: suite) (ts a cls d)) (r : HdsX X hds l) :
      HdsX X (.ExceptHandler (some (.Name x np)) n (b₀ :: suite) pos' :: hds) (⟨c, i, ts⟩ :: l)
section
variable {body : List Stmt} {h₀ : ExceptHandler} {hds : List ExceptHandler} {l : List Hd} {pos : Pos} {tb : WX → TS} {Wout : WX}
theorem ps_try_mix (hs : X.stack = X.env :: X.outer) (hf : X.env.frame = some X.env.locals) (hN : X.N.Nodup) (tk : L2N.Takes X Wout)
    (hb : ∀ (W : WX) (pn : List (Addr × Obj)) (xe : Value → Shared → Prop), L2N.Takes (X.tr pn xe) W → PassesOwn (model X.prog X.w) X.A X.env xe → PSs (X.tr pn xe) body (tb W))
    (hh : HdsX X (h₀ :: hds) l) : PS X (.Try body (h₀ :: hds) [] [] pos) (fun D σ H => tb (wMix X.K Wout D l) D σ H) := by
  refine ⟨fun pins s σ H D I h => ?_⟩
  have ok := I.ok
  have hfr : X.A.frames = some (X.env :: X.outer) := by rw [ok.frames, hs]
  -- what is caught is looked at here
  have go : ∀ {hds' : List ExceptHandler} {l' : List Hd}, HdsX X hds' l' → ∀ {a : Addr} {B h3 : Heap} {sI s' : Shared} {σ' : L2.St} {H' : Hp} {cls : Value} {d : Option Addr}, HandSPX.FlyingZ B (X.env :: X.outer) a (L2N.Zn cls d) h3 → Inv X pins σ' H' sI →
      (∀ b o, sI.heap.get? b = some o → b ∉ frs X.stack → B.get? b = some o) → sI.heap.UpToSlots h3 → H' a = none → s'.os = sI.os → AllBare s'.gens → a ∉ frs (X.env :: X.outer) → wMix X.K Wout D l' cls d σ' H' →
      wpAny (model X.prog X.w) X.A (handleBy (.ref a) X.env hds') (SP X pins D) X.xe { s' with heap := h3 } := by
    intro hds' l' hk
    induction hk with
    | nil =>
      intro a B h3 sI s' σ' H' cls d fl J nb up na os ag nfr w
      refine wpAny_handleBy_nil ?_
      obtain ⟨_, _, _, oe, vs, T, oT, ts', he, hz, hd, h1, hr⟩ := id fl
      unfold PySem.passOn
      refine wpAny_bind (wpAny_field he hd h1 ?_)
      rw [if_neg (show ¬ ((Value.ref T == Value.none) = true) from by simp)]
      have fin : wpAny (model X.prog X.w) X.A (setFlight (.ref a) X.env.frame) (fun _ s4 => wpAny (model X.prog X.w) X.A (throw (.ref a) : Sem Flow) (SP X pins D) X.xe s4) X.xe { s' with heap := h3 } := by
        rw [hf]
        exact HandSPX.setFlight_upZ fl fun h4 hh4 up4 => wpAny_throw (tk _ _ ⟨a, B, sI, pins, σ', H', cls, d, rfl, J, nb, up.trans up4, .inr (.inr (by rw [hs]; exact hh4)), na, os, ag, w⟩)
      first
        | exact wpAny_bind (wpAny_pure (wpAny_bind fin))
        | exact wpAny_bind fin
    | @cons x c n i ts b₀ suite np pos' hds2 l2 hc hn hsu r ih =>
      intro a B h3 sI s' σ' H' cls d fl J nb up na os ag nfr w
      obtain ⟨b, hb1, hyes, hno⟩ := w
      obtain ⟨oe, vs, he, hz, hd⟩ := fl.there
      have nL : a ≠ X.env.locals := fun z => nfr (List.mem_filterMap.mpr ⟨X.env, List.mem_cons_self, by rw [hf, z]⟩)
      have nF : a ∉ X.fs := fun hm => by
        obtain ⟨e, he, q⟩ := List.mem_filterMap.mp hm
        exact nfr (List.mem_filterMap.mpr ⟨e, List.mem_cons_of_mem _ he, q⟩)
      have J3 : Inv X pins σ' H' { s' with heap := h3 } := J.landed nb fl.1 up os ag
      have S3 := J3.suite he hd na nL nF
      have LT : PySem.W.Looks (model X.prog X.w) h3 (typeOf (.ref a)) cls := fun A Q E s k q => wpAny_typeOf_ref (k _ _ he) (by rw [hz.1]; exact q)
      have LM := PySem.W.exm_one (M := model X.prog X.w) (J3.kIn) LT hb1
      have test : ∀ {Q : Value → Shared → Prop} {E : Value → Shared → Prop}, Q c { s' with heap := h3 } → wpAny (model X.prog X.w) (X.A.mark (some (.ref a))) (eval (.Name x np) X.env) Q E { s' with heap := h3 } := fun {Q E} q => by
        obtain ⟨hg, hdbg, hm | ⟨hm, hv, hnn⟩⟩ := hc
        · exact ld_glob (X := X.suite a ((a, oe) :: (X.pn ++ pins))) S3 hg hm q hdbg
        · exact ld_blt (X := X.suite a ((a, oe) :: (X.pn ++ pins))) S3 hg hm hv q hnn hdbg
      refine wpAny_handleBy_cons (codeAny_handlers_test ?_) (by intro q; cases q)
      refine test (LM.here ?_)
      cases b with
      | false =>
        show wpAny _ X.A (handleBy (.ref a) X.env hds2) _ _ _
        exact ih fl J nb up na os ag nfr (hno rfl)
      | true =>
        have w := hyes rfl a na
        have into : ∀ {h4 : Heap}, HandSPX.FlyingZ B (X.env :: X.outer) a (L2N.Zn cls d) h4 → h3.UpToSlots h4 → ∃ oe4, L2N.Zn cls d oe4 ∧ (∃ vs, oe4.data = .fields vs) ∧ Inv (X.suite a ((a, oe4) :: (X.pn ++ pins))) [] σ' H' { s' with heap := h4 } := fun {h4} fl4 up4 => by
          have J4 : Inv X pins σ' H' { s' with heap := h4 } := J.landed nb fl4.1 (up.trans up4) os ag
          obtain ⟨oe4, vs4, he4, hz4, hd4⟩ := fl4.there
          exact ⟨oe4, hz4, ⟨_, hd4⟩, J4.suite he4 hd4 na nL nF⟩
        cases n with
        | none =>
          cases i with
          | some i => exact hn.elim
          | none =>
            refine codeAny_handlers_suite ?_
            refine HandSPX.lands_againZ fl fun h4 fl4 up4 => ?_
            obtain ⟨oe4, hz4, hd4, S4⟩ := into fl4 up4
            refine wpAny_mono ((hsu a oe4 cls d (X.pn ++ pins) hz4 hd4).run [] _ _ H' _ S4 w) (fun f s6 hsp => ?_) (fun _ _ z => False.elim z)
            cases f with
            | next => obtain ⟨σ6, H6, S6, q6⟩ := hsp; exact ⟨_, _, S6.unsuite ok, q6⟩
            | brk => obtain ⟨σ6, H6, S6, q6⟩ := hsp; exact ⟨_, _, S6.unsuite ok, q6⟩
            | cont => obtain ⟨σ6, H6, S6, q6⟩ := hsp; exact ⟨_, _, S6.unsuite ok, q6⟩
            | ret u => obtain ⟨v6, σ6, H6, S6, r6, q6⟩ := hsp; exact ⟨_, _, _, S6.unsuite ok, r6, q6⟩
        | some n =>
          cases i with
          | none => exact hn.elim
          | some i =>
            obtain ⟨hi, hln⟩ := hn
            refine codeAny_handlers_suite_as ?_
            refine HandSPX.lands_againZ fl fun h4 fl4 up4 => ?_
            obtain ⟨oe4, hz4, hd4, S4⟩ := into fl4 up4
            refine store_ok (X := X.suite a ((a, oe4) :: (X.pn ++ pins))) (v := .ref a) S4 hN hi (.inl hln) rfl (fun s5 S5 => ?_) (.inr hln)
            refine wpAny_mono ((hsu a oe4 cls d (X.pn ++ pins) hz4 hd4).run [] s5 _ H' _ S5 w) (fun f s6 hsp => ?_) (fun _ _ z => False.elim z)
            have end_ : ∀ {σ6 : L2.St} {H6 : Hp} {Q : Shared → Prop}, Inv (X.suite a ((a, oe4) :: (X.pn ++ pins))) [] σ6 H6 s6 → (∀ s7, Inv X pins (σ6.set i none) H6 s7 → Q s7) →
                wpAny (model X.prog X.w) X.A (do bindName X.env n .none; unbindBehindTheSuite X.env n pos') (fun _ s7 => Q s7) X.xe s6 := fun {σ6 H6 Q} S6 hq => gone_ok (S6.unsuite ok) hN hi hln hq
            cases f with
            | next => obtain ⟨σ6, H6, S6, q6⟩ := hsp; exact end_ S6 fun s7 J7 => ⟨_, _, J7, q6⟩
            | brk => obtain ⟨σ6, H6, S6, q6⟩ := hsp; exact end_ S6 fun s7 J7 => ⟨_, _, J7, q6⟩
            | cont => obtain ⟨σ6, H6, S6, q6⟩ := hsp; exact end_ S6 fun s7 J7 => ⟨_, _, J7, q6⟩
            | ret u => obtain ⟨v6, σ6, H6, S6, r6, q6⟩ := hsp; exact end_ S6 fun s7 J7 => ⟨_, _, _, J7, r6, q6⟩
  refine wpAny_Try_except ?_
  refine wpAny_mono ((hb (wMix X.K Wout D l) (X.pn ++ pins) (fun e s₁ => wpAny (model X.prog X.w) X.A (noteFrame e X.env) (fun _ s₂ => wpAny (model X.prog X.w) X.A (setFlight e none) (fun _ s₃ =>
    wpAny (model X.prog X.w) X.A (handleBy e X.env (h₀ :: hds)) (SP X pins D) X.xe s₃) X.xe s₂) X.xe s₁) (fun u s' xx => ?_) PassesOwn.looking).run [] s σ H D (I.toTry _) h) (fun f s1 hsp => ?_) (fun e s1 he => he)
  · obtain ⟨a, B, sI, pins', σ', H', cls, d, rfl, J', nb, up, sky, na, os, ag, w⟩ := xx
    have J : Inv X pins σ' H' sI := J'.ofTry ok
    have sky' : Sky B (X.env :: X.outer) a (L2N.Zn cls d) X.env.locals s'.heap := by rw [← hs]; exact sky
    show wpAny (model X.prog X.w) X.A (noteFrame (.ref a) X.env) _ _ _
    refine L2N.Sky.land L2N.Zn.steady hfr hf sky' fun h3 fl3 up3 => ?_
    obtain ⟨oe3, vs3, he3, hz3, hd3⟩ := fl3.there
    exact go hh fl3 J nb (up.trans up3) na os ag (fun hm => by
      obtain ⟨_, o', e', hnf⟩ := fl3.2.2.1.mem hm
      rw [he3] at e'; cases e'
      exact hnf _ hd3) w
  · cases f with
    | next => obtain ⟨σ', H', J', q⟩ := hsp; exact wpAny_execs_nil ⟨σ', H', J'.ofTry ok, q⟩
    | brk => obtain ⟨σ', H', J', q⟩ := hsp; exact ⟨σ', H', J'.ofTry ok, q⟩
    | cont => obtain ⟨σ', H', J', q⟩ := hsp; exact ⟨σ', H', J'.ofTry ok, q⟩
    | ret u => obtain ⟨v, σ', H', J', r, q⟩ := hsp; exact ⟨v, σ', H', J'.ofTry ok, r, q⟩
end

/-! ### try, in logical words -/
/-- a clause: which raised classes it takes, the slot of its name, the suite (of the caught error's address, class, dict) -/
structure LHd where
  l : List (Str × Bool)
  i : Option Nat
  s : Addr → Str → Option Addr → LS
def unsetK (K : LK) (i : Nat) : LK := { nx := fun σ h => K.nx (σ.set i none) h, rt := K.rt, bk := fun σ h => K.bk (σ.set i none) h, ct := fun σ h => K.ct (σ.set i none) h }
def suiteL (q : LHd) (a : Addr) (c : Str) (d : Option Addr) (fs : List (Str × D)) (σ : LV) (h : LH) (K : LK) : Prop := match q.i with
  | none => q.s a c d σ h { nx := K.nx, rt := K.rt, bk := K.bk, ct := K.ct }
  | some i => q.s a c d (σ.set i (some (.exc a c d (fs.map (·.1)) (fs.map (·.2))))) h (unsetK K i)
def hdsL : List LHd → Str → List (Str × D) → LV → LH → LK → Prop
  | [], c, fs, σ, h, K => K.ex c fs σ h
  | q :: r, c, fs, σ, h, K => ∃ b, q.l.lookup c = some b ∧ (b = true → ∀ (a : Addr) (d : Option Addr), (d = none → fs = []) → suiteL q a c d fs σ h K) ∧ (b = false → hdsL r c fs σ h K)
def sTry (body : LS) (hds : List LHd) : LS := fun σ h K => body σ h { K with ex := fun c fs σ' h' => hdsL hds c fs σ' h' K }
/-- nothing may be raised in a suite -/
abbrev NoX : WX := fun _ _ _ _ => False
/-- which raised classes C takes -/
def exmB (K : Frag) (C : Str) (p : Str × Bool) : Bool := decide (PySem.W.exmOne K (.ref (He.ga K p.1)) (.ref (He.ga K C)) = some p.2)
inductive LHds (X : Cx) : List ExceptHandler → List LHd → List Hd → Prop
  | nil : LHds X [] [] []
  | cons {x : Str} {n : Option Str} {q : LHd} {b₀ : Stmt} {suite : List Stmt} {np pos' : Pos} {hds : List ExceptHandler} {l : List LHd} {l' : List Hd} (hc : Names X x (.ref (He.ga X.K x))) (hl : q.l.all (exmB X.K x) = true) (hn : NmOk X n q.i)
      (hsu : ∀ (a : Addr) (oe : Obj) (c : Str) (d : Option Addr) (pn : List (Addr × Obj)), L2N.Zn (.ref (He.ga X.K c)) d oe → (∃ vs, oe.data = .fields vs) → JSs (X.suite a ((a, oe) :: pn)) NoX (b₀ :: suite) (q.s a c d)) (r : LHds X hds l l') :
      LHds X (.ExceptHandler (some (.Name x np)) n (b₀ :: suite) pos' :: hds) (q :: l) (⟨.ref (He.ga X.K x), q.i, fun a cls d Dn σV H => ∃ c, cls = .ref (He.ga X.K c) ∧ tS X.K NoX (q.s a c d) Dn σV H⟩ :: l')
theorem lookup_exm {K : Frag} {C c : Str} {b : Bool} {l : List (Str × Bool)} (e : l.lookup c = some b) (h : l.all (exmB K C) = true) : PySem.W.exmOne K (.ref (He.ga K c)) (.ref (He.ga K C)) = some b := by
  induction l with
  | nil => cases e
  | cons q l ih =>
    obtain ⟨c', b'⟩ := q
    rw [List.all_cons, Bool.and_eq_true] at h
    rw [List.lookup_cons] at e
    cases z : (c == c') with
    | true => rw [z] at e; cases e; rw [beq_iff_eq.mp z]; exact of_decide_eq_true h.1
    | false => rw [z] at e; exact ih e h.2
theorem PSs.pre {X : Cx} {st : List Stmt} {ι : Type} {t : ι → TS} {p : ι → Prop} (h : ∀ c, p c → PSs X st (t c)) : PSs X st (fun Dn σ H => ∃ c, p c ∧ t c Dn σ H) := ⟨fun pins s σ H Dn I ⟨c, e, q⟩ => (h c e).run pins s σ H Dn I q⟩
theorem LHds.hd {hds : List ExceptHandler} {l : List LHd} {l' : List Hd} (h : LHds X hds l l') : HdsX X hds l' := by
  induction h with
  | nil => exact .nil
  | @cons x n q b₀ suite np pos' hds l l' hc hl hn hsu r ih =>
    refine .cons hc hn (fun a oe cls d pn hz hd => ⟨fun pins s σ H Dn I w => ?_⟩) ih
    obtain ⟨c, rfl, w⟩ := w
    exact (hsu a oe c d pn hz hd).run.run pins s σ H Dn I w
theorem RelS.unset {K : Frag} {ι : Ad} {H : Hp} {σ : LV} {σV : L2.St} (hS : RelS K ι H σ σV) (i : Nat) : RelS K ι H (σ.set i none) (σV.set i none) := by
  refine ⟨by simpa using hS.1, fun j d' q => ?_⟩
  by_cases z : i = j
  · subst z
    have l := (List.getElem?_eq_some_iff.mp q).1
    rw [List.length_set] at l
    rw [List.getElem?_set_self l] at q
    cases q
  · rw [List.getElem?_set_ne z] at q
    obtain ⟨v', e, r'⟩ := hS.2 j d' q
    exact ⟨v', by rw [List.getElem?_set_ne z]; exact e, r'⟩
theorem hds_run {hds : List ExceptHandler} {l : List LHd} {l' : List Hd} (hh : LHds X hds l l') {ι0 ι : Ad} {H0 H : Hp} {Dn : Ends} {c : Str} {fs : List (Str × D)} {σ : LV} {h : LH} {σV : L2.St} {dx : Option Addr} (e : Ext ι0 H0 ι H) (hS : RelS X.K ι H σ σV) (hH : RelH X.K ι H h) (rx : RelX X.K ι H fs dx)
    (q : hdsL l c fs σ h (up X.K W ι0 H0 Dn)) : wMix X.K W Dn l' (.ref (He.ga X.K c)) dx σV H := by
  induction hh with
  | nil => exact q ι dx σV H e hS hH rx
  | @cons x n q' b₀ suite np pos' hds l l' hc hl hn hsu r ih =>
    obtain ⟨b, h1, h2, h3⟩ := q
    refine ⟨b, lookup_exm h1 hl, fun hb a na => ?_, fun hb => ih (h3 hb)⟩
    have q2 := h2 hb a dx (fun z => by subst z; exact rx)
    obtain ⟨ll, i, sq⟩ := q'
    have zz : L2N.Zn (.ref (He.ga X.K c)) dx ⟨.ref (He.ga X.K c), dx, .fields #[.none, .none, .none], #[]⟩ := ⟨rfl, rfl, fun vs e => by cases e; rfl⟩
    have mono := (hsu a _ c dx [] zz ⟨_, rfl⟩).mono
    cases i with
    | none =>
      refine ⟨c, rfl, ι0, H0, ι, σ, h, e, hS, hH, mono _ _ _ _ ?_ q2⟩
      exact ⟨fun _ _ z => z, fun _ _ z => z, fun _ _ z => z, fun _ _ z => z, fun _ _ _ _ z => z.elim⟩
    | some i =>
      refine ⟨c, rfl, ι0, H0, ι, _, h, e, hS.set i (v := .ref a) ?_, hH, mono _ _ _ _ ?_ q2⟩
      · refine ⟨rfl, ?_⟩
        cases dx with
        | none => obtain rfl : fs = [] := rx; rfl
        | some x' =>
          obtain ⟨vs, r1, r2, r3⟩ := rx
          obtain ⟨us, e1, r4⟩ := r2.snd
          subst e1
          exact ⟨us, r1, r3, by simp, r4⟩
      · exact ⟨fun _ _ z ι' σV' H' a1 a2 a3 => z ι' _ H' a1 (a2.unset i) a3, fun _ _ z => z, fun _ _ z ι' σV' H' a1 a2 a3 => z ι' _ H' a1 (a2.unset i) a3, fun _ _ z ι' σV' H' a1 a2 a3 => z ι' _ H' a1 (a2.unset i) a3, fun _ _ _ _ z => z.elim⟩
theorem hdsL_mono {hds : List ExceptHandler} {l : List LHd} {l' : List Hd} (hh : LHds X hds l l') {c : Str} {fs : List (Str × D)} {σ : LV} {h : LH} {A B : LK} (le : A.le B) (q : hdsL l c fs σ h A) : hdsL l c fs σ h B := by
  induction hh with
  | nil => exact le.ex _ _ _ _ q
  | @cons x n q' b₀ suite np pos' hds l l' hc hl hn hsu r ih =>
    obtain ⟨b, h1, h2, h3⟩ := q
    refine ⟨b, h1, fun hb a d hd => ?_, fun hb => ih (h3 hb)⟩
    have q2 := h2 hb a d hd
    obtain ⟨ll, i, sq⟩ := q'
    have zz : L2N.Zn (.ref (He.ga X.K c)) d ⟨.ref (He.ga X.K c), d, .fields #[.none, .none, .none], #[]⟩ := ⟨rfl, rfl, fun vs e => by cases e; rfl⟩
    have mono := (hsu a _ c d [] zz ⟨_, rfl⟩).mono
    cases i with
    | none => exact mono _ _ { nx := A.nx, rt := A.rt, bk := A.bk, ct := A.ct } { nx := B.nx, rt := B.rt, bk := B.bk, ct := B.ct } ⟨le.nx, le.rt, le.bk, le.ct, fun _ _ _ _ z => z⟩ q2
    | some i => exact mono _ _ (unsetK A i) (unsetK B i) ⟨fun _ _ z => le.nx _ _ z, le.rt, fun _ _ z => le.bk _ _ z, fun _ _ z => le.ct _ _ z, fun _ _ _ _ z => z⟩ q2
theorem js_try {body : List Stmt} {B : LS} {h₀ : ExceptHandler} {hds : List ExceptHandler} {l : List LHd} {l' : List Hd} {pos : Pos} (hN : X.N.Nodup) (tk : L2N.Takes X W)
    (hb : ∀ (W' : WX) (pn : List (Addr × Obj)) (xe : Value → Shared → Prop), L2N.Takes (X.tr pn xe) W' → PassesOwn (model X.prog X.w) X.A X.env xe → JSs (X.tr pn xe) W' body B) (hh : LHds X (h₀ :: hds) l l')
    (hs : X.stack = X.env :: X.outer := by rfl) (hf : X.env.frame = some X.env.locals := by rfl) : JS X W (.Try body (h₀ :: hds) [] [] pos) (sTry B l) := by
  have mono : MonoS B := (hb NoX [] (fun _ _ => False) (fun _ _ z => by
    obtain ⟨_, _, _, _, _, _, _, _, _, _, _, _, _, _, _, _, y⟩ := z
    exact y.elim) PassesOwn.never).mono
  refine ⟨fun σ h A B' le q => mono _ _ { A with ex := fun c fs σ' h' => hdsL l c fs σ' h' A } { B' with ex := fun c fs σ' h' => hdsL l c fs σ' h' B' } ⟨le.nx, le.rt, le.bk, le.ct, fun c fs σ' h' z => hdsL_mono hh le z⟩ q, PS.weak (ps_try_mix (tb := fun W' => tS X.K W' B) hs hf hN tk (fun W' pn xe t p => (hb W' pn xe t p).run) hh.hd) fun Dn σV H ⟨ι0, H0, ι, σ, h, e, hS, hH, q⟩ => ?_⟩
  refine ⟨ι0, H0, ι, σ, h, e, hS, hH, mono _ _ _ _ ?_ q⟩
  exact ⟨fun _ _ z => z, fun _ _ z => z, fun _ _ z => z, fun _ _ z => z, fun c fs σ' h' z ι' dx σV' H' e' hS' hH' rx => hds_run hh e' hS' hH' rx z⟩
/-- e.f in a suite, e the caught error -/
def eXf (C : Str) (a : Addr) (c : Str) (d : Option Addr) (f : Str) (m : LE) : LE := fun σ h Q E => m σ h (fun x h1 => c = C ∧ ∃ dd ns ds y, d = some dd ∧ x = .exc a C d ns ds ∧ (ns.zip ds).lookup f = some y ∧ Q y h1) E
theorem zip_lookup {K : Frag} {ι : Ad} {H : Hp} {f : Str} {y : D} : ∀ {ns : List Str} {ds : List D} {vs : List V}, RelDs K ι H ds vs → (ns.zip ds).lookup f = some y → ∃ v, (ns.zip vs).lookup f = some v ∧ RelD K ι H y v
  | [], _, _, _, e => by simp at e
  | _ :: _, [], _, _, e => by simp at e
  | n :: ns, d :: ds, _, ⟨v, r, e1, h1, h2⟩, e => by
    subst e1
    simp only [List.zip_cons_cons, List.lookup_cons] at e ⊢
    cases z : (f == n) with
    | true => rw [z] at e; cases e; exact ⟨v, rfl, h1⟩
    | false => rw [z] at e; exact zip_lookup h2 e
theorem je_xf {a : Addr} {oe : Obj} {c C : Str} {d : Option Addr} {pn : List (Addr × Obj)} {e : Expr} {m : LE} {pos : Pos} {n : Str} (T : XfC X.K (He.ga X.K C)) (hno : PySem.W.findIn X.K (.ref (He.ga X.K C)) n = some none)
    (hz : L2N.Zn (.ref (He.ga X.K c)) d oe) (hf : ∃ vs, oe.data = .fields vs) (he : JE (X.suite a ((a, oe) :: pn)) W e m) (hb : attributeBase e n X.env (eval e X.env) = eval e X.env := by rfl) : JE (X.suite a ((a, oe) :: pn)) W (.Attribute e n pos) (eXf C a c d n m) := by
  refine ⟨fun σ h Q Q' E E' hQ hE q => he.mono σ h _ _ _ _ (fun x h1 ⟨e1, dd, ns, ds, y, e2, e3, e4, q1⟩ => ⟨e1, dd, ns, ds, y, e2, e3, e4, hQ _ _ q1⟩) hE q, PE.weak (pe_xf (C := He.ga X.K C) T hno hz.zc hf he.run hb) fun σV H Q ⟨ι, σ, h, hS, hH, q⟩ => ?_⟩
  refine tX.into he.mono hS hH q (fun x h1 ι1 v H1 q1 e1 hH1 r => ?_) (fun c' fs h1 ι1 dx H1 q1 => q1 ι1 dx H1)
  obtain ⟨ec, dd, ns, ds, y, ed, ex, el, q2⟩ := q1
  subst ec ed ex
  obtain ⟨rfl, vs, h1', h2, h3, h4⟩ := r
  obtain ⟨u, hu, ru⟩ := zip_lookup h4 el
  exact ⟨rfl, rfl, dd, _, u, rfl, h1', hu, q2 ι1 u H1 e1 hH1 ru⟩

/-! ### what the written part says of an error class -/
/-- an own class without own __init__ below the built-in T -/
def excB0 (K : Frag) (x : Str) (bm : List Value) (newId : String) : Bool := PySem.W.excIn K (He.ga K x) bm newId && (PySem.W.keepIn K (.ref (He.ga K x)) && (decide (PySem.W.subIn K (.ref (He.ga K x)) (.type "BaseException") = some true) && decide (PySem.W.typeIn K (.ref (He.ga K x)) = some (.type "type"))))
theorem raises0 {X : Cx} {x : Str} {bm : List Value} {newId : String} (h : excB0 X.K x bm newId = true) : PySem.W.excIn X.K (He.ga X.K x) bm newId = true ∧ PySem.W.keepIn X.K (.ref (He.ga X.K x)) = true ∧ Raises X (.ref (He.ga X.K x)) := by
  obtain ⟨h1, h⟩ := He.ba h
  obtain ⟨h2, h⟩ := He.ba h
  obtain ⟨h3, h4⟩ := He.ba h
  exact ⟨h1, h2, raises_own (of_decide_eq_true h3) (of_decide_eq_true h4)⟩
/-- an own class below ValueError whose own __init__ (at fI) sets the field f -/
def oexB (K : Frag) (x f : Str) : Bool := (match K.lookup (He.ga K x) with
  | some ⟨.type "type", _, .cls cd, sl⟩ => (match cd.mro, sl.toList with
    | .ref C' :: bm, [_, _, _, _, some (.builtin n), _] => C' == He.ga K x && (n == "ValueError.__new__" && (!cd.hasDel && (cd.hasDict && PySem.HandSPX.refsVE bm)))
    | _, _ => false)
  | _ => false) && (decide (PySem.W.findIn K (.ref (He.ga K x)) "__setattr__" = some (some (.builtin "object.__setattr__"))) && (decide (PySem.W.subIn K (.ref (He.ga K x)) (.type "BaseException") = some true) && (decide (PySem.W.typeIn K (.ref (He.ga K x)) = some (.type "type")) && (PySem.W.keepIn K (.ref (He.ga K x)) &&
    (decide (PySem.W.findIn K (.ref (He.ga K x)) f = some none) && (decide (PySem.W.findIn K (.ref (He.ga K x)) "__init__" = some (some (.ref (He.ma K (He.ga K x) "__init__")))) && (decide (PySem.W.typeIn K (.ref (He.ma K (He.ga K x) "__init__")) = some (.type "function")))))))))
theorem oexB_ok {K : Frag} {x f : Str} (h : oexB K x f = true) : OexF K x f := by
  obtain ⟨h1, h⟩ := He.ba h
  obtain ⟨h2, h⟩ := He.ba h
  obtain ⟨h3, h⟩ := He.ba h
  obtain ⟨h4, h⟩ := He.ba h
  obtain ⟨h5, h⟩ := He.ba h
  obtain ⟨h6, h⟩ := He.ba h
  obtain ⟨h7, h8⟩ := He.ba h
  refine ⟨⟨?_, of_decide_eq_true h2, of_decide_eq_true h3, of_decide_eq_true h4, h5⟩, of_decide_eq_true h6, of_decide_eq_true h7, of_decide_eq_true h8⟩
  split at h1
  · rename_i dd cd sl ho
    split at h1
    · rename_i C' bm k0 k1 k2 k3 n k5 hm hs
      obtain ⟨g1, g⟩ := He.ba h1
      obtain ⟨g2, g⟩ := He.ba g
      obtain ⟨g3, g⟩ := He.ba g
      obtain ⟨g4, g5⟩ := He.ba g
      have e1 := beq_iff_eq.mp g1
      have e2 := beq_iff_eq.mp g2
      have e3 : cd.hasDel = false := by simpa using g3
      obtain ⟨nm, bs, mro, ns, qn, hd, sn, sub, ab, col, del⟩ := cd
      dsimp only at hm e3 g4
      subst hm e3 g4
      have hsl : sl = #[k0, k1, k2, k3, some (.builtin n), k5] := by
        obtain ⟨l⟩ := sl
        simp only at hs
        rw [hs]
      subst hsl e2
      rw [e1] at ho
      exact ⟨nm, qn, ns, bs, bm, sn, sub, ab, col, dd, k0, k1, k2, k3, k5, ho, g5⟩
    · cases h1
  · cases h1
/-- .. whose instances' field f is read -/
def xfnB (K : Frag) (x f : Str) : Bool := xfB K (He.ga K x) && decide (PySem.W.findIn K (.ref (He.ga K x)) f = some none)
theorem xfnB_ok {K : Frag} {x f : Str} (h : xfnB K x f = true) : XfC K (He.ga K x) ∧ PySem.W.findIn K (.ref (He.ga K x)) f = some none := ⟨xfB_ok (He.ba h).1, of_decide_eq_true (He.ba h).2⟩
theorem names_own {X : Cx} {x : Str} (hm : X.mg x = some (.ref (He.ga X.K x))) (hg : Gl X x := by rfl) (hdb : (x == ("__debug__" : Str)) = false := by decide) : Names X x (.ref (He.ga X.K x)) := ⟨hg, hdb, .inl hm⟩
end LL
end

section
set_option Elab.async false
set_option linter.all false
set_option maxRecDepth 100000
set_option maxHeartbeats 1000000
/-! LLLam: a lambda without parameters handed to a def, which calls it. -/
namespace LL
open PySem PySem.Spec PyProof.Rows L2
variable {X : Cx} {W : WX}
/-! ### values at a later moment, weakly later -/
theorem ExtW.at_ {ι ι' : Ad} {H H' : Hp} (e : ExtW ι H ι' H') {n : Nat} {a : Addr} (h : ι.ix[n]? = some (some a)) : ι'.ix[n]? = some (some a) := by
  obtain ⟨l, q, _⟩ := e.pre
  rw [q, List.getElem?_append_left ((List.getElem?_eq_some_iff.mp h).1)]
  exact h
theorem ExtW.kp {ι ι' : Ad} {H H' : Hp} (e : ExtW ι H ι' H') {a : Addr} {o : HO} (h : H a = some o) (n : ι.no a) (t : ∀ ps, o ≠ .tbl ps) : H' a = some o ∧ ι'.no a := ⟨e.keep a o h n t, e.no ⟨o, h, t⟩ n⟩
mutual
theorem RelD.extW {K : Frag} {ι ι' : Ad} {H H' : Hp} (e : ExtW ι H ι' H') : ∀ {d : D} {v : V}, RelD K ι H d v → RelD K ι' H' d v
  | .non, _, h => h
  | .bl _, _, h => h
  | .int _, _, h => h
  | .str _, _, h => h
  | .tup _, _, ⟨a, vs, h1, h2, h3⟩ => ⟨a, vs, h1, by
      rcases h2 with (h2 | ⟨o, h2⟩) | h2
      · exact .inl (.inl (e.tups a vs h2))
      · exact .inl (.inr ⟨o, e.frzs a o _ h2⟩)
      · exact .inr h2, RelDs.extW e h3⟩
  | .lst _, _, ⟨a, vs, h1, h2, h3⟩ => ⟨a, vs, h1, by
      rcases h2 with ⟨h2, n⟩ | ⟨o, h2⟩ | h2
      · exact .inl (e.kp h2 n (fun _ z => by cases z))
      · exact .inr (.inl ⟨o, e.frzs a o _ h2⟩)
      · exact .inr (.inr h2), RelDs.extW e h3⟩
  | .ob _ _ _, _, ⟨a, dx, vs, h1, h2, h3, h4, h5⟩ => ⟨a, dx, vs, h1, (e.kp h3 h2 (fun _ z => by cases z)).2, (e.kp h3 h2 (fun _ z => by cases z)).1, h4, RelDs.extW e h5⟩
  | .ref _, _, ⟨a, h1, h2⟩ => ⟨a, e.at_ h1, h2⟩
  | .dfn _, _, h => h
  | .fn _ _ _ _, _, ⟨h1, h2, h3⟩ => ⟨h1, fun p hp => e.exts _ _ (h2 p hp), h3.then e⟩
  | .dct _ _, _, ⟨a, vs, h1, h2, h3, h4, h5⟩ => ⟨a, vs, h1, (e.kp h3 h2 (fun _ z => by cases z)).2, (e.kp h3 h2 (fun _ z => by cases z)).1, h4, RelDs.extW e h5⟩
  | .exc _ _ none _ _, _, h => h
  | .exc _ _ (some _) _ _, _, ⟨h0, vs, h1, h2, h3, h4⟩ => ⟨h0, vs, (e.kp h1 h2 (fun _ z => by cases z)).1, (e.kp h1 h2 (fun _ z => by cases z)).2, h3, RelDs.extW e h4⟩
theorem RelDs.extW {K : Frag} {ι ι' : Ad} {H H' : Hp} (e : ExtW ι H ι' H') : ∀ {ds : List D} {vs : List V}, RelDs K ι H ds vs → RelDs K ι' H' ds vs
  | [], _, h => h
  | _ :: _, _, ⟨v, r, h1, h2, h3⟩ => ⟨v, r, h1, RelD.extW e h2, RelDs.extW e h3⟩
end
theorem RelS.extW {K : Frag} {ι ι' : Ad} {H H' : Hp} (e : ExtW ι H ι' H') {σ : LV} {σV : L2.St} (h : RelS K ι H σ σV) : RelS K ι' H' σ σV :=
  ⟨h.1, fun i d q => let ⟨v, h1, h2⟩ := h.2 i d q; ⟨v, h1, h2.extW e⟩⟩
theorem ExtW.refl (ι : Ad) (H : Hp) : ExtW ι H ι H := (Ext.refl ι H).w

/-! ### the lambda's own objects -/
def codeP (c : Addr) (q : Str) : Heap → Prop := match LamX.CodeO c q with
  | .ext φ => φ
  | _ => fun _ => True
theorem codeP_eq (c : Addr) (q : Str) : LamX.CodeO c q = .ext (codeP c q) := rfl

/-- the context of the lambda's body -/
abbrev lamCN (X : Cx) (A : Around) (outer : List Env) (s : Shared) (H : Hp) (E : XK) (scope : Scope) (f c' : Addr) : Cx :=
  (LamX.lamCx X A outer s H E scope f c').tr [] fun e s' => wpAny (model X.prog X.w) (A.deeper (LamX.lamEnv X scope s.heap.objs.size f c')) (leaving (LamX.lamEnv X scope s.heap.objs.size f c') e) (fun _ s'' => L2N.CX X.prog X.w outer H s E e s'') (fun e' s'' => L2N.CX X.prog X.w outer H s E e' s'') s'
section
variable {pins : List (Addr × Obj)} {σ : L2.St} {H HZ : Hp} {s s1 : Shared}
/-- x(), in the def that got the lambda (made at s, H in X's frame): Z is that def's context, entered at s -/
theorem pe_actW {CXg : CXT} {Eg : XK} {Ng : List Str} {qg : Str} {sg : Scope} {g f c' : Addr} {cdg pm ctv : Value} {params : Arguments} {body : Expr} {scope : Scope} {k i : Nat} {a : Str} {pn : List (Addr × Obj)} {xe : Value → Shared → Prop} {W : WX} {tb : XK → TE} {p1 p2 : Pos}
    (I : Inv X pins σ H s) (L : LamX.LamS X.env.scope scope) (hf : s.heap.get? f = some (PySem.W.kla_obj "<lambda>" (X.env.qual ++ "<lambda>") params body scope (cloFrom X.env.cells scope.names []) pm c' ctv)) (hfn : H f = none) (hfr : f ∉ frs X.stack)
    (hbind : bindArgs (PySem.W.kla_fn "<lambda>" (X.env.qual ++ "<lambda>") params body scope (cloFrom X.env.cells scope.names []) pm (.ref c') ctv) ⟨[], []⟩ = pure [])
    (tk : L2N.Takes ((cxOf CXg X.prog X.w X.K X.mg X.base Ng qg sg g cdg X.A X.stack s H Eg).tr pn xe) W) (hr : RoomG (k + 1) (X.A.deeper (envOfC qg sg s.heap.objs.size g cdg)))
    (hbody : ∀ (A : Around) (outer : List Env) (s : Shared) (H : Hp) (E : XK), RoomG k (A.deeper (LamX.lamEnv X scope s.heap.objs.size f c')) → PE (lamCN X A outer s H E scope f c') body (tb E))
    (hN : Ng[i]? = some a) (hv : Vis sg a) (hd : (a == ("__debug__" : Str)) = false) (hcd : (a == ("__classdict__" : Str)) = false) :
    PE ((cxOf CXg X.prog X.w X.K X.mg X.base Ng qg sg g cdg X.A X.stack s H Eg).tr pn xe) (.Call (.Name a p1) [] [] p2)
      (fun σZ HZ Q => σZ[i]? = some (some (.ref f)) ∧ HZ c' = some (LamX.CodeO c' (X.env.qual ++ "<lambda>")) ∧ tb (fun cls d H' => W cls d σZ H') σ HZ Q) := by
  refine ⟨fun pinsZ sZ σZ HZ Q IZ h => ?_⟩
  obtain ⟨hs, hc, ht⟩ := h
  refine wpAny_Call_Name_kw (thn ((pe_var (pos := p1) (i := i) hN hv hd hcd).run pinsZ sZ σZ HZ (fun v H1 => v = .ref f ∧ H1 = HZ) IZ ⟨.ref f, hs, rfl, rfl⟩) fun u s1 ⟨v, H1, I1, r1, q1⟩ => ?_)
  obtain ⟨ev, eH⟩ := q1
  subst ev
  rw [eH] at I1
  obtain rfl : u = Value.ref f := r1
  have of1 := I1.base.keep f _ hf hfn hfr (fun z => nomatch (show f ∈ ([] : List Addr) from z))
  refine PySem.W.callWith_F0 ⟨_, _, _, _, of1⟩ ?_
  have un : Un (frs X.stack) [] H HZ s.heap s1.heap := I1.base
  obtain ⟨⟨oc, vs, t, hoc, hdc, hvc⟩, _, _⟩ := I1.hok c' _ hc
  have hx := L2N.passAt tk σZ
  have rc : codeAny (model X.prog X.w) (X.A.deeper (envOfC qg sg s.heap.objs.size g cdg)) (.call (.ref f) ⟨[], []⟩) (CR (L2N.CX X.prog X.w) (envOfC qg sg s.heap.objs.size g cdg :: X.stack) X.prog X.w HZ s1 Q (fun cls d H' => W cls d σZ H')) s1 := by
    refine PySem.W.kla_callFunE hr.r.depth of1 rfl L.co L.gen rfl ⟨c', oc, vs, t, rfl, hoc, hdc, hvc⟩ ?_
    rw [hbind]
    refine wpAny_pure (wpAny_newFunctionEnv (fun y hy => (L.own y hy).2) (fun y hy => absurd hy (by simp)) (fun h₁ hns hsb => ⟨I1.nolimit.fresh _ hsb, ?_⟩) L.kind)
    show codeAny _ _ (.expr body (LamX.lamEnv X scope s1.heap.objs.size f c')) _ _
    have kp : ∀ b o, s1.heap.get? b = some o → h₁.get? b = some o := fun b o e => hsb.extBut b o (Nat.ne_of_lt (Heap.lt_size e)) (Heap.get?_push_of_some _ e)
    have J : Inv (lamCN X (X.A.deeper (envOfC qg sg s.heap.objs.size g cdg)) (envOfC qg sg s.heap.objs.size g cdg :: X.stack) s1 HZ (fun cls d H' => W cls d σZ H') scope f c') [] σ HZ { s1 with heap := h₁, toks := s1.toks + ([] : List (Str × Value)).length } :=
      (LamX.lam_start2 I L I1.env0 hr.r.hd un hns kp).toTry _
    refine PySem.W.kla_codeExpr (wpAny_mono ((hbody _ _ s1 HZ _ (hr.deeper _)).run [] _ _ HZ Q J ht) (fun v s' hq => ?_) fun e s' hq => hq)
    obtain ⟨w', H', J', rv, q⟩ := hq
    exact ⟨w', H', J'.os, J'.bare, J'.base, J'.hok, rv, q⟩
  exact wpAny_call (codeAny_mono rc fun r s' hq => ret_of hx I1 hq)
end

/-! ### in logical words -/
/-- what the lambda does when it is called -/
abbrev LAsk := LH → (D → LH → Prop) → XL → Prop
def MonoA (a : LAsk) : Prop := ∀ h (Q Q' : D → LH → Prop) (E E' : XL), (∀ d h, Q d h → Q' d h) → (∀ c fs h, E c fs h → E' c fs h) → a h Q E → a h Q' E'
def eAsk (i : Nat) (L : D) (ask : LAsk) : LE := fun σ h Q E => σ[i]? = some (some L) ∧ ask h Q E
/-- x(lambda: m), x's body b -/
def eLam (b : D → LAsk → LS) (N : List Str) (m : LE) : LE := fun σ h Q E => ∃ (Q0 : D → LH → Prop) (E0 : XL), (∀ d h, Q0 d h → Q d h) ∧ (∀ c fs h, E0 c fs h → E c fs h) ∧ ∀ L, b L (m σ) (startD N [L]) h (bodyK Q0 E0)
theorem je_lam {x a qg : Str} {g cl P : Addr} {k : Nat} {pg : Arguments} {bg : List Stmt} {sg : Scope} {fd : FuncData} {Ng : List Str} {params : Arguments} {body : Expr} {scope : Scope} {m : LE} {b : D → LAsk → LS} {p lpos pos : Pos}
    (F : FunD X.K x qg pg bg sg [] [] g fd) (Sg : FnScope Ng [a] sg) (hb : Binds X.K fd [a] []) (hNg : Ng[0]? = some a) (hva : Vis sg a) (hm : X.mg x = some (.ref g)) (tk : L2N.Takes X W) (hr : RoomG (k + 2) X.A)
    (LT : LamT X (tabsK X.K) cl P) (L : LamX.LamS X.env.scope scope) (hdef : defaultsOf params X.env = ([], []))
    (hbind : ∀ (q : Str) (cl : List (Str × Addr)) (pm cv ctv : Value), bindArgs (PySem.W.kla_fn "<lambda>" q params body scope cl pm cv ctv) ⟨[], []⟩ = pure [])
    (hbody : ∀ (A : Around) (outer : List Env) (s : Shared) (H : Hp) (E : XK) (f c' : Addr), RoomG k (A.deeper (LamX.lamEnv X scope s.heap.objs.size f c')) → JE (lamCN X A outer s H E scope f c') (fun cls d _ H => E cls d H) body m)
    (hJ : ∀ (cdv : Value) (A : Around) (outer : List Env) (s : Shared) (H : Hp) (E : XK) (L : D) (ask : LAsk), CodeAt X.K g cdv → RoomG (k + 1) (A.deeper (envOfC qg sg s.heap.objs.size g cdv)) → MonoA ask →
      (∀ (W' : WX) (pn : List (Addr × Obj)) (xe : Value → Shared → Prop) (p1 p2 : Pos), L2N.Takes ((cxOf (L2N.CX X.prog X.w) X.prog X.w X.K X.mg X.base Ng qg sg g cdv A outer s H E).tr pn xe) W' →
        JE ((cxOf (L2N.CX X.prog X.w) X.prog X.w X.K X.mg X.base Ng qg sg g cdv A outer s H E).tr pn xe) W' (.Call (.Name a p1) [] [] p2) (eAsk 0 L ask)) →
      JSs (cxOf (L2N.CX X.prog X.w) X.prog X.w X.K X.mg X.base Ng qg sg g cdv A outer s H E) (fun cls d _ H => E cls d H) bg (b L ask))
    (hg : Gl X x := by rfl) (hdb : (x == ("__debug__" : Str)) = false := by decide) (hd : (a == ("__debug__" : Str)) = false := by decide) (hcd : (a == ("__classdict__" : Str)) = false := by decide) :
    JE X W (.Call (.Name x p) [.Lambda params body scope lpos] [] pos) (eLam b Ng m) := by
  have hmm : Mono m := (hbody X.A [] X.s_0 X.H_0 (fun _ _ _ => False) 0 0 ((hr.mono (by omega : k + 1 ≤ k + 2)).deeper _)).mono
  have mA : ∀ σ, MonoA (m σ) := fun σ h Q Q' E E' hQ hE q => hmm σ h Q Q' E E' hQ hE q
  refine ⟨fun σ h Q Q' E E' hQ hE ⟨Q0, E0, a1, a2, q⟩ => ⟨Q0, E0, fun d h z => hQ _ _ (a1 d h z), fun c fs h z => hE _ _ _ (a2 c fs h z), q⟩, ⟨fun pins s σV H Q I h => ?_⟩⟩
  obtain ⟨ι, σ, h, hS, hH, Q0, E0, a1, a2, q⟩ := h
  obtain ⟨oc, od, dV, kV, doc, pm, an, cdv, ct, osl, rfl, lk, hcg, _, _⟩ := F.ex
  refine wpAny_Call_Name_kw (ld_glob I hg hm ?_ hdb)
  refine PySem.W.callWith_K (h₀ := X.base) I.ok.mod.kin F.kp ?_ (by rfl) (by rfl)
  show wpAny _ _ (spliced ((false, eval (.Lambda params body scope lpos) X.env) :: backTo pos (starEach [] X.env))) _ _ s
  refine Calls.spliced_cons (LamX.lam_make2 I LT.tb LT.code LT.mem LT.uni hH.tabs hdef (L.has I.ok) fun f c' pm' ctv H1 s' I1 eN T1 hf hfn hfr hco => ?_)
  have hH1 := hH.nt eN T1
  have e1 : Ext ι H ι H1 := Ext.nt (K := X.K) (h := h) eN
  have hS1 := hS.ext e1
  refine Calls.spliced_nil ⟨I1.kIn, ?_⟩
  have rc : codeAny (model X.prog X.w) X.A (.call (.ref g) ⟨[.ref f], []⟩) (CR (L2N.CX X.prog X.w) X.stack X.prog X.w H1 s' Q (WE W σV)) s' := by
    refine LamX.run_ofS (N := Ng) (ps := [a]) (us := [.ref f]) (vs := [.ref f]) (k := k + 1) lk hcg Sg hr.r I1.env0 (hb s' [.ref f] I1.kIn rfl) (.cons rfl .nil) rfl fun hr' => ?_
    have hr2 : RoomG (k + 1) (X.A.deeper (envOfC qg sg s'.heap.objs.size g cdv)) := ⟨hr', hr.g⟩
    have Lr : RelD X.K ι H1 (.fn f [(c', codeP c' (X.env.qual ++ "<lambda>"))] ι H1) (.ref f) := ⟨rfl, fun p hp => by
      obtain rfl := List.mem_singleton.mp hp
      exact hco, .refl _ _⟩
    have j := hJ cdv X.A X.stack s' H1 (WE W σV) (.fn f [(c', codeP c' (X.env.qual ++ "<lambda>"))] ι H1) (m σ) ⟨_, _, _, _, lk, rfl, _, hcg⟩ hr2 (mA σ) fun W' pn xe p1 p2 tk' => ⟨fun σZ hZ Q1 Q2 E1 E2 hQ hE ⟨z1, z2⟩ => ⟨z1, mA σ hZ _ _ _ _ hQ hE z2⟩, PE.weak
      (pe_actW (W := W') (tb := fun E => tE X.K (fun cls d _ H => E cls d H) m) I1 L hf hfn hfr (hbind _ _ _ _ _) tk' hr2 (fun A outer s H E hr3 => (hbody A outer s H E f c' hr3).run) hNg hva hd hcd) fun σZV HZ QZ hZ' => ?_⟩
    · refine ⟨_, j.run, ι, H1, ι, startD Ng [_], h, .refl _ _, rel_start (ds := [_]) (vs := [.ref f]) ⟨_, _, rfl, Lr, rfl⟩, hH1, ?_⟩
      refine j.mono _ _ _ _ ?_ (q _)
      exact ⟨fun σ' h' q' ι' σV' H' e' _ hH' => a1 _ _ q' ι' .non H' (e1.trans e') hH' rfl, fun d h' q' ι' v H' e' hH' r' => a1 _ _ q' ι' v H' (e1.trans e') hH' r', fun _ _ z => z.elim, fun _ _ z => z.elim, fun c fs σ' h' q' ι' dx σV' H' e' _ hH' r' => a2 _ _ _ q' ι' dx H' (e1.trans e') hH' r'⟩
    · obtain ⟨ιZ, σZ, hZ, hSZ, hHZ, z1, z2⟩ := hZ'
      obtain ⟨v, z3, z4⟩ := hSZ.2 0 _ z1
      obtain ⟨rfl, z5, z6⟩ := z4
      exact ⟨z3, z5 _ (List.mem_singleton.mpr rfl), ιZ, σ, hZ, hS1.extW z6, hHZ, z2⟩
  exact wpAny_call (codeAny_mono rc fun r s2 hq => ret_of (L2N.passAt tk σV) I1 hq)

/-! ### rules by which simp runs them -/
@[simp] theorem tyD_non {h : LH} : tyD .non h = some (.bt "NoneType") := (rfl)
@[simp] theorem tyD_bl {h : LH} {b : Bool} : tyD (.bl b) h = some (.bt "bool") := (rfl)
@[simp] theorem tyD_tup {h : LH} {ds : List D} : tyD (.tup ds) h = some (.bt "tuple") := (rfl)
@[simp] theorem tyD_lst {h : LH} {ds : List D} : tyD (.lst ds) h = some (.bt "list") := (rfl)
@[simp] theorem tyD_dct {h : LH} {ks : List L2.Key} {ds : List D} : tyD (.dct ks ds) h = some (.bt "dict") := (rfl)
section
variable {m : LE} {σ : LV} {h : LH} {Q : D → LH → Prop} {E : XL} {K : LK} {s : LS} {l : List LHd} {fs : List (Str × D)} {a : Addr} {d : Option Addr} {i : Nat} {C c f : Str} {x : D} {ask : LAsk}
@[simp] theorem sRaise0_run : sRaise0 C σ h K = K.ex C [] σ h := (rfl)
@[simp] theorem sRaise1_run : sRaise1 C f m σ h K = m σ h (fun d h1 => K.ex C [(f, d)] σ h1) (exOf K σ) := (rfl)
@[simp] theorem sTry_run : sTry s l σ h K = s σ h { K with ex := fun c fs σ' h' => hdsL l c fs σ' h' K } := (rfl)
@[simp] theorem hdsL_nil : hdsL [] c fs σ h K = K.ex c fs σ h := (rfl)
theorem hdsL_cons {q : LHd} {r : List LHd} : hdsL (q :: r) c fs σ h K = ∃ b, q.l.lookup c = some b ∧ (b = true → ∀ (a : Addr) (d : Option Addr), (d = none → fs = []) → suiteL q a c d fs σ h K) ∧ (b = false → hdsL r c fs σ h K) := (rfl)
theorem hdsL_yes {q : LHd} {r : List LHd} (e : q.l.lookup c = some true) (w : ∀ (a : Addr) (d : Option Addr), (d = none → fs = []) → suiteL q a c d fs σ h K) : hdsL (q :: r) c fs σ h K := ⟨true, e, fun _ => w, fun z => (nomatch z)⟩
theorem hdsL_no {q : LHd} {r : List LHd} (e : q.l.lookup c = some false) (w : hdsL r c fs σ h K) : hdsL (q :: r) c fs σ h K := ⟨false, e, (fun z => (nomatch z)), fun _ => w⟩
@[simp] theorem suiteL_none {ll : List (Str × Bool)} {sq : Addr → Str → Option Addr → LS} : suiteL ⟨ll, none, sq⟩ a c d fs σ h K = sq a c d σ h { nx := K.nx, rt := K.rt, bk := K.bk, ct := K.ct } := (rfl)
@[simp] theorem suiteL_some {ll : List (Str × Bool)} {sq : Addr → Str → Option Addr → LS} : suiteL ⟨ll, some i, sq⟩ a c d fs σ h K = sq a c d (σ.set i (some (.exc a c d (fs.map (·.1)) (fs.map (·.2))))) h (unsetK K i) := (rfl)
@[simp] theorem unsetK_nx : (unsetK K i).nx σ h = K.nx (σ.set i none) h := (rfl)
@[simp] theorem unsetK_rt {y : D} : (unsetK K i).rt y h = K.rt y h := (rfl)
@[simp] theorem eAsk_run : eAsk i x ask σ h Q E = (σ[i]? = some (some x) ∧ ask h Q E) := (rfl)
@[simp] theorem eXf_run : eXf C a c d f m σ h Q E = m σ h (fun x h1 => c = C ∧ ∃ dd ns ds y, d = some dd ∧ x = .exc a C d ns ds ∧ (ns.zip ds).lookup f = some y ∧ Q y h1) E := (rfl)
end
end LL
end

section
set_option Elab.async false
set_option linter.all false
set_option maxRecDepth 100000
set_option maxHeartbeats 2000000
/-! LLHot: x, y = a, b in an except suite. -/
namespace LL
open PySem PySem.Spec PyProof.Rows L2 HotX L2H
section
variable {prog : Program} {w : World} {A : Around} {E : Value → Shared → Prop} {s : Shared}
theorem next_tuple_end_hot {it t x1 : Addr} {i : Nat} {items : Array Value} {Q : Option Value → Shared → Prop} (hot : HotAt A x1 s.heap) (ne : x1 ≠ it)
    (hit : IsTupIter s.heap it t i) (ht : IsTup s.heap t items) (hx : items[i]? = none)
    (hQ : ∀ h', Heap.ExtBut it s.heap h' → Q none { s with heap := h' }) : wpAny (model prog w) A (pyNext (.ref it)) Q E s := by
  obtain ⟨o, ho, hc, hd⟩ := id hit
  obtain ⟨ol, hol, _, nl, hdl⟩ := ht
  obtain ⟨hh, o1, vs1, h1, d1, c1⟩ := hot
  unfold pyNext
  refine wpAny_bind (wpAny_attempt (wpAny_callSpecial?_slot (name := Str.ofString "__next__") hit.typeIs slot_tupleiter_next
    (wpAny_call_entry slot_tupleiter_next hit.typeIs entry_tupleiter_next ?_ (args_tupleiter_next _))))
  show wpAny _ _ (field (.ref it) 0 >>= _) _ _ s
  refine wpAny_bind (wpAny_field ho hd (x := .ref t) rfl ?_)
  show wpAny _ _ (if (Value.ref t == Value.none) = true then _ else _) _ _ s
  rw [if_neg (show ¬ ((Value.ref t == Value.none) = true) from Bool.false_ne_true)]
  show wpAny _ _ (field (.ref it) 1 >>= _) _ _ s
  refine wpAny_bind (wpAny_field ho hd (x := .int i 0) rfl ?_)
  show wpAny _ _ (seqItems? (.ref t) >>= _) _ _ s
  refine wpAny_bind (wpAny_seqItems hol hdl ?_)
  simp only [Int.toNat_natCast, hx]
  refine wpAny_bind (wpAny_rule (wpAny_bind (wpAny_setField ho hd (by simp) ?_)))
  have h2 : (s.heap.update it (Obj.mapFields (·.setIfInBounds 0 Value.none))).get? x1 = some o1 := (Heap.get?_update_other _ _ (Ne.symm ne)).trans h1
  show wpAny _ _ (newExc (.type "StopIteration") [] >>= _) _ _ _
  refine wpAny_bind ?_
  simp only [newExc, newTuple]
  refine wpAny_bind (wpAny_newObj_type ?_ (by size_fits))
  refine wpAny_bind (m := firstArgMember _ _) (wpAny_of_eq (a := Value.none) (by first | rfl | (simp only [firstArgMember]; rfl)) ?_)
  refine wpAny_newObj_type ?_ (by size_fits)
  refine raiseNew_hot ⟨hh, o1, vs1, Heap.get?_push_of_some _ (Heap.get?_push_of_some _ h2), d1, c1⟩ (Nat.ne_of_lt (Heap.lt_size (Heap.get?_push_of_some _ h2))) (Heap.get?_push_size _ rfl) rfl (by first | (simp; done) | (simp; omega)) ?_
  refine wpAny_bind (wpAny_isInstance (T := "StopIteration") (b := true) ⟨_, Heap.get?_update_self _ (Heap.get?_push_size _ rfl) rfl, rfl⟩ isSubtype_stop ?_)
  refine wpAny_pure (hQ _ fun b o' hb e => ?_)
  have e2 : (s.heap.update it (Obj.mapFields (·.setIfInBounds 0 Value.none))).get? b = some o' := (Heap.get?_update_other _ _ (Ne.symm hb)).trans e
  rw [Heap.get?_update_other _ _ (Nat.ne_of_gt (Heap.lt_size (Heap.get?_push_of_some _ e2)))]
  exact Heap.get?_push_of_some _ (Heap.get?_push_of_some _ e2)
theorem unpackItems_tuple_hot {t x1 : Addr} {items : Array Value} {Q : List Value → Shared → Prop} (hot : HotAt A x1 s.heap) (ht : IsTup s.heap t items)
    (hQ : ∀ h', Heap.ExtBut s.heap.objs.size s.heap h' → Q items.toList { s with heap := h' }) : wpAny (model prog w) A (unpackItems (.ref t) items.size none) Q E s := by
  have hlt : t ≠ s.heap.objs.size := by obtain ⟨o, ho, _⟩ := ht; exact Nat.ne_of_lt (Heap.lt_size ho)
  obtain ⟨hh, o1, vs1, h1, d1, c1⟩ := hot
  have hx1 : x1 ≠ s.heap.objs.size := Nat.ne_of_lt (Heap.lt_size h1)
  unfold unpackItems
  refine wpAny_bind ?_
  unfold notIterableAtAll
  refine wpAny_bind (wpAny_specialOf ht.typeIs slot_tuple_iter.lookup ?_)
  refine wpAny_pure ?_
  simp only [Bool.false_eq_true, if_false]
  refine wpAny_bind (wpAny_holding (iter_tuple ht ?_))
  refine wpAny_bind (wpAny_holding (draw_tuple hlt items.size 0 _ _ ⟨_, Heap.get?_push_size _ rfl, rfl, rfl⟩ (ht.push _) (by omega) fun h₁ hit₁ hs₁ => ?_))
  have hall : List.take items.size (List.drop 0 items.toList) = items.toList := by
    rw [List.drop_zero]; exact List.take_of_length_le (by simp)
  rw [hall]
  rw [if_neg (by simp)]
  have ht₁ : IsTup h₁ t items := (ht.push _).extBut hs₁.extBut hlt
  have hot₁ : HotAt A x1 h₁ := ⟨hh, o1, vs1, hs₁.extBut x1 o1 hx1 (Heap.get?_push_of_some _ h1), d1, c1⟩
  refine wpAny_bind (wpAny_holding (next_tuple_end_hot hot₁ hx1 hit₁ ht₁ (by simp) fun h₂ he₂ => ?_))
  simp only [Option.isSome_none, Bool.false_eq_true, if_false]
  exact wpAny_pure (hQ h₂ fun b o hb e => he₂ b o hb (hs₁.extBut b o hb (Heap.get?_push_of_some _ e)))
end
theorem hot_suite {X : Cx} {a : Addr} {oe : Obj} {cls : Value} {d : Option Addr} {pn : List (Addr × Obj)} (hz : L2N.Zn cls d oe) (hd : ∃ vs, oe.data = .fields vs) : HotC (X.suite a ((a, oe) :: pn)) := by
  obtain ⟨vs, hd⟩ := hd
  exact ⟨(a, oe), ⟨rfl, vs, hd, hz.2.2 vs hd⟩, List.mem_cons_self⟩
section
variable {X : Cx} {pos : Pos}
/-- x, y = a, b (stores crossed), while an exception is handled -/
theorem ps_parH {i j : Nat} {x y : Str} {a b : Expr} {ta : TA} {px py pt : Pos} {kt k2 pt2} (hc : HotC X) (hN : X.N.Nodup) (hi : X.N[i]? = some x) (hj : X.N[j]? = some y) (hij : i ≠ j)
    (hx : X.env.scope.names.lookup x = some .local) (hy : X.env.scope.names.lookup y = some .local) (ha : PA X [a, b] ta)
    (hw : swappedStores [.Tuple [.Name x px, .Name y py] kt pt] (.Tuple [a, b] k2 pt2) X.env = pure (some [x, y]))
    (hs : swapsWithSole [.Tuple [.Name x px, .Name y py] kt pt] (.Tuple [a, b] k2 pt2) pos.line X.env = pure false := by rfl) :
    PS X (.Assign [.Tuple [.Name x px, .Name y py] kt pt] (.Tuple [a, b] k2 pt2) pos) (tPar i j ta) := by
  refine ⟨fun pins s σ H D I h => ?_⟩
  rw [exec_Assign_arm]
  refine wpAny_bind (wpAny_standAt ?_)
  rw [hs]
  refine wpAny_bind (wpAny_pure ?_)
  rw [if_neg (by decide)]
  refine wpAny_bind (Tuple_ (thn (ha.run _ pins s σ H _ I h) fun us s1 ⟨vs, H1, I1, r1, q1⟩ => ?_))
  obtain ⟨v, w, e1, q1⟩ := q1
  subst e1
  obtain ⟨u1, u2, rfl, rv, rw'⟩ : ∃ u1 u2, us = [u1, u2] ∧ RelV v u1 ∧ RelV w u2 := by
    cases r1 with
    | cons p q =>
      cases q with
      | cons p' q' =>
        cases q'
        exact ⟨_, _, rfl, p, p'⟩
  refine wpAny_newObj_type ?_ (by show 2 ≤ sizeLine; decide)
  have I2 : Inv X pins σ H1 { s1 with heap := s1.heap.push { cls := .type "tuple", data := .seq [u1, u2].toArray } } := I1.kept (t' := s1.toks) fun b o e => Heap.get?_push_of_some _ e
  obtain ⟨x1, hot⟩ := hc.at I2
  rw [hw]
  refine wpAny_bind (wpAny_pure ?_)
  show wpAny (model X.prog X.w) X.A (do rule "assign.swapped-stores"; let items ← unpackItems (.ref s1.heap.objs.size) 2 none; assignInOrder [fun v => bindName X.env y v, fun v => bindName X.env x v] items.reverse; pure Flow.next) _ _ _
  refine wpAny_bind (wpAny_rule (wpAny_bind (unpackItems_tuple_hot (items := #[u1, u2]) hot (IsTup.new s1.heap _) fun h' hx' => ?_)))
  have I3 := I2.kept (h' := h') (t' := s1.toks) fun b o e => hx' b o (Nat.ne_of_lt (Heap.lt_size e)) e
  show wpAny _ _ (assignInOrder [fun v => bindName X.env y v, fun v => bindName X.env x v] [u2, u1] >>= fun _ => pure Flow.next) _ _ _
  refine wpAny_bind (assignInOrder_cons (wpAny_bindName (store_ok I3 hN hj (.inl hy) rw' (fun s2 I4 => ?_) (.inr hy))))
  refine assignInOrder_cons (wpAny_bindName (store_ok I4 hN hi (.inl hx) rv (fun s3 I5 => assignInOrder_nil (wpAny_pure ?_)) (.inr hx)))
  rw [List.set_comm _ _ (Ne.symm hij)] at I5
  exact ⟨_, H1, I5, q1⟩
end
end LL
end

section
set_option Elab.async false
set_option linter.all false
set_option maxRecDepth 100000
set_option maxHeartbeats 2000000
/-! LLExcA: raise of an own class below ArithmeticError whose own __init__ sets one field. -/
namespace PySem
namespace OEA
open PyProof.Rows Builtin Builtin.ObjectAttr
abbrev aeTail : List Value := [.type "ArithmeticError", .type "Exception", .type "BaseException", .type "object"]
theorem ae_pass0 (self : Value) : refuseLoop self "__setattr__" aeTail = pure () := by kernel_rfl
def refsAE : List Value → Bool
  | .ref _ :: r => refsAE r
  | l => l == aeTail
theorem refsAE_cases : ∀ l : List Value, refsAE l = true → (∃ c r, l = .ref c :: r ∧ refsAE r = true) ∨ l = aeTail
  | .ref c :: r, e => .inl ⟨c, r, rfl, e⟩
  | [], e => .inr (beq_iff_eq.mp e)
  | .none :: _, e => .inr (beq_iff_eq.mp e)
  | .ellipsis :: _, e => .inr (beq_iff_eq.mp e)
  | .notImplemented :: _, e => .inr (beq_iff_eq.mp e)
  | .bool _ :: _, e => .inr (beq_iff_eq.mp e)
  | .int _ _ :: _, e => .inr (beq_iff_eq.mp e)
  | .float _ _ :: _, e => .inr (beq_iff_eq.mp e)
  | .str _ _ :: _, e => .inr (beq_iff_eq.mp e)
  | .bytes _ _ :: _, e => .inr (beq_iff_eq.mp e)
  | .type _ :: _, e => .inr (beq_iff_eq.mp e)
  | .builtin _ :: _, e => .inr (beq_iff_eq.mp e)
theorem refsAE_pass (self : Value) (l : List Value) (e : refsAE l = true) : refuseLoop self "__setattr__" l = pure () := by
  induction l with
  | nil => exact absurd e (by decide)
  | cons a r ih =>
    rcases refsAE_cases _ e with ⟨c, r', q, h⟩ | q
    · cases q; rw [refuseLoop_ref]; exact ih h
    · rw [q]; exact ae_pass0 self
theorem refsAE_contains (Y : String) (l : List Value) (e : refsAE l = true) : l.contains (.type Y) = aeTail.contains (.type Y) := by
  induction l with
  | nil => exact absurd e (by decide)
  | cons a r ih =>
    rcases refsAE_cases _ e with ⟨c, r', q, h⟩ | q
    · cases q; rw [List.contains_cons, ih h]; rfl
    · rw [q]
section
variable {prog : Program} {w : World} {A : Around} {R : Result → Shared → Prop} {hp : Heap} {g : Array GenState} {d : Drawn} {t : Nat} {os : OsState}
/-- the first field of such an exception: its dict is laid -/
theorem osa_ae {K : W.Frag} {name : Str} {tk : Tok} {v : Value} {x C : Addr} {fv : Array Value} {cd : ClassData} (X : K.In hp) (hx : hp.get? x = some { cls := .ref C, data := .fields fv }) (hcd : W.clsIn K C = some cd) (hm : refsAE cd.mro = true) (hh : cd.hasDict = true)
    (ha : W.findIn K (.ref C) name = some none)
    (hq : ∀ h' tk' dx, (∀ b o, b ≠ x → hp.get? b = some o → h'.get? b = some o) → hp.objs.size ≤ dx → dx ≠ x → h'.get? x = some { cls := .ref C, dict := some dx, data := .fields fv } →
      h'.Ns1 dx (fun y => if y = name then some v else none) → R (.ok (.ret .none)) ⟨h', g, d, tk', os⟩) :
    codeAny (model prog w) A (.call (.builtin "object.__setattr__") ⟨[.ref x, .str name tk, v], []⟩) R ⟨hp, g, d, t, os⟩ := by
  have I : W.InstAt hp x { cls := .ref C, data := .fields fv } C none := ⟨hx, rfl, rfl, trivial⟩
  have SF := F.store_object
  have ne : cd.mro.isEmpty = false := by
    cases q : cd.mro with
    | nil => rw [q] at hm; exact absurd hm (by decide)
    | cons _ _ => rfl
  have hob : cd.mro.contains (.type "object") = true := (refsAE_contains "object" _ hm).trans (by decide +kernel)
  have hxs : x ≠ hp.objs.size := Nat.ne_of_lt (Heap.lt_size hx)
  have sub : W.Looks (model prog w) hp (isInstance (.ref x) (.type "object")) true := I.type.andThen (W.looks_mroIn X (by unfold W.mroIn; rw [hcd, Option.bind_some, if_neg (by rw [ne]; decide), hob]))
  refine codeAny_call_builtin SF.slot.plain SF.entry (@W.check_slot (model prog w) _ _ ⟨hp, g, d, t, os⟩ "object.__setattr__" "object" "__setattr__" (.ref x) [.str name tk, v] [] _ SF.kind SF.split sub (SF.args (.ref x) (.str name tk) v) ?_)
  have hmr : W.Looks (model prog w) hp (mroOf (.ref C)) cd.mro := (W.looks_clsIn X hcd).andThen .now
  have L3 : W.Looks (model prog w) hp (storeTaker? none) none := .now
  have hcls : W.Looks (model prog w) hp (classData C) cd := W.looks_clsIn X hcd
  rw [W.osa_eq, refuse_eq]
  refine wpAny_bind (wpAny_bind (I.type.at (wpAny_bind (hmr.at ?_))))
  rw [refsAE_pass _ _ hm]
  refine wpAny_pure (wpAny_bind (I.type.at (wpAny_bind ((W.looks_findIn X ha).at (wpAny_bind (L3.at ?_))))))
  show wpAny _ _ (storeInOwnDict (.ref x) (.ref C) (.str name tk) name v false) _ _ _
  obtain ⟨nm, bs, mro, ns, qn, hd, sn, sb, ab, col, del⟩ := cd
  dsimp only at hh
  subst hh
  unfold storeInOwnDict ownDictForStores
  repeat (first | with_reducible refine HandSPX.store_in_new ?_ ?_ | with_reducible refine wpAny_loadPart_at hx ?_ | with_reducible refine hcls.at ?_ | wp_step)
  · exact ⟨_, #[], _, (Heap.get?_update_ne _ _ _ _ hxs.symm).trans (Heap.get?_push_at rfl rfl), rfl, fun e he => absurd he (by simp), fun _ => rfl⟩
  · intro h' tk' hn' hs
    have hx₁ : (hp.push { cls := .type "dict", data := .dict #[] }).get? x = some { cls := .ref C, data := .fields fv } := Heap.get?_push_of_some _ hx
    refine hq h' tk' hp.objs.size (fun b o hb ho => ?_) (Nat.le_refl _) hxs.symm ?_ hn'
    · exact (hs.2 b (Nat.ne_of_lt (Heap.lt_size ho))).trans ((Heap.get?_update_ne _ _ _ _ hb).trans (Heap.get?_push_of_some _ ho))
    · exact (hs.2 x hxs).trans (Heap.get?_update_self _ hx₁ rfl)
end
end OEA
end PySem
namespace LL
open PySem PySem.Spec PyProof.Rows L2
structure OexAC (K : Frag) (C : Addr) : Prop where
  cls : ∃ nm q N bs bm sn sub ab col dd k0 k1 k2 k3 k5, K.lookup C = some (excClassObj nm q C N bs bm true sn sub ab col dd k0 k1 k2 k3 k5 "ArithmeticError.__new__") ∧ PySem.OEA.refsAE bm = true
  sa : PySem.W.findIn K (.ref C) "__setattr__" = some (some (.builtin "object.__setattr__"))
  exC : PySem.W.subIn K (.ref C) (.type "BaseException") = some true
  tyC : PySem.W.typeIn K (.ref C) = some (.type "type")
  kC : PySem.W.keepIn K (.ref C) = true
section
variable {X : Cx} {pins : List (Addr × Obj)} {σ : L2.St} {H : Hp} {s : Shared} {a C dx : Addr} {f : Str} {y : V} {u : Value} {fs : List (Str × V)} {E : Value → Shared → Prop} {A : Around}
theorem ostA_new {Q : Unit → Shared → Prop} (T : OexAC X.K C) (I : Inv X pins σ H s) (e : H a = some (exo a C none)) (hno : PySem.W.findIn X.K (.ref C) f = some none) (ry : RelV y u)
    (h : ∀ dx s', H dx = none → dx ≠ a → Inv X pins σ (upd (upd H dx (exd dx [(f, y)])) a (exo a C (some dx))) s' → Q () s') : wpAny (model X.prog X.w) A (setAttr (.ref a) f u) Q E s := by
  obtain ⟨nm, q, N, bs, bm, sn, sub, ab, col, dd, k0, k1, k2, k3, k5, hC, hbm⟩ := T.cls
  have hcl : PySem.W.clsIn X.K C = some { name := nm, bases := bs, mro := .ref C :: bm, ns := N, qualname := q, hasDict := true, slotNames := sn, subclasses := sub, abstract := ab, collection := col, hasDel := false } := by unfold PySem.W.clsIn; rw [hC] <;> rfl
  obtain ⟨t1, ho⟩ := exo_at I.hok e
  obtain ⟨hp, g, d, t, os⟩ := s
  refine PySem.W.set_plain I.kIn (ox := { cls := .ref C, dict := none, data := .fields #[.ref t1, .none, .none, .none, .bool false, .none] }) (od := none) ⟨ho, rfl, rfl, trivial⟩ T.sa ?_
  refine PySem.OEA.osa_ae I.kIn ho hcl (show PySem.OEA.refsAE (.ref C :: bm) = true from hbm) rfl hno (fun h' tk' dx k dn dne hx hn => ?_)
  have hnd : H dx = none := I.hok.fresh dn
  have nd : ∀ {b : Addr} {o : Obj}, hp.get? b = some o → b ≠ dx := fun {b o} q => Nat.ne_of_lt (Nat.lt_of_lt_of_le (Heap.lt_size q) dn)
  have na : ∀ {b : Addr}, H b = none → b ≠ a := fun {b} n z => by rw [z, e] at n; cases n
  have Un1 : Un X.fs [] H (upd (upd H dx (exd dx [(f, y)])) a (exo a C (some dx))) hp h' := {
    keep := fun b o q n _ _ => k b o (na n) q
    slot := fun b o q n _ _ => ⟨o.slots, k b o (na n) q⟩
    free := fun b o q n _ => by rw [upd_ne (na n), upd_ne (nd q)]; exact n
    there := fun b o q _ => by
      by_cases hb : b = a
      · exact ⟨_, by rw [hb]; exact hx⟩
      · exact ⟨o, k b o hb q⟩
    tups := fun b xs q => by rw [upd_ne (at_ne e q exo_tup), upd_ne (ne_of_none q hnd)]; exact q
    frzs := fun b o v q => by rw [upd_ne (at_ne e q exo_frz), upd_ne (ne_of_none q hnd)]; exact q
    tbls := fun b ps q => ⟨#[], by rw [upd_ne (at_ne e q exo_tbl), upd_ne (ne_of_none q hnd), q]; simp⟩ }
  refine h dx _ hnd dne (I.un (t' := tk') Un1 fun b o q => ?_)
  by_cases hb : b = a
  · subst hb
    rw [upd_same] at q; cases q
    exact exo_ok hx
  · rw [upd_ne hb] at q
    by_cases hd : b = dx
    · subst hd
      rw [upd_same] at q; cases q
      exact exd_ok hn (relO_put (fs := []) ry fun g => True.intro)
    · rw [upd_ne hd] at q
      exact (I.hok b o q).stay (fun c v hc z => k c v (by
          rcases hc with hc | hc
          · rw [hc]; exact hb
          · exact at_ne e hc exo_own) z)
        (fun c hc => by rw [upd_ne (at_ne e hc exo_own), upd_ne (ne_of_none hc hnd)]; exact hc) (fun c xs hc => by rw [upd_ne (at_ne e hc exo_tup), upd_ne (ne_of_none hc hnd)]; exact hc)
/-- self.f = e, the first field -/
def tOstA (K : Frag) (f : Str) (to te : TE) : TS := fun D σ H => te σ H fun y H1 => to σ H1 fun x H2 => ∃ a C : Addr, x = .ref a ∧ OexAC K C ∧ PySem.W.findIn K (.ref C) f = some none ∧
  H2 a = some (exo a C none) ∧ ∀ dx, H2 dx = none → dx ≠ a → D.nx σ (upd (upd H2 dx (exd dx [(f, y)])) a (exo a C (some dx)))
theorem ps_ostA {o e : Expr} {to te : TE} {p' pos : Pos} (ho : PE X o to) (he : PE X e te) (hs : swapsWith e (some (.Attribute o f p')) pos.line X.env = pure false := by rfl) : PS X (.Assign [.Attribute o f p'] e pos) (tOstA X.K f to te) := by
  refine ⟨fun pins s σ H D I h => ?_⟩
  refine plainObj_wpAny_Assign_Attribute (thn (he.run pins s σ H _ I h) fun v s1 ⟨y, H1, I1, r1, q1⟩ => thn (ho.run pins s1 σ H1 _ I1 q1) fun u s2 ⟨x, H2, I2, r2, a, C, ex, T, hno, ea, q⟩ => ?_) hs
  subst ex
  obtain rfl : u = Value.ref a := r2
  exact ostA_new T I2 ea hno r1 fun dx s' n ne J => ⟨σ, _, J, q dx n ne⟩
def spOexA (K : Frag) (f : Str) : Sp := fun vs H Q _ => ∃ a C v, vs = [.ref a, v] ∧ OexAC K C ∧ PySem.W.findIn K (.ref C) f = some none ∧ H a = some (exo a C none) ∧ ∀ dx, H dx = none → dx ≠ a → Q .non (upd (upd H dx (exd dx [(f, v)])) a (exo a C (some dx)))
theorem oexA_keeps {P : Program} {w : World} {K : Frag} {mg : Str → Option Value} {base : Heap} {qual : Str} {params : Arguments} {body : List Stmt} {scope : Scope} {f : Str} {fI : Addr} {fd : FuncData} {N : List Str} {p : Str}
    (F : FunD K "__init__" qual params body scope [] [] fI fd) (S : FnScope N ["self", p] scope) (hN : N = (["self", p] : List Str))
    (hbody : ∀ (cdv : Value) (A : Around) (outer : List Env) (s : Shared) (H : Hp) (E : XK), PSs (cxOf (L2N.CX P w) P w K mg base N qual scope fI cdv A outer s H E) body (tOstA K f (tVar 0) (tVar 1))) : FnOk P w K mg base (L2N.CX P w) 1 fI fd ["self", p] (spOexA K f) := by
  obtain ⟨oc, od, dV, kV, doc, pm, an, cdv, ct, osl, rfl, lk, hcd, _, _⟩ := F.ex
  refine fn_of lk hcd S (fun vs H Q E ⟨a, C, v, e, _⟩ => by rw [e]; rfl) fun A outer s H vs Q E _ hsp => ⟨_, hbody cdv A outer s H E, ?_⟩
  obtain ⟨a, C, v, rfl, T, hno, ha, q⟩ := hsp
  subst hN
  exact ⟨v, rfl, .ref a, rfl, a, C, rfl, T, hno, ha, fun dx n ne => q dx n ne⟩
end
structure OexAF (K : Frag) (x f : Str) : Prop where
  T : OexAC K (He.ga K x)
  hno : PySem.W.findIn K (.ref (He.ga K x)) f = some none
  iC : PySem.W.findIn K (.ref (He.ga K x)) "__init__" = some (some (.ref (He.ma K (He.ga K x) "__init__")))
  tI : PySem.W.typeIn K (.ref (He.ma K (He.ga K x) "__init__")) = some (.type "function")
structure OexAK (P : Program) (w : World) (K : Frag) (mg : Str → Option Value) (base : Heap) (fI : Addr) (f : Str) : Prop where
  ex : ∃ (fd : FuncData) (ps : List Str), FnOk P w K mg base (L2N.CX P w) 1 fI fd ps (spOexA K f) ∧ Binds K fd ps []
theorem js_raise1A {X : Cx} {W : WX} {x : Str} {p pos pos' : Pos} {f : Str} {e : Expr} {m : LE} (he : JE X W e m) (O : OexAF X.K x f) (hk : OexAK X.prog X.w X.K X.mg X.base (He.ma X.K (He.ga X.K x) "__init__") f) (hr : RoomG 2 X.A)
    (gC : X.mg x = some (.ref (He.ga X.K x))) (tk : L2N.Takes X W) (hc : X.calm = true := by rfl) (hg : Gl X x := by rfl) (hdb : (x == ("__debug__" : Str)) = false := by decide) (hs : starEach [e] X.env = (false, eval e X.env) :: starEach [] X.env := by rfl)
    (hpa : ∀ {t : TE}, PE X e t → PA X [e] (tCons t tNil) := by exact fun a => pa_cons a pa_nil) :
    JS X W (.Raise (some (.Call (.Name x p) [e] [] pos)) none pos') (sRaise1 x f m) := by
  have ha : PA X [e] (tCons (tE X.K W m) tNil) := hpa he.run
  obtain ⟨T, hno, iC, tI⟩ := O
  obtain ⟨fd, ps, F1, hb⟩ := hk.ex
  obtain ⟨nm, q, N, bs, bm, sn, sub, ab, col, dd, k0, k1, k2, k3, k5, hC, hbm⟩ := T.cls
  refine ⟨fun σ h A B l q => he.mono σ h _ _ _ _ (fun d h1 q1 => l.ex _ _ _ _ q1) (exOf.le l σ) q, PS.weak (L2N.ps_raise hc tk (pmkG F.excBase_ArithmeticError hC (fun Y => PySem.OEA.refsAE_contains Y _ hbm) T.kC (raises_own T.exC T.tyC) iC tI F1 hr.r hb (fun _ _ _ _ _ _ _ z => False.elim (let ⟨_, _, _, _, _, _, _, _, _, _, _, _, y⟩ := z; y)) hg gC ha hdb hs)) fun Dn σV H ⟨ι0, H0, ι, σ, h, e, hS, hH, q⟩ => ?_⟩
  refine tE.stm he.mono e hS hH q fun d h1 ι1 v H1 q1 e2 e1 hS1 hH1 rd => ?_
  refine ⟨by simp, fun a na => ⟨a, He.ga X.K x, v, rfl, T, hno, upd_same, fun dx nd ne => ⟨rfl, dx, [(f, v)], upd_same, ?_, ?_, ?_⟩⟩⟩
  · rw [upd_ne ne, upd_same]
  · rw [upd_ne ne] at nd; exact nd
  · rw [upd_ne ne] at nd
    rw [upd_eq_del na ne]
    have ex : Ext ι1 H1 ι1 (upd H1 dx (.xd [(f, v)])) := Ext.new nd
    exact q1 ι1 (some dx) σV _ (e1.trans ex) (hS1.ext ex) (hH1.new nd) ⟨_, upd_same, ⟨v, [], rfl, rd.ext ex, rfl⟩, hH1.notNew nd⟩
def oexAB (K : Frag) (x f : Str) : Bool := (match K.lookup (He.ga K x) with
  | some ⟨.type "type", _, .cls cd, sl⟩ => (match cd.mro, sl.toList with
    | .ref C' :: bm, [_, _, _, _, some (.builtin n), _] => C' == He.ga K x && (n == "ArithmeticError.__new__" && (!cd.hasDel && (cd.hasDict && PySem.OEA.refsAE bm)))
    | _, _ => false)
  | _ => false) && (decide (PySem.W.findIn K (.ref (He.ga K x)) "__setattr__" = some (some (.builtin "object.__setattr__"))) && (decide (PySem.W.subIn K (.ref (He.ga K x)) (.type "BaseException") = some true) && (decide (PySem.W.typeIn K (.ref (He.ga K x)) = some (.type "type")) && (PySem.W.keepIn K (.ref (He.ga K x)) &&
    (decide (PySem.W.findIn K (.ref (He.ga K x)) f = some none) && (decide (PySem.W.findIn K (.ref (He.ga K x)) "__init__" = some (some (.ref (He.ma K (He.ga K x) "__init__")))) && decide (PySem.W.typeIn K (.ref (He.ma K (He.ga K x) "__init__")) = some (.type "function"))))))))
theorem oexAB_ok {K : Frag} {x f : Str} (h : oexAB K x f = true) : OexAF K x f := by
  obtain ⟨h1, h⟩ := He.ba h
  obtain ⟨h2, h⟩ := He.ba h
  obtain ⟨h3, h⟩ := He.ba h
  obtain ⟨h4, h⟩ := He.ba h
  obtain ⟨h5, h⟩ := He.ba h
  obtain ⟨h6, h⟩ := He.ba h
  obtain ⟨h7, h8⟩ := He.ba h
  refine ⟨⟨?_, of_decide_eq_true h2, of_decide_eq_true h3, of_decide_eq_true h4, h5⟩, of_decide_eq_true h6, of_decide_eq_true h7, of_decide_eq_true h8⟩
  split at h1
  · rename_i dd cd sl ho
    split at h1
    · rename_i C' bm k0 k1 k2 k3 n k5 hm hs
      obtain ⟨g1, g⟩ := He.ba h1
      obtain ⟨g2, g⟩ := He.ba g
      obtain ⟨g3, g⟩ := He.ba g
      obtain ⟨g4, g5⟩ := He.ba g
      have e1 := beq_iff_eq.mp g1
      have e2 := beq_iff_eq.mp g2
      have e3 : cd.hasDel = false := by simpa using g3
      obtain ⟨nm, bs, mro, ns, qn, hd, sn, sub, ab, col, del⟩ := cd
      dsimp only at hm e3 g4
      subst hm e3 g4
      have hsl : sl = #[k0, k1, k2, k3, some (.builtin n), k5] := by
        obtain ⟨l⟩ := sl
        simp only at hs
        rw [hs]
      subst hsl e2
      rw [e1] at ho
      exact ⟨nm, qn, ns, bs, bm, sn, sub, ab, col, dd, k0, k1, k2, k3, k5, ho, g5⟩
    · cases h1
  · cases h1
end LL
end

section
set_option Elab.async false
set_option linter.all false
set_option maxRecDepth 100000
set_option maxHeartbeats 0
namespace LL.K67
open PySem PySem.Spec PyProof.Rows L2 LL
def top (i : Nat) : Stmt := PySem.Challenge.pw_smallheld_k67_deeds_taken_back.main.body.getD i (.Pass ⟨0, 0, 0, 0⟩)
def d_law_draw : He.DefD := ⟨("_law_draw", none), "_law_draw", "_law_draw", defArgs (top 45), defBody (top 45), defScope (top 45), [], []⟩
def d_law_one_of : He.DefD := ⟨("_law_one_of", none), "_law_one_of", "_law_one_of", defArgs (top 46), defBody (top 46), defScope (top 46), [], []⟩
def d_law_ways : He.DefD := ⟨("_law_ways", none), "_law_ways", "_law_ways", defArgs (top 47), defBody (top 47), defScope (top 47), [], []⟩
def d_law_told : He.DefD := ⟨("_law_told", none), "_law_told", "_law_told", defArgs (top 48), defBody (top 48), defScope (top 48), [], []⟩
def d_law_new : He.DefD := ⟨("_law_new", none), "_law_new", "_law_new", defArgs (top 50), defBody (top 50), defScope (top 50), [], []⟩
def d_NotALine_init : He.DefD := ⟨("NotALine", some "__init__"), "__init__", "NotALine.__init__", defArgs (inClass (top 6) 0), defBody (inClass (top 6) 0), defScope (inClass (top 6) 0), [], []⟩
def d_check_line : He.DefD := ⟨("check_line", none), "check_line", "check_line", defArgs (top 29), defBody (top 29), defScope (top 29), [], []⟩
def d_Flow_kept : He.DefD := ⟨("Flow", some "kept"), "kept", "Flow.kept", defArgs (inClass (top 39) 1), defBody (inClass (top 39) 1), defScope (inClass (top 39) 1), [], []⟩
def d_Flow_fresh : He.DefD := ⟨("Flow", some "fresh"), "fresh", "Flow.fresh", defArgs (inClass (top 39) 2), defBody (inClass (top 39) 2), defScope (inClass (top 39) 2), [], []⟩
def d_Session_show : He.DefD := ⟨("Session", some "show"), "show", "Session.show", defArgs (inClass (top 42) 1), defBody (inClass (top 42) 1), defScope (inClass (top 42) 1), [], []⟩
def d_Flow_init : He.DefD := ⟨("Flow", some "__init__"), "__init__", "Flow.__init__", defArgs (inClass (top 39) 0), defBody (inClass (top 39) 0), defScope (inClass (top 39) 0), [], []⟩
def d_Session_init : He.DefD := ⟨("Session", some "__init__"), "__init__", "Session.__init__", defArgs (inClass (top 42) 0), defBody (inClass (top 42) 0), defScope (inClass (top 42) 0), [], []⟩
def d_is_integer : He.DefD := ⟨("is_integer", none), "is_integer", "is_integer", defArgs (top 23), defBody (top 23), defScope (top 23), [], []⟩
def d_is_between : He.DefD := ⟨("is_between", none), "is_between", "is_between", defArgs (top 24), defBody (top 24), defScope (top 24), [], []⟩
def d_InvalidNumber_init : He.DefD := ⟨("InvalidNumber", some "__init__"), "__init__", "InvalidNumber.__init__", defArgs (inClass (top 8) 0), defBody (inClass (top 8) 0), defScope (inClass (top 8) 0), [], []⟩
def d_check_number : He.DefD := ⟨("check_number", none), "check_number", "check_number", defArgs (top 25), defBody (top 25), defScope (top 25), [], []⟩
def d_NotASetting_init : He.DefD := ⟨("NotASetting", some "__init__"), "__init__", "NotASetting.__init__", defArgs (inClass (top 5) 0), defBody (inClass (top 5) 0), defScope (inClass (top 5) 0), [], []⟩
def d_check_setting : He.DefD := ⟨("check_setting", none), "check_setting", "check_setting", defArgs (top 27), defBody (top 27), defScope (top 27), [], []⟩
def d_Line_init : He.DefD := ⟨("Line", some "__init__"), "__init__", "Line.__init__", defArgs (inClass (top 28) 0), defBody (inClass (top 28) 0), defScope (inClass (top 28) 0), [], []⟩
def d_InvalidRule_init : He.DefD := ⟨("InvalidRule", some "__init__"), "__init__", "InvalidRule.__init__", defArgs (inClass (top 7) 0), defBody (inClass (top 7) 0), defScope (inClass (top 7) 0), [], []⟩
def d_Setting_init : He.DefD := ⟨("Setting", some "__init__"), "__init__", "Setting.__init__", defArgs (inClass (top 26) 0), defBody (inClass (top 26) 0), defScope (inClass (top 26) 0), [], []⟩
def d_law_made : He.DefD := ⟨("_law_made", none), "_law_made", "_law_made", defArgs (top 49), defBody (top 49), defScope (top 49), [], []⟩
def d_law_outcome : He.DefD := ⟨("_law_outcome", none), "_law_outcome", "_law_outcome", defArgs (top 63), defBody (top 63), defScope (top 63), [], []⟩
def d_Session_check_free : He.DefD := ⟨("Session", some "check_free"), "check_free", "Session.check_free", defArgs (inClass (top 42) 2), defBody (inClass (top 42) 2), defScope (inClass (top 42) 2), [], []⟩
def d_Session_undo : He.DefD := ⟨("Session", some "undo"), "undo", "Session.undo", defArgs (inClass (top 42) 8), defBody (inClass (top 42) 8), defScope (inClass (top 42) 8), [], []⟩
def d_law_copied : He.DefD := ⟨("_law_copied", none), "_law_copied", "_law_copied", defArgs (top 61), defBody (top 61), defScope (top 61), [], []⟩
def d_law_job : He.DefD := ⟨("_law_job", none), "_law_job", "_law_job", defArgs (top 62), defBody (top 62), defScope (top 62), [], []⟩
def d_InvalidSide_init : He.DefD := ⟨("InvalidSide", some "__init__"), "__init__", "InvalidSide.__init__", defArgs (inClass (top 9) 0), defBody (inClass (top 9) 0), defScope (inClass (top 9) 0), [], []⟩
def d_check_side : He.DefD := ⟨("check_side", none), "check_side", "check_side", defArgs (top 32), defBody (top 32), defScope (top 32), [], []⟩
def d_check_deed : He.DefD := ⟨("check_deed", none), "check_deed", "check_deed", defArgs (top 35), defBody (top 35), defScope (top 35), [], []⟩
def d_TooMany_init : He.DefD := ⟨("TooMany", some "__init__"), "__init__", "TooMany.__init__", defArgs (inClass (top 14) 0), defBody (inClass (top 14) 0), defScope (inClass (top 14) 0), [], []⟩
def d_Flow_copied : He.DefD := ⟨("Flow", some "copied"), "copied", "Flow.copied", defArgs (inClass (top 39) 13), defBody (inClass (top 39) 13), defScope (inClass (top 39) 13), [], []⟩
def d_Flow_take_out : He.DefD := ⟨("Flow", some "take_out"), "take_out", "Flow.take_out", defArgs (inClass (top 39) 3), defBody (inClass (top 39) 3), defScope (inClass (top 39) 3), [], []⟩
def d_Flow_send : He.DefD := ⟨("Flow", some "send"), "send", "Flow.send", defArgs (inClass (top 39) 4), defBody (inClass (top 39) 4), defScope (inClass (top 39) 4), [], []⟩
def d_Flow_lets : He.DefD := ⟨("Flow", some "lets"), "lets", "Flow.lets", defArgs (inClass (top 39) 5), defBody (inClass (top 39) 5), defScope (inClass (top 39) 5), [], []⟩
def d_Flow_let_go : He.DefD := ⟨("Flow", some "let_go"), "let_go", "Flow.let_go", defArgs (inClass (top 39) 6), defBody (inClass (top 39) 6), defScope (inClass (top 39) 6), [], []⟩
def d_Flow_put : He.DefD := ⟨("Flow", some "put"), "put", "Flow.put", defArgs (inClass (top 39) 7), defBody (inClass (top 39) 7), defScope (inClass (top 39) 7), [], []⟩
def d_Flow_is_due : He.DefD := ⟨("Flow", some "is_due"), "is_due", "Flow.is_due", defArgs (inClass (top 39) 10), defBody (inClass (top 39) 10), defScope (inClass (top 39) 10), [], []⟩
def d_Flow_leave : He.DefD := ⟨("Flow", some "leave"), "leave", "Flow.leave", defArgs (inClass (top 39) 11), defBody (inClass (top 39) 11), defScope (inClass (top 39) 11), [], []⟩
def d_Flow_next_tick : He.DefD := ⟨("Flow", some "next_tick"), "next_tick", "Flow.next_tick", defArgs (inClass (top 39) 12), defBody (inClass (top 39) 12), defScope (inClass (top 39) 12), [], []⟩
def d_Flow_land : He.DefD := ⟨("Flow", some "land"), "land", "Flow.land", defArgs (inClass (top 39) 8), defBody (inClass (top 39) 8), defScope (inClass (top 39) 8), [], []⟩
def d_Flow_begin : He.DefD := ⟨("Flow", some "begin"), "begin", "Flow.begin", defArgs (inClass (top 39) 9), defBody (inClass (top 39) 9), defScope (inClass (top 39) 9), [], []⟩
def d_pass_ticks : He.DefD := ⟨("pass_ticks", none), "pass_ticks", "pass_ticks", defArgs (top 36), defBody (top 36), defScope (top 36), [], []⟩
def d_flow_behind : He.DefD := ⟨("flow_behind", none), "flow_behind", "flow_behind", defArgs (top 37), defBody (top 37), defScope (top 37), [], []⟩
def d_Session_do_deed : He.DefD := ⟨("Session", some "do_deed"), "do_deed", "Session.do_deed", defArgs (inClass (top 42) 3), defBody (inClass (top 42) 3), defScope (inClass (top 42) 3), [], []⟩
def d_Session_wait : He.DefD := ⟨("Session", some "wait"), "wait", "Session.wait", defArgs (inClass (top 42) 6), defBody (inClass (top 42) 6), defScope (inClass (top 42) 6), [], []⟩
def d_Session_write : He.DefD := ⟨("Session", some "write"), "write", "Session.write", defArgs (inClass (top 42) 4), defBody (inClass (top 42) 4), defScope (inClass (top 42) 4), [], []⟩
def d_Session_read : He.DefD := ⟨("Session", some "read"), "read", "Session.read", defArgs (inClass (top 42) 5), defBody (inClass (top 42) 5), defScope (inClass (top 42) 5), [], []⟩
def d_law_call : He.DefD := ⟨("_law_call", none), "_law_call", "_law_call", defArgs (top 60), defBody (top 60), defScope (top 60), [], []⟩
def d_law_send : He.DefD := ⟨("_law_send", none), "_law_send", "_law_send", defArgs (top 51), defBody (top 51), defScope (top 51), [], []⟩
def d_law_leave : He.DefD := ⟨("_law_leave", none), "_law_leave", "_law_leave", defArgs (top 54), defBody (top 54), defScope (top 54), [], []⟩
def d_law_land : He.DefD := ⟨("_law_land", none), "_law_land", "_law_land", defArgs (top 53), defBody (top 53), defScope (top 53), [], []⟩
def d_law_free : He.DefD := ⟨("_law_free", none), "_law_free", "_law_free", defArgs (top 52), defBody (top 52), defScope (top 52), [], []⟩
def d_law_waited : He.DefD := ⟨("_law_waited", none), "_law_waited", "_law_waited", defArgs (top 55), defBody (top 55), defScope (top 55), [], []⟩
def d_law_done : He.DefD := ⟨("_law_done", none), "_law_done", "_law_done", defArgs (top 56), defBody (top 56), defScope (top 56), [], []⟩
def d_Session_len : He.DefD := ⟨("Session", some "__len__"), "__len__", "Session.__len__", defArgs (inClass (top 42) 10), defBody (inClass (top 42) 10), defScope (inClass (top 42) 10), [], []⟩
def d_Session_repr : He.DefD := ⟨("Session", some "__repr__"), "__repr__", "Session.__repr__", defArgs (inClass (top 42) 11), defBody (inClass (top 42) 11), defScope (inClass (top 42) 11), [], []⟩
def d_law_shown : He.DefD := ⟨("_law_shown", none), "_law_shown", "_law_shown", defArgs (top 59), defBody (top 59), defScope (top 59), [], []⟩
def d_law_listed : He.DefD := ⟨("_law_listed", none), "_law_listed", "_law_listed", defArgs (top 57), defBody (top 57), defScope (top 57), [], []⟩
def d_law_view : He.DefD := ⟨("_law_view", none), "_law_view", "_law_view", defArgs (top 58), defBody (top 58), defScope (top 58), [], []⟩
def d_law_walked : He.DefD := ⟨("_law_walked", none), "_law_walked", "_law_walked", defArgs (top 64), defBody (top 64), defScope (top 64), [], []⟩
def d_law_right : He.DefD := ⟨("_law_right", none), "_law_right", "_law_right", defArgs (top 65), defBody (top 65), defScope (top 65), [], []⟩
def d_law_well : He.DefD := ⟨("_law_well", none), "_law_well", "_law_well", defArgs (top 44), defBody (top 44), defScope (top 44), [], []⟩
def d_law : He.DefD := ⟨("law", none), "law", "law", defArgs (top 66), defBody (top 66), defScope (top 66), [], []⟩
def fn0 : List He.DefD := [d_law_draw, d_law_one_of, d_law_ways, d_law_told, d_law_new, d_NotALine_init, d_check_line, d_Flow_kept, d_Flow_fresh, d_Session_show, d_Flow_init, d_Session_init, d_is_integer, d_is_between, d_InvalidNumber_init, d_check_number, d_NotASetting_init, d_check_setting, d_Line_init, d_InvalidRule_init, d_Setting_init, d_law_made, d_law_outcome, d_Session_check_free]
def fn1 : List He.DefD := [d_Session_undo, d_law_copied, d_law_job, d_InvalidSide_init, d_check_side, d_check_deed, d_TooMany_init, d_Flow_copied, d_Flow_take_out, d_Flow_send, d_Flow_lets, d_Flow_let_go, d_Flow_put, d_Flow_is_due, d_Flow_leave, d_Flow_next_tick, d_Flow_land, d_Flow_begin, d_pass_ticks, d_flow_behind, d_Session_do_deed, d_Session_wait, d_Session_write, d_Session_read]
def fn2 : List He.DefD := [d_law_call, d_law_send, d_law_leave, d_law_land, d_law_free, d_law_waited, d_law_done, d_Session_len, d_Session_repr, d_law_shown, d_law_listed, d_law_view, d_law_walked, d_law_right, d_law_well, d_law]
def fn : List He.DefD := fn0 ++ (fn1 ++ (fn2))
def fa0 : List He.Fa := [.glo "Busy", .glo "Flow", .glo "InvalidDeeds", .glo "InvalidNumber", .glo "InvalidRule", .glo "InvalidSide", .glo "Line", .glo "NotALine", .glo "NotASetting", .glo "NotThere", .glo "NothingToUndo", .glo "RULES", .glo "Session", .glo "Setting", .glo "TooMany", .glo "_law_call", .glo "_law_copied", .glo "_law_done", .glo "_law_draw", .glo "_law_free", .glo "_law_job", .glo "_law_land", .glo "_law_leave", .glo "_law_listed"]
def fa1 : List He.Fa := [.glo "_law_made", .glo "_law_new", .glo "_law_one_of", .glo "_law_outcome", .glo "_law_right", .glo "_law_send", .glo "_law_shown", .glo "_law_told", .glo "_law_view", .glo "_law_waited", .glo "_law_walked", .glo "_law_ways", .glo "_law_well", .glo "check_deed", .glo "check_line", .glo "check_number", .glo "check_setting", .glo "check_side", .glo "flow_behind", .glo "is_between", .glo "is_integer", .glo "law", .glo "pass_ticks", .free "abs"]
def fa2 : List He.Fa := [.free "all", .free "bool", .free "divmod", .free "int", .free "isinstance", .free "len", .free "list", .free "max", .free "min", .free "range", .free "repr", .free "sorted", .free "str", .free "sum", .free "tuple", .int "MOST_BYTES" 60, .int "MOST_DEEDS" 60, .int "MOST_DELAY" 200, .int "MOST_EVERY" 4, .int "MOST_SIZE" 40, .int "MOST_WAY" 200, .cls "Flow", .cls "Line", .cls "Moment"]
def fa3 : List He.Fa := [.cls "Session", .cls "Setting", .noat "Session" "busy", .noat "Flow" "come", .noat "Setting" "delay", .noat "Setting" "every", .noat "Line" "far", .noat "Flow" "first", .noat "Flow" "flight", .noat "Moment" "flow", .noat "Session" "flow", .noat "Flow" "full", .noat "Moment" "holding", .noat "Session" "holding", .noat "Flow" "known", .noat "Flow" "line", .noat "Session" "line", .noat "Flow" "log", .noat "Flow" "long", .noat "Line" "near", .noat "Moment" "now", .noat "Session" "now", .noat "Flow" "out", .noat "Moment" "past"]
def fa4 : List He.Fa := [.noat "Session" "past", .noat "Moment" "pieces", .noat "Session" "pieces", .noat "Setting" "rule", .noat "Flow" "settings", .noat "Line" "size", .noat "Flow" "small", .noat "Flow" "stock", .noat "Flow" "taken", .noat "Flow" "tick", .noat "Setting" "told", .noat "Line" "told", .noat "Moment" "unanswered", .noat "Session" "unanswered", .noat "Moment" "under_way", .noat "Session" "under_way", .noat "Moment" "unread", .noat "Session" "unread", .noat "Line" "way", .noat "Session" "__bool__", .meth "Flow" "begin", .meth "Flow" "copied", .meth "Flow" "fresh", .meth "Flow" "is_due"]
def fa5 : List He.Fa := [.meth "Flow" "kept", .meth "Flow" "land", .meth "Flow" "leave", .meth "Flow" "let_go", .meth "Flow" "lets", .meth "Flow" "next_tick", .meth "Flow" "put", .meth "Flow" "send", .meth "Flow" "take_out", .meth "Session" "__len__", .meth "Session" "__repr__", .meth "Session" "check_free", .meth "Session" "do_deed", .meth "Session" "read", .meth "Session" "show", .meth "Session" "undo", .meth "Session" "wait", .meth "Session" "write", .mkr "Flow", .mkr "Line", .mkr "Session", .mkr "Setting"]
def fa : List He.Fa := fa0 ++ (fa1 ++ (fa2 ++ (fa3 ++ (fa4 ++ (fa5)))))
def loose0 : List Str := ["_wall", "InputError", "StateError", "SizeError", "NotASetting", "NotALine", "InvalidRule", "InvalidNumber", "InvalidSide", "InvalidDeeds", "NotThere", "NothingToUndo", "Busy", "TooMany", "MOST_SIZE", "MOST_WAY", "MOST_EVERY", "MOST_DELAY", "MOST_BYTES", "MOST_DEEDS", "RULES", "is_integer", "is_between", "check_number"]
def loose1 : List Str := ["Setting", "check_setting", "Line", "check_line", "LENGTHS", "check_side", "is_deed", "check_deeds", "check_deed", "pass_ticks", "flow_behind", "Flow", "Moment", "Session", "_law_well", "_law_draw", "_law_one_of", "_law_ways", "_law_told", "_law_made", "_law_new", "_law_send", "_law_free", "_law_land"]
def loose2 : List Str := ["_law_leave", "_law_waited", "_law_done", "_law_listed", "_law_view", "_law_shown", "_law_call", "_law_copied", "_law_job", "_law_outcome", "_law_walked", "_law_right"]
def loose : List Str := loose0 ++ (loose1 ++ (loose2))
def is_Line : List (Ty × Bool) := [(.cl "Line", true)]
def is_Setting : List (Ty × Bool) := [(.cl "Setting", true)]
def is_bool : List (Ty × Bool) := [(.bt "int", false), (.bt "bool", true), (.bt "str", false), (.bt "NoneType", false), (.bt "tuple", false), (.bt "list", false), (.bt "dict", false)]
def is_int : List (Ty × Bool) := [(.bt "int", true), (.bt "bool", true), (.bt "str", false), (.bt "NoneType", false), (.bt "tuple", false), (.bt "list", false), (.bt "dict", false)]
def is_str : List (Ty × Bool) := [(.bt "str", true)]
def tup_RULES : D := .tup [.str "plain", .str "hold", .str "few"]
def exl_Busy : List (Str × Bool) := [("Busy", true), ("InvalidDeeds", false), ("InvalidNumber", false), ("InvalidRule", false), ("InvalidSide", false), ("NotALine", false), ("NotASetting", false), ("NotThere", false), ("NothingToUndo", false), ("TooMany", false)]
def exl_InvalidDeeds : List (Str × Bool) := [("Busy", false), ("InvalidDeeds", true), ("InvalidNumber", false), ("InvalidRule", false), ("InvalidSide", false), ("NotALine", false), ("NotASetting", false), ("NotThere", false), ("NothingToUndo", false), ("TooMany", false)]
def exl_InvalidNumber : List (Str × Bool) := [("Busy", false), ("InvalidDeeds", false), ("InvalidNumber", true), ("InvalidRule", false), ("InvalidSide", false), ("NotALine", false), ("NotASetting", false), ("NotThere", false), ("NothingToUndo", false), ("TooMany", false)]
def exl_InvalidSide : List (Str × Bool) := [("Busy", false), ("InvalidDeeds", false), ("InvalidNumber", false), ("InvalidRule", false), ("InvalidSide", true), ("NotALine", false), ("NotASetting", false), ("NotThere", false), ("NothingToUndo", false), ("TooMany", false)]
def exl_NotThere : List (Str × Bool) := [("Busy", false), ("InvalidDeeds", false), ("InvalidNumber", false), ("InvalidRule", false), ("InvalidSide", false), ("NotALine", false), ("NotASetting", false), ("NotThere", true), ("NothingToUndo", false), ("TooMany", false)]
def exl_NothingToUndo : List (Str × Bool) := [("Busy", false), ("InvalidDeeds", false), ("InvalidNumber", false), ("InvalidRule", false), ("InvalidSide", false), ("NotALine", false), ("NotASetting", false), ("NotThere", false), ("NothingToUndo", true), ("TooMany", false)]
def exl_TooMany : List (Str × Bool) := [("Busy", false), ("InvalidDeeds", false), ("InvalidNumber", false), ("InvalidRule", false), ("InvalidSide", false), ("NotALine", false), ("NotASetting", false), ("NotThere", false), ("NothingToUndo", false), ("TooMany", true)]
def ex (K : Frag) : Bool := tabsOk K && (is_Line.all (isB K (.cl "Line")) && (is_Setting.all (isB K (.cl "Setting")) && (is_bool.all (isB K (.bt "bool")) && (is_int.all (isB K (.bt "int")) && (is_str.all (isB K (.bt "str")) && (He.tupB K "RULES" [.str "plain", .str "hold", .str "few"] && (excB0 K "Busy" [.type "LookupError", .type "Exception", .type "BaseException", .type "object"] "LookupError.__new__" && (oexB K "InvalidNumber" "value" && (oexB K "InvalidRule" "value" && (oexB K "InvalidSide" "value" && (oexB K "NotALine" "value" && (oexB K "NotASetting" "value" && (excB0 K "NotThere" [.type "LookupError", .type "Exception", .type "BaseException", .type "object"] "LookupError.__new__" && (excB0 K "NothingToUndo" [.type "LookupError", .type "Exception", .type "BaseException", .type "object"] "LookupError.__new__" && (oexAB K "TooMany" "limit" && (exl_Busy.all (exmB K "Busy") && (exl_InvalidDeeds.all (exmB K "InvalidDeeds") && (exl_InvalidNumber.all (exmB K "InvalidNumber") && (exl_InvalidSide.all (exmB K "InvalidSide") && (exl_NotThere.all (exmB K "NotThere") && (exl_NothingToUndo.all (exmB K "NothingToUndo") && (exl_TooMany.all (exmB K "TooMany") && (xfnB K "InvalidDeeds" "index" && (xfnB K "InvalidNumber" "value" && (xfnB K "InvalidRule" "value" && (xfnB K "InvalidSide" "value" && (xfnB K "NotALine" "value" && (xfnB K "NotASetting" "value" && (xfnB K "TooMany" "limit")))))))))))))))))))))))))))))
theorem lamMem0 : ((("Session", some "show"), "Session.show.<locals>.<lambda>") : He.Defn × Str) ∈ lamNames := by decide +kernel
theorem lamMem1 : ((("_law_listed", none), "_law_listed.<locals>.<lambda>") : He.Defn × Str) ∈ lamNames := by decide +kernel
theorem lamMem2 : ((("_law_right", none), "_law_right.<locals>.<lambda>") : He.Defn × Str) ∈ lamNames := by decide +kernel
def tf : List He.Defn := [("Session", some "show"), ("_law_listed", none), ("_law_right", none)]
abbrev cs_busy : List Str := ["Session"]
abbrev cs_come : List Str := ["Flow"]
abbrev cs_delay : List Str := ["Setting"]
abbrev cs_every : List Str := ["Setting"]
abbrev cs_far : List Str := ["Line"]
abbrev cs_first : List Str := ["Flow"]
abbrev cs_flight : List Str := ["Flow"]
abbrev cs_flow : List Str := ["Moment", "Session"]
abbrev cs_full : List Str := ["Flow"]
abbrev cs_holding : List Str := ["Moment", "Session"]
abbrev cs_known : List Str := ["Flow"]
abbrev cs_line : List Str := ["Flow", "Session"]
abbrev cs_log : List Str := ["Flow"]
abbrev cs_long : List Str := ["Flow"]
abbrev cs_near : List Str := ["Line"]
abbrev cs_now : List Str := ["Moment", "Session"]
abbrev cs_out : List Str := ["Flow"]
abbrev cs_past : List Str := ["Moment", "Session"]
abbrev cs_pieces : List Str := ["Moment", "Session"]
abbrev cs_rule : List Str := ["Setting"]
abbrev cs_settings : List Str := ["Flow"]
abbrev cs_size : List Str := ["Line"]
abbrev cs_small : List Str := ["Flow"]
abbrev cs_stock : List Str := ["Flow"]
abbrev cs_taken : List Str := ["Flow"]
abbrev cs_tick : List Str := ["Flow"]
abbrev cs_told : List Str := ["Setting", "Line"]
abbrev cs_unanswered : List Str := ["Moment", "Session"]
abbrev cs_under_way : List Str := ["Moment", "Session"]
abbrev cs_unread : List Str := ["Moment", "Session"]
abbrev cs_way : List Str := ["Line"]
abbrev R : PySem.W.OpenRow := PySem.W.OpenLaw.row PySem.Challenge.rw_smallheld_k67_deeds_taken_back
abbrev hk : PySem.W.Hook := hookL 6 fa fn [] tf ex
def ob (s : PySem.W.SharedT) : He.AlX := obsL 6 fa fn [] tf ex (HandSHeadRun.getT s)
theorem ob_eq (s : PySem.W.SharedT) : ob s = hk.obs s.abs := obsL_eq (HandSHeadRun.getT_eq s)
end LL.K67
end

section
set_option Elab.async false
set_option linter.all false
set_option maxRecDepth 100000
/-! K67Pure: what a session does, in plain Lean: one state, tick by tick, and from event to event. -/
namespace LL.K67
structure Row where
  kept : Int
  sent : Int
  known : Int
  small : Int
  come : Int
  taken : Int
  full : Int
  first : Option Int
structure Pc where
  born : Int
  side : Bool
  amt : Int
  ans : Int
/-- rule: 0 plain, 1 hold, 2 few -/
structure Par where
  size : Int
  way : Int
  rule : Bool → Nat
  every : Bool → Int
  delay : Bool → Int
structure St where
  tick : Int
  row : Bool → Row
  flight : List Pc
  log : List Pc
structure Par.Ok (P : Par) : Prop where
  s1 : 1 ≤ P.size
  s2 : P.size ≤ 40
  w1 : 1 ≤ P.way
  w2 : P.way ≤ 200
  e1 : ∀ s, 1 ≤ P.every s
  e2 : ∀ s, P.every s ≤ 4
  d1 : ∀ s, 0 ≤ P.delay s
  d2 : ∀ s, P.delay s ≤ 200
  r : ∀ s, P.rule s < 3
def upR {α : Type} (f : Bool → α) (s : Bool) (r : α) : Bool → α := fun t => if t = s then r else f t
@[simp] theorem upR_same {α : Type} {f : Bool → α} {s : Bool} {r : α} : upR f s r s = r := if_pos rfl
@[simp] theorem upR_not {α : Type} {f : Bool → α} {s : Bool} {r : α} : upR f s r (!s) = f (!s) := if_neg (by cases s <;> decide)
@[simp] theorem upR_not' {α : Type} {f : Bool → α} {s : Bool} {r : α} : upR f (!s) r s = f s := if_neg (by cases s <;> decide)
theorem upR_ne {α : Type} {f : Bool → α} {s t : Bool} {r : α} (h : t ≠ s) : upR f s r t = f t := if_neg h
theorem bool_cases (s t : Bool) : t = s ∨ t = !s := by cases s <;> cases t <;> decide

def sendR (P : Par) (m : Int) (r : Row) : Row := { r with kept := r.kept - m, sent := r.sent + m, small := if 0 < m ∧ m < P.size then r.sent + m else r.small, full := 0, first := none }
def send (P : Par) (s : Bool) (m : Int) (S : St) : St :=
  { S with row := upR S.row s (sendR P m (S.row s)), flight := S.flight ++ [⟨S.tick, s, m, (S.row s).come⟩], log := S.log ++ [⟨S.tick, s, m, (S.row s).come⟩] }
def sends (P : Par) (s : Bool) : Nat → St → St
  | 0, S => S
  | n + 1, S => send P s P.size (sends P s n S)
def letsR (P : Par) (s : Bool) (r : Row) : Bool := decide (P.rule s = 0) || !decide (r.known < (if P.rule s = 1 then r.sent else r.small))
def free (P : Par) (s : Bool) (S : St) : St :=
  let S1 := sends P s ((S.row s).kept / P.size).toNat S
  if 0 < (S1.row s).kept ∧ letsR P s (S1.row s) = true then send P s (S1.row s).kept S1 else S1
def landR (P : Par) (tick : Int) (p : Pc) (r : Row) : Row := { r with known := if p.ans > r.known then p.ans else r.known, come := r.come + p.amt, full := r.full + (if p.amt = P.size then 1 else 0), first := if 0 < p.amt ∧ r.first = none then some tick else r.first }
def landOne (P : Par) (S : St) (p : Pc) : St := { S with row := upR S.row (!p.side) (landR P S.tick p (S.row (!p.side))) }
def here (P : Par) (t : Int) (fl : List Pc) : List Pc := fl.filter fun p => decide (p.born ≤ t - P.way)
def away (P : Par) (t : Int) (fl : List Pc) : List Pc := fl.filter fun p => decide (p.born > t - P.way)
def land (P : Par) (S : St) : St := { (here P S.tick S.flight).foldl (landOne P) S with flight := away P S.tick S.flight }
def dueR (P : Par) (s : Bool) (t : Int) (r : Row) : Bool := decide (r.full ≥ P.every s) || (match r.first with | none => false | some f => decide (t ≥ f + P.delay s))
def leave1 (P : Par) (s : Bool) (S : St) : St := if dueR P s S.tick (S.row s) = true then send P s 0 S else S
def leave (P : Par) (S : St) : St := leave1 P true (leave1 P false S)
def at_ (t : Int) (S : St) : St := { S with tick := t }
def begin_ (P : Par) (t : Int) (S : St) : St := free P true (free P false (land P (at_ t S)))
def step (P : Par) (S : St) : St := begin_ P (S.tick + 1) (leave P S)
def waited (P : Par) : Nat → St → St
  | 0, S => S
  | n + 1, S => step P (waited P n S)

/-! ### what never changes -/
section
variable {P : Par} {S : St} {s t : Bool}
@[simp] theorem send_tick {m : Int} : (send P s m S).tick = S.tick := rfl
@[simp] theorem sends_tick : ∀ {n : Nat}, (sends P s n S).tick = S.tick
  | 0 => rfl
  | n + 1 => sends_tick (n := n)
@[simp] theorem free_tick : (free P s S).tick = S.tick := by
  unfold free
  simp only
  split <;> simp
theorem fold_land : ∀ {ps : List Pc} {S : St}, (ps.foldl (landOne P) S).tick = S.tick ∧ (ps.foldl (landOne P) S).flight = S.flight ∧ (ps.foldl (landOne P) S).log = S.log
  | [], _ => ⟨rfl, rfl, rfl⟩
  | p :: ps, S => fold_land (ps := ps) (S := landOne P S p)
@[simp] theorem land_tick : (land P S).tick = S.tick := fold_land.1
@[simp] theorem leave1_tick : (leave1 P s S).tick = S.tick := by unfold leave1; split <;> rfl
@[simp] theorem leave_tick : (leave P S).tick = S.tick := by unfold leave; simp
@[simp] theorem at_tick {t : Int} : (at_ t S).tick = t := rfl
@[simp] theorem begin_tick {t : Int} : (begin_ P t S).tick = t := by unfold begin_; simp
@[simp] theorem step_tick : (step P S).tick = S.tick + 1 := by unfold step; simp
theorem waited_tick : ∀ {n : Nat}, (waited P n S).tick = S.tick + n
  | 0 => by simp [waited]
  | n + 1 => by simp [waited, waited_tick (n := n)]; omega
theorem at_at {t u : Int} : at_ t (at_ u S) = at_ t S := rfl
theorem begin_at {t u : Int} : begin_ P t (at_ u S) = begin_ P t S := rfl

/-! ### settled, due -/
def Settled (P : Par) (s : Bool) (S : St) : Prop := 0 ≤ (S.row s).kept ∧ (S.row s).kept < P.size ∧ ¬ (0 < (S.row s).kept ∧ letsR P s (S.row s) = true)
theorem free_settled (h : Settled P s S) : free P s S = S := by
  obtain ⟨h1, h2, h3⟩ := h
  have e : ((S.row s).kept / P.size).toNat = 0 := by
    rw [Int.ediv_eq_zero_of_lt h1 h2]; rfl
  unfold free
  rw [e]
  exact if_neg h3
@[simp] theorem send_row {m : Int} : (send P s m S).row s = sendR P m (S.row s) := upR_same
@[simp] theorem send_other {m : Int} : (send P s m S).row (!s) = S.row (!s) := upR_not
theorem sends_other : ∀ {n : Nat}, (sends P s n S).row (!s) = S.row (!s)
  | 0 => rfl
  | n + 1 => (send_other).trans (sends_other (n := n))
theorem sends_kept : ∀ {n : Nat}, ((sends P s n S).row s).kept = (S.row s).kept - n * P.size
  | 0 => by simp [sends]
  | n + 1 => by
    show ((send P s P.size (sends P s n S)).row s).kept = _
    rw [send_row]
    show ((sends P s n S).row s).kept - P.size = _
    rw [sends_kept (n := n)]
    rw [Int.natCast_succ, Int.add_mul]; omega
theorem free_other : (free P s S).row (!s) = S.row (!s) := by
  unfold free
  simp only
  split
  · rw [send_other, sends_other]
  · exact sends_other
theorem div_rest {k z : Int} (h : 0 ≤ k) (hz : 1 ≤ z) : 0 ≤ k - (k / z).toNat * z ∧ k - (k / z).toNat * z < z := by
  have h1 : 0 ≤ k / z := Int.ediv_nonneg h (by omega)
  rw [Int.toNat_of_nonneg h1]
  have h2 := Int.emod_add_mul_ediv k z
  have h3 := Int.emod_nonneg k (show z ≠ 0 by omega)
  have h4 := Int.emod_lt_of_pos k (show 0 < z by omega)
  rw [Int.mul_comm] at h2
  omega
theorem free_settles (hP : P.Ok) (h : 0 ≤ (S.row s).kept) : Settled P s (free P s S) := by
  have d := div_rest h hP.s1
  unfold free
  simp only
  have k := sends_kept (P := P) (S := S) (s := s) (n := ((S.row s).kept / P.size).toNat)
  split
  · unfold Settled
    rw [send_row]
    simp only [sendR]
    have := hP.s1
    refine ⟨by omega, by omega, fun z => ?_⟩
    omega
  · rename_i z
    unfold Settled
    rw [k]
    refine ⟨d.1, d.2, ?_⟩
    rw [k] at z
    exact z
theorem settled_of (e1 : S.row s = S'.row s) (h : Settled P s S) : Settled P s S' := by
  unfold Settled at *
  rw [← e1]; exact h
theorem settled_not (h : Settled P s S) : Settled P s (free P (!s) S) := by
  refine settled_of ?_ h
  have := free_other (P := P) (s := !s) (S := S)
  rw [Bool.not_not] at this
  exact this.symm
/-- what leaving changes in a row: full and first -/
def calmR (r r' : Row) : Prop := r'.kept = r.kept ∧ r'.sent = r.sent ∧ r'.known = r.known ∧ r'.small = r.small ∧ r'.come = r.come ∧ r'.taken = r.taken
theorem calmR.refl (r : Row) : calmR r r := ⟨rfl, rfl, rfl, rfl, rfl, rfl⟩
theorem calmR.trans {a b c : Row} (h : calmR a b) (k : calmR b c) : calmR a c := by
  obtain ⟨h1, h2, h3, h4, h5, h6⟩ := h
  obtain ⟨k1, k2, k3, k4, k5, k6⟩ := k
  exact ⟨k1.trans h1, k2.trans h2, k3.trans h3, k4.trans h4, k5.trans h5, k6.trans h6⟩
theorem calm_send0 (t : Bool) : calmR (S.row t) ((send P s 0 S).row t) := by
  rcases bool_cases s t with rfl | rfl
  · rw [send_row]
    simp [sendR, calmR]
  · rw [send_other]; exact .refl _
theorem calm_leave1 (t : Bool) : calmR (S.row t) ((leave1 P s S).row t) := by
  unfold leave1
  split
  · exact calm_send0 t
  · exact .refl _
theorem calm_leave (t : Bool) : calmR (S.row t) ((leave P S).row t) := (calm_leave1 t).trans (calm_leave1 t)
theorem settled_calm (c : calmR (S.row s) (S'.row s)) (h : Settled P s S) : Settled P s S' := by
  obtain ⟨h1, h2, h3, h4, _, _⟩ := c
  unfold Settled letsR at *
  rw [h1, h2, h3, h4]; exact h
def Due (P : Par) (s : Bool) (S : St) : Prop := dueR P s S.tick (S.row s) = true
theorem leave1_not (hP : P.Ok) : ¬ Due P s (leave1 P s S) := by
  unfold leave1
  split
  · unfold Due
    rw [send_row]
    have := hP.e1 s
    simp [dueR, sendR]
    omega
  · rename_i z; exact z
theorem leave1_other : (leave1 P s S).row (!s) = S.row (!s) := by
  unfold leave1
  split
  · exact send_other
  · rfl
theorem leave_not (hP : P.Ok) (s : Bool) : ¬ Due P s (leave P S) := by
  unfold leave
  cases s with
  | true => exact leave1_not hP
  | false =>
    intro z
    refine leave1_not (P := P) (s := false) (S := S) hP ?_
    unfold Due at *
    rw [leave1_tick] at z
    rw [show (leave1 P true (leave1 P false S)).row false = (leave1 P false S).row false from leave1_other (s := true)] at z
    exact z
theorem leave_id (h : ∀ s, ¬ Due P s S) : leave P S = S := by
  have e : leave1 P false S = S := if_neg (h false)
  unfold leave
  rw [e]
  exact if_neg (h true)
end

/-! ### from event to event -/
section
variable {P : Par} {S F : St} {s : Bool}
def tickF (P : Par) (S : St) (s : Bool) : List Int := match (S.row s).first with | none => [] | some f => [f + P.delay s]
def ticks (P : Par) (S : St) : List Int := S.flight.map (fun p => p.born + P.way) ++ tickF P S false ++ tickF P S true
theorem mem_tickF {f : Int} (h : (S.row s).first = some f) : f + P.delay s ∈ ticks P S := by
  have : f + P.delay s ∈ tickF P S s := by unfold tickF; rw [h]; exact List.mem_singleton.mpr rfl
  unfold ticks
  cases s <;> simp [this]
theorem mem_tickA {p : Pc} (h : p ∈ S.flight) : p.born + P.way ∈ ticks P S := by
  unfold ticks
  simp only [List.mem_append, List.mem_map]
  exact .inl (.inl ⟨p, h, rfl⟩)
theorem land_kept {t : Bool} : ∀ {ps : List Pc} {S : St}, ((ps.foldl (landOne P) S).row t).kept = (S.row t).kept
  | [], _ => rfl
  | p :: ps, S => by
    rw [List.foldl_cons, land_kept (ps := ps)]
    unfold landOne
    by_cases z : t = !p.side
    · subst z; simp [landR]
    · simp [upR_ne z]
theorem begin_settles {t : Int} (hP : P.Ok) (h : ∀ s, 0 ≤ (S.row s).kept) (s : Bool) : Settled P s (begin_ P t S) := by
  have k : ∀ s, 0 ≤ ((land P (at_ t S)).row s).kept := fun s => by
    show 0 ≤ (((here P t S.flight).foldl (landOne P) (at_ t S)).row s).kept
    rw [land_kept]; exact h s
  have a := free_settles (s := false) hP (k false)
  have o : ((free P false (land P (at_ t S))).row true) = (land P (at_ t S)).row true := free_other (s := false)
  cases s with
  | true => exact free_settles hP (by rw [o]; exact k true)
  | false => exact settled_not (s := false) a
theorem waited_settled (hP : P.Ok) (h : ∀ s, Settled P s S) : ∀ n s, Settled P s (waited P n S)
  | 0, s => h s
  | n + 1, s => begin_settles hP (fun t => (settled_calm (calm_leave t) (waited_settled hP h n t)).1) s
theorem quiet {t : Int} (hs : ∀ s, Settled P s F) (hq : ∀ y ∈ ticks P F, t < y) : begin_ P t F = at_ t F := by
  have e1 : here P t F.flight = [] := by
    unfold here
    rw [List.filter_eq_nil_iff]
    intro p hp
    have := hq _ (mem_tickA (P := P) hp)
    simp only [decide_eq_true_eq]
    omega
  have e2 : away P t F.flight = F.flight := by
    unfold away
    rw [List.filter_eq_self]
    intro p hp
    have := hq _ (mem_tickA (P := P) hp)
    simp only [decide_eq_true_eq]
    omega
  have e3 : land P (at_ t F) = at_ t F := by
    unfold land
    show ({ (here P t F.flight).foldl (landOne P) (at_ t F) with flight := away P t F.flight } : St) = _
    rw [e1, e2]
    rfl
  unfold begin_
  rw [e3, free_settled (S := at_ t F) (settled_of (S := F) rfl (hs false)), free_settled (S := at_ t F) (settled_of (S := F) rfl (hs true))]
theorem due_later {t : Int} (h : ¬ Due P s F) (hq : ∀ y ∈ ticks P F, t < y) : ¬ Due P s (at_ t F) := by
  unfold Due dueR at *
  show ¬ (decide ((F.row s).full ≥ P.every s) || (match (F.row s).first with | none => false | some f => decide (t ≥ f + P.delay s))) = true
  simp only [Bool.or_eq_true, decide_eq_true_eq, not_or] at h ⊢
  refine ⟨h.1, ?_⟩
  cases q : (F.row s).first with
  | none => simp
  | some f =>
    have := hq _ (mem_tickF q)
    simp
    omega
theorem quiet_run {j : Nat} (hP : P.Ok) (h : ∀ s, Settled P s S) (e : F = leave P (waited P j S)) : ∀ d : Nat, (∀ y ∈ ticks P F, S.tick + (j + d : Nat) < y) → leave P (waited P (j + d) S) = at_ (S.tick + (j + d : Nat)) F
  | 0, hq => by
    have t : F.tick = S.tick + (j : Nat) := by rw [e, leave_tick, waited_tick]
    show leave P (waited P j S) = at_ (S.tick + (j : Nat)) F
    rw [← e, ← t]; rfl
  | d + 1, hq => by
    have ih := quiet_run hP h e d fun y hy => by have := hq y hy; omega
    show leave P (begin_ P ((waited P (j + d) S).tick + 1) (leave P (waited P (j + d) S))) = _
    rw [ih, begin_at, waited_tick]
    have et : S.tick + ((j + d : Nat) : Int) + 1 = S.tick + ((j + (d + 1) : Nat) : Int) := by omega
    rw [et]
    have sF : ∀ s, Settled P s F := fun s => by rw [e]; exact settled_calm (calm_leave s) (waited_settled hP h j s)
    have dF : ∀ s, ¬ Due P s F := fun s => by rw [e]; exact leave_not hP s
    rw [quiet sF hq]
    exact leave_id fun s => due_later (dF s) hq
theorem jump {j m : Nat} (hP : P.Ok) (h : ∀ s, Settled P s S) (e : F = leave P (waited P j S)) (hj : j < m) (hq : ∀ y ∈ ticks P F, S.tick + (m : Nat) ≤ y) : begin_ P (S.tick + (m : Nat)) F = waited P m S := by
  obtain ⟨d, rfl⟩ : ∃ d, m = j + d + 1 := ⟨m - j - 1, by omega⟩
  have a := quiet_run hP h e d fun y hy => by have := hq y hy; omega
  show _ = begin_ P ((waited P (j + d) S).tick + 1) (leave P (waited P (j + d) S))
  rw [a, begin_at, waited_tick]
  congr 1
  omega
/-- what flies lands later -/
def Later (P : Par) (S : St) : Prop := ∀ p ∈ S.flight, S.tick < p.born + P.way
theorem later_send (hP : P.Ok) {m : Int} (h : Later P S) : Later P (send P s m S) := by
  intro p hp
  have hp : p ∈ S.flight ++ [(⟨S.tick, s, m, (S.row s).come⟩ : Pc)] := hp
  rcases List.mem_append.mp hp with hp | hp
  · exact h p hp
  · obtain rfl := List.mem_singleton.mp hp
    have := hP.w1
    show S.tick < S.tick + P.way
    omega
theorem later_sends (hP : P.Ok) (h : Later P S) : ∀ n, Later P (sends P s n S)
  | 0 => h
  | n + 1 => later_send hP (later_sends hP h n)
theorem later_free (hP : P.Ok) (h : Later P S) : Later P (free P s S) := by
  unfold free
  simp only
  split
  · exact later_send hP (later_sends hP h _)
  · exact later_sends hP h _
theorem later_begin {t : Int} (hP : P.Ok) : Later P (begin_ P t S) := by
  refine later_free hP (later_free hP fun p hp => ?_)
  have hp : p ∈ away P t S.flight := hp
  have := (List.mem_filter.mp hp).2
  simp only [decide_eq_true_eq] at this
  rw [land_tick, at_tick]
  omega
theorem later_leave1 (hP : P.Ok) (h : Later P S) : Later P (leave1 P s S) := by
  unfold leave1
  split
  · exact later_send hP h
  · exact h
theorem later_leave (hP : P.Ok) (h : Later P S) : Later P (leave P S) := later_leave1 hP (later_leave1 hP h)
theorem waited_later (hP : P.Ok) (h : Later P S) : ∀ n, Later P (waited P n S)
  | 0 => h
  | n + 1 => later_begin hP
theorem ticks_later (hP : P.Ok) (h : Later P S) : ∀ y ∈ ticks P (leave P S), S.tick < y := by
  intro y hy
  have hl := later_leave hP h
  unfold ticks at hy
  simp only [List.mem_append, List.mem_map] at hy
  have key : ∀ s, y ∈ tickF P (leave P S) s → S.tick < y := by
    intro s hy
    have nd := leave_not (S := S) hP s
    unfold tickF at hy
    cases q : ((leave P S).row s).first with
    | none => rw [q] at hy; cases hy
    | some f =>
      rw [q] at hy
      obtain rfl := List.mem_singleton.mp hy
      unfold Due dueR at nd
      rw [q, leave_tick] at nd
      simp only [Bool.or_eq_true, decide_eq_true_eq, not_or] at nd
      omega
  rcases hy with (⟨p, hp, rfl⟩ | hy) | hy
  · have := hl p hp
    rw [leave_tick] at this
    exact this
  · exact key _ hy
  · exact key _ hy
/-- the next event -/
theorem jump_next {j n : Nat} {a : Int} (hP : P.Ok) (h : ∀ s, Settled P s S) (hl : Later P S) (e : F = leave P (waited P j S)) (ha : a ∈ ticks P F) (hm : ∀ y ∈ ticks P F, a ≤ y) (hn : a < S.tick + (n : Nat)) : ∃ j', j < j' ∧ j' < n ∧ a = S.tick + (j' : Nat) ∧ begin_ P a F = waited P j' S := by
  have l := ticks_later hP (waited_later hP hl j) a (by rw [← e]; exact ha)
  rw [waited_tick] at l
  refine ⟨(a - S.tick).toNat, by omega, by omega, by omega, ?_⟩
  have ea : a = S.tick + ((a - S.tick).toNat : Nat) := by omega
  have := jump (m := (a - S.tick).toNat) hP h e (by omega) (fun y hy => by rw [← ea]; exact hm y hy)
  rw [← ea] at this
  exact this
end
end LL.K67
end

section
set_option Elab.async false
set_option linter.all false
set_option maxRecDepth 100000
/-! K67Good: bounds and what stays true. -/
namespace LL.K67
def amts (s : Bool) (ps : List Pc) : Int := ((ps.filter fun p => p.side = s).map (·.amt)).sum
theorem amts_nil {s : Bool} : amts s [] = 0 := rfl
theorem amts_cons {s : Bool} {p : Pc} {ps : List Pc} : amts s (p :: ps) = (if p.side = s then p.amt else 0) + amts s ps := by
  unfold amts
  by_cases z : p.side = s
  · simp [List.filter_cons, z]
  · simp [List.filter_cons, z]
theorem amts_append {s : Bool} {ps : List Pc} : ∀ {qs : List Pc}, amts s (qs ++ ps) = amts s qs + amts s ps
  | [] => by simp [amts_nil]
  | q :: qs => by rw [List.cons_append, amts_cons, amts_cons, amts_append]; omega
theorem amts_nonneg {s : Bool} : ∀ {ps : List Pc}, (∀ p ∈ ps, 0 ≤ p.amt) → 0 ≤ amts s ps
  | [], _ => by rw [amts_nil]; omega
  | p :: ps, h => by
    rw [amts_cons]
    have := amts_nonneg (s := s) (ps := ps) fun q hq => h q (List.mem_cons_of_mem _ hq)
    have := h p List.mem_cons_self
    split <;> omega
theorem amts_split {s : Bool} {P : Par} {t : Int} : ∀ {ps : List Pc}, amts s (here P t ps) + amts s (away P t ps) = amts s ps
  | [] => rfl
  | p :: ps => by
    have ih := amts_split (s := s) (P := P) (t := t) (ps := ps)
    unfold here away at *
    by_cases z : p.born ≤ t - P.way
    · have z' : ¬ p.born > t - P.way := by omega
      rw [List.filter_cons_of_pos (by simpa using z), List.filter_cons_of_neg (by simpa using z'), amts_cons, amts_cons]
      omega
    · have z' : p.born > t - P.way := by omega
      rw [List.filter_cons_of_neg (by simpa using z), List.filter_cons_of_pos (by simpa using z'), amts_cons, amts_cons]
      omega
structure Good (P : Par) (B L : Int) (S : St) : Prop where
  t0 : 0 ≤ S.tick
  k0 : ∀ s, 0 ≤ (S.row s).kept
  s0 : ∀ s, 0 ≤ (S.row s).sent
  c0 : ∀ s, 0 ≤ (S.row s).come
  kn : ∀ s, (S.row s).known ≤ (S.row s).sent
  kb : ∀ s, (S.row s).kept + (S.row s).sent ≤ B
  eq : ∀ s, (S.row (!s)).come + amts s S.flight = (S.row s).sent
  am : ∀ p ∈ S.flight, 0 ≤ p.amt
  an : ∀ p ∈ S.flight, p.ans ≤ (S.row (!p.side)).sent
  lg : (S.log.length : Int) ≤ (S.row false).sent + (S.row true).sent + L
  fl : S.flight.length ≤ S.log.length
  lp : ∀ p ∈ S.log, 0 ≤ p.born ∧ p.born ≤ S.tick ∧ 0 ≤ p.amt ∧ p.amt ≤ B ∧ 0 ≤ p.ans ∧ p.ans ≤ B
section
variable {P : Par} {B L : Int} {S : St} {s : Bool}
theorem Good.comeLe (g : Good P B L S) (s : Bool) : (S.row s).come ≤ (S.row (!s)).sent := by
  have h := g.eq (!s)
  rw [Bool.not_not] at h
  have := amts_nonneg (s := !s) g.am
  omega
theorem Good.sentLe (g : Good P B L S) (s : Bool) : (S.row s).sent ≤ B := by
  have := g.kb s
  have := g.k0 s
  omega
theorem sent_sum {f : Bool → Int} (s : Bool) : f false + f true = f s + f (!s) := by cases s <;> simp <;> omega
theorem Good.send {m : Int} (g : Good P B L S) (h0 : 0 ≤ m) (h1 : m ≤ (S.row s).kept) : Good P B (if m = 0 then L + 1 else L) (send P s m S) := by
  have rs : ∀ t, ((LL.K67.send P s m S).row t).kept = (S.row t).kept - (if t = s then m else 0) ∧ ((LL.K67.send P s m S).row t).sent = (S.row t).sent + (if t = s then m else 0) ∧ ((LL.K67.send P s m S).row t).known = (S.row t).known ∧ ((LL.K67.send P s m S).row t).come = (S.row t).come := by
    intro t
    rcases bool_cases s t with rfl | rfl
    · rw [send_row]; simp [sendR]
    · rw [send_other]; simp
  have cl := g.comeLe s
  refine ⟨g.t0, fun t => ?_, fun t => ?_, fun t => ?_, fun t => ?_, fun t => ?_, fun t => ?_, fun p hp => ?_, fun p hp => ?_, ?_, ?_, fun p hp => ?_⟩
  · rw [(rs t).1]; have := g.k0 t; split
    · rename_i z; subst z; omega
    · omega
  · rw [(rs t).2.1]; have := g.s0 t; split <;> omega
  · rw [(rs t).2.2.2]; exact g.c0 t
  · rw [(rs t).2.2.1, (rs t).2.1]; have := g.kn t; split <;> omega
  · rw [(rs t).1, (rs t).2.1]; have := g.kb t; omega
  · rw [(rs (!t)).2.2.2, (rs t).2.1]
    show _ + amts t (S.flight ++ [_]) = _
    rw [amts_append, amts_cons, amts_nil]
    have := g.eq t
    by_cases z : t = s
    · subst z; simp; omega
    · have z' : ¬ s = t := fun e => z e.symm
      simp [z, z']; omega
  · rcases List.mem_append.mp (show p ∈ S.flight ++ [_] from hp) with hp | hp
    · exact g.am p hp
    · obtain rfl := List.mem_singleton.mp hp; exact h0
  · rcases List.mem_append.mp (show p ∈ S.flight ++ [_] from hp) with hp | hp
    · rw [(rs _).2.1]; have := g.an p hp; split <;> omega
    · obtain rfl := List.mem_singleton.mp hp
      rw [(rs _).2.1]
      show (S.row s).come ≤ (S.row (!s)).sent + _
      split <;> omega
  · show ((S.log ++ [_]).length : Int) ≤ _
    rw [(rs false).2.1, (rs true).2.1, List.length_append]
    have := g.lg
    cases s <;> simp <;> split <;> omega
  · show (S.flight ++ [_]).length ≤ (S.log ++ [_]).length
    have := g.fl
    simp; omega
  · rcases List.mem_append.mp (show p ∈ S.log ++ [_] from hp) with hp | hp
    · exact g.lp p hp
    · obtain rfl := List.mem_singleton.mp hp
      have := g.sentLe (!s)
      have := g.kb s
      have := g.s0 s
      exact ⟨g.t0, Int.le_refl _, h0, by show m ≤ B; omega, g.c0 s, by show (S.row s).come ≤ B; omega⟩
theorem Good.sends (hP : P.Ok) (g : Good P B L S) : ∀ n : Nat, n * P.size ≤ (S.row s).kept → Good P B L (sends P s n S)
  | 0, _ => g
  | n + 1, h => by
    have h1 := hP.s1
    rw [Int.natCast_succ, Int.add_mul] at h
    have ih := Good.sends hP g n (by omega)
    have k := sends_kept (P := P) (S := S) (s := s) (n := n)
    have := ih.send (s := s) (m := P.size) (by omega) (by omega)
    rw [if_neg (by omega)] at this
    exact this
theorem Good.free (hP : P.Ok) (g : Good P B L S) : Good P B L (free P s S) := by
  have d := div_rest (g.k0 s) hP.s1
  have gs := g.sends (s := s) hP ((S.row s).kept / P.size).toNat (by omega)
  unfold LL.K67.free
  simp only
  split
  · rename_i z
    have := gs.send (s := s) (m := ((LL.K67.sends P s ((S.row s).kept / P.size).toNat S).row s).kept) (by omega) (Int.le_refl _)
    rw [if_neg (by omega)] at this
    exact this
  · exact gs
theorem Good.at {t : Int} (g : Good P B L S) (h : S.tick ≤ t) : Good P B L (at_ t S) :=
  ⟨Int.le_trans g.t0 h, g.k0, g.s0, g.c0, g.kn, g.kb, g.eq, g.am, g.an, g.lg, g.fl, fun p hp => by
    obtain ⟨a, b, c⟩ := g.lp p hp
    exact ⟨a, Int.le_trans b h, c⟩⟩
theorem fold_row (t : Bool) : ∀ (ps : List Pc) (S : St), (∀ p ∈ ps, p.ans ≤ (S.row (!p.side)).sent) → (S.row t).known ≤ (S.row t).sent →
    ((ps.foldl (landOne P) S).row t).kept = (S.row t).kept ∧ ((ps.foldl (landOne P) S).row t).sent = (S.row t).sent ∧ ((ps.foldl (landOne P) S).row t).come = (S.row t).come + amts (!t) ps ∧ ((ps.foldl (landOne P) S).row t).known ≤ (S.row t).sent
  | [], S, _, h => ⟨rfl, rfl, by rw [amts_nil]; exact (Int.add_zero _).symm, h⟩
  | p :: ps, S, h, hk => by
    have one : ∀ u, ((landOne P S p).row u).kept = (S.row u).kept ∧ ((landOne P S p).row u).sent = (S.row u).sent ∧ ((landOne P S p).row u).come = (S.row u).come + (if p.side = !u then p.amt else 0) ∧ ((S.row u).known ≤ (S.row u).sent → ((landOne P S p).row u).known ≤ (S.row u).sent) := by
      intro u
      unfold landOne
      by_cases z : u = !p.side
      · subst z
        have := h p List.mem_cons_self
        simp [landR]
        split <;> omega
      · have z' : ¬ p.side = !u := fun e => z (by rw [e, Bool.not_not])
        simp [upR_ne z, z']
    obtain ⟨o1, o2, o3, o4⟩ := one t
    have ih := fold_row t ps (landOne P S p) (fun q hq => by rw [(one _).2.1]; exact h q (List.mem_cons_of_mem _ hq)) (by rw [o2]; exact o4 hk)
    obtain ⟨i1, i2, i3, i4⟩ := ih
    rw [List.foldl_cons]
    refine ⟨i1.trans o1, i2.trans o2, ?_, by rw [← o2]; exact i4⟩
    rw [i3, o3, amts_cons]; omega
theorem Good.land (g : Good P B L S) : Good P B L (land P S) := by
  have f : ∀ t, _ := fun t => fold_row (P := P) t (here P S.tick S.flight) S (fun p hp => g.an p (List.mem_filter.mp hp).1) (g.kn t)
  have sub : ∀ p, p ∈ away P S.tick S.flight → p ∈ S.flight := fun p hp => (List.mem_filter.mp hp).1
  have hsub : ∀ p, p ∈ here P S.tick S.flight → p ∈ S.flight := fun p hp => (List.mem_filter.mp hp).1
  have elog : (LL.K67.land P S).log = S.log := fold_land.2.2
  have r : ∀ t, (LL.K67.land P S).row t = ((here P S.tick S.flight).foldl (landOne P) S).row t := fun _ => rfl
  refine ⟨by rw [land_tick]; exact g.t0, fun t => ?_, fun t => ?_, fun t => ?_, fun t => ?_, fun t => ?_, fun t => ?_, fun p hp => g.am p (sub p hp), fun p hp => ?_, ?_, ?_, ?_⟩
  · rw [r, (f t).1]; exact g.k0 t
  · rw [r, (f t).2.1]; exact g.s0 t
  · rw [r, (f t).2.2.1]; have := g.c0 t; have := amts_nonneg (s := !t) fun p hp => g.am p (hsub p hp); omega
  · rw [r, (f t).2.1]; exact (f t).2.2.2
  · rw [r, (f t).1, (f t).2.1]; exact g.kb t
  · rw [r, r, (f (!t)).2.2.1, (f t).2.1, Bool.not_not]
    show _ + amts t (away P S.tick S.flight) = _
    have := g.eq t
    have := amts_split (s := t) (P := P) (t := S.tick) (ps := S.flight)
    omega
  · rw [r, (f _).2.1]; exact g.an p (sub p hp)
  · rw [r, r, (f _).2.1, (f _).2.1, elog]; exact g.lg
  · rw [elog]
    have : (away P S.tick S.flight).length ≤ S.flight.length := List.length_filter_le _ _
    exact Nat.le_trans this g.fl
  · rw [elog, land_tick]; exact g.lp
theorem Good.more {L' : Int} (g : Good P B L S) (h : L ≤ L') : Good P B L' S :=
  ⟨g.t0, g.k0, g.s0, g.c0, g.kn, g.kb, g.eq, g.am, g.an, by have := g.lg; omega, g.fl, g.lp⟩
theorem Good.leave1 (g : Good P B L S) : Good P B (L + 1) (leave1 P s S) := by
  unfold LL.K67.leave1
  split
  · have := g.send (s := s) (m := 0) (Int.le_refl _) (g.k0 s)
    rw [if_pos rfl] at this
    exact this
  · exact g.more (by omega)
theorem Good.leave (g : Good P B L S) : Good P B (L + 2) (leave P S) := (g.leave1.leave1).more (by omega)
theorem Good.begin {t : Int} (hP : P.Ok) (g : Good P B L S) (h : S.tick ≤ t) : Good P B L (begin_ P t S) := ((g.at h).land.free hP).free hP
theorem Good.step (hP : P.Ok) (g : Good P B L S) : Good P B (L + 2) (step P S) := g.leave.begin hP (by rw [leave_tick]; omega)
theorem Good.waited (hP : P.Ok) (g : Good P B L S) : ∀ n : Nat, Good P B (L + 2 * n) (waited P n S)
  | 0 => g.more (by omega)
  | n + 1 => ((Good.waited hP g n).step hP).more (by omega)
theorem Good.log_lt (g : Good P B L S) (hB : B ≤ 100000) (hL : L ≤ 100000) : S.log.length < 400000 := by
  have := g.lg
  have := g.sentLe false
  have := g.sentLe true
  omega
/-- a deed of writing -/
def wrote (s : Bool) (m : Int) (S : St) : St := { S with row := upR S.row s { S.row s with kept := (S.row s).kept + m } }
theorem Good.wrote {m : Int} (g : Good P B L S) (h : 0 ≤ m) : Good P (B + m) L (wrote s m S) := by
  have rs : ∀ t, ((LL.K67.wrote s m S).row t).kept = (S.row t).kept + (if t = s then m else 0) ∧ ((LL.K67.wrote s m S).row t).sent = (S.row t).sent ∧ ((LL.K67.wrote s m S).row t).known = (S.row t).known ∧ ((LL.K67.wrote s m S).row t).come = (S.row t).come := by
    intro t
    unfold LL.K67.wrote
    rcases bool_cases s t with rfl | rfl
    · simp
    · simp
  refine ⟨g.t0, fun t => ?_, fun t => ?_, fun t => ?_, fun t => ?_, fun t => ?_, fun t => ?_, g.am, fun p hp => ?_, ?_, g.fl, fun p hp => ?_⟩
  · rw [(rs t).1]; have := g.k0 t; split <;> omega
  · rw [(rs t).2.1]; exact g.s0 t
  · rw [(rs t).2.2.2]; exact g.c0 t
  · rw [(rs t).2.2.1, (rs t).2.1]; exact g.kn t
  · rw [(rs t).1, (rs t).2.1]; have := g.kb t; split <;> omega
  · rw [(rs _).2.2.2, (rs t).2.1]; exact g.eq t
  · rw [(rs _).2.1]; exact g.an p hp
  · rw [(rs _).2.1, (rs _).2.1]; exact g.lg
  · obtain ⟨a, b, c, d, e, f⟩ := g.lp p hp
    exact ⟨a, b, c, by omega, e, by omega⟩
/-- a deed of reading -/
def readS (s : Bool) (m : Int) (S : St) : St := { S with row := upR S.row s { S.row s with taken := (S.row s).taken + m } }
theorem Good.readS {m : Int} (g : Good P B L S) : Good P B L (readS s m S) := by
  have rs : ∀ t, ((LL.K67.readS s m S).row t).kept = (S.row t).kept ∧ ((LL.K67.readS s m S).row t).sent = (S.row t).sent ∧ ((LL.K67.readS s m S).row t).known = (S.row t).known ∧ ((LL.K67.readS s m S).row t).come = (S.row t).come := by
    intro t
    unfold LL.K67.readS
    rcases bool_cases s t with rfl | rfl
    · simp
    · simp
  refine ⟨g.t0, fun t => ?_, fun t => ?_, fun t => ?_, fun t => ?_, fun t => ?_, fun t => ?_, g.am, fun p hp => ?_, ?_, g.fl, g.lp⟩
  · rw [(rs t).1]; exact g.k0 t
  · rw [(rs t).2.1]; exact g.s0 t
  · rw [(rs t).2.2.2]; exact g.c0 t
  · rw [(rs t).2.2.1, (rs t).2.1]; exact g.kn t
  · rw [(rs t).1, (rs t).2.1]; exact g.kb t
  · rw [(rs _).2.2.2, (rs t).2.1]; exact g.eq t
  · rw [(rs _).2.1]; exact g.an p hp
  · rw [(rs _).2.1, (rs _).2.1]; exact g.lg
end
end LL.K67
end

section
set_option Elab.async false
set_option linter.all false
set_option maxRecDepth 100000
/-! K67Spec: the promise of each def. -/
namespace LL.K67
open PySem LL
/-! ### how the state stands in the logical heap -/
def optD : Option Int → D | none => .non | some i => .int i
def b2i (s : Bool) : Int := if s then 1 else 0
def ruleS (k : Nat) : Str := if k = 0 then "plain" else if k = 1 then "hold" else "few"
def rowD (r : Row) : List D := [.int r.kept, .int r.sent, .int r.known, .int r.small, .int r.come, .int r.taken, .int r.full, optD r.first]
def pcD (p : Pc) : D := .tup [.int p.born, .int (b2i p.side), .int p.amt, .int p.ans]
def pcF (P : Par) (p : Pc) : D := .tup [.int (p.born + P.way), .int (b2i p.side), .int p.amt, .int p.ans]
def stD (x : Int × Int) : D := .tup [.int x.1, .int x.2]
def wayD (P : Par) (s : Bool) : D := .tup [.str (ruleS (P.rule s)), .int (P.every s), .int (P.delay s)]
def toldD (P : Par) : D := .tup [.int P.size, .int P.way, wayD P false, wayD P true]
def setNs : List Str := ["rule", "every", "delay", "told"]
def setDs (P : Par) (s : Bool) : List D := [.str (ruleS (P.rule s)), .int (P.every s), .int (P.delay s), wayD P s]
def setD (P : Par) (s : Bool) : D := .ob "Setting" setNs (setDs P s)
def lineNs : List Str := ["size", "way", "near", "far", "told"]
def lineDs (P : Par) : List D := [.int P.size, .int P.way, setD P false, setD P true, toldD P]
def lineD (P : Par) : D := .ob "Line" lineNs (lineDs P)
/-- two items, one for each side -/
def prD (f : Bool → D) : List D := [f false, f true]
/-- a pair of ints -/
abbrev two (f : Bool → Int) : List D := prD fun s => .int (f s)
abbrev twoO (f : Bool → Option Int) : List D := prD fun s => optD (f s)
abbrev Stk := Bool → List (Int × Int)
def flowNs : List Str := ["line", "settings", "tick", "stock", "out", "known", "small", "come", "taken", "full", "first", "long", "flight", "log"]
/-- the fields of a frozen Flow -/
def flowDs (P : Par) (S : St) (stk : Stk) (lng : Bool → Int) : List D := [lineD P, .tup (prD (setD P)), .int S.tick, .lst (prD fun s => .lst ((stk s).map stD)),
  .lst (two fun s => (S.row s).sent), .lst (two fun s => (S.row s).known), .lst (two fun s => (S.row s).small), .lst (two fun s => (S.row s).come), .lst (two fun s => (S.row s).taken), .lst (two fun s => (S.row s).full),
  .lst (twoO fun s => (S.row s).first), .lst (two lng), .lst (S.flight.map (pcF P)), .lst (S.log.map pcD)]
def flowD (P : Par) (S : St) (stk : Stk) (lng : Bool → Int) : D := .ob "Flow" flowNs (flowDs P S stk lng)
/-- the fields of a Flow that is changed: where its lists stand -/
def flowFs (P : Par) (t : Int) (sa : Bool → Nat) (o k m c a f fi l fl lg : Nat) : List (Str × D) := [("line", lineD P), ("settings", .tup (prD (setD P))), ("tick", .int t), ("stock", .lst (prD fun s => .ref (sa s))), ("out", .ref o), ("known", .ref k), ("small", .ref m), ("come", .ref c), ("taken", .ref a), ("full", .ref f), ("first", .ref fi), ("long", .ref l), ("flight", .ref fl), ("log", .ref lg)]
/-- .. in one that was copied -/
def sAt (n : Nat) (s : Bool) : Nat := n + 13 + cond s 1 0
structure FlowAt (n fl : Nat) (P : Par) (S : St) (stk : Stk) (lng : Bool → Int) (h : LH) : Prop where
  self : h[n]? = some (.ins "Flow" (flowFs P S.tick (sAt n) (n + 15) (n + 16) (n + 17) (n + 18) (n + 19) (n + 20) (n + 21) (n + 22) fl (n + 24)))
  st : ∀ s, h[sAt n s]? = some (.lst ((stk s).map stD))
  out : h[n + 15]? = some (.lst (two fun s => (S.row s).sent))
  known : h[n + 16]? = some (.lst (two fun s => (S.row s).known))
  small : h[n + 17]? = some (.lst (two fun s => (S.row s).small))
  come : h[n + 18]? = some (.lst (two fun s => (S.row s).come))
  taken : h[n + 19]? = some (.lst (two fun s => (S.row s).taken))
  full : h[n + 20]? = some (.lst (two fun s => (S.row s).full))
  first : h[n + 21]? = some (.lst (twoO fun s => (S.row s).first))
  long : h[n + 22]? = some (.lst (two lng))
  flight : h[fl]? = some (.lst (S.flight.map (pcF P)))
  log : h[n + 24]? = some (.lst (S.log.map pcD))
  ix : fl = n + 23 ∨ n + 24 < fl
/-- the stock: what is kept, in portions -/
def sumA (xs : List (Int × Int)) : Int := (xs.map (·.1)).sum
structure Stock (S : St) (stk : Stk) : Prop where
  sum : ∀ s, sumA (stk s) = (S.row s).kept
  pos : ∀ s, ∀ x ∈ stk s, 0 < x.1
/-- a Flow that is changed -/
def FlowOk (n : Nat) (P : Par) (S : St) (h : LH) : Prop := ∃ fl stk lng, FlowAt n fl P S stk lng h ∧ Stock S stk
/-- nothing below n is changed -/
def Bel (n : Nat) (h h' : LH) : Prop := h'.take n = h.take n
/-- what may change in the law's world -/
structure WIx where
  w : Nat
  r : Bool → Nat
  fl : Nat
  lg : Nat
def WIx.own (A : WIx) (i : Nat) : Prop := i = A.w ∨ (∃ s, i = A.r s) ∨ i = A.fl ∨ i = A.lg
structure WIx.Ok (A : WIx) : Prop where
  wr : ∀ s, A.w ≠ A.r s
  wf : A.w ≠ A.fl
  wl : A.w ≠ A.lg
  rr : ∀ s, A.r s ≠ A.r (!s)
  rf : ∀ s, A.r s ≠ A.fl
  rl : ∀ s, A.r s ≠ A.lg
  fl : A.fl ≠ A.lg
structure WorldAt (A : WIx) (P : Par) (S : St) (h : LH) : Prop where
  ok : A.Ok
  w : h[A.w]? = some (.lst [toldD P, .int S.tick, .lst (prD fun s => .ref (A.r s)), .ref A.fl, .ref A.lg])
  r : ∀ s, h[A.r s]? = some (.lst (rowD (S.row s)))
  fl : h[A.fl]? = some (.lst (S.flight.map pcD))
  lg : h[A.lg]? = some (.lst (S.log.map pcD))
/-- a later heap: only what is owned is changed -/
structure Fr (own : Nat → Prop) (h h' : LH) : Prop where
  len : h.length ≤ h'.length
  same : ∀ i, i < h.length → ¬ own i → h'[i]? = h[i]?
/-- the world stands, and nothing else is changed -/
def WorldLater (A : WIx) (P : Par) (S : St) (h h' : LH) : Prop := ∃ fl, (fl = A.fl ∨ h.length ≤ fl) ∧ WorldAt { A with fl := fl } P S h' ∧ Fr A.own h h'
/-! ### the well -/
def wellO (a c b : Int) : O := .lst [.int a, .int c, .int b]
def WellAt (w : Nat) (h : LH) : Prop := ∃ a c b, h[w]? = some (wellO a c b)
def wsp (w : Nat) (R : D → Prop) (h : LH) (Q : D → LH → Prop) : Prop := WellAt w h ∧ ∀ r a c b, R r → Q r (h.set w (wellO a c b))
/-! ### jobs -/
inductive Job where
  | read (s : Bool) (m : Int)
  | write (s : Bool) (m : Int)
  | wait (m : Int)
/-- a deed as it is told, with any side and number -/
inductive RJob where
  | read (s n : D)
  | write (s n : D)
  | wait (n : D)
def rjobD : RJob → D
  | .read s n => .tup [.str "read", s, n]
  | .write s n => .tup [.str "write", s, n]
  | .wait n => .tup [.str "wait", n]
def Job.raw : Job → RJob
  | .read s m => .read (.int (b2i s)) (.int m)
  | .write s m => .write (.int (b2i s)) (.int m)
  | .wait m => .wait (.int m)
abbrev jobD (j : Job) : D := rjobD j.raw
/-- the kinds of values that checks meet -/
def plainD : D → Bool
  | .non => true
  | .bl _ => true
  | .int _ => true
  | .str _ => true
  | .tup _ => true
  | .lst _ => true
  | .dct _ _ => true
  | _ => false
def RJob.plain : RJob → Bool
  | .read s n => plainD s && plainD n
  | .write s n => plainD s && plainD n
  | .wait n => plainD n
def isInt : D → Bool | .int _ => true | _ => false
def betw (v : D) (l u : Int) : Bool := match v with | .int i => decide (l ≤ i ∧ i ≤ u) | _ => false
def sideOf (v : D) : Bool := match v with | .int i => decide (i = 1) | _ => false
def amtOf (v : D) : Int := match v with | .int i => i | _ => 0
abbrev XErr := Option (Str × List (Str × D))
def errN (n : D) (e : XErr) : XErr := if betw n 1 60 = true then e else some ("InvalidNumber", [("value", n)])
def errS (s : D) (e : XErr) : XErr := if betw s 0 1 = true then e else some ("InvalidSide", [("value", s)])
def Job.Ok (S : St) : Job → Prop
  | .read s m => 1 ≤ m ∧ m ≤ 60 ∧ m ≤ (S.row s).come - (S.row s).taken
  | .write _ m => 1 ≤ m ∧ m ≤ 60
  | .wait m => 1 ≤ m ∧ m ≤ 60
def Job.run (P : Par) (S : St) : Job → St
  | .read s m => readS s m S
  | .write s m => free P s (wrote s m S)
  | .wait m => waited P m.toNat S
def Job.ans (S : St) : Job → Int
  | .read s _ => (S.row s).come - (S.row s).taken
  | .write s _ => (S.row s).kept
  | .wait _ => S.tick
/-- why a deed cannot be done -/
def RJob.err (S : St) : RJob → XErr
  | .read s n => errS s (errN n (if (S.row (sideOf s)).come - (S.row (sideOf s)).taken < amtOf n then some ("NotThere", []) else none))
  | .write s n => errS s (errN n none)
  | .wait n => errN n none
def init : St := ⟨0, fun _ => ⟨0, 0, 0, 0, 0, 0, 0, none⟩, [], []⟩
/-- what is read has come -/
def Tk (S : St) : Prop := ∀ s, 0 ≤ (S.row s).taken ∧ (S.row s).taken ≤ (S.row s).come ∧ 0 ≤ (S.row s).known
/-- what stands between two deeds -/
structure Fine (P : Par) (S : St) (B L : Int) : Prop where
  p : P.Ok
  set : ∀ s, Settled P s S
  lat : Later P S
  g : Good P B L S
  tk : Tk S
  b : B ≤ 3000
  l : L ≤ 6000
/-! ### the session -/
def le2P (a b : Pc) : Bool := decide (a.born < b.born ∨ (a.born = b.born ∧ b2i a.side ≤ b2i b.side))
def sorted (ps : List Pc) : List Pc := ps.mergeSort le2P
def kpt (S : St) (s : Bool) : Int := (S.row s).kept
def unr (S : St) (s : Bool) : Int := (S.row s).come - (S.row s).taken
def una (S : St) (s : Bool) : Int := (S.row s).sent - (S.row s).known
def sessFs (P : Par) (S : St) (stk : Stk) (lng : Bool → Int) (past : List D) (β : Bool) : List (Str × D) := [("line", lineD P), ("busy", .bl β), ("flow", flowD P S stk lng), ("past", .lst past), ("now", .int S.tick), ("holding", .tup (two (kpt S))), ("unread", .tup (two (unr S))), ("unanswered", .tup (two (una S))),
  ("pieces", .tup ((sorted S.log).map pcD)), ("under_way", .int S.flight.length)]
def sessFs0 (P : Par) : List (Str × D) := [("line", lineD P), ("busy", .bl false)]
/-- the flows from before each deed, the states that they tell -/
def Hist (P : Par) : List D → List St → Prop
  | [], [] => True
  | d :: ds, u :: us => (∃ stk lng, d = flowD P u stk lng ∧ Stock u stk) ∧ Hist P ds us
  | _, _ => False
def SessO (P : Par) (S : St) (us : List St) (β : Bool) (o : O) : Prop := ∃ stk lng past, Stock S stk ∧ Hist P past us ∧ o = .ins "Session" (sessFs P S stk lng past β)
def SessAt (b : Nat) (P : Par) (S : St) (us : List St) (β : Bool) (h : LH) : Prop := ∃ o, h[b]? = some o ∧ SessO P S us β o
/-- a deed's ends: Busy, what is wrong with it, too many, done -/
def dsp (b : Nat) (P : Par) (S : St) (us : List St) (β busy : Bool) (r : RJob) (h : LH) (Q : D → LH → Prop) (E : XL) (ans : Job → D) : Prop :=
  (busy = true → E "Busy" [] h) ∧ (busy = false → ∀ c fs, r.err S = some (c, fs) → E c fs h) ∧ (busy = false → r.err S = none → 60 ≤ us.length → E "TooMany" [("limit", .int 60)] h) ∧
  (busy = false → ∀ j o, r = j.raw → j.Ok S → us.length < 60 → SessO P (j.run P S) (us ++ [S]) β o → Q (ans j) (h.set b o))
def ansD (P : Par) (S : St) (j : Job) : D := .int (j.ans (j.run P S))
def nameS (S : St) : Str := ((((Str.empty ++ "Session(tick ") ++ Str.ofString (toString S.tick)) ++ ", ") ++ Str.ofString (toString (S.log.length : Int))) ++ " pieces)"
def shownD (S : St) (β : Bool := false) : D := .lst [.int S.tick, .tup (two (kpt S)), .tup (two (unr S)), .tup (two (una S)), .tup ((sorted S.log).map pcD), .int S.flight.length, .bl β, .int S.log.length, .str (nameS S), .bl (decide (S.log ≠ []))]
/-! ### the promises -/
def G_law_well : LSp := fun ds h Q _ => ∃ (ns : List Int) (k : Nat), ds = [.lst (ns.map .int), .int k] ∧ ns.length ≤ 63 ∧ ∀ a c b, Q (.ref h.length) (h ++ [wellO a c b])
def G_law_draw : LSp := fun ds h Q _ => ∃ w m, ds = [.ref w, .int m] ∧ 0 < m ∧ m < 1073741824 ∧ wsp w (fun d => ∃ r, d = .int r ∧ 0 ≤ r ∧ r < m) h Q
def G_law_one_of : LSp := fun ds h Q _ => ∃ w xs, ds = [.ref w, .lst xs] ∧ 0 < xs.length ∧ xs.length < 1000 ∧ wsp w (fun d => d ∈ xs) h Q
def G_law_ways : LSp := fun ds h Q _ => ∃ w, ds = [.ref w] ∧ wsp w (fun d => ∃ k e l, d = .tup [.str (ruleS k), .int e, .int l] ∧ k < 3 ∧ 1 ≤ e ∧ e ≤ 4 ∧ 0 ≤ l ∧ l ≤ 40) h Q
def G_law_told : LSp := fun ds h Q _ => ∃ w, ds = [.ref w] ∧ wsp w (fun d => ∃ P : Par, P.Ok ∧ d = toldD P) h Q
def G_law_made : LSp := fun ds h Q _ => ∃ P : Par, P.Ok ∧ ds = [toldD P] ∧ Q (lineD P) h
def newW (P : Par) (n : Nat) : LH := [.lst (rowD (init.row false)), .lst (rowD (init.row true)), .lst [], .lst [], .lst [toldD P, .int 0, .lst (prD fun s => .ref (n + cond s 1 0)), .ref (n + 2), .ref (n + 3)]]
def G_law_new : LSp := fun ds h Q _ => ∃ P, ds = [toldD P] ∧ Q (.ref (h.length + 4)) (h ++ newW P h.length)
def G_law_send : LSp := fun ds h Q _ => ∃ A P S s m, ds = [.ref A.w, .int (b2i s), .int m] ∧ WorldAt A P S h ∧ S.flight.length < 1000000 ∧ S.log.length < 1000000 ∧ ∀ h', WorldLater A P (send P s m S) h h' → Q .non h'
def G_law_free : LSp := fun ds h Q _ => ∃ A P S s B L, ds = [.ref A.w, .int (b2i s)] ∧ WorldAt A P S h ∧ P.Ok ∧ Good P B L S ∧ B ≤ 100000 ∧ L ≤ 100000 ∧ ∀ h', WorldLater A P (free P s S) h h' → Q .non h'
def G_law_land : LSp := fun ds h Q _ => ∃ A P S B L, ds = [.ref A.w] ∧ WorldAt A P S h ∧ P.Ok ∧ Good P B L S ∧ B ≤ 100000 ∧ L ≤ 100000 ∧ ∀ h', WorldLater A P (land P S) h h' → Q .non h'
def G_law_leave : LSp := fun ds h Q _ => ∃ A P S B L, ds = [.ref A.w] ∧ WorldAt A P S h ∧ P.Ok ∧ Good P B L S ∧ B ≤ 100000 ∧ L ≤ 100000 ∧ ∀ h', WorldLater A P (leave P S) h h' → Q .non h'
def G_law_waited : LSp := fun ds h Q _ => ∃ A P S B L, ∃ n : Nat, ds = [.ref A.w, .int n] ∧ WorldAt A P S h ∧ P.Ok ∧ Good P B L S ∧ B ≤ 100000 ∧ L + 2 * n ≤ 100000 ∧ n ≤ 60 ∧ ∀ h', WorldLater A P (waited P n S) h h' → Q .non h'
def G_law_done : LSp := fun ds h Q _ => ∃ A P S B L j, ds = [.ref A.w, jobD j] ∧ WorldAt A P S h ∧ Fine P S B L ∧ j.Ok S ∧ ∀ h', WorldLater A P (j.run P S) h h' → Q (.int (j.ans (j.run P S))) h'
def G_law_listed : LSp := fun ds h Q _ => ∃ lg ps, ds = [.ref lg] ∧ h[lg]? = some (.lst (ps.map pcD)) ∧ ps.length ≤ 1000000 ∧ Q (.tup ((sorted ps).map pcD)) h
def G_law_view : LSp := fun ds h Q _ => ∃ A P S B L, ds = [.ref A.w] ∧ WorldAt A P S h ∧ Good P B L S ∧ B ≤ 100000 ∧ L ≤ 100000 ∧ S.tick ≤ 100000 ∧ Q (shownD S) h
def G_law_job : LSp := fun ds h Q _ => ∃ w A P S, ds = [.ref w, .ref A.w] ∧ WorldAt A P S h ∧ P.Ok ∧ ¬ A.own w ∧ wsp w (fun d => ∃ j : Job, j.Ok S ∧ d = jobD j) h Q
def G_law_right : LSp := fun ds h Q _ => ∃ w, ds = [.ref w] ∧ WellAt w h ∧ ∀ h', Q (.bl true) h'
def G_law : LSp := spLaw 63
def G_check_line : LSp := fun ds h Q _ => ∃ P, ds = [lineD P] ∧ Q .non h
def G_check_setting : LSp := fun ds h Q _ => ∃ P s, ds = [setD P s] ∧ Q .non h
def G_is_integer : LSp := fun ds h Q _ => ∃ v, ds = [v] ∧ plainD v = true ∧ Q (.bl (isInt v)) h
def G_is_between : LSp := fun ds h Q _ => ∃ v l u, ds = [v, .int l, .int u] ∧ plainD v = true ∧ Q (.bl (betw v l u)) h
def G_check_number : LSp := fun ds h Q E => ∃ v l u, ds = [v, .int l, .int u] ∧ plainD v = true ∧ (betw v l u = true → Q .non h) ∧ (betw v l u = false → E "InvalidNumber" [("value", v)] h)
def G_check_side : LSp := fun ds h Q E => ∃ v, ds = [v] ∧ plainD v = true ∧ (betw v 0 1 = true → Q .non h) ∧ (betw v 0 1 = false → E "InvalidSide" [("value", v)] h)
def G_Setting_init : LSp := fun ds h Q _ => ∃ pre P s, Par.Ok P ∧ ds = [.ref pre.length, .str (ruleS (P.rule s)), .int (P.every s), .int (P.delay s)] ∧ h = pre ++ [.ins "Setting" []] ∧ Q .non (pre ++ [.ins "Setting" (setNs.zip (setDs P s))])
def G_Line_init : LSp := fun ds h Q _ => ∃ pre P, Par.Ok P ∧ ds = [.ref pre.length, .int P.size, .int P.way, setD P false, setD P true] ∧ h = pre ++ [.ins "Line" []] ∧ Q .non (pre ++ [.ins "Line" (lineNs.zip (lineDs P))])
/-- a Flow that was just made -/
def newF (P : Par) (n : Nat) : LH := [.ins "Flow" (flowFs P 0 (fun s => n + 1 + cond s 1 0) (n + 3) (n + 4) (n + 5) (n + 6) (n + 7) (n + 8) (n + 9) (n + 10) (n + 11) (n + 12)), .lst [], .lst [], .lst [.int 0, .int 0], .lst [.int 0, .int 0], .lst [.int 0, .int 0], .lst [.int 0, .int 0], .lst [.int 0, .int 0], .lst [.int 0, .int 0], .lst [.non, .non], .lst [.int 0, .int 0], .lst [], .lst []]
def G_Flow_init : LSp := fun ds h Q _ => ∃ pre P, ds = [.ref pre.length, lineD P] ∧ h = pre ++ [.ins "Flow" []] ∧ Q .non (pre ++ newF P pre.length)
def G_Session_init : LSp := fun ds h Q _ => ∃ pre P, ds = [.ref pre.length, lineD P] ∧ h = pre ++ [.ins "Session" []] ∧ ∀ o, SessO P init [] false o → Q .non (pre ++ [o])
/-- a Flow, frozen or not -/
def FlowIs (d : D) (P : Par) (S : St) (h : LH) : Prop := (∃ n, d = .ref n ∧ FlowOk n P S h) ∨ ∃ stk lng, d = flowD P S stk lng ∧ Stock S stk
def G_Flow_kept : LSp := fun ds h Q _ => ∃ d P S s, ds = [d, .int (b2i s)] ∧ FlowIs d P S h ∧ (S.row s).kept ≤ 1000000 ∧ Q (.int (S.row s).kept) h
def G_Flow_fresh : LSp := fun ds h Q _ => ∃ d P S s, ds = [d, .int (b2i s)] ∧ FlowIs d P S h ∧ Q (.int (unr S s)) h
def G_Session_show : LSp := fun ds h Q _ => ∃ b P S stk lng past fs β, ds = [.ref b, flowD P S stk lng, .lst past] ∧ Stock S stk ∧ h[b]? = some (.ins "Session" fs) ∧ ((β = false ∧ fs = sessFs0 P) ∨ ∃ S' stk' lng' past', fs = sessFs P S' stk' lng' past' β) ∧ (∀ s, (S.row s).kept ≤ 1000000) ∧ S.log.length ≤ 1000000 ∧ Q .non (h.set b (.ins "Session" (sessFs P S stk lng past β)))
def G_Session_check_free : LSp := fun ds h Q E => ∃ b P S us β, ds = [.ref b] ∧ SessAt b P S us β h ∧ (β = false → Q .non h) ∧ (β = true → E "Busy" [] h)
def G_check_deed : LSp := fun ds h Q E => ∃ P S stk lng r, ds = [flowD P S stk lng, rjobD r] ∧ Stock S stk ∧ r.plain = true ∧ (r.err S = none → Q .non h) ∧ (∀ c fs, r.err S = some (c, fs) → E c fs h)
def G_Flow_copied : LSp := fun ds h Q _ => ∃ P S stk lng, ds = [flowD P S stk lng] ∧ Stock S stk ∧ ∀ h', FlowOk h.length P S h' → Bel h.length h h' → Q (.ref h.length) h'
/-- a method that changes a Flow -/
def fsp (n : Nat) (P : Par) (S S' : St) (h : LH) (Q : D → LH → Prop) : Prop := FlowOk n P S h ∧ ∀ h', FlowOk n P S' h' → Bel n h h' → Q .non h'
def G_Flow_take_out : LSp := fun ds h Q _ => ∃ n fl P S stk lng s m, ds = [.ref n, .int (b2i s), .int m] ∧ FlowAt n fl P S stk lng h ∧ Stock S stk ∧ 0 ≤ m ∧ m ≤ (S.row s).kept ∧
  ∀ stk' lng' h', FlowAt n fl P S stk' lng' h' → (∀ t, sumA (stk' t) = (S.row t).kept - if t = s then m else 0) → (∀ t, ∀ x ∈ stk' t, 0 < x.1) → Bel n h h' → Q .non h'
def G_Flow_send : LSp := fun ds h Q _ => ∃ n P S s m, ds = [.ref n, .int (b2i s), .int m] ∧ P.Ok ∧ 0 ≤ m ∧ m ≤ (S.row s).kept ∧ S.flight.length < 1000000 ∧ S.log.length < 1000000 ∧ fsp n P S (send P s m S) h Q
def G_Flow_lets : LSp := fun ds h Q _ => ∃ n P S s, ds = [.ref n, .int (b2i s)] ∧ P.Ok ∧ FlowOk n P S h ∧ (S.row s).known ≤ (S.row s).sent ∧ Q (.bl (letsR P s (S.row s))) h
def G_Flow_let_go : LSp := fun ds h Q _ => ∃ n P S s B L, ds = [.ref n, .int (b2i s)] ∧ P.Ok ∧ Good P B L S ∧ B ≤ 100000 ∧ L ≤ 100000 ∧ fsp n P S (free P s S) h Q
def G_Flow_put : LSp := fun ds h Q _ => ∃ n P S s m B L, ds = [.ref n, .int (b2i s), .int m] ∧ P.Ok ∧ Good P B L S ∧ B + m ≤ 100000 ∧ L ≤ 100000 ∧ 0 < m ∧ fsp n P S (free P s (wrote s m S)) h Q
def G_Flow_is_due : LSp := fun ds h Q _ => ∃ n P S s, ds = [.ref n, .int (b2i s)] ∧ FlowOk n P S h ∧ Q (.bl (dueR P s S.tick (S.row s))) h
def G_Flow_leave : LSp := fun ds h Q _ => ∃ n P S B L, ds = [.ref n] ∧ P.Ok ∧ Good P B L S ∧ B ≤ 100000 ∧ L ≤ 100000 ∧ fsp n P S (leave P S) h Q
def G_Flow_next_tick : LSp := fun ds h Q _ => ∃ n P S, ds = [.ref n] ∧ FlowOk n P S h ∧ S.flight.length < 1000000 ∧ ∀ h' d, FlowOk n P S h' → Bel n h h' → ((d = .non ∧ ticks P S = []) ∨ ∃ a, d = .int a ∧ a ∈ ticks P S ∧ ∀ y ∈ ticks P S, a ≤ y) → Q d h'
def G_Flow_land : LSp := fun ds h Q _ => ∃ n P S p, ds = [.ref n, .int (b2i p.side), .int p.amt, .int p.ans] ∧ P.Ok ∧ 0 ≤ p.amt ∧ fsp n P S (landOne P S p) h Q
def G_Flow_begin : LSp := fun ds h Q _ => ∃ n P S t B L, ds = [.ref n, .int t] ∧ P.Ok ∧ Good P B L S ∧ B ≤ 100000 ∧ L ≤ 100000 ∧ S.tick ≤ t ∧ fsp n P S (begin_ P t S) h Q
def G_pass_ticks : LSp := fun ds h Q _ => ∃ n P S B L, ∃ k : Nat, ds = [.ref n, .int k] ∧ Fine P S B L ∧ 1 ≤ k ∧ k ≤ 60 ∧ fsp n P S (waited P k S) h Q
def G_flow_behind : LSp := fun ds h Q _ => ∃ P S stk lng B L j, ds = [flowD P S stk lng, jobD j] ∧ Stock S stk ∧ Fine P S B L ∧ j.Ok S ∧ ∀ stk' lng', Stock (j.run P S) stk' → Q (flowD P (j.run P S) stk' lng') h
def G_Session_do_deed : LSp := fun ds h Q E => ∃ b P S us β B L r, ds = [.ref b, rjobD r] ∧ SessAt b P S us β h ∧ Fine P S B L ∧ r.plain = true ∧ dsp b P S us β false r h Q E (fun _ => .non)
def G_Session_write : LSp := fun ds h Q E => ∃ b P S us β B L s n, ds = [.ref b, s, n] ∧ SessAt b P S us β h ∧ Fine P S B L ∧ (RJob.write s n).plain = true ∧ dsp b P S us β β (.write s n) h Q E (ansD P S)
def G_Session_read : LSp := fun ds h Q E => ∃ b P S us β B L s n, ds = [.ref b, s, n] ∧ SessAt b P S us β h ∧ Fine P S B L ∧ (RJob.read s n).plain = true ∧ dsp b P S us β β (.read s n) h Q E (ansD P S)
def G_Session_wait : LSp := fun ds h Q E => ∃ b P S us β B L n, ds = [.ref b, n] ∧ SessAt b P S us β h ∧ Fine P S B L ∧ (RJob.wait n).plain = true ∧ dsp b P S us β β (.wait n) h Q E (ansD P S)
def G_law_call : LSp := fun ds h Q E => ∃ b P S us β B L r, ds = [.ref b, rjobD r] ∧ SessAt b P S us β h ∧ Fine P S B L ∧ r.plain = true ∧ dsp b P S us β β r h Q E (ansD P S)
def G_Session_len : LSp := fun ds h Q _ => ∃ b P S us β, ds = [.ref b] ∧ SessAt b P S us β h ∧ Q (.int S.log.length) h
def G_Session_repr : LSp := fun ds h Q _ => ∃ b P S us β, ds = [.ref b] ∧ SessAt b P S us β h ∧ 0 ≤ S.tick ∧ S.tick ≤ 100000 ∧ S.log.length ≤ 1000000 ∧ Q (.str (nameS S)) h
def G_law_shown : LSp := fun ds h Q _ => ∃ b P S us β, ds = [.ref b] ∧ SessAt b P S us β h ∧ 0 ≤ S.tick ∧ S.tick ≤ 100000 ∧ S.log.length ≤ 1000000 ∧ Q (shownD S β) h
def G_Session_undo : LSp := fun ds h Q E => ∃ b P S us β, ds = [.ref b] ∧ SessAt b P S us β h ∧ us.length ≤ 100000 ∧ (∀ u ∈ us, (∀ s, (u.row s).kept ≤ 1000000) ∧ u.log.length ≤ 1000000) ∧ (β = true → E "Busy" [] h) ∧ (β = false → us = [] → E "NothingToUndo" [] h) ∧ (∀ us' u o, β = false → us = us' ++ [u] → SessO P u us' false o → Q .non (h.set b o))
/-- a world's copy, laid at n -/
def copyW (P : Par) (S : St) (n : Nat) : LH := [.lst (rowD (S.row false)), .lst (rowD (S.row true)), .lst (S.flight.map pcD), .lst (S.log.map pcD), .lst [toldD P, .int S.tick, .lst (prD fun s => .ref (n + cond s 1 0)), .ref (n + 2), .ref (n + 3)]]
def cix (n : Nat) : WIx := ⟨n + 4, fun s => n + cond s 1 0, n + 2, n + 3⟩
def G_law_copied : LSp := fun ds h Q _ => ∃ A P S, ds = [.ref A.w] ∧ WorldAt A P S h ∧ S.flight.length ≤ 1000000 ∧ S.log.length ≤ 1000000 ∧ Q (.ref (cix h.length).w) (h ++ copyW P S h.length)
/-- the worlds that stand, each with what it tells -/
structure Ws (P : Par) (xs : List (WIx × St)) (h : LH) : Prop where
  at_ : ∀ (i : Nat) (A : WIx) (S : St), xs[i]? = some (A, S) → WorldAt A P S h
  dis : ∀ (i j : Nat) (A B : WIx) (S T : St), i < j → xs[i]? = some (A, S) → xs[j]? = some (B, T) → ∀ x, A.own x → B.own x → False
/-- what lies on the law's desk: the well, the session, the worlds behind each deed -/
structure Desk (w b wl : Nat) (P : Par) (xs : List (WIx × St)) (us : List St) (S : St) (h : LH) : Prop where
  p : P.Ok
  well : WellAt w h
  sess : SessAt b P S us false h
  list : h[wl]? = some (.lst (xs.map fun p => D.ref p.1.w))
  ws : Ws P xs h
  hist : xs.map (·.2) = us ++ [S]
  fine : ∀ (i : Nat) (A : WIx) (T : St), xs[i]? = some (A, T) → Fine P T (60 * i) (120 * i) ∧ T.tick ≤ 60 * i
  ne : w ≠ b ∧ w ≠ wl ∧ b ≠ wl
  now : ∀ (i : Nat) (A : WIx) (T : St), xs[i]? = some (A, T) → ¬ A.own w ∧ ¬ A.own b ∧ ¬ A.own wl
def G_law_walked : LSp := fun ds h Q _ => ∃ w b wl P xs us S, ∃ n : Nat, ds = [.ref w, .ref b, .ref wl, .int n] ∧ Desk w b wl P xs us S h ∧ us.length + n ≤ 40 ∧ ∀ xs' us' S' h', Desk w b wl P xs' us' S' h' → us'.length = us.length + n → (us' ++ [S'])[0]? = (us ++ [S])[0]? → Q (.bl true) h'

end LL.K67
end

section
set_option Elab.async false
set_option linter.all false
set_option maxRecDepth 100000
namespace LL.K67
open PySem LL
theorem wsp_mono {w : Nat} {R : D → Prop} {h : LH} {Q Q' : D → LH → Prop} (hQ : ∀ d h, Q d h → Q' d h) (q : wsp w R h Q) : wsp w R h Q' := ⟨q.1, fun r a c b hr => hQ _ _ (q.2 r a c b hr)⟩
theorem fsp_mono {n : Nat} {P : Par} {S S' : St} {h : LH} {Q Q' : D → LH → Prop} (hQ : ∀ d h, Q d h → Q' d h) (q : fsp n P S S' h Q) : fsp n P S S' h Q' := ⟨q.1, fun h' a b => hQ _ _ (q.2 h' a b)⟩
theorem dsp_mono {b : Nat} {P : Par} {S : St} {us : List St} {β busy : Bool} {r : RJob} {h : LH} {Q Q' : D → LH → Prop} {E E' : XL} {ans : Job → D} (hQ : ∀ d h, Q d h → Q' d h) (hE : ∀ c fs h, E c fs h → E' c fs h) (q : dsp b P S us β busy r h Q E ans) : dsp b P S us β busy r h Q' E' ans := ⟨fun a => hE _ _ _ (q.1 a), fun a c fs e => hE _ _ _ (q.2.1 a c fs e), fun a b c => hE _ _ _ (q.2.2.1 a b c), fun a j o b c d e => hQ _ _ (q.2.2.2 a j o b c d e)⟩
theorem M_law_well : MonoP G_law_well := fun ds h Q Q' E E' hQ hE ⟨x0, x1, y0, y1, y2⟩ => ⟨x0, x1, y0, y1, (fun z0 z1 z2 => hQ _ _ (y2 z0 z1 z2))⟩
theorem M_law_draw : MonoP G_law_draw := fun ds h Q Q' E E' hQ hE ⟨x0, x1, y0, y1, y2, y3⟩ => ⟨x0, x1, y0, y1, y2, wsp_mono hQ y3⟩
theorem M_law_one_of : MonoP G_law_one_of := fun ds h Q Q' E E' hQ hE ⟨x0, x1, y0, y1, y2, y3⟩ => ⟨x0, x1, y0, y1, y2, wsp_mono hQ y3⟩
theorem M_law_ways : MonoP G_law_ways := fun ds h Q Q' E E' hQ hE ⟨x0, y0, y1⟩ => ⟨x0, y0, wsp_mono hQ y1⟩
theorem M_law_told : MonoP G_law_told := fun ds h Q Q' E E' hQ hE ⟨x0, y0, y1⟩ => ⟨x0, y0, wsp_mono hQ y1⟩
theorem M_law_made : MonoP G_law_made := fun ds h Q Q' E E' hQ hE ⟨x0, y0, y1, y2⟩ => ⟨x0, y0, y1, (hQ _ _ y2)⟩
theorem M_law_new : MonoP G_law_new := fun ds h Q Q' E E' hQ hE ⟨x0, y0, y1⟩ => ⟨x0, y0, (hQ _ _ y1)⟩
theorem M_law_send : MonoP G_law_send := fun ds h Q Q' E E' hQ hE ⟨x0, x1, x2, x3, x4, y0, y1, y2, y3, y4⟩ => ⟨x0, x1, x2, x3, x4, y0, y1, y2, y3, (fun z0 z1 => hQ _ _ (y4 z0 z1))⟩
theorem M_law_free : MonoP G_law_free := fun ds h Q Q' E E' hQ hE ⟨x0, x1, x2, x3, x4, x5, y0, y1, y2, y3, y4, y5, y6⟩ => ⟨x0, x1, x2, x3, x4, x5, y0, y1, y2, y3, y4, y5, (fun z0 z1 => hQ _ _ (y6 z0 z1))⟩
theorem M_law_land : MonoP G_law_land := fun ds h Q Q' E E' hQ hE ⟨x0, x1, x2, x3, x4, y0, y1, y2, y3, y4, y5, y6⟩ => ⟨x0, x1, x2, x3, x4, y0, y1, y2, y3, y4, y5, (fun z0 z1 => hQ _ _ (y6 z0 z1))⟩
theorem M_law_leave : MonoP G_law_leave := fun ds h Q Q' E E' hQ hE ⟨x0, x1, x2, x3, x4, y0, y1, y2, y3, y4, y5, y6⟩ => ⟨x0, x1, x2, x3, x4, y0, y1, y2, y3, y4, y5, (fun z0 z1 => hQ _ _ (y6 z0 z1))⟩
theorem M_law_waited : MonoP G_law_waited := fun ds h Q Q' E E' hQ hE ⟨x0, x1, x2, x3, x4, x5, y0, y1, y2, y3, y4, y5, y6, y7⟩ => ⟨x0, x1, x2, x3, x4, x5, y0, y1, y2, y3, y4, y5, y6, (fun z0 z1 => hQ _ _ (y7 z0 z1))⟩
theorem M_law_done : MonoP G_law_done := fun ds h Q Q' E E' hQ hE ⟨x0, x1, x2, x3, x4, x5, y0, y1, y2, y3, y4⟩ => ⟨x0, x1, x2, x3, x4, x5, y0, y1, y2, y3, (fun z0 z1 => hQ _ _ (y4 z0 z1))⟩
theorem M_law_listed : MonoP G_law_listed := fun ds h Q Q' E E' hQ hE ⟨x0, x1, y0, y1, y2, y3⟩ => ⟨x0, x1, y0, y1, y2, (hQ _ _ y3)⟩
theorem M_law_view : MonoP G_law_view := fun ds h Q Q' E E' hQ hE ⟨x0, x1, x2, x3, x4, y0, y1, y2, y3, y4, y5, y6⟩ => ⟨x0, x1, x2, x3, x4, y0, y1, y2, y3, y4, y5, (hQ _ _ y6)⟩
theorem M_law_job : MonoP G_law_job := fun ds h Q Q' E E' hQ hE ⟨x0, x1, x2, x3, y0, y1, y2, y3, y4⟩ => ⟨x0, x1, x2, x3, y0, y1, y2, y3, wsp_mono hQ y4⟩
theorem M_law_right : MonoP G_law_right := fun ds h Q Q' E E' hQ hE ⟨x0, y0, y1, y2⟩ => ⟨x0, y0, y1, (fun z0 => hQ _ _ (y2 z0))⟩
theorem M_check_line : MonoP G_check_line := fun ds h Q Q' E E' hQ hE ⟨x0, y0, y1⟩ => ⟨x0, y0, (hQ _ _ y1)⟩
theorem M_check_setting : MonoP G_check_setting := fun ds h Q Q' E E' hQ hE ⟨x0, x1, y0, y1⟩ => ⟨x0, x1, y0, (hQ _ _ y1)⟩
theorem M_is_integer : MonoP G_is_integer := fun ds h Q Q' E E' hQ hE ⟨x0, y0, y1, y2⟩ => ⟨x0, y0, y1, (hQ _ _ y2)⟩
theorem M_is_between : MonoP G_is_between := fun ds h Q Q' E E' hQ hE ⟨x0, x1, x2, y0, y1, y2⟩ => ⟨x0, x1, x2, y0, y1, (hQ _ _ y2)⟩
theorem M_check_number : MonoP G_check_number := fun ds h Q Q' E E' hQ hE ⟨x0, x1, x2, y0, y1, y2, y3⟩ => ⟨x0, x1, x2, y0, y1, (fun z0 => hQ _ _ (y2 z0)), (fun z0 => hE _ _ _ (y3 z0))⟩
theorem M_check_side : MonoP G_check_side := fun ds h Q Q' E E' hQ hE ⟨x0, y0, y1, y2, y3⟩ => ⟨x0, y0, y1, (fun z0 => hQ _ _ (y2 z0)), (fun z0 => hE _ _ _ (y3 z0))⟩
theorem M_Setting_init : MonoP G_Setting_init := fun ds h Q Q' E E' hQ hE ⟨x0, x1, x2, y0, y1, y2, y3⟩ => ⟨x0, x1, x2, y0, y1, y2, (hQ _ _ y3)⟩
theorem M_Line_init : MonoP G_Line_init := fun ds h Q Q' E E' hQ hE ⟨x0, x1, y0, y1, y2, y3⟩ => ⟨x0, x1, y0, y1, y2, (hQ _ _ y3)⟩
theorem M_Flow_init : MonoP G_Flow_init := fun ds h Q Q' E E' hQ hE ⟨x0, x1, y0, y1, y2⟩ => ⟨x0, x1, y0, y1, (hQ _ _ y2)⟩
theorem M_Session_init : MonoP G_Session_init := fun ds h Q Q' E E' hQ hE ⟨x0, x1, y0, y1, y2⟩ => ⟨x0, x1, y0, y1, (fun z0 z1 => hQ _ _ (y2 z0 z1))⟩
theorem M_Flow_kept : MonoP G_Flow_kept := fun ds h Q Q' E E' hQ hE ⟨x0, x1, x2, x3, y0, y1, y2, y3⟩ => ⟨x0, x1, x2, x3, y0, y1, y2, (hQ _ _ y3)⟩
theorem M_Flow_fresh : MonoP G_Flow_fresh := fun ds h Q Q' E E' hQ hE ⟨x0, x1, x2, x3, y0, y1, y2⟩ => ⟨x0, x1, x2, x3, y0, y1, (hQ _ _ y2)⟩
theorem M_Session_show : MonoP G_Session_show := fun ds h Q Q' E E' hQ hE ⟨x0, x1, x2, x3, x4, x5, x6, x7, y0, y1, y2, y3, y4, y5, y6⟩ => ⟨x0, x1, x2, x3, x4, x5, x6, x7, y0, y1, y2, y3, y4, y5, (hQ _ _ y6)⟩
theorem M_Session_check_free : MonoP G_Session_check_free := fun ds h Q Q' E E' hQ hE ⟨x0, x1, x2, x3, x4, y0, y1, y2, y3⟩ => ⟨x0, x1, x2, x3, x4, y0, y1, (fun z0 => hQ _ _ (y2 z0)), (fun z0 => hE _ _ _ (y3 z0))⟩
theorem M_check_deed : MonoP G_check_deed := fun ds h Q Q' E E' hQ hE ⟨x0, x1, x2, x3, x4, y0, y1, y2, y3, y4⟩ => ⟨x0, x1, x2, x3, x4, y0, y1, y2, (fun z0 => hQ _ _ (y3 z0)), (fun z0 z1 z2 => hE _ _ _ (y4 z0 z1 z2))⟩
theorem M_Flow_copied : MonoP G_Flow_copied := fun ds h Q Q' E E' hQ hE ⟨x0, x1, x2, x3, y0, y1, y2⟩ => ⟨x0, x1, x2, x3, y0, y1, (fun z0 z1 z2 => hQ _ _ (y2 z0 z1 z2))⟩
theorem M_Flow_take_out : MonoP G_Flow_take_out := fun ds h Q Q' E E' hQ hE ⟨x0, x1, x2, x3, x4, x5, x6, x7, y0, y1, y2, y3, y4, y5⟩ => ⟨x0, x1, x2, x3, x4, x5, x6, x7, y0, y1, y2, y3, y4, (fun z0 z1 z2 z3 z4 z5 z6 => hQ _ _ (y5 z0 z1 z2 z3 z4 z5 z6))⟩
theorem M_Flow_send : MonoP G_Flow_send := fun ds h Q Q' E E' hQ hE ⟨x0, x1, x2, x3, x4, y0, y1, y2, y3, y4, y5, y6⟩ => ⟨x0, x1, x2, x3, x4, y0, y1, y2, y3, y4, y5, fsp_mono hQ y6⟩
theorem M_Flow_lets : MonoP G_Flow_lets := fun ds h Q Q' E E' hQ hE ⟨x0, x1, x2, x3, y0, y1, y2, y3, y4⟩ => ⟨x0, x1, x2, x3, y0, y1, y2, y3, (hQ _ _ y4)⟩
theorem M_Flow_let_go : MonoP G_Flow_let_go := fun ds h Q Q' E E' hQ hE ⟨x0, x1, x2, x3, x4, x5, y0, y1, y2, y3, y4, y5⟩ => ⟨x0, x1, x2, x3, x4, x5, y0, y1, y2, y3, y4, fsp_mono hQ y5⟩
theorem M_Flow_put : MonoP G_Flow_put := fun ds h Q Q' E E' hQ hE ⟨x0, x1, x2, x3, x4, x5, x6, y0, y1, y2, y3, y4, y5, y6⟩ => ⟨x0, x1, x2, x3, x4, x5, x6, y0, y1, y2, y3, y4, y5, fsp_mono hQ y6⟩
theorem M_Flow_is_due : MonoP G_Flow_is_due := fun ds h Q Q' E E' hQ hE ⟨x0, x1, x2, x3, y0, y1, y2⟩ => ⟨x0, x1, x2, x3, y0, y1, (hQ _ _ y2)⟩
theorem M_Flow_leave : MonoP G_Flow_leave := fun ds h Q Q' E E' hQ hE ⟨x0, x1, x2, x3, x4, y0, y1, y2, y3, y4, y5⟩ => ⟨x0, x1, x2, x3, x4, y0, y1, y2, y3, y4, fsp_mono hQ y5⟩
theorem M_Flow_next_tick : MonoP G_Flow_next_tick := fun ds h Q Q' E E' hQ hE ⟨x0, x1, x2, y0, y1, y2, y3⟩ => ⟨x0, x1, x2, y0, y1, y2, (fun z0 z1 z2 z3 z4 => hQ _ _ (y3 z0 z1 z2 z3 z4))⟩
theorem M_Flow_land : MonoP G_Flow_land := fun ds h Q Q' E E' hQ hE ⟨x0, x1, x2, x3, y0, y1, y2, y3⟩ => ⟨x0, x1, x2, x3, y0, y1, y2, fsp_mono hQ y3⟩
theorem M_Flow_begin : MonoP G_Flow_begin := fun ds h Q Q' E E' hQ hE ⟨x0, x1, x2, x3, x4, x5, y0, y1, y2, y3, y4, y5, y6⟩ => ⟨x0, x1, x2, x3, x4, x5, y0, y1, y2, y3, y4, y5, fsp_mono hQ y6⟩
theorem M_pass_ticks : MonoP G_pass_ticks := fun ds h Q Q' E E' hQ hE ⟨x0, x1, x2, x3, x4, x5, y0, y1, y2, y3, y4⟩ => ⟨x0, x1, x2, x3, x4, x5, y0, y1, y2, y3, fsp_mono hQ y4⟩
theorem M_flow_behind : MonoP G_flow_behind := fun ds h Q Q' E E' hQ hE ⟨x0, x1, x2, x3, x4, x5, x6, y0, y1, y2, y3, y4⟩ => ⟨x0, x1, x2, x3, x4, x5, x6, y0, y1, y2, y3, (fun z0 z1 z2 => hQ _ _ (y4 z0 z1 z2))⟩
theorem M_Session_do_deed : MonoP G_Session_do_deed := fun ds h Q Q' E E' hQ hE ⟨x0, x1, x2, x3, x4, x5, x6, x7, y0, y1, y2, y3, y4⟩ => ⟨x0, x1, x2, x3, x4, x5, x6, x7, y0, y1, y2, y3, dsp_mono hQ hE y4⟩
theorem M_Session_write : MonoP G_Session_write := fun ds h Q Q' E E' hQ hE ⟨x0, x1, x2, x3, x4, x5, x6, x7, x8, y0, y1, y2, y3, y4⟩ => ⟨x0, x1, x2, x3, x4, x5, x6, x7, x8, y0, y1, y2, y3, dsp_mono hQ hE y4⟩
theorem M_Session_read : MonoP G_Session_read := fun ds h Q Q' E E' hQ hE ⟨x0, x1, x2, x3, x4, x5, x6, x7, x8, y0, y1, y2, y3, y4⟩ => ⟨x0, x1, x2, x3, x4, x5, x6, x7, x8, y0, y1, y2, y3, dsp_mono hQ hE y4⟩
theorem M_Session_wait : MonoP G_Session_wait := fun ds h Q Q' E E' hQ hE ⟨x0, x1, x2, x3, x4, x5, x6, x7, y0, y1, y2, y3, y4⟩ => ⟨x0, x1, x2, x3, x4, x5, x6, x7, y0, y1, y2, y3, dsp_mono hQ hE y4⟩
theorem M_law_call : MonoP G_law_call := fun ds h Q Q' E E' hQ hE ⟨x0, x1, x2, x3, x4, x5, x6, x7, y0, y1, y2, y3, y4⟩ => ⟨x0, x1, x2, x3, x4, x5, x6, x7, y0, y1, y2, y3, dsp_mono hQ hE y4⟩
theorem M_Session_len : MonoP G_Session_len := fun ds h Q Q' E E' hQ hE ⟨x0, x1, x2, x3, x4, y0, y1, y2⟩ => ⟨x0, x1, x2, x3, x4, y0, y1, (hQ _ _ y2)⟩
theorem M_Session_repr : MonoP G_Session_repr := fun ds h Q Q' E E' hQ hE ⟨x0, x1, x2, x3, x4, y0, y1, y2, y3, y4, y5⟩ => ⟨x0, x1, x2, x3, x4, y0, y1, y2, y3, y4, (hQ _ _ y5)⟩
theorem M_law_shown : MonoP G_law_shown := fun ds h Q Q' E E' hQ hE ⟨x0, x1, x2, x3, x4, y0, y1, y2, y3, y4, y5⟩ => ⟨x0, x1, x2, x3, x4, y0, y1, y2, y3, y4, (hQ _ _ y5)⟩
theorem M_Session_undo : MonoP G_Session_undo := fun ds h Q Q' E E' hQ hE ⟨x0, x1, x2, x3, x4, y0, y1, y2, y3, y4, y5, y6⟩ => ⟨x0, x1, x2, x3, x4, y0, y1, y2, y3, (fun z0 => hE _ _ _ (y4 z0)), (fun z0 z1 => hE _ _ _ (y5 z0 z1)), (fun z0 z1 z2 z3 z4 z5 => hQ _ _ (y6 z0 z1 z2 z3 z4 z5))⟩
theorem M_law_copied : MonoP G_law_copied := fun ds h Q Q' E E' hQ hE ⟨x0, x1, x2, y0, y1, y2, y3, y4⟩ => ⟨x0, x1, x2, y0, y1, y2, y3, (hQ _ _ y4)⟩
theorem M_law_walked : MonoP G_law_walked := fun ds h Q Q' E E' hQ hE ⟨x0, x1, x2, x3, x4, x5, x6, x7, y0, y1, y2, y3⟩ => ⟨x0, x1, x2, x3, x4, x5, x6, x7, y0, y1, y2, (fun z0 z1 z2 z3 z4 z5 z6 => hQ _ _ (y3 z0 z1 z2 z3 z4 z5 z6))⟩
theorem M_law : MonoP G_law := mono_law
end LL.K67
end

section
set_option Elab.async false
set_option linter.all false
set_option maxRecDepth 100000
set_option maxHeartbeats 0
namespace LL.K67
open PySem PySem.Spec PyProof.Rows L2 LL
structure Wd (w : World) (K : Frag) (mg : Str → Option Value) (h base : Heap) : Prop where
  kin : K.In h
  ns : h.Ns mainGlobals mg
  c : He.SaysX fa fn [] tf ex w h K
  tb : ∀ p ∈ tf, LamX.TabB base mg (He.cT K p).1 (He.cT K p).2
theorem tk0 {X : Cx} : L2N.Takes X NoW := takesNo
section
variable {w : World} {K : Frag} {mg : Str → Option Value} {h base : Heap} (D : Wd w K mg h base)
include D
theorem Wd.ft (i : Nat) {f : He.Fa} (e : fa[i]? = some f := by rfl) : f.ok K = true := D.c.t.d.fact i e
theorem Wd.g_Busy : mg "Busy" = some (.ref (He.ga K "Busy")) := He.glo_ok D.kin D.ns (D.ft 0)
theorem Wd.g_Flow : mg "Flow" = some (.ref (He.ga K "Flow")) := He.glo_ok D.kin D.ns (D.ft 1)
theorem Wd.g_InvalidDeeds : mg "InvalidDeeds" = some (.ref (He.ga K "InvalidDeeds")) := He.glo_ok D.kin D.ns (D.ft 2)
theorem Wd.g_InvalidNumber : mg "InvalidNumber" = some (.ref (He.ga K "InvalidNumber")) := He.glo_ok D.kin D.ns (D.ft 3)
theorem Wd.g_InvalidRule : mg "InvalidRule" = some (.ref (He.ga K "InvalidRule")) := He.glo_ok D.kin D.ns (D.ft 4)
theorem Wd.g_InvalidSide : mg "InvalidSide" = some (.ref (He.ga K "InvalidSide")) := He.glo_ok D.kin D.ns (D.ft 5)
theorem Wd.g_Line : mg "Line" = some (.ref (He.ga K "Line")) := He.glo_ok D.kin D.ns (D.ft 6)
theorem Wd.g_NotALine : mg "NotALine" = some (.ref (He.ga K "NotALine")) := He.glo_ok D.kin D.ns (D.ft 7)
theorem Wd.g_NotASetting : mg "NotASetting" = some (.ref (He.ga K "NotASetting")) := He.glo_ok D.kin D.ns (D.ft 8)
theorem Wd.g_NotThere : mg "NotThere" = some (.ref (He.ga K "NotThere")) := He.glo_ok D.kin D.ns (D.ft 9)
theorem Wd.g_NothingToUndo : mg "NothingToUndo" = some (.ref (He.ga K "NothingToUndo")) := He.glo_ok D.kin D.ns (D.ft 10)
theorem Wd.g_RULES : mg "RULES" = some (.ref (He.ga K "RULES")) := He.glo_ok D.kin D.ns (D.ft 11)
theorem Wd.g_Session : mg "Session" = some (.ref (He.ga K "Session")) := He.glo_ok D.kin D.ns (D.ft 12)
theorem Wd.g_Setting : mg "Setting" = some (.ref (He.ga K "Setting")) := He.glo_ok D.kin D.ns (D.ft 13)
theorem Wd.g_TooMany : mg "TooMany" = some (.ref (He.ga K "TooMany")) := He.glo_ok D.kin D.ns (D.ft 14)
theorem Wd.g__law_call : mg "_law_call" = some (.ref (He.ga K "_law_call")) := He.glo_ok D.kin D.ns (D.ft 15)
theorem Wd.g__law_copied : mg "_law_copied" = some (.ref (He.ga K "_law_copied")) := He.glo_ok D.kin D.ns (D.ft 16)
theorem Wd.g__law_done : mg "_law_done" = some (.ref (He.ga K "_law_done")) := He.glo_ok D.kin D.ns (D.ft 17)
theorem Wd.g__law_draw : mg "_law_draw" = some (.ref (He.ga K "_law_draw")) := He.glo_ok D.kin D.ns (D.ft 18)
theorem Wd.g__law_free : mg "_law_free" = some (.ref (He.ga K "_law_free")) := He.glo_ok D.kin D.ns (D.ft 19)
theorem Wd.g__law_job : mg "_law_job" = some (.ref (He.ga K "_law_job")) := He.glo_ok D.kin D.ns (D.ft 20)
theorem Wd.g__law_land : mg "_law_land" = some (.ref (He.ga K "_law_land")) := He.glo_ok D.kin D.ns (D.ft 21)
theorem Wd.g__law_leave : mg "_law_leave" = some (.ref (He.ga K "_law_leave")) := He.glo_ok D.kin D.ns (D.ft 22)
theorem Wd.g__law_listed : mg "_law_listed" = some (.ref (He.ga K "_law_listed")) := He.glo_ok D.kin D.ns (D.ft 23)
theorem Wd.g__law_made : mg "_law_made" = some (.ref (He.ga K "_law_made")) := He.glo_ok D.kin D.ns (D.ft 24)
theorem Wd.g__law_new : mg "_law_new" = some (.ref (He.ga K "_law_new")) := He.glo_ok D.kin D.ns (D.ft 25)
theorem Wd.g__law_one_of : mg "_law_one_of" = some (.ref (He.ga K "_law_one_of")) := He.glo_ok D.kin D.ns (D.ft 26)
theorem Wd.g__law_outcome : mg "_law_outcome" = some (.ref (He.ga K "_law_outcome")) := He.glo_ok D.kin D.ns (D.ft 27)
theorem Wd.g__law_right : mg "_law_right" = some (.ref (He.ga K "_law_right")) := He.glo_ok D.kin D.ns (D.ft 28)
theorem Wd.g__law_send : mg "_law_send" = some (.ref (He.ga K "_law_send")) := He.glo_ok D.kin D.ns (D.ft 29)
theorem Wd.g__law_shown : mg "_law_shown" = some (.ref (He.ga K "_law_shown")) := He.glo_ok D.kin D.ns (D.ft 30)
theorem Wd.g__law_told : mg "_law_told" = some (.ref (He.ga K "_law_told")) := He.glo_ok D.kin D.ns (D.ft 31)
theorem Wd.g__law_view : mg "_law_view" = some (.ref (He.ga K "_law_view")) := He.glo_ok D.kin D.ns (D.ft 32)
theorem Wd.g__law_waited : mg "_law_waited" = some (.ref (He.ga K "_law_waited")) := He.glo_ok D.kin D.ns (D.ft 33)
theorem Wd.g__law_walked : mg "_law_walked" = some (.ref (He.ga K "_law_walked")) := He.glo_ok D.kin D.ns (D.ft 34)
theorem Wd.g__law_ways : mg "_law_ways" = some (.ref (He.ga K "_law_ways")) := He.glo_ok D.kin D.ns (D.ft 35)
theorem Wd.g__law_well : mg "_law_well" = some (.ref (He.ga K "_law_well")) := He.glo_ok D.kin D.ns (D.ft 36)
theorem Wd.g_check_deed : mg "check_deed" = some (.ref (He.ga K "check_deed")) := He.glo_ok D.kin D.ns (D.ft 37)
theorem Wd.g_check_line : mg "check_line" = some (.ref (He.ga K "check_line")) := He.glo_ok D.kin D.ns (D.ft 38)
theorem Wd.g_check_number : mg "check_number" = some (.ref (He.ga K "check_number")) := He.glo_ok D.kin D.ns (D.ft 39)
theorem Wd.g_check_setting : mg "check_setting" = some (.ref (He.ga K "check_setting")) := He.glo_ok D.kin D.ns (D.ft 40)
theorem Wd.g_check_side : mg "check_side" = some (.ref (He.ga K "check_side")) := He.glo_ok D.kin D.ns (D.ft 41)
theorem Wd.g_flow_behind : mg "flow_behind" = some (.ref (He.ga K "flow_behind")) := He.glo_ok D.kin D.ns (D.ft 42)
theorem Wd.g_is_between : mg "is_between" = some (.ref (He.ga K "is_between")) := He.glo_ok D.kin D.ns (D.ft 43)
theorem Wd.g_is_integer : mg "is_integer" = some (.ref (He.ga K "is_integer")) := He.glo_ok D.kin D.ns (D.ft 44)
theorem Wd.g_law : mg "law" = some (.ref (He.ga K "law")) := He.glo_ok D.kin D.ns (D.ft 45)
theorem Wd.g_pass_ticks : mg "pass_ticks" = some (.ref (He.ga K "pass_ticks")) := He.glo_ok D.kin D.ns (D.ft 46)
theorem Wd.u_abs : mg "abs" = none := He.free_ok D.kin D.ns (D.ft 47)
theorem Wd.u_all : mg "all" = none := He.free_ok D.kin D.ns (D.ft 48)
theorem Wd.u_bool : mg "bool" = none := He.free_ok D.kin D.ns (D.ft 49)
theorem Wd.u_divmod : mg "divmod" = none := He.free_ok D.kin D.ns (D.ft 50)
theorem Wd.u_int : mg "int" = none := He.free_ok D.kin D.ns (D.ft 51)
theorem Wd.u_isinstance : mg "isinstance" = none := He.free_ok D.kin D.ns (D.ft 52)
theorem Wd.u_len : mg "len" = none := He.free_ok D.kin D.ns (D.ft 53)
theorem Wd.u_list : mg "list" = none := He.free_ok D.kin D.ns (D.ft 54)
theorem Wd.u_max : mg "max" = none := He.free_ok D.kin D.ns (D.ft 55)
theorem Wd.u_min : mg "min" = none := He.free_ok D.kin D.ns (D.ft 56)
theorem Wd.u_range : mg "range" = none := He.free_ok D.kin D.ns (D.ft 57)
theorem Wd.u_repr : mg "repr" = none := He.free_ok D.kin D.ns (D.ft 58)
theorem Wd.u_sorted : mg "sorted" = none := He.free_ok D.kin D.ns (D.ft 59)
theorem Wd.u_str : mg "str" = none := He.free_ok D.kin D.ns (D.ft 60)
theorem Wd.u_sum : mg "sum" = none := He.free_ok D.kin D.ns (D.ft 61)
theorem Wd.u_tuple : mg "tuple" = none := He.free_ok D.kin D.ns (D.ft 62)
theorem Wd.i_MOST_BYTES : ∃ t, mg "MOST_BYTES" = some (.int 60 t) := He.int_ok D.kin D.ns (D.ft 63)
theorem Wd.i_MOST_DEEDS : ∃ t, mg "MOST_DEEDS" = some (.int 60 t) := He.int_ok D.kin D.ns (D.ft 64)
theorem Wd.i_MOST_DELAY : ∃ t, mg "MOST_DELAY" = some (.int 200 t) := He.int_ok D.kin D.ns (D.ft 65)
theorem Wd.i_MOST_EVERY : ∃ t, mg "MOST_EVERY" = some (.int 4 t) := He.int_ok D.kin D.ns (D.ft 66)
theorem Wd.i_MOST_SIZE : ∃ t, mg "MOST_SIZE" = some (.int 40 t) := He.int_ok D.kin D.ns (D.ft 67)
theorem Wd.i_MOST_WAY : ∃ t, mg "MOST_WAY" = some (.int 200 t) := He.int_ok D.kin D.ns (D.ft 68)
theorem Wd.c_Flow : Cls K (He.ga K "Flow") := He.cls_ok (D.ft 69)
theorem Wd.c_Line : Cls K (He.ga K "Line") := He.cls_ok (D.ft 70)
theorem Wd.c_Moment : Cls K (He.ga K "Moment") := He.cls_ok (D.ft 71)
theorem Wd.c_Session : Cls K (He.ga K "Session") := He.cls_ok (D.ft 72)
theorem Wd.c_Setting : Cls K (He.ga K "Setting") := He.cls_ok (D.ft 73)
theorem Wd.n_Session_bool : PySem.W.findIn K (.ref (He.ga K "Session")) "__bool__" = some none := He.eqO_ok (D.ft (f := .noat "Session" "__bool__") 115)
theorem Wd.m_Flow_begin : Meth K (He.ga K "Flow") "begin" (He.fAd K ("Flow", some "begin")) := He.meth_ok (D.ft 116)
theorem Wd.m_Flow_copied : Meth K (He.ga K "Flow") "copied" (He.fAd K ("Flow", some "copied")) := He.meth_ok (D.ft 117)
theorem Wd.m_Flow_fresh : Meth K (He.ga K "Flow") "fresh" (He.fAd K ("Flow", some "fresh")) := He.meth_ok (D.ft 118)
theorem Wd.m_Flow_is_due : Meth K (He.ga K "Flow") "is_due" (He.fAd K ("Flow", some "is_due")) := He.meth_ok (D.ft 119)
theorem Wd.m_Flow_kept : Meth K (He.ga K "Flow") "kept" (He.fAd K ("Flow", some "kept")) := He.meth_ok (D.ft 120)
theorem Wd.m_Flow_land : Meth K (He.ga K "Flow") "land" (He.fAd K ("Flow", some "land")) := He.meth_ok (D.ft 121)
theorem Wd.m_Flow_leave : Meth K (He.ga K "Flow") "leave" (He.fAd K ("Flow", some "leave")) := He.meth_ok (D.ft 122)
theorem Wd.m_Flow_let_go : Meth K (He.ga K "Flow") "let_go" (He.fAd K ("Flow", some "let_go")) := He.meth_ok (D.ft 123)
theorem Wd.m_Flow_lets : Meth K (He.ga K "Flow") "lets" (He.fAd K ("Flow", some "lets")) := He.meth_ok (D.ft 124)
theorem Wd.m_Flow_next_tick : Meth K (He.ga K "Flow") "next_tick" (He.fAd K ("Flow", some "next_tick")) := He.meth_ok (D.ft 125)
theorem Wd.m_Flow_put : Meth K (He.ga K "Flow") "put" (He.fAd K ("Flow", some "put")) := He.meth_ok (D.ft 126)
theorem Wd.m_Flow_send : Meth K (He.ga K "Flow") "send" (He.fAd K ("Flow", some "send")) := He.meth_ok (D.ft 127)
theorem Wd.m_Flow_take_out : Meth K (He.ga K "Flow") "take_out" (He.fAd K ("Flow", some "take_out")) := He.meth_ok (D.ft 128)
theorem Wd.m_Session_len : Meth K (He.ga K "Session") "__len__" (He.fAd K ("Session", some "__len__")) := He.meth_ok (D.ft 129)
theorem Wd.m_Session_repr : Meth K (He.ga K "Session") "__repr__" (He.fAd K ("Session", some "__repr__")) := He.meth_ok (D.ft 130)
theorem Wd.m_Session_check_free : Meth K (He.ga K "Session") "check_free" (He.fAd K ("Session", some "check_free")) := He.meth_ok (D.ft 131)
theorem Wd.m_Session_do_deed : Meth K (He.ga K "Session") "do_deed" (He.fAd K ("Session", some "do_deed")) := He.meth_ok (D.ft 132)
theorem Wd.m_Session_read : Meth K (He.ga K "Session") "read" (He.fAd K ("Session", some "read")) := He.meth_ok (D.ft 133)
theorem Wd.m_Session_show : Meth K (He.ga K "Session") "show" (He.fAd K ("Session", some "show")) := He.meth_ok (D.ft 134)
theorem Wd.m_Session_undo : Meth K (He.ga K "Session") "undo" (He.fAd K ("Session", some "undo")) := He.meth_ok (D.ft 135)
theorem Wd.m_Session_wait : Meth K (He.ga K "Session") "wait" (He.fAd K ("Session", some "wait")) := He.meth_ok (D.ft 136)
theorem Wd.m_Session_write : Meth K (He.ga K "Session") "write" (He.fAd K ("Session", some "write")) := He.meth_ok (D.ft 137)
theorem Wd.mk_Flow : Mk K (He.ga K "Flow") (He.fAd K ("Flow", some "__init__")) := He.mkr_ok (D.ft 138)
theorem Wd.mk_Line : Mk K (He.ga K "Line") (He.fAd K ("Line", some "__init__")) := He.mkr_ok (D.ft 139)
theorem Wd.mk_Session : Mk K (He.ga K "Session") (He.fAd K ("Session", some "__init__")) := He.mkr_ok (D.ft 140)
theorem Wd.mk_Setting : Mk K (He.ga K "Setting") (He.fAd K ("Setting", some "__init__")) := He.mkr_ok (D.ft 141)
theorem Wd.f_busy : ∀ C ∈ cs_busy, CF K C "busy" := by
  intro C hC
  simp only [cs_busy, List.mem_cons, List.not_mem_nil, or_false] at hC
  rcases hC with rfl
  · exact ⟨D.c_Session, He.noat_ok (D.ft 74)⟩
theorem Wd.f_come : ∀ C ∈ cs_come, CF K C "come" := by
  intro C hC
  simp only [cs_come, List.mem_cons, List.not_mem_nil, or_false] at hC
  rcases hC with rfl
  · exact ⟨D.c_Flow, He.noat_ok (D.ft 75)⟩
theorem Wd.f_delay : ∀ C ∈ cs_delay, CF K C "delay" := by
  intro C hC
  simp only [cs_delay, List.mem_cons, List.not_mem_nil, or_false] at hC
  rcases hC with rfl
  · exact ⟨D.c_Setting, He.noat_ok (D.ft 76)⟩
theorem Wd.f_every : ∀ C ∈ cs_every, CF K C "every" := by
  intro C hC
  simp only [cs_every, List.mem_cons, List.not_mem_nil, or_false] at hC
  rcases hC with rfl
  · exact ⟨D.c_Setting, He.noat_ok (D.ft 77)⟩
theorem Wd.f_far : ∀ C ∈ cs_far, CF K C "far" := by
  intro C hC
  simp only [cs_far, List.mem_cons, List.not_mem_nil, or_false] at hC
  rcases hC with rfl
  · exact ⟨D.c_Line, He.noat_ok (D.ft 78)⟩
theorem Wd.f_first : ∀ C ∈ cs_first, CF K C "first" := by
  intro C hC
  simp only [cs_first, List.mem_cons, List.not_mem_nil, or_false] at hC
  rcases hC with rfl
  · exact ⟨D.c_Flow, He.noat_ok (D.ft 79)⟩
theorem Wd.f_flight : ∀ C ∈ cs_flight, CF K C "flight" := by
  intro C hC
  simp only [cs_flight, List.mem_cons, List.not_mem_nil, or_false] at hC
  rcases hC with rfl
  · exact ⟨D.c_Flow, He.noat_ok (D.ft 80)⟩
theorem Wd.f_flow : ∀ C ∈ cs_flow, CF K C "flow" := by
  intro C hC
  simp only [cs_flow, List.mem_cons, List.not_mem_nil, or_false] at hC
  rcases hC with rfl | rfl
  · exact ⟨D.c_Moment, He.noat_ok (D.ft 81)⟩
  · exact ⟨D.c_Session, He.noat_ok (D.ft 82)⟩
theorem Wd.f_full : ∀ C ∈ cs_full, CF K C "full" := by
  intro C hC
  simp only [cs_full, List.mem_cons, List.not_mem_nil, or_false] at hC
  rcases hC with rfl
  · exact ⟨D.c_Flow, He.noat_ok (D.ft 83)⟩
theorem Wd.f_holding : ∀ C ∈ cs_holding, CF K C "holding" := by
  intro C hC
  simp only [cs_holding, List.mem_cons, List.not_mem_nil, or_false] at hC
  rcases hC with rfl | rfl
  · exact ⟨D.c_Moment, He.noat_ok (D.ft 84)⟩
  · exact ⟨D.c_Session, He.noat_ok (D.ft 85)⟩
theorem Wd.f_known : ∀ C ∈ cs_known, CF K C "known" := by
  intro C hC
  simp only [cs_known, List.mem_cons, List.not_mem_nil, or_false] at hC
  rcases hC with rfl
  · exact ⟨D.c_Flow, He.noat_ok (D.ft 86)⟩
theorem Wd.f_line : ∀ C ∈ cs_line, CF K C "line" := by
  intro C hC
  simp only [cs_line, List.mem_cons, List.not_mem_nil, or_false] at hC
  rcases hC with rfl | rfl
  · exact ⟨D.c_Flow, He.noat_ok (D.ft 87)⟩
  · exact ⟨D.c_Session, He.noat_ok (D.ft 88)⟩
theorem Wd.f_log : ∀ C ∈ cs_log, CF K C "log" := by
  intro C hC
  simp only [cs_log, List.mem_cons, List.not_mem_nil, or_false] at hC
  rcases hC with rfl
  · exact ⟨D.c_Flow, He.noat_ok (D.ft 89)⟩
theorem Wd.f_long : ∀ C ∈ cs_long, CF K C "long" := by
  intro C hC
  simp only [cs_long, List.mem_cons, List.not_mem_nil, or_false] at hC
  rcases hC with rfl
  · exact ⟨D.c_Flow, He.noat_ok (D.ft 90)⟩
theorem Wd.f_near : ∀ C ∈ cs_near, CF K C "near" := by
  intro C hC
  simp only [cs_near, List.mem_cons, List.not_mem_nil, or_false] at hC
  rcases hC with rfl
  · exact ⟨D.c_Line, He.noat_ok (D.ft 91)⟩
theorem Wd.f_now : ∀ C ∈ cs_now, CF K C "now" := by
  intro C hC
  simp only [cs_now, List.mem_cons, List.not_mem_nil, or_false] at hC
  rcases hC with rfl | rfl
  · exact ⟨D.c_Moment, He.noat_ok (D.ft 92)⟩
  · exact ⟨D.c_Session, He.noat_ok (D.ft 93)⟩
theorem Wd.f_out : ∀ C ∈ cs_out, CF K C "out" := by
  intro C hC
  simp only [cs_out, List.mem_cons, List.not_mem_nil, or_false] at hC
  rcases hC with rfl
  · exact ⟨D.c_Flow, He.noat_ok (D.ft 94)⟩
theorem Wd.f_past : ∀ C ∈ cs_past, CF K C "past" := by
  intro C hC
  simp only [cs_past, List.mem_cons, List.not_mem_nil, or_false] at hC
  rcases hC with rfl | rfl
  · exact ⟨D.c_Moment, He.noat_ok (D.ft 95)⟩
  · exact ⟨D.c_Session, He.noat_ok (D.ft 96)⟩
theorem Wd.f_pieces : ∀ C ∈ cs_pieces, CF K C "pieces" := by
  intro C hC
  simp only [cs_pieces, List.mem_cons, List.not_mem_nil, or_false] at hC
  rcases hC with rfl | rfl
  · exact ⟨D.c_Moment, He.noat_ok (D.ft 97)⟩
  · exact ⟨D.c_Session, He.noat_ok (D.ft 98)⟩
theorem Wd.f_rule : ∀ C ∈ cs_rule, CF K C "rule" := by
  intro C hC
  simp only [cs_rule, List.mem_cons, List.not_mem_nil, or_false] at hC
  rcases hC with rfl
  · exact ⟨D.c_Setting, He.noat_ok (D.ft 99)⟩
theorem Wd.f_settings : ∀ C ∈ cs_settings, CF K C "settings" := by
  intro C hC
  simp only [cs_settings, List.mem_cons, List.not_mem_nil, or_false] at hC
  rcases hC with rfl
  · exact ⟨D.c_Flow, He.noat_ok (D.ft 100)⟩
theorem Wd.f_size : ∀ C ∈ cs_size, CF K C "size" := by
  intro C hC
  simp only [cs_size, List.mem_cons, List.not_mem_nil, or_false] at hC
  rcases hC with rfl
  · exact ⟨D.c_Line, He.noat_ok (D.ft 101)⟩
theorem Wd.f_small : ∀ C ∈ cs_small, CF K C "small" := by
  intro C hC
  simp only [cs_small, List.mem_cons, List.not_mem_nil, or_false] at hC
  rcases hC with rfl
  · exact ⟨D.c_Flow, He.noat_ok (D.ft 102)⟩
theorem Wd.f_stock : ∀ C ∈ cs_stock, CF K C "stock" := by
  intro C hC
  simp only [cs_stock, List.mem_cons, List.not_mem_nil, or_false] at hC
  rcases hC with rfl
  · exact ⟨D.c_Flow, He.noat_ok (D.ft 103)⟩
theorem Wd.f_taken : ∀ C ∈ cs_taken, CF K C "taken" := by
  intro C hC
  simp only [cs_taken, List.mem_cons, List.not_mem_nil, or_false] at hC
  rcases hC with rfl
  · exact ⟨D.c_Flow, He.noat_ok (D.ft 104)⟩
theorem Wd.f_tick : ∀ C ∈ cs_tick, CF K C "tick" := by
  intro C hC
  simp only [cs_tick, List.mem_cons, List.not_mem_nil, or_false] at hC
  rcases hC with rfl
  · exact ⟨D.c_Flow, He.noat_ok (D.ft 105)⟩
theorem Wd.f_told : ∀ C ∈ cs_told, CF K C "told" := by
  intro C hC
  simp only [cs_told, List.mem_cons, List.not_mem_nil, or_false] at hC
  rcases hC with rfl | rfl
  · exact ⟨D.c_Setting, He.noat_ok (D.ft 106)⟩
  · exact ⟨D.c_Line, He.noat_ok (D.ft 107)⟩
theorem Wd.f_unanswered : ∀ C ∈ cs_unanswered, CF K C "unanswered" := by
  intro C hC
  simp only [cs_unanswered, List.mem_cons, List.not_mem_nil, or_false] at hC
  rcases hC with rfl | rfl
  · exact ⟨D.c_Moment, He.noat_ok (D.ft 108)⟩
  · exact ⟨D.c_Session, He.noat_ok (D.ft 109)⟩
theorem Wd.f_under_way : ∀ C ∈ cs_under_way, CF K C "under_way" := by
  intro C hC
  simp only [cs_under_way, List.mem_cons, List.not_mem_nil, or_false] at hC
  rcases hC with rfl | rfl
  · exact ⟨D.c_Moment, He.noat_ok (D.ft 110)⟩
  · exact ⟨D.c_Session, He.noat_ok (D.ft 111)⟩
theorem Wd.f_unread : ∀ C ∈ cs_unread, CF K C "unread" := by
  intro C hC
  simp only [cs_unread, List.mem_cons, List.not_mem_nil, or_false] at hC
  rcases hC with rfl | rfl
  · exact ⟨D.c_Moment, He.noat_ok (D.ft 112)⟩
  · exact ⟨D.c_Session, He.noat_ok (D.ft 113)⟩
theorem Wd.f_way : ∀ C ∈ cs_way, CF K C "way" := by
  intro C hC
  simp only [cs_way, List.mem_cons, List.not_mem_nil, or_false] at hC
  rcases hC with rfl
  · exact ⟨D.c_Line, He.noat_ok (D.ft 114)⟩
theorem Wd.tabsOk : tabsOk K = true := (He.ba D.c.more).1
theorem Wd.is_Line : is_Line.all (isB K (.cl "Line")) = true := (He.ba (He.ba D.c.more).2).1
theorem Wd.is_Setting : is_Setting.all (isB K (.cl "Setting")) = true := (He.ba (He.ba (He.ba D.c.more).2).2).1
theorem Wd.is_bool : is_bool.all (isB K (.bt "bool")) = true := (He.ba (He.ba (He.ba (He.ba D.c.more).2).2).2).1
theorem Wd.is_int : is_int.all (isB K (.bt "int")) = true := (He.ba (He.ba (He.ba (He.ba (He.ba D.c.more).2).2).2).2).1
theorem Wd.is_str : is_str.all (isB K (.bt "str")) = true := (He.ba (He.ba (He.ba (He.ba (He.ba (He.ba D.c.more).2).2).2).2).2).1
theorem Wd.t_RULES : ∀ H, SqT K H (He.ga K "RULES") [.str "plain", .str "hold", .str "few"] := fun H => He.tupB_ok (He.ba (He.ba (He.ba (He.ba (He.ba (He.ba (He.ba D.c.more).2).2).2).2).2).2).1 H
omit D in
theorem Wd.r_RULES0 : ∀ ι H, RelDs K ι H [.str "plain", .str "hold", .str "few"] [.str "plain", .str "hold", .str "few"] := fun ι H => ⟨_, _, rfl, rfl, ⟨_, _, rfl, rfl, ⟨_, _, rfl, rfl, rfl⟩⟩⟩
theorem Wd.r_RULES : ∀ ι H, RelDs K ι H [.str "plain", .str "hold", .str "few"] [.str "plain", .str "hold", .str "few"] := Wd.r_RULES0
theorem Wd.xr_Busy : excB0 K "Busy" [.type "LookupError", .type "Exception", .type "BaseException", .type "object"] "LookupError.__new__" = true := (He.ba (He.ba (He.ba (He.ba (He.ba (He.ba (He.ba (He.ba D.c.more).2).2).2).2).2).2).2).1
theorem Wd.xo_InvalidNumber : OexF K "InvalidNumber" "value" := oexB_ok (He.ba (He.ba (He.ba (He.ba (He.ba (He.ba (He.ba (He.ba (He.ba D.c.more).2).2).2).2).2).2).2).2).1
theorem Wd.xo_InvalidRule : OexF K "InvalidRule" "value" := oexB_ok (He.ba (He.ba (He.ba (He.ba (He.ba (He.ba (He.ba (He.ba (He.ba (He.ba D.c.more).2).2).2).2).2).2).2).2).2).1
theorem Wd.xo_InvalidSide : OexF K "InvalidSide" "value" := oexB_ok (He.ba (He.ba (He.ba (He.ba (He.ba (He.ba (He.ba (He.ba (He.ba (He.ba (He.ba D.c.more).2).2).2).2).2).2).2).2).2).2).1
theorem Wd.xo_NotALine : OexF K "NotALine" "value" := oexB_ok (He.ba (He.ba (He.ba (He.ba (He.ba (He.ba (He.ba (He.ba (He.ba (He.ba (He.ba (He.ba D.c.more).2).2).2).2).2).2).2).2).2).2).2).1
theorem Wd.xo_NotASetting : OexF K "NotASetting" "value" := oexB_ok (He.ba (He.ba (He.ba (He.ba (He.ba (He.ba (He.ba (He.ba (He.ba (He.ba (He.ba (He.ba (He.ba D.c.more).2).2).2).2).2).2).2).2).2).2).2).2).1
theorem Wd.xr_NotThere : excB0 K "NotThere" [.type "LookupError", .type "Exception", .type "BaseException", .type "object"] "LookupError.__new__" = true := (He.ba (He.ba (He.ba (He.ba (He.ba (He.ba (He.ba (He.ba (He.ba (He.ba (He.ba (He.ba (He.ba (He.ba D.c.more).2).2).2).2).2).2).2).2).2).2).2).2).2).1
theorem Wd.xr_NothingToUndo : excB0 K "NothingToUndo" [.type "LookupError", .type "Exception", .type "BaseException", .type "object"] "LookupError.__new__" = true := (He.ba (He.ba (He.ba (He.ba (He.ba (He.ba (He.ba (He.ba (He.ba (He.ba (He.ba (He.ba (He.ba (He.ba (He.ba D.c.more).2).2).2).2).2).2).2).2).2).2).2).2).2).2).1
theorem Wd.xo_TooMany : OexAF K "TooMany" "limit" := oexAB_ok (He.ba (He.ba (He.ba (He.ba (He.ba (He.ba (He.ba (He.ba (He.ba (He.ba (He.ba (He.ba (He.ba (He.ba (He.ba (He.ba D.c.more).2).2).2).2).2).2).2).2).2).2).2).2).2).2).2).1
theorem Wd.xl_Busy : exl_Busy.all (exmB K "Busy") = true := (He.ba (He.ba (He.ba (He.ba (He.ba (He.ba (He.ba (He.ba (He.ba (He.ba (He.ba (He.ba (He.ba (He.ba (He.ba (He.ba (He.ba D.c.more).2).2).2).2).2).2).2).2).2).2).2).2).2).2).2).2).1
theorem Wd.xl_InvalidDeeds : exl_InvalidDeeds.all (exmB K "InvalidDeeds") = true := (He.ba (He.ba (He.ba (He.ba (He.ba (He.ba (He.ba (He.ba (He.ba (He.ba (He.ba (He.ba (He.ba (He.ba (He.ba (He.ba (He.ba (He.ba D.c.more).2).2).2).2).2).2).2).2).2).2).2).2).2).2).2).2).2).1
theorem Wd.xl_InvalidNumber : exl_InvalidNumber.all (exmB K "InvalidNumber") = true := (He.ba (He.ba (He.ba (He.ba (He.ba (He.ba (He.ba (He.ba (He.ba (He.ba (He.ba (He.ba (He.ba (He.ba (He.ba (He.ba (He.ba (He.ba (He.ba D.c.more).2).2).2).2).2).2).2).2).2).2).2).2).2).2).2).2).2).2).1
theorem Wd.xl_InvalidSide : exl_InvalidSide.all (exmB K "InvalidSide") = true := (He.ba (He.ba (He.ba (He.ba (He.ba (He.ba (He.ba (He.ba (He.ba (He.ba (He.ba (He.ba (He.ba (He.ba (He.ba (He.ba (He.ba (He.ba (He.ba (He.ba D.c.more).2).2).2).2).2).2).2).2).2).2).2).2).2).2).2).2).2).2).2).1
theorem Wd.xl_NotThere : exl_NotThere.all (exmB K "NotThere") = true := (He.ba (He.ba (He.ba (He.ba (He.ba (He.ba (He.ba (He.ba (He.ba (He.ba (He.ba (He.ba (He.ba (He.ba (He.ba (He.ba (He.ba (He.ba (He.ba (He.ba (He.ba D.c.more).2).2).2).2).2).2).2).2).2).2).2).2).2).2).2).2).2).2).2).2).1
theorem Wd.xl_NothingToUndo : exl_NothingToUndo.all (exmB K "NothingToUndo") = true := (He.ba (He.ba (He.ba (He.ba (He.ba (He.ba (He.ba (He.ba (He.ba (He.ba (He.ba (He.ba (He.ba (He.ba (He.ba (He.ba (He.ba (He.ba (He.ba (He.ba (He.ba (He.ba D.c.more).2).2).2).2).2).2).2).2).2).2).2).2).2).2).2).2).2).2).2).2).2).1
theorem Wd.xl_TooMany : exl_TooMany.all (exmB K "TooMany") = true := (He.ba (He.ba (He.ba (He.ba (He.ba (He.ba (He.ba (He.ba (He.ba (He.ba (He.ba (He.ba (He.ba (He.ba (He.ba (He.ba (He.ba (He.ba (He.ba (He.ba (He.ba (He.ba (He.ba D.c.more).2).2).2).2).2).2).2).2).2).2).2).2).2).2).2).2).2).2).2).2).2).2).1
theorem Wd.xf_InvalidDeeds : XfC K (He.ga K "InvalidDeeds") := (xfnB_ok (x := "InvalidDeeds") (f := "index") (He.ba (He.ba (He.ba (He.ba (He.ba (He.ba (He.ba (He.ba (He.ba (He.ba (He.ba (He.ba (He.ba (He.ba (He.ba (He.ba (He.ba (He.ba (He.ba (He.ba (He.ba (He.ba (He.ba (He.ba D.c.more).2).2).2).2).2).2).2).2).2).2).2).2).2).2).2).2).2).2).2).2).2).2).2).1).1
theorem Wd.xn_InvalidDeeds_index : PySem.W.findIn K (.ref (He.ga K "InvalidDeeds")) "index" = some none := (xfnB_ok (x := "InvalidDeeds") (f := "index") (He.ba (He.ba (He.ba (He.ba (He.ba (He.ba (He.ba (He.ba (He.ba (He.ba (He.ba (He.ba (He.ba (He.ba (He.ba (He.ba (He.ba (He.ba (He.ba (He.ba (He.ba (He.ba (He.ba (He.ba D.c.more).2).2).2).2).2).2).2).2).2).2).2).2).2).2).2).2).2).2).2).2).2).2).2).1).2
theorem Wd.xf_InvalidNumber : XfC K (He.ga K "InvalidNumber") := (xfnB_ok (x := "InvalidNumber") (f := "value") (He.ba (He.ba (He.ba (He.ba (He.ba (He.ba (He.ba (He.ba (He.ba (He.ba (He.ba (He.ba (He.ba (He.ba (He.ba (He.ba (He.ba (He.ba (He.ba (He.ba (He.ba (He.ba (He.ba (He.ba (He.ba D.c.more).2).2).2).2).2).2).2).2).2).2).2).2).2).2).2).2).2).2).2).2).2).2).2).2).1).1
theorem Wd.xn_InvalidNumber_value : PySem.W.findIn K (.ref (He.ga K "InvalidNumber")) "value" = some none := (xfnB_ok (x := "InvalidNumber") (f := "value") (He.ba (He.ba (He.ba (He.ba (He.ba (He.ba (He.ba (He.ba (He.ba (He.ba (He.ba (He.ba (He.ba (He.ba (He.ba (He.ba (He.ba (He.ba (He.ba (He.ba (He.ba (He.ba (He.ba (He.ba (He.ba D.c.more).2).2).2).2).2).2).2).2).2).2).2).2).2).2).2).2).2).2).2).2).2).2).2).2).1).2
theorem Wd.xf_InvalidRule : XfC K (He.ga K "InvalidRule") := (xfnB_ok (x := "InvalidRule") (f := "value") (He.ba (He.ba (He.ba (He.ba (He.ba (He.ba (He.ba (He.ba (He.ba (He.ba (He.ba (He.ba (He.ba (He.ba (He.ba (He.ba (He.ba (He.ba (He.ba (He.ba (He.ba (He.ba (He.ba (He.ba (He.ba (He.ba D.c.more).2).2).2).2).2).2).2).2).2).2).2).2).2).2).2).2).2).2).2).2).2).2).2).2).2).1).1
theorem Wd.xn_InvalidRule_value : PySem.W.findIn K (.ref (He.ga K "InvalidRule")) "value" = some none := (xfnB_ok (x := "InvalidRule") (f := "value") (He.ba (He.ba (He.ba (He.ba (He.ba (He.ba (He.ba (He.ba (He.ba (He.ba (He.ba (He.ba (He.ba (He.ba (He.ba (He.ba (He.ba (He.ba (He.ba (He.ba (He.ba (He.ba (He.ba (He.ba (He.ba (He.ba D.c.more).2).2).2).2).2).2).2).2).2).2).2).2).2).2).2).2).2).2).2).2).2).2).2).2).2).1).2
theorem Wd.xf_InvalidSide : XfC K (He.ga K "InvalidSide") := (xfnB_ok (x := "InvalidSide") (f := "value") (He.ba (He.ba (He.ba (He.ba (He.ba (He.ba (He.ba (He.ba (He.ba (He.ba (He.ba (He.ba (He.ba (He.ba (He.ba (He.ba (He.ba (He.ba (He.ba (He.ba (He.ba (He.ba (He.ba (He.ba (He.ba (He.ba (He.ba D.c.more).2).2).2).2).2).2).2).2).2).2).2).2).2).2).2).2).2).2).2).2).2).2).2).2).2).2).1).1
theorem Wd.xn_InvalidSide_value : PySem.W.findIn K (.ref (He.ga K "InvalidSide")) "value" = some none := (xfnB_ok (x := "InvalidSide") (f := "value") (He.ba (He.ba (He.ba (He.ba (He.ba (He.ba (He.ba (He.ba (He.ba (He.ba (He.ba (He.ba (He.ba (He.ba (He.ba (He.ba (He.ba (He.ba (He.ba (He.ba (He.ba (He.ba (He.ba (He.ba (He.ba (He.ba (He.ba D.c.more).2).2).2).2).2).2).2).2).2).2).2).2).2).2).2).2).2).2).2).2).2).2).2).2).2).2).1).2
theorem Wd.xf_NotALine : XfC K (He.ga K "NotALine") := (xfnB_ok (x := "NotALine") (f := "value") (He.ba (He.ba (He.ba (He.ba (He.ba (He.ba (He.ba (He.ba (He.ba (He.ba (He.ba (He.ba (He.ba (He.ba (He.ba (He.ba (He.ba (He.ba (He.ba (He.ba (He.ba (He.ba (He.ba (He.ba (He.ba (He.ba (He.ba (He.ba D.c.more).2).2).2).2).2).2).2).2).2).2).2).2).2).2).2).2).2).2).2).2).2).2).2).2).2).2).2).1).1
theorem Wd.xn_NotALine_value : PySem.W.findIn K (.ref (He.ga K "NotALine")) "value" = some none := (xfnB_ok (x := "NotALine") (f := "value") (He.ba (He.ba (He.ba (He.ba (He.ba (He.ba (He.ba (He.ba (He.ba (He.ba (He.ba (He.ba (He.ba (He.ba (He.ba (He.ba (He.ba (He.ba (He.ba (He.ba (He.ba (He.ba (He.ba (He.ba (He.ba (He.ba (He.ba (He.ba D.c.more).2).2).2).2).2).2).2).2).2).2).2).2).2).2).2).2).2).2).2).2).2).2).2).2).2).2).2).1).2
theorem Wd.xf_NotASetting : XfC K (He.ga K "NotASetting") := (xfnB_ok (x := "NotASetting") (f := "value") (He.ba (He.ba (He.ba (He.ba (He.ba (He.ba (He.ba (He.ba (He.ba (He.ba (He.ba (He.ba (He.ba (He.ba (He.ba (He.ba (He.ba (He.ba (He.ba (He.ba (He.ba (He.ba (He.ba (He.ba (He.ba (He.ba (He.ba (He.ba (He.ba D.c.more).2).2).2).2).2).2).2).2).2).2).2).2).2).2).2).2).2).2).2).2).2).2).2).2).2).2).2).2).1).1
theorem Wd.xn_NotASetting_value : PySem.W.findIn K (.ref (He.ga K "NotASetting")) "value" = some none := (xfnB_ok (x := "NotASetting") (f := "value") (He.ba (He.ba (He.ba (He.ba (He.ba (He.ba (He.ba (He.ba (He.ba (He.ba (He.ba (He.ba (He.ba (He.ba (He.ba (He.ba (He.ba (He.ba (He.ba (He.ba (He.ba (He.ba (He.ba (He.ba (He.ba (He.ba (He.ba (He.ba (He.ba D.c.more).2).2).2).2).2).2).2).2).2).2).2).2).2).2).2).2).2).2).2).2).2).2).2).2).2).2).2).2).1).2
theorem Wd.xf_TooMany : XfC K (He.ga K "TooMany") := (xfnB_ok (x := "TooMany") (f := "limit") (He.ba (He.ba (He.ba (He.ba (He.ba (He.ba (He.ba (He.ba (He.ba (He.ba (He.ba (He.ba (He.ba (He.ba (He.ba (He.ba (He.ba (He.ba (He.ba (He.ba (He.ba (He.ba (He.ba (He.ba (He.ba (He.ba (He.ba (He.ba (He.ba D.c.more).2).2).2).2).2).2).2).2).2).2).2).2).2).2).2).2).2).2).2).2).2).2).2).2).2).2).2).2).2).1
theorem Wd.xn_TooMany_limit : PySem.W.findIn K (.ref (He.ga K "TooMany")) "limit" = some none := (xfnB_ok (x := "TooMany") (f := "limit") (He.ba (He.ba (He.ba (He.ba (He.ba (He.ba (He.ba (He.ba (He.ba (He.ba (He.ba (He.ba (He.ba (He.ba (He.ba (He.ba (He.ba (He.ba (He.ba (He.ba (He.ba (He.ba (He.ba (He.ba (He.ba (He.ba (He.ba (He.ba (He.ba D.c.more).2).2).2).2).2).2).2).2).2).2).2).2).2).2).2).2).2).2).2).2).2).2).2).2).2).2).2).2).2).2
theorem Wd.fd_law_draw : ∃ fd, FunD K "_law_draw" "_law_draw" (defArgs (top 45)) (defBody (top 45)) (defScope (top 45)) [] [] (He.fAd K ("_law_draw", none)) fd := D.c.t.d.def_ 0 (d := d_law_draw) rfl
theorem Wd.k_law_draw : PySem.W.keepIn K (.ref (He.fAd K ("_law_draw", none))) = true := let ⟨_, F⟩ := D.fd_law_draw; F.kp
theorem Wd.fd_law_one_of : ∃ fd, FunD K "_law_one_of" "_law_one_of" (defArgs (top 46)) (defBody (top 46)) (defScope (top 46)) [] [] (He.fAd K ("_law_one_of", none)) fd := D.c.t.d.def_ 1 (d := d_law_one_of) rfl
theorem Wd.k_law_one_of : PySem.W.keepIn K (.ref (He.fAd K ("_law_one_of", none))) = true := let ⟨_, F⟩ := D.fd_law_one_of; F.kp
theorem Wd.fd_law_ways : ∃ fd, FunD K "_law_ways" "_law_ways" (defArgs (top 47)) (defBody (top 47)) (defScope (top 47)) [] [] (He.fAd K ("_law_ways", none)) fd := D.c.t.d.def_ 2 (d := d_law_ways) rfl
theorem Wd.k_law_ways : PySem.W.keepIn K (.ref (He.fAd K ("_law_ways", none))) = true := let ⟨_, F⟩ := D.fd_law_ways; F.kp
theorem Wd.fd_law_told : ∃ fd, FunD K "_law_told" "_law_told" (defArgs (top 48)) (defBody (top 48)) (defScope (top 48)) [] [] (He.fAd K ("_law_told", none)) fd := D.c.t.d.def_ 3 (d := d_law_told) rfl
theorem Wd.k_law_told : PySem.W.keepIn K (.ref (He.fAd K ("_law_told", none))) = true := let ⟨_, F⟩ := D.fd_law_told; F.kp
theorem Wd.fd_law_new : ∃ fd, FunD K "_law_new" "_law_new" (defArgs (top 50)) (defBody (top 50)) (defScope (top 50)) [] [] (He.fAd K ("_law_new", none)) fd := D.c.t.d.def_ 4 (d := d_law_new) rfl
theorem Wd.k_law_new : PySem.W.keepIn K (.ref (He.fAd K ("_law_new", none))) = true := let ⟨_, F⟩ := D.fd_law_new; F.kp
theorem Wd.fd_NotALine_init : ∃ fd, FunD K "__init__" "NotALine.__init__" (defArgs (inClass (top 6) 0)) (defBody (inClass (top 6) 0)) (defScope (inClass (top 6) 0)) [] [] (He.fAd K ("NotALine", some "__init__")) fd := D.c.t.d.def_ 5 (d := d_NotALine_init) rfl
theorem Wd.k_NotALine_init : PySem.W.keepIn K (.ref (He.fAd K ("NotALine", some "__init__"))) = true := let ⟨_, F⟩ := D.fd_NotALine_init; F.kp
theorem Wd.fd_check_line : ∃ fd, FunD K "check_line" "check_line" (defArgs (top 29)) (defBody (top 29)) (defScope (top 29)) [] [] (He.fAd K ("check_line", none)) fd := D.c.t.d.def_ 6 (d := d_check_line) rfl
theorem Wd.k_check_line : PySem.W.keepIn K (.ref (He.fAd K ("check_line", none))) = true := let ⟨_, F⟩ := D.fd_check_line; F.kp
theorem Wd.fd_Flow_kept : ∃ fd, FunD K "kept" "Flow.kept" (defArgs (inClass (top 39) 1)) (defBody (inClass (top 39) 1)) (defScope (inClass (top 39) 1)) [] [] (He.fAd K ("Flow", some "kept")) fd := D.c.t.d.def_ 7 (d := d_Flow_kept) rfl
theorem Wd.k_Flow_kept : PySem.W.keepIn K (.ref (He.fAd K ("Flow", some "kept"))) = true := let ⟨_, F⟩ := D.fd_Flow_kept; F.kp
theorem Wd.fd_Flow_fresh : ∃ fd, FunD K "fresh" "Flow.fresh" (defArgs (inClass (top 39) 2)) (defBody (inClass (top 39) 2)) (defScope (inClass (top 39) 2)) [] [] (He.fAd K ("Flow", some "fresh")) fd := D.c.t.d.def_ 8 (d := d_Flow_fresh) rfl
theorem Wd.k_Flow_fresh : PySem.W.keepIn K (.ref (He.fAd K ("Flow", some "fresh"))) = true := let ⟨_, F⟩ := D.fd_Flow_fresh; F.kp
theorem Wd.fd_Session_show : ∃ fd, FunD K "show" "Session.show" (defArgs (inClass (top 42) 1)) (defBody (inClass (top 42) 1)) (defScope (inClass (top 42) 1)) [] [] (He.fAd K ("Session", some "show")) fd := D.c.t.d.def_ 9 (d := d_Session_show) rfl
theorem Wd.k_Session_show : PySem.W.keepIn K (.ref (He.fAd K ("Session", some "show"))) = true := let ⟨_, F⟩ := D.fd_Session_show; F.kp
theorem Wd.fd_Flow_init : ∃ fd, FunD K "__init__" "Flow.__init__" (defArgs (inClass (top 39) 0)) (defBody (inClass (top 39) 0)) (defScope (inClass (top 39) 0)) [] [] (He.fAd K ("Flow", some "__init__")) fd := D.c.t.d.def_ 10 (d := d_Flow_init) rfl
theorem Wd.k_Flow_init : PySem.W.keepIn K (.ref (He.fAd K ("Flow", some "__init__"))) = true := let ⟨_, F⟩ := D.fd_Flow_init; F.kp
theorem Wd.fd_Session_init : ∃ fd, FunD K "__init__" "Session.__init__" (defArgs (inClass (top 42) 0)) (defBody (inClass (top 42) 0)) (defScope (inClass (top 42) 0)) [] [] (He.fAd K ("Session", some "__init__")) fd := D.c.t.d.def_ 11 (d := d_Session_init) rfl
theorem Wd.k_Session_init : PySem.W.keepIn K (.ref (He.fAd K ("Session", some "__init__"))) = true := let ⟨_, F⟩ := D.fd_Session_init; F.kp
theorem Wd.fd_is_integer : ∃ fd, FunD K "is_integer" "is_integer" (defArgs (top 23)) (defBody (top 23)) (defScope (top 23)) [] [] (He.fAd K ("is_integer", none)) fd := D.c.t.d.def_ 12 (d := d_is_integer) rfl
theorem Wd.k_is_integer : PySem.W.keepIn K (.ref (He.fAd K ("is_integer", none))) = true := let ⟨_, F⟩ := D.fd_is_integer; F.kp
theorem Wd.fd_is_between : ∃ fd, FunD K "is_between" "is_between" (defArgs (top 24)) (defBody (top 24)) (defScope (top 24)) [] [] (He.fAd K ("is_between", none)) fd := D.c.t.d.def_ 13 (d := d_is_between) rfl
theorem Wd.k_is_between : PySem.W.keepIn K (.ref (He.fAd K ("is_between", none))) = true := let ⟨_, F⟩ := D.fd_is_between; F.kp
theorem Wd.fd_InvalidNumber_init : ∃ fd, FunD K "__init__" "InvalidNumber.__init__" (defArgs (inClass (top 8) 0)) (defBody (inClass (top 8) 0)) (defScope (inClass (top 8) 0)) [] [] (He.fAd K ("InvalidNumber", some "__init__")) fd := D.c.t.d.def_ 14 (d := d_InvalidNumber_init) rfl
theorem Wd.k_InvalidNumber_init : PySem.W.keepIn K (.ref (He.fAd K ("InvalidNumber", some "__init__"))) = true := let ⟨_, F⟩ := D.fd_InvalidNumber_init; F.kp
theorem Wd.fd_check_number : ∃ fd, FunD K "check_number" "check_number" (defArgs (top 25)) (defBody (top 25)) (defScope (top 25)) [] [] (He.fAd K ("check_number", none)) fd := D.c.t.d.def_ 15 (d := d_check_number) rfl
theorem Wd.k_check_number : PySem.W.keepIn K (.ref (He.fAd K ("check_number", none))) = true := let ⟨_, F⟩ := D.fd_check_number; F.kp
theorem Wd.fd_NotASetting_init : ∃ fd, FunD K "__init__" "NotASetting.__init__" (defArgs (inClass (top 5) 0)) (defBody (inClass (top 5) 0)) (defScope (inClass (top 5) 0)) [] [] (He.fAd K ("NotASetting", some "__init__")) fd := D.c.t.d.def_ 16 (d := d_NotASetting_init) rfl
theorem Wd.k_NotASetting_init : PySem.W.keepIn K (.ref (He.fAd K ("NotASetting", some "__init__"))) = true := let ⟨_, F⟩ := D.fd_NotASetting_init; F.kp
theorem Wd.fd_check_setting : ∃ fd, FunD K "check_setting" "check_setting" (defArgs (top 27)) (defBody (top 27)) (defScope (top 27)) [] [] (He.fAd K ("check_setting", none)) fd := D.c.t.d.def_ 17 (d := d_check_setting) rfl
theorem Wd.k_check_setting : PySem.W.keepIn K (.ref (He.fAd K ("check_setting", none))) = true := let ⟨_, F⟩ := D.fd_check_setting; F.kp
theorem Wd.fd_Line_init : ∃ fd, FunD K "__init__" "Line.__init__" (defArgs (inClass (top 28) 0)) (defBody (inClass (top 28) 0)) (defScope (inClass (top 28) 0)) [] [] (He.fAd K ("Line", some "__init__")) fd := D.c.t.d.def_ 18 (d := d_Line_init) rfl
theorem Wd.k_Line_init : PySem.W.keepIn K (.ref (He.fAd K ("Line", some "__init__"))) = true := let ⟨_, F⟩ := D.fd_Line_init; F.kp
theorem Wd.fd_InvalidRule_init : ∃ fd, FunD K "__init__" "InvalidRule.__init__" (defArgs (inClass (top 7) 0)) (defBody (inClass (top 7) 0)) (defScope (inClass (top 7) 0)) [] [] (He.fAd K ("InvalidRule", some "__init__")) fd := D.c.t.d.def_ 19 (d := d_InvalidRule_init) rfl
theorem Wd.k_InvalidRule_init : PySem.W.keepIn K (.ref (He.fAd K ("InvalidRule", some "__init__"))) = true := let ⟨_, F⟩ := D.fd_InvalidRule_init; F.kp
theorem Wd.fd_Setting_init : ∃ fd, FunD K "__init__" "Setting.__init__" (defArgs (inClass (top 26) 0)) (defBody (inClass (top 26) 0)) (defScope (inClass (top 26) 0)) [] [] (He.fAd K ("Setting", some "__init__")) fd := D.c.t.d.def_ 20 (d := d_Setting_init) rfl
theorem Wd.k_Setting_init : PySem.W.keepIn K (.ref (He.fAd K ("Setting", some "__init__"))) = true := let ⟨_, F⟩ := D.fd_Setting_init; F.kp
theorem Wd.fd_law_made : ∃ fd, FunD K "_law_made" "_law_made" (defArgs (top 49)) (defBody (top 49)) (defScope (top 49)) [] [] (He.fAd K ("_law_made", none)) fd := D.c.t.d.def_ 21 (d := d_law_made) rfl
theorem Wd.k_law_made : PySem.W.keepIn K (.ref (He.fAd K ("_law_made", none))) = true := let ⟨_, F⟩ := D.fd_law_made; F.kp
theorem Wd.fd_law_outcome : ∃ fd, FunD K "_law_outcome" "_law_outcome" (defArgs (top 63)) (defBody (top 63)) (defScope (top 63)) [] [] (He.fAd K ("_law_outcome", none)) fd := D.c.t.d.def_ 22 (d := d_law_outcome) rfl
theorem Wd.k_law_outcome : PySem.W.keepIn K (.ref (He.fAd K ("_law_outcome", none))) = true := let ⟨_, F⟩ := D.fd_law_outcome; F.kp
theorem Wd.fd_Session_check_free : ∃ fd, FunD K "check_free" "Session.check_free" (defArgs (inClass (top 42) 2)) (defBody (inClass (top 42) 2)) (defScope (inClass (top 42) 2)) [] [] (He.fAd K ("Session", some "check_free")) fd := D.c.t.d.def_ 23 (d := d_Session_check_free) rfl
theorem Wd.k_Session_check_free : PySem.W.keepIn K (.ref (He.fAd K ("Session", some "check_free"))) = true := let ⟨_, F⟩ := D.fd_Session_check_free; F.kp
theorem Wd.fd_Session_undo : ∃ fd, FunD K "undo" "Session.undo" (defArgs (inClass (top 42) 8)) (defBody (inClass (top 42) 8)) (defScope (inClass (top 42) 8)) [] [] (He.fAd K ("Session", some "undo")) fd := D.c.t.d.def_ 24 (d := d_Session_undo) rfl
theorem Wd.k_Session_undo : PySem.W.keepIn K (.ref (He.fAd K ("Session", some "undo"))) = true := let ⟨_, F⟩ := D.fd_Session_undo; F.kp
theorem Wd.fd_law_copied : ∃ fd, FunD K "_law_copied" "_law_copied" (defArgs (top 61)) (defBody (top 61)) (defScope (top 61)) [] [] (He.fAd K ("_law_copied", none)) fd := D.c.t.d.def_ 25 (d := d_law_copied) rfl
theorem Wd.k_law_copied : PySem.W.keepIn K (.ref (He.fAd K ("_law_copied", none))) = true := let ⟨_, F⟩ := D.fd_law_copied; F.kp
theorem Wd.fd_law_job : ∃ fd, FunD K "_law_job" "_law_job" (defArgs (top 62)) (defBody (top 62)) (defScope (top 62)) [] [] (He.fAd K ("_law_job", none)) fd := D.c.t.d.def_ 26 (d := d_law_job) rfl
theorem Wd.k_law_job : PySem.W.keepIn K (.ref (He.fAd K ("_law_job", none))) = true := let ⟨_, F⟩ := D.fd_law_job; F.kp
theorem Wd.fd_InvalidSide_init : ∃ fd, FunD K "__init__" "InvalidSide.__init__" (defArgs (inClass (top 9) 0)) (defBody (inClass (top 9) 0)) (defScope (inClass (top 9) 0)) [] [] (He.fAd K ("InvalidSide", some "__init__")) fd := D.c.t.d.def_ 27 (d := d_InvalidSide_init) rfl
theorem Wd.k_InvalidSide_init : PySem.W.keepIn K (.ref (He.fAd K ("InvalidSide", some "__init__"))) = true := let ⟨_, F⟩ := D.fd_InvalidSide_init; F.kp
theorem Wd.fd_check_side : ∃ fd, FunD K "check_side" "check_side" (defArgs (top 32)) (defBody (top 32)) (defScope (top 32)) [] [] (He.fAd K ("check_side", none)) fd := D.c.t.d.def_ 28 (d := d_check_side) rfl
theorem Wd.k_check_side : PySem.W.keepIn K (.ref (He.fAd K ("check_side", none))) = true := let ⟨_, F⟩ := D.fd_check_side; F.kp
theorem Wd.fd_check_deed : ∃ fd, FunD K "check_deed" "check_deed" (defArgs (top 35)) (defBody (top 35)) (defScope (top 35)) [] [] (He.fAd K ("check_deed", none)) fd := D.c.t.d.def_ 29 (d := d_check_deed) rfl
theorem Wd.k_check_deed : PySem.W.keepIn K (.ref (He.fAd K ("check_deed", none))) = true := let ⟨_, F⟩ := D.fd_check_deed; F.kp
theorem Wd.fd_TooMany_init : ∃ fd, FunD K "__init__" "TooMany.__init__" (defArgs (inClass (top 14) 0)) (defBody (inClass (top 14) 0)) (defScope (inClass (top 14) 0)) [] [] (He.fAd K ("TooMany", some "__init__")) fd := D.c.t.d.def_ 30 (d := d_TooMany_init) rfl
theorem Wd.k_TooMany_init : PySem.W.keepIn K (.ref (He.fAd K ("TooMany", some "__init__"))) = true := let ⟨_, F⟩ := D.fd_TooMany_init; F.kp
theorem Wd.fd_Flow_copied : ∃ fd, FunD K "copied" "Flow.copied" (defArgs (inClass (top 39) 13)) (defBody (inClass (top 39) 13)) (defScope (inClass (top 39) 13)) [] [] (He.fAd K ("Flow", some "copied")) fd := D.c.t.d.def_ 31 (d := d_Flow_copied) rfl
theorem Wd.k_Flow_copied : PySem.W.keepIn K (.ref (He.fAd K ("Flow", some "copied"))) = true := let ⟨_, F⟩ := D.fd_Flow_copied; F.kp
theorem Wd.fd_Flow_take_out : ∃ fd, FunD K "take_out" "Flow.take_out" (defArgs (inClass (top 39) 3)) (defBody (inClass (top 39) 3)) (defScope (inClass (top 39) 3)) [] [] (He.fAd K ("Flow", some "take_out")) fd := D.c.t.d.def_ 32 (d := d_Flow_take_out) rfl
theorem Wd.k_Flow_take_out : PySem.W.keepIn K (.ref (He.fAd K ("Flow", some "take_out"))) = true := let ⟨_, F⟩ := D.fd_Flow_take_out; F.kp
theorem Wd.fd_Flow_send : ∃ fd, FunD K "send" "Flow.send" (defArgs (inClass (top 39) 4)) (defBody (inClass (top 39) 4)) (defScope (inClass (top 39) 4)) [] [] (He.fAd K ("Flow", some "send")) fd := D.c.t.d.def_ 33 (d := d_Flow_send) rfl
theorem Wd.k_Flow_send : PySem.W.keepIn K (.ref (He.fAd K ("Flow", some "send"))) = true := let ⟨_, F⟩ := D.fd_Flow_send; F.kp
theorem Wd.fd_Flow_lets : ∃ fd, FunD K "lets" "Flow.lets" (defArgs (inClass (top 39) 5)) (defBody (inClass (top 39) 5)) (defScope (inClass (top 39) 5)) [] [] (He.fAd K ("Flow", some "lets")) fd := D.c.t.d.def_ 34 (d := d_Flow_lets) rfl
theorem Wd.k_Flow_lets : PySem.W.keepIn K (.ref (He.fAd K ("Flow", some "lets"))) = true := let ⟨_, F⟩ := D.fd_Flow_lets; F.kp
theorem Wd.fd_Flow_let_go : ∃ fd, FunD K "let_go" "Flow.let_go" (defArgs (inClass (top 39) 6)) (defBody (inClass (top 39) 6)) (defScope (inClass (top 39) 6)) [] [] (He.fAd K ("Flow", some "let_go")) fd := D.c.t.d.def_ 35 (d := d_Flow_let_go) rfl
theorem Wd.k_Flow_let_go : PySem.W.keepIn K (.ref (He.fAd K ("Flow", some "let_go"))) = true := let ⟨_, F⟩ := D.fd_Flow_let_go; F.kp
theorem Wd.fd_Flow_put : ∃ fd, FunD K "put" "Flow.put" (defArgs (inClass (top 39) 7)) (defBody (inClass (top 39) 7)) (defScope (inClass (top 39) 7)) [] [] (He.fAd K ("Flow", some "put")) fd := D.c.t.d.def_ 36 (d := d_Flow_put) rfl
theorem Wd.k_Flow_put : PySem.W.keepIn K (.ref (He.fAd K ("Flow", some "put"))) = true := let ⟨_, F⟩ := D.fd_Flow_put; F.kp
theorem Wd.fd_Flow_is_due : ∃ fd, FunD K "is_due" "Flow.is_due" (defArgs (inClass (top 39) 10)) (defBody (inClass (top 39) 10)) (defScope (inClass (top 39) 10)) [] [] (He.fAd K ("Flow", some "is_due")) fd := D.c.t.d.def_ 37 (d := d_Flow_is_due) rfl
theorem Wd.k_Flow_is_due : PySem.W.keepIn K (.ref (He.fAd K ("Flow", some "is_due"))) = true := let ⟨_, F⟩ := D.fd_Flow_is_due; F.kp
theorem Wd.fd_Flow_leave : ∃ fd, FunD K "leave" "Flow.leave" (defArgs (inClass (top 39) 11)) (defBody (inClass (top 39) 11)) (defScope (inClass (top 39) 11)) [] [] (He.fAd K ("Flow", some "leave")) fd := D.c.t.d.def_ 38 (d := d_Flow_leave) rfl
theorem Wd.k_Flow_leave : PySem.W.keepIn K (.ref (He.fAd K ("Flow", some "leave"))) = true := let ⟨_, F⟩ := D.fd_Flow_leave; F.kp
theorem Wd.fd_Flow_next_tick : ∃ fd, FunD K "next_tick" "Flow.next_tick" (defArgs (inClass (top 39) 12)) (defBody (inClass (top 39) 12)) (defScope (inClass (top 39) 12)) [] [] (He.fAd K ("Flow", some "next_tick")) fd := D.c.t.d.def_ 39 (d := d_Flow_next_tick) rfl
theorem Wd.k_Flow_next_tick : PySem.W.keepIn K (.ref (He.fAd K ("Flow", some "next_tick"))) = true := let ⟨_, F⟩ := D.fd_Flow_next_tick; F.kp
theorem Wd.fd_Flow_land : ∃ fd, FunD K "land" "Flow.land" (defArgs (inClass (top 39) 8)) (defBody (inClass (top 39) 8)) (defScope (inClass (top 39) 8)) [] [] (He.fAd K ("Flow", some "land")) fd := D.c.t.d.def_ 40 (d := d_Flow_land) rfl
theorem Wd.k_Flow_land : PySem.W.keepIn K (.ref (He.fAd K ("Flow", some "land"))) = true := let ⟨_, F⟩ := D.fd_Flow_land; F.kp
theorem Wd.fd_Flow_begin : ∃ fd, FunD K "begin" "Flow.begin" (defArgs (inClass (top 39) 9)) (defBody (inClass (top 39) 9)) (defScope (inClass (top 39) 9)) [] [] (He.fAd K ("Flow", some "begin")) fd := D.c.t.d.def_ 41 (d := d_Flow_begin) rfl
theorem Wd.k_Flow_begin : PySem.W.keepIn K (.ref (He.fAd K ("Flow", some "begin"))) = true := let ⟨_, F⟩ := D.fd_Flow_begin; F.kp
theorem Wd.fd_pass_ticks : ∃ fd, FunD K "pass_ticks" "pass_ticks" (defArgs (top 36)) (defBody (top 36)) (defScope (top 36)) [] [] (He.fAd K ("pass_ticks", none)) fd := D.c.t.d.def_ 42 (d := d_pass_ticks) rfl
theorem Wd.k_pass_ticks : PySem.W.keepIn K (.ref (He.fAd K ("pass_ticks", none))) = true := let ⟨_, F⟩ := D.fd_pass_ticks; F.kp
theorem Wd.fd_flow_behind : ∃ fd, FunD K "flow_behind" "flow_behind" (defArgs (top 37)) (defBody (top 37)) (defScope (top 37)) [] [] (He.fAd K ("flow_behind", none)) fd := D.c.t.d.def_ 43 (d := d_flow_behind) rfl
theorem Wd.k_flow_behind : PySem.W.keepIn K (.ref (He.fAd K ("flow_behind", none))) = true := let ⟨_, F⟩ := D.fd_flow_behind; F.kp
theorem Wd.fd_Session_do_deed : ∃ fd, FunD K "do_deed" "Session.do_deed" (defArgs (inClass (top 42) 3)) (defBody (inClass (top 42) 3)) (defScope (inClass (top 42) 3)) [] [] (He.fAd K ("Session", some "do_deed")) fd := D.c.t.d.def_ 44 (d := d_Session_do_deed) rfl
theorem Wd.k_Session_do_deed : PySem.W.keepIn K (.ref (He.fAd K ("Session", some "do_deed"))) = true := let ⟨_, F⟩ := D.fd_Session_do_deed; F.kp
theorem Wd.fd_Session_wait : ∃ fd, FunD K "wait" "Session.wait" (defArgs (inClass (top 42) 6)) (defBody (inClass (top 42) 6)) (defScope (inClass (top 42) 6)) [] [] (He.fAd K ("Session", some "wait")) fd := D.c.t.d.def_ 45 (d := d_Session_wait) rfl
theorem Wd.k_Session_wait : PySem.W.keepIn K (.ref (He.fAd K ("Session", some "wait"))) = true := let ⟨_, F⟩ := D.fd_Session_wait; F.kp
theorem Wd.fd_Session_write : ∃ fd, FunD K "write" "Session.write" (defArgs (inClass (top 42) 4)) (defBody (inClass (top 42) 4)) (defScope (inClass (top 42) 4)) [] [] (He.fAd K ("Session", some "write")) fd := D.c.t.d.def_ 46 (d := d_Session_write) rfl
theorem Wd.k_Session_write : PySem.W.keepIn K (.ref (He.fAd K ("Session", some "write"))) = true := let ⟨_, F⟩ := D.fd_Session_write; F.kp
theorem Wd.fd_Session_read : ∃ fd, FunD K "read" "Session.read" (defArgs (inClass (top 42) 5)) (defBody (inClass (top 42) 5)) (defScope (inClass (top 42) 5)) [] [] (He.fAd K ("Session", some "read")) fd := D.c.t.d.def_ 47 (d := d_Session_read) rfl
theorem Wd.k_Session_read : PySem.W.keepIn K (.ref (He.fAd K ("Session", some "read"))) = true := let ⟨_, F⟩ := D.fd_Session_read; F.kp
theorem Wd.fd_law_call : ∃ fd, FunD K "_law_call" "_law_call" (defArgs (top 60)) (defBody (top 60)) (defScope (top 60)) [] [] (He.fAd K ("_law_call", none)) fd := D.c.t.d.def_ 48 (d := d_law_call) rfl
theorem Wd.k_law_call : PySem.W.keepIn K (.ref (He.fAd K ("_law_call", none))) = true := let ⟨_, F⟩ := D.fd_law_call; F.kp
theorem Wd.fd_law_send : ∃ fd, FunD K "_law_send" "_law_send" (defArgs (top 51)) (defBody (top 51)) (defScope (top 51)) [] [] (He.fAd K ("_law_send", none)) fd := D.c.t.d.def_ 49 (d := d_law_send) rfl
theorem Wd.k_law_send : PySem.W.keepIn K (.ref (He.fAd K ("_law_send", none))) = true := let ⟨_, F⟩ := D.fd_law_send; F.kp
theorem Wd.fd_law_leave : ∃ fd, FunD K "_law_leave" "_law_leave" (defArgs (top 54)) (defBody (top 54)) (defScope (top 54)) [] [] (He.fAd K ("_law_leave", none)) fd := D.c.t.d.def_ 50 (d := d_law_leave) rfl
theorem Wd.k_law_leave : PySem.W.keepIn K (.ref (He.fAd K ("_law_leave", none))) = true := let ⟨_, F⟩ := D.fd_law_leave; F.kp
theorem Wd.fd_law_land : ∃ fd, FunD K "_law_land" "_law_land" (defArgs (top 53)) (defBody (top 53)) (defScope (top 53)) [] [] (He.fAd K ("_law_land", none)) fd := D.c.t.d.def_ 51 (d := d_law_land) rfl
theorem Wd.k_law_land : PySem.W.keepIn K (.ref (He.fAd K ("_law_land", none))) = true := let ⟨_, F⟩ := D.fd_law_land; F.kp
theorem Wd.fd_law_free : ∃ fd, FunD K "_law_free" "_law_free" (defArgs (top 52)) (defBody (top 52)) (defScope (top 52)) [] [] (He.fAd K ("_law_free", none)) fd := D.c.t.d.def_ 52 (d := d_law_free) rfl
theorem Wd.k_law_free : PySem.W.keepIn K (.ref (He.fAd K ("_law_free", none))) = true := let ⟨_, F⟩ := D.fd_law_free; F.kp
theorem Wd.fd_law_waited : ∃ fd, FunD K "_law_waited" "_law_waited" (defArgs (top 55)) (defBody (top 55)) (defScope (top 55)) [] [] (He.fAd K ("_law_waited", none)) fd := D.c.t.d.def_ 53 (d := d_law_waited) rfl
theorem Wd.k_law_waited : PySem.W.keepIn K (.ref (He.fAd K ("_law_waited", none))) = true := let ⟨_, F⟩ := D.fd_law_waited; F.kp
theorem Wd.fd_law_done : ∃ fd, FunD K "_law_done" "_law_done" (defArgs (top 56)) (defBody (top 56)) (defScope (top 56)) [] [] (He.fAd K ("_law_done", none)) fd := D.c.t.d.def_ 54 (d := d_law_done) rfl
theorem Wd.k_law_done : PySem.W.keepIn K (.ref (He.fAd K ("_law_done", none))) = true := let ⟨_, F⟩ := D.fd_law_done; F.kp
theorem Wd.fd_Session_len : ∃ fd, FunD K "__len__" "Session.__len__" (defArgs (inClass (top 42) 10)) (defBody (inClass (top 42) 10)) (defScope (inClass (top 42) 10)) [] [] (He.fAd K ("Session", some "__len__")) fd := D.c.t.d.def_ 55 (d := d_Session_len) rfl
theorem Wd.k_Session_len : PySem.W.keepIn K (.ref (He.fAd K ("Session", some "__len__"))) = true := let ⟨_, F⟩ := D.fd_Session_len; F.kp
theorem Wd.fd_Session_repr : ∃ fd, FunD K "__repr__" "Session.__repr__" (defArgs (inClass (top 42) 11)) (defBody (inClass (top 42) 11)) (defScope (inClass (top 42) 11)) [] [] (He.fAd K ("Session", some "__repr__")) fd := D.c.t.d.def_ 56 (d := d_Session_repr) rfl
theorem Wd.k_Session_repr : PySem.W.keepIn K (.ref (He.fAd K ("Session", some "__repr__"))) = true := let ⟨_, F⟩ := D.fd_Session_repr; F.kp
theorem Wd.fd_law_shown : ∃ fd, FunD K "_law_shown" "_law_shown" (defArgs (top 59)) (defBody (top 59)) (defScope (top 59)) [] [] (He.fAd K ("_law_shown", none)) fd := D.c.t.d.def_ 57 (d := d_law_shown) rfl
theorem Wd.k_law_shown : PySem.W.keepIn K (.ref (He.fAd K ("_law_shown", none))) = true := let ⟨_, F⟩ := D.fd_law_shown; F.kp
theorem Wd.fd_law_listed : ∃ fd, FunD K "_law_listed" "_law_listed" (defArgs (top 57)) (defBody (top 57)) (defScope (top 57)) [] [] (He.fAd K ("_law_listed", none)) fd := D.c.t.d.def_ 58 (d := d_law_listed) rfl
theorem Wd.k_law_listed : PySem.W.keepIn K (.ref (He.fAd K ("_law_listed", none))) = true := let ⟨_, F⟩ := D.fd_law_listed; F.kp
theorem Wd.fd_law_view : ∃ fd, FunD K "_law_view" "_law_view" (defArgs (top 58)) (defBody (top 58)) (defScope (top 58)) [] [] (He.fAd K ("_law_view", none)) fd := D.c.t.d.def_ 59 (d := d_law_view) rfl
theorem Wd.k_law_view : PySem.W.keepIn K (.ref (He.fAd K ("_law_view", none))) = true := let ⟨_, F⟩ := D.fd_law_view; F.kp
theorem Wd.fd_law_walked : ∃ fd, FunD K "_law_walked" "_law_walked" (defArgs (top 64)) (defBody (top 64)) (defScope (top 64)) [] [] (He.fAd K ("_law_walked", none)) fd := D.c.t.d.def_ 60 (d := d_law_walked) rfl
theorem Wd.k_law_walked : PySem.W.keepIn K (.ref (He.fAd K ("_law_walked", none))) = true := let ⟨_, F⟩ := D.fd_law_walked; F.kp
theorem Wd.fd_law_right : ∃ fd, FunD K "_law_right" "_law_right" (defArgs (top 65)) (defBody (top 65)) (defScope (top 65)) [] [] (He.fAd K ("_law_right", none)) fd := D.c.t.d.def_ 61 (d := d_law_right) rfl
theorem Wd.k_law_right : PySem.W.keepIn K (.ref (He.fAd K ("_law_right", none))) = true := let ⟨_, F⟩ := D.fd_law_right; F.kp
theorem Wd.fd_law_well : ∃ fd, FunD K "_law_well" "_law_well" (defArgs (top 44)) (defBody (top 44)) (defScope (top 44)) [] [] (He.fAd K ("_law_well", none)) fd := D.c.t.d.def_ 62 (d := d_law_well) rfl
theorem Wd.k_law_well : PySem.W.keepIn K (.ref (He.fAd K ("_law_well", none))) = true := let ⟨_, F⟩ := D.fd_law_well; F.kp
theorem Wd.fd_law : ∃ fd, FunD K "law" "law" (defArgs (top 66)) (defBody (top 66)) (defScope (top 66)) [] [] (He.fAd K ("law", none)) fd := D.c.t.d.def_ 63 (d := d_law) rfl
theorem Wd.k_law : PySem.W.keepIn K (.ref (He.fAd K ("law", none))) = true := let ⟨_, F⟩ := D.fd_law; F.kp
theorem Wd.lt_Session_show : PySem.W.codeHdIn K (He.cT K ("Session", some "show")).1 (He.cT K ("Session", some "show")).2 = true := D.c.hd _ (by simp [tf])
theorem Wd.tb_Session_show : LamX.TabB base mg (He.cT K ("Session", some "show")).1 (He.cT K ("Session", some "show")).2 := D.tb _ (by simp [tf])
theorem Wd.lt_law_listed : PySem.W.codeHdIn K (He.cT K ("_law_listed", none)).1 (He.cT K ("_law_listed", none)).2 = true := D.c.hd _ (by simp [tf])
theorem Wd.tb_law_listed : LamX.TabB base mg (He.cT K ("_law_listed", none)).1 (He.cT K ("_law_listed", none)).2 := D.tb _ (by simp [tf])
theorem Wd.lt_law_right : PySem.W.codeHdIn K (He.cT K ("_law_right", none)).1 (He.cT K ("_law_right", none)).2 = true := D.c.hd _ (by simp [tf])
theorem Wd.tb_law_right : LamX.TabB base mg (He.cT K ("_law_right", none)).1 (He.cT K ("_law_right", none)).2 := D.tb _ (by simp [tf])
end
theorem lam1_by {x : Str} {scope : Scope} (h : (decide (scope.kind = .function) && !scope.isCoroutine && !scope.isGenerator && decide (scope.names.lookup x = some .local) && scope.names.all fun y => !decide (y.2 = .cell)) = true) : Lam1 x scope := by
  simp only [Bool.and_eq_true, Bool.not_eq_true', decide_eq_true_eq, List.all_eq_true, decide_eq_false_iff_not] at h
  exact ⟨h.1.1.1.1, h.1.1.1.2, h.1.1.2, h.1.2, fun y hy => h.2 y hy⟩
end LL.K67
end

section
set_option Elab.async false
set_option linter.all false
set_option maxRecDepth 100000
namespace LL.K67
open PySem PySem.Spec PyProof.Rows L2 LL
abbrev N_law_draw : List Str := ["_law_well_here", "_law_many", "_law_digit", "_law_seed"]
def b_law_draw : LS :=
  (sSeq (sAsg (eOp oPlus (eOp oIx (eVar 0) (eC (.int 1))) (eC (.int 1))) (gSb (eVar 0) (eC (.int 1))))
  (sSeq (sIf (eTest (eOp oGt (eOp oIx (eVar 0) (eC (.int 2))) (eC (.int 0))))
  (sSeq (sAsg (eB bDivmod (eCons (eB bInt (eCons (eOp oIx (eVar 0) (eC (.int 2))) eNil)) (eCons (eVar 1) eNil))) (gTp 2 (gCs (gSb (eVar 0) (eC (.int 2))) (gCs (gNm 2) gNl))))
  (sRet (eVar 2)))
  sNil)
  (sSeq (sAsg (eB bInt (eCons (eOp oIx (eVar 0) (eC (.int 0))) eNil)) (gNm 3))
  (sSeq (sAsg (eOp oMod (eB bInt (eCons (eOp oPlus (eOp oPlus (eOp oMul (eVar 3) (eOp oPlus (eOp oMod (eB bInt (eCons (eVar 3) eNil)) (eC (.int 30011))) (eC (.int 40013)))) (eOp oMul (eC (.int 60013)) (eOp oIx (eVar 0) (eC (.int 1))))) (eC (.int 7))) eNil)) (eC (.int 2147483543))) (gSb (eVar 0) (eC (.int 0))))
  (sRet (eOp oMod (eB bInt (eCons (eOp oDiv (eOp oIx (eVar 0) (eC (.int 0))) (eC (.int 97))) eNil)) (eVar 1)))))))
abbrev N_law_one_of : List Str := ["_law_well_here", "_law_things"]
def b_law_one_of : LS :=
  (sRet (eOp oIx (eVar 1) (eCall G_law_draw 2 (eCons (eVar 0) (eCons (eB bLen (eCons (eVar 1) eNil)) eNil)))))
abbrev N_law_ways : List Str := ["_law_well_here", "_law_word"]
def b_law_ways : LS :=
  (sSeq (sAsg (eCall G_law_one_of 2 (eCons (eVar 0) (eCons (eLst (eCons (eC (.str "hold")) (eCons (eC (.str "plain")) (eCons (eC (.str "few")) (eCons (eC (.str "hold")) eNil))))) eNil))) (gNm 1))
  (sRet (eTup (eCons (eVar 1) (eCons (eOp oPlus (eC (.int 1)) (eCall G_law_draw 2 (eCons (eVar 0) (eCons (eC (.int 4)) eNil)))) (eCons (eCall G_law_one_of 2 (eCons (eVar 0) (eCons (eLst (eCons (eC (.int 0)) (eCons (eC (.int 1)) (eCons (eC (.int 2)) (eCons (eC (.int 5)) (eCons (eC (.int 12)) (eCons (eCall G_law_draw 2 (eCons (eVar 0) (eCons (eC (.int 41)) eNil))) eNil))))))) eNil))) eNil))))))
abbrev N_law_told : List Str := ["_law_well_here", "_law_big"]
def b_law_told : LS :=
  (sSeq (sAsg (eCall G_law_one_of 2 (eCons (eVar 0) (eCons (eLst (eCons (eC (.int 2)) (eCons (eC (.int 3)) (eCons (eC (.int 4)) (eCons (eC (.int 5)) (eCons (eC (.int 7)) (eCons (eC (.int 10)) (eCons (eC (.int 1)) (eCons (eOp oPlus (eC (.int 1)) (eCall G_law_draw 2 (eCons (eVar 0) (eCons (eC (.int 40)) eNil)))) eNil))))))))) eNil))) (gNm 1))
  (sRet (eTup (eCons (eVar 1) (eCons (eCall G_law_one_of 2 (eCons (eVar 0) (eCons (eLst (eCons (eC (.int 1)) (eCons (eC (.int 2)) (eCons (eC (.int 3)) (eCons (eC (.int 5)) (eCons (eOp oPlus (eC (.int 1)) (eCall G_law_draw 2 (eCons (eVar 0) (eCons (eC (.int 20)) eNil)))) eNil)))))) eNil))) (eCons (eCall G_law_ways 1 (eCons (eVar 0) eNil)) (eCons (eCall G_law_ways 1 (eCons (eVar 0) eNil)) eNil)))))))
abbrev N_law_new : List Str := ["_law_told_here"]
def b_law_new : LS :=
  (sRet (eLstM (eCons (eVar 0) (eCons (eC (.int 0)) (eCons (eLst (eCons (eLstM (eCons (eC (.int 0)) (eCons (eC (.int 0)) (eCons (eC (.int 0)) (eCons (eC (.int 0)) (eCons (eC (.int 0)) (eCons (eC (.int 0)) (eCons (eC (.int 0)) (eCons (eC .non) eNil))))))))) (eCons (eLstM (eCons (eC (.int 0)) (eCons (eC (.int 0)) (eCons (eC (.int 0)) (eCons (eC (.int 0)) (eCons (eC (.int 0)) (eCons (eC (.int 0)) (eCons (eC (.int 0)) (eCons (eC .non) eNil))))))))) eNil))) (eCons (eLstM eNil) (eCons (eLstM eNil) eNil)))))))
abbrev N_NotALine_init : List Str := ["self", "value"]
abbrev N_check_line : List Str := ["value"]
def b_check_line : LS :=
  (sIf (eNot (eTest (eIsi is_Line (eVar 0))))
  (sRaise1 "NotALine" "value" (eVar 0))
  sNil)
abbrev N_Flow_kept : List Str := ["self", "side", "amount", "tick"]
def b_Flow_kept : LS :=
  (sRet (eB bSum (eCons (eLC (iSeq (eOp oIx (eFld cs_stock "stock" (eVar 0)) (eVar 1))) (.tp [2, 3]) eYes (eVar 2) [2, 3]) eNil)))
abbrev N_Flow_fresh : List Str := ["self", "side"]
def b_Flow_fresh : LS :=
  (sRet (eOp oSub (eOp oIx (eFld cs_come "come" (eVar 0)) (eVar 1)) (eOp oIx (eFld cs_taken "taken" (eVar 0)) (eVar 1))))
abbrev N_Session_show : List Str := ["self", "flow", "past"]
def b_Session_show : LS :=
  (sSeq (sFldA cs_flow "flow" (eVar 1) (eVar 0))
  (sSeq (sFldA cs_past "past" (eVar 2) (eVar 0))
  (sSeq (sFldA cs_now "now" (eFld cs_tick "tick" (eVar 1)) (eVar 0))
  (sSeq (sFldA cs_holding "holding" (eTup (eCons (eMeth "Flow" "kept" G_Flow_kept 2 (eVar 1) (eCons (eC (.int 0)) eNil)) (eCons (eMeth "Flow" "kept" G_Flow_kept 2 (eVar 1) (eCons (eC (.int 1)) eNil)) eNil))) (eVar 0))
  (sSeq (sFldA cs_unread "unread" (eTup (eCons (eMeth "Flow" "fresh" G_Flow_fresh 2 (eVar 1) (eCons (eC (.int 0)) eNil)) (eCons (eMeth "Flow" "fresh" G_Flow_fresh 2 (eVar 1) (eCons (eC (.int 1)) eNil)) eNil))) (eVar 0))
  (sSeq (sFldA cs_unanswered "unanswered" (eTup (eCons (eOp oSub (eOp oIx (eFld cs_out "out" (eVar 1)) (eC (.int 0))) (eOp oIx (eFld cs_known "known" (eVar 1)) (eC (.int 0)))) (eCons (eOp oSub (eOp oIx (eFld cs_out "out" (eVar 1)) (eC (.int 1))) (eOp oIx (eFld cs_known "known" (eVar 1)) (eC (.int 1)))) eNil))) (eVar 0))
  (sSeq (sFldA cs_pieces "pieces" (eB bTuple (eCons (eSort2 (eFld cs_log "log" (eVar 1))) eNil)) (eVar 0))
  (sFldA cs_under_way "under_way" (eB bLen (eCons (eFld cs_flight "flight" (eVar 1)) eNil)) (eVar 0)))))))))
abbrev N_Flow_init : List Str := ["self", "line"]
def b_Flow_init : LS :=
  (sSeq (sFldA cs_line "line" (eVar 1) (eVar 0))
  (sSeq (sFldA cs_settings "settings" (eTup (eCons (eFld cs_near "near" (eVar 1)) (eCons (eFld cs_far "far" (eVar 1)) eNil))) (eVar 0))
  (sSeq (sFldA cs_tick "tick" (eC (.int 0)) (eVar 0))
  (sSeq (sFldA cs_stock "stock" (eLst (eCons (eLstM eNil) (eCons (eLstM eNil) eNil))) (eVar 0))
  (sSeq (sFldA cs_out "out" (eLstM (eCons (eC (.int 0)) (eCons (eC (.int 0)) eNil))) (eVar 0))
  (sSeq (sFldA cs_known "known" (eLstM (eCons (eC (.int 0)) (eCons (eC (.int 0)) eNil))) (eVar 0))
  (sSeq (sFldA cs_small "small" (eLstM (eCons (eC (.int 0)) (eCons (eC (.int 0)) eNil))) (eVar 0))
  (sSeq (sFldA cs_come "come" (eLstM (eCons (eC (.int 0)) (eCons (eC (.int 0)) eNil))) (eVar 0))
  (sSeq (sFldA cs_taken "taken" (eLstM (eCons (eC (.int 0)) (eCons (eC (.int 0)) eNil))) (eVar 0))
  (sSeq (sFldA cs_full "full" (eLstM (eCons (eC (.int 0)) (eCons (eC (.int 0)) eNil))) (eVar 0))
  (sSeq (sFldA cs_first "first" (eLstM (eCons (eC .non) (eCons (eC .non) eNil))) (eVar 0))
  (sSeq (sFldA cs_long "long" (eLstM (eCons (eC (.int 0)) (eCons (eC (.int 0)) eNil))) (eVar 0))
  (sSeq (sFldA cs_flight "flight" (eLstM eNil) (eVar 0))
  (sFldA cs_log "log" (eLstM eNil) (eVar 0)))))))))))))))
abbrev N_Session_init : List Str := ["self", "line"]
def b_Session_init : LS :=
  (sSeq (sExpr (eCall G_check_line 1 (eCons (eVar 1) eNil)))
  (sSeq (sFldA cs_line "line" (eVar 1) (eVar 0))
  (sSeq (sFldA cs_busy "busy" (eC (.bl false)) (eVar 0))
  (sExpr (eMeth "Session" "show" G_Session_show 3 (eVar 0) (eCons (eFrz0 (eMake "Flow" G_Flow_init 2 (eCons (eVar 1) eNil))) (eCons (eLst eNil) eNil)))))))
abbrev N_is_integer : List Str := ["value"]
def b_is_integer : LS :=
  (sRet (eAndV (eIsi is_int (eVar 0)) (eNotV (eIsi is_bool (eVar 0)))))
abbrev N_is_between : List Str := ["value", "low", "high"]
def b_is_between : LS :=
  (sRet (eAndV (eCall G_is_integer 1 (eCons (eVar 0) eNil)) (eChain oLe oLe (eVar 1) (eVar 0) (eVar 2))))
abbrev N_InvalidNumber_init : List Str := ["self", "value"]
abbrev N_check_number : List Str := ["value", "low", "high"]
def b_check_number : LS :=
  (sIf (eNot (eTest (eCall G_is_between 3 (eCons (eVar 0) (eCons (eVar 1) (eCons (eVar 2) eNil))))))
  (sRaise1 "InvalidNumber" "value" (eVar 0))
  sNil)
abbrev N_NotASetting_init : List Str := ["self", "value"]
abbrev N_check_setting : List Str := ["value"]
def b_check_setting : LS :=
  (sIf (eNot (eTest (eIsi is_Setting (eVar 0))))
  (sRaise1 "NotASetting" "value" (eVar 0))
  sNil)
abbrev N_Line_init : List Str := ["self", "size", "way", "near", "far"]
def b_Line_init : LS :=
  (sSeq (sExpr (eCall G_check_number 3 (eCons (eVar 1) (eCons (eC (.int 1)) (eCons (eC (.int 40)) eNil)))))
  (sSeq (sExpr (eCall G_check_number 3 (eCons (eVar 2) (eCons (eC (.int 1)) (eCons (eC (.int 200)) eNil)))))
  (sSeq (sExpr (eCall G_check_setting 1 (eCons (eVar 3) eNil)))
  (sSeq (sExpr (eCall G_check_setting 1 (eCons (eVar 4) eNil)))
  (sSeq (sFldA cs_size "size" (eVar 1) (eVar 0))
  (sSeq (sFldA cs_way "way" (eVar 2) (eVar 0))
  (sSeq (sFldA cs_near "near" (eVar 3) (eVar 0))
  (sSeq (sFldA cs_far "far" (eVar 4) (eVar 0))
  (sFldA cs_told "told" (eTup (eCons (eVar 1) (eCons (eVar 2) (eCons (eFld cs_told "told" (eVar 3)) (eCons (eFld cs_told "told" (eVar 4)) eNil))))) (eVar 0))))))))))
abbrev N_InvalidRule_init : List Str := ["self", "value"]
abbrev N_Setting_init : List Str := ["self", "rule", "every", "delay"]
def b_Setting_init : LS :=
  (sSeq (sIf (eOr (eNot (eTest (eIsi is_str (eVar 1)))) (eTest (eOp (oIn true) (eVar 1) (eC tup_RULES))))
  (sRaise1 "InvalidRule" "value" (eVar 1))
  sNil)
  (sSeq (sExpr (eCall G_check_number 3 (eCons (eVar 2) (eCons (eC (.int 1)) (eCons (eC (.int 4)) eNil)))))
  (sSeq (sExpr (eCall G_check_number 3 (eCons (eVar 3) (eCons (eC (.int 0)) (eCons (eC (.int 200)) eNil)))))
  (sSeq (sFldA cs_rule "rule" (eVar 1) (eVar 0))
  (sSeq (sFldA cs_every "every" (eVar 2) (eVar 0))
  (sSeq (sFldA cs_delay "delay" (eVar 3) (eVar 0))
  (sFldA cs_told "told" (eTup (eCons (eVar 1) (eCons (eVar 2) (eCons (eVar 3) eNil)))) (eVar 0))))))))
abbrev N_law_made : List Str := ["_law_told_here", "_law_a", "_law_b", "_law_c", "_law_d"]
def b_law_made : LS :=
  (sSeq (sAsg (eVar 0) (gTp 4 (gCs (gNm 1) (gCs (gNm 2) (gCs (gNm 3) (gCs (gNm 4) gNl))))))
  (sRet (eFrz0 (eMake "Line" G_Line_init 5 (eCons (eVar 1) (eCons (eVar 2) (eCons (eFrz0 (eMake "Setting" G_Setting_init 4 (eCons (eOp oIx (eVar 3) (eC (.int 0))) (eCons (eOp oIx (eVar 3) (eC (.int 1))) (eCons (eOp oIx (eVar 3) (eC (.int 2))) eNil))))) (eCons (eFrz0 (eMake "Setting" G_Setting_init 4 (eCons (eOp oIx (eVar 4) (eC (.int 0))) (eCons (eOp oIx (eVar 4) (eC (.int 1))) (eCons (eOp oIx (eVar 4) (eC (.int 2))) eNil))))) eNil))))))))
abbrev N_law_outcome : List Str := ["_law_ask", "_law_word", "_law_given", "e"]
def b_law_outcome (L : D) (ask : LAsk) : LS :=
  (sSeq (sAsg (eTup (eCons (eC (.str "given")) (eCons (eC .non) eNil))) (gTp 2 (gCs (gNm 1) (gCs (gNm 2) gNl))))
  (sSeq (sTry (sAsg (eAsk 0 L ask) (gNm 2))
  [⟨exl_Busy, none, fun a c d => (sAsg (eC (.str "Busy")) (gNm 1))⟩,
  ⟨exl_NotThere, none, fun a c d => (sAsg (eC (.str "NotThere")) (gNm 1))⟩,
  ⟨exl_NothingToUndo, none, fun a c d => (sAsg (eC (.str "NothingToUndo")) (gNm 1))⟩,
  ⟨exl_InvalidSide, (some 3), fun a c d => (sPar 1 2 (eCons (eC (.str "InvalidSide")) (eCons (eXf "InvalidSide" a c d "value" (eVar 3)) eNil)))⟩,
  ⟨exl_InvalidNumber, (some 3), fun a c d => (sPar 1 2 (eCons (eC (.str "InvalidNumber")) (eCons (eXf "InvalidNumber" a c d "value" (eVar 3)) eNil)))⟩,
  ⟨exl_InvalidDeeds, (some 3), fun a c d => (sPar 1 2 (eCons (eC (.str "InvalidDeeds")) (eCons (eXf "InvalidDeeds" a c d "index" (eVar 3)) eNil)))⟩,
  ⟨exl_TooMany, (some 3), fun a c d => (sPar 1 2 (eCons (eC (.str "TooMany")) (eCons (eXf "TooMany" a c d "limit" (eVar 3)) eNil)))⟩])
  (sRet (eLst (eCons (eVar 1) (eCons (eVar 2) eNil))))))
abbrev N_Session_check_free : List Str := ["self"]
def b_Session_check_free : LS :=
  (sIf (eTru (eFld cs_busy "busy" (eVar 0)))
  (sRaise0 "Busy")
  sNil)
abbrev N_Session_undo : List Str := ["self"]
def b_Session_undo : LS :=
  (sSeq (sExpr (eMeth "Session" "check_free" G_Session_check_free 1 (eVar 0) eNil))
  (sSeq (sIf (eTest (eOp oEqD (eB bLen (eCons (eFld cs_past "past" (eVar 0)) eNil)) (eC (.int 0))))
  (sRaise0 "NothingToUndo")
  sNil)
  (sExpr (eMeth "Session" "show" G_Session_show 3 (eVar 0) (eCons (eOp oIx (eFld cs_past "past" (eVar 0)) (eNeg (eC (.int 1)))) (eCons (eSl (eFld cs_past "past" (eVar 0)) eNoPart (eSomePart (eNeg (eC (.int 1))))) eNil))))))
abbrev N_law_copied : List Str := ["_law_world"]
def b_law_copied : LS :=
  (sRet (eLstM (eCons (eOp oIx (eVar 0) (eC (.int 0))) (eCons (eOp oIx (eVar 0) (eC (.int 1))) (eCons (eLst (eCons (eB bListM (eCons (eOp oIx (eOp oIx (eVar 0) (eC (.int 2))) (eC (.int 0))) eNil)) (eCons (eB bListM (eCons (eOp oIx (eOp oIx (eVar 0) (eC (.int 2))) (eC (.int 1))) eNil)) eNil))) (eCons (eB bListM (eCons (eOp oIx (eVar 0) (eC (.int 3))) eNil)) (eCons (eB bListM (eCons (eOp oIx (eVar 0) (eC (.int 4))) eNil)) eNil)))))))
abbrev N_law_job : List Str := ["_law_well_here", "_law_world", "_law_turn", "_law_k", "_law_there"]
def b_law_job : LS :=
  (sSeq (sPar 2 3 (eCons (eCall G_law_draw 2 (eCons (eVar 0) (eCons (eC (.int 10)) eNil))) (eCons (eCall G_law_draw 2 (eCons (eVar 0) (eCons (eC (.int 2)) eNil))) eNil)))
  (sSeq (sAsg (eOp oSub (eOp oIx (eOp oIx (eOp oIx (eVar 1) (eC (.int 2))) (eVar 3)) (eC (.int 4))) (eOp oIx (eOp oIx (eOp oIx (eVar 1) (eC (.int 2))) (eVar 3)) (eC (.int 5)))) (gNm 4))
  (sSeq (sIf (eAnd (eTest (eOp oLt (eVar 2) (eC (.int 3)))) (eTest (eOp oGt (eVar 4) (eC (.int 0)))))
  (sRet (eTup (eCons (eC (.str "read")) (eCons (eVar 3) (eCons (eOp oPlus (eC (.int 1)) (eCall G_law_draw 2 (eCons (eVar 0) (eCons (eB bMin2 (eCons (eVar 4) (eCons (eC (.int 60)) eNil))) eNil)))) eNil)))))
  sNil)
  (sSeq (sIf (eTest (eOp oLt (eVar 2) (eC (.int 6))))
  (sRet (eTup (eCons (eC (.str "write")) (eCons (eVar 3) (eCons (eOp oPlus (eC (.int 1)) (eCall G_law_draw 2 (eCons (eVar 0) (eCons (eCall G_law_one_of 2 (eCons (eVar 0) (eCons (eLst (eCons (eC (.int 3)) (eCons (eC (.int 6)) (eCons (eC (.int 12)) (eCons (eB bMin2 (eCons (eC (.int 60)) (eCons (eOp oMul (eC (.int 3)) (eOp oIx (eOp oIx (eVar 1) (eC (.int 0))) (eC (.int 0)))) eNil))) eNil))))) eNil))) eNil)))) eNil)))))
  sNil)
  (sRet (eTup (eCons (eC (.str "wait")) (eCons (eOp oPlus (eC (.int 1)) (eCall G_law_draw 2 (eCons (eVar 0) (eCons (eCall G_law_one_of 2 (eCons (eVar 0) (eCons (eLst (eCons (eC (.int 2)) (eCons (eC (.int 6)) (eCons (eC (.int 14)) (eCons (eC (.int 14)) (eCons (eC (.int 60)) eNil)))))) eNil))) eNil)))) eNil))))))))
abbrev N_InvalidSide_init : List Str := ["self", "value"]
abbrev N_check_side : List Str := ["value"]
def b_check_side : LS :=
  (sIf (eNot (eTest (eCall G_is_between 3 (eCons (eVar 0) (eCons (eC (.int 0)) (eCons (eC (.int 1)) eNil))))))
  (sRaise1 "InvalidSide" "value" (eVar 0))
  sNil)
abbrev N_check_deed : List Str := ["flow", "deed"]
def b_check_deed : LS :=
  (sSeq (sIf (eTest (eOp oNeD (eOp oIx (eVar 1) (eC (.int 0))) (eC (.str "wait"))))
  (sExpr (eCall G_check_side 1 (eCons (eOp oIx (eVar 1) (eC (.int 1))) eNil)))
  sNil)
  (sSeq (sExpr (eCall G_check_number 3 (eCons (eOp oIx (eVar 1) (eNeg (eC (.int 1)))) (eCons (eC (.int 1)) (eCons (eC (.int 60)) eNil)))))
  (sIf (eAnd (eTest (eOp oEqD (eOp oIx (eVar 1) (eC (.int 0))) (eC (.str "read")))) (eTest (eOp oLt (eMeth "Flow" "fresh" G_Flow_fresh 2 (eVar 0) (eCons (eOp oIx (eVar 1) (eC (.int 1))) eNil)) (eOp oIx (eVar 1) (eC (.int 2))))))
  (sRaise0 "NotThere")
  sNil)))
abbrev N_TooMany_init : List Str := ["self", "limit"]
abbrev N_Flow_copied : List Str := ["self", "other"]
def b_Flow_copied : LS :=
  (sSeq (sAsg (eMake "Flow" G_Flow_init 2 (eCons (eFld cs_line "line" (eVar 0)) eNil)) (gNm 1))
  (sSeq (sFldA cs_tick "tick" (eFld cs_tick "tick" (eVar 0)) (eVar 1))
  (sSeq (sFldA cs_stock "stock" (eLst (eCons (eB bListM (eCons (eOp oIx (eFld cs_stock "stock" (eVar 0)) (eC (.int 0))) eNil)) (eCons (eB bListM (eCons (eOp oIx (eFld cs_stock "stock" (eVar 0)) (eC (.int 1))) eNil)) eNil))) (eVar 1))
  (sSeq (sAsg (eTup (eCons (eB bListM (eCons (eFld cs_out "out" (eVar 0)) eNil)) (eCons (eB bListM (eCons (eFld cs_known "known" (eVar 0)) eNil)) (eCons (eB bListM (eCons (eFld cs_small "small" (eVar 0)) eNil)) eNil)))) (gTp 3 (gCs (gFd cs_out "out" (eVar 1)) (gCs (gFd cs_known "known" (eVar 1)) (gCs (gFd cs_small "small" (eVar 1)) gNl)))))
  (sSeq (sAsg (eTup (eCons (eB bListM (eCons (eFld cs_come "come" (eVar 0)) eNil)) (eCons (eB bListM (eCons (eFld cs_taken "taken" (eVar 0)) eNil)) (eCons (eB bListM (eCons (eFld cs_full "full" (eVar 0)) eNil)) eNil)))) (gTp 3 (gCs (gFd cs_come "come" (eVar 1)) (gCs (gFd cs_taken "taken" (eVar 1)) (gCs (gFd cs_full "full" (eVar 1)) gNl)))))
  (sSeq (sAsg (eTup (eCons (eB bListM (eCons (eFld cs_first "first" (eVar 0)) eNil)) (eCons (eB bListM (eCons (eFld cs_long "long" (eVar 0)) eNil)) eNil))) (gTp 2 (gCs (gFd cs_first "first" (eVar 1)) (gCs (gFd cs_long "long" (eVar 1)) gNl))))
  (sSeq (sAsg (eTup (eCons (eB bListM (eCons (eFld cs_flight "flight" (eVar 0)) eNil)) (eCons (eB bListM (eCons (eFld cs_log "log" (eVar 0)) eNil)) eNil))) (gTp 2 (gCs (gFd cs_flight "flight" (eVar 1)) (gCs (gFd cs_log "log" (eVar 1)) gNl))))
  (sRet (eVar 1)))))))))
abbrev N_Flow_take_out : List Str := ["self", "side", "amount", "left", "first", "tick"]
def b_Flow_take_out : LS :=
  (sSeq (sAsg (eVar 2) (gNm 3))
  (sWhile (eTest (eOp oGt (eVar 3) (eC (.int 0))))
  (sSeq (sAsg (eOp oIx (eOp oIx (eFld cs_stock "stock" (eVar 0)) (eVar 1)) (eC (.int 0))) (gTp 2 (gCs (gNm 4) (gCs (gNm 5) gNl))))
  (sSeq (sAsg (eB bMax2 (eCons (eOp oIx (eFld cs_long "long" (eVar 0)) (eVar 1)) (eCons (eOp oSub (eFld cs_tick "tick" (eVar 0)) (eVar 5)) eNil))) (gSb (eFld cs_long "long" (eVar 0)) (eVar 1)))
  (sSeq (sIf (eTest (eOp oGt (eVar 4) (eVar 3)))
  (sAsg (eTup (eCons (eOp oSub (eVar 4) (eVar 3)) (eCons (eVar 5) eNil))) (gSb (eOp oIx (eFld cs_stock "stock" (eVar 0)) (eVar 1)) (eC (.int 0))))
  (sDel (eOp oIx (eFld cs_stock "stock" (eVar 0)) (eVar 1)) (eC (.int 0))))
  (sAug 3 (eB bMin2 (eCons (eVar 4) (eCons (eVar 3) eNil))) (fun i j => i - j)))))))
abbrev N_Flow_send : List Str := ["self", "side", "amount"]
def b_Flow_send : LS :=
  (sSeq (sExpr (eMeth "Flow" "take_out" G_Flow_take_out 3 (eVar 0) (eCons (eVar 1) (eCons (eVar 2) eNil))))
  (sSeq (sAugS (eFld cs_out "out" (eVar 0)) (eVar 1) (eVar 2) (fun i j => i + j))
  (sSeq (sIf (eTest (eChain oLt oLt (eC (.int 0)) (eVar 2) (eFld cs_size "size" (eFld cs_line "line" (eVar 0)))))
  (sAsg (eOp oIx (eFld cs_out "out" (eVar 0)) (eVar 1)) (gSb (eFld cs_small "small" (eVar 0)) (eVar 1)))
  sNil)
  (sSeq (sExpr (eMt mAppend (eFld cs_log "log" (eVar 0)) (eCons (eTup (eCons (eFld cs_tick "tick" (eVar 0)) (eCons (eVar 1) (eCons (eVar 2) (eCons (eOp oIx (eFld cs_come "come" (eVar 0)) (eVar 1)) eNil))))) eNil)))
  (sSeq (sExpr (eMt mAppend (eFld cs_flight "flight" (eVar 0)) (eCons (eTup (eCons (eOp oPlus (eFld cs_tick "tick" (eVar 0)) (eFld cs_way "way" (eFld cs_line "line" (eVar 0)))) (eCons (eVar 1) (eCons (eVar 2) (eCons (eOp oIx (eFld cs_come "come" (eVar 0)) (eVar 1)) eNil))))) eNil)))
  (sSeq (sAsg (eC (.int 0)) (gSb (eFld cs_full "full" (eVar 0)) (eVar 1)))
  (sAsg (eC .non) (gSb (eFld cs_first "first" (eVar 0)) (eVar 1)))))))))
abbrev N_Flow_lets : List Str := ["self", "side", "rule"]
def b_Flow_lets : LS :=
  (sSeq (sAsg (eFld cs_rule "rule" (eOp oIx (eFld cs_settings "settings" (eVar 0)) (eVar 1))) (gNm 2))
  (sSeq (sIf (eTest (eOp oEqD (eVar 2) (eC (.str "hold"))))
  (sRet (eOp oEqD (eOp oIx (eFld cs_out "out" (eVar 0)) (eVar 1)) (eOp oIx (eFld cs_known "known" (eVar 0)) (eVar 1))))
  sNil)
  (sRet (eOrV (eOp oEqD (eVar 2) (eC (.str "plain"))) (eOp oLe (eOp oIx (eFld cs_small "small" (eVar 0)) (eVar 1)) (eOp oIx (eFld cs_known "known" (eVar 0)) (eVar 1)))))))
abbrev N_Flow_let_go : List Str := ["self", "side", "amount"]
def b_Flow_let_go : LS :=
  (sSeq (sWhile (eTest (eOp oGe (eMeth "Flow" "kept" G_Flow_kept 2 (eVar 0) (eCons (eVar 1) eNil)) (eFld cs_size "size" (eFld cs_line "line" (eVar 0)))))
  (sExpr (eMeth "Flow" "send" G_Flow_send 3 (eVar 0) (eCons (eVar 1) (eCons (eFld cs_size "size" (eFld cs_line "line" (eVar 0))) eNil)))))
  (sSeq (sAsg (eMeth "Flow" "kept" G_Flow_kept 2 (eVar 0) (eCons (eVar 1) eNil)) (gNm 2))
  (sIf (eAnd (eTest (eOp oGt (eVar 2) (eC (.int 0)))) (eTest (eMeth "Flow" "lets" G_Flow_lets 2 (eVar 0) (eCons (eVar 1) eNil))))
  (sExpr (eMeth "Flow" "send" G_Flow_send 3 (eVar 0) (eCons (eVar 1) (eCons (eVar 2) eNil))))
  sNil)))
abbrev N_Flow_put : List Str := ["self", "side", "amount"]
def b_Flow_put : LS :=
  (sSeq (sExpr (eMt mAppend (eOp oIx (eFld cs_stock "stock" (eVar 0)) (eVar 1)) (eCons (eTup (eCons (eVar 2) (eCons (eFld cs_tick "tick" (eVar 0)) eNil))) eNil)))
  (sExpr (eMeth "Flow" "let_go" G_Flow_let_go 2 (eVar 0) (eCons (eVar 1) eNil))))
abbrev N_Flow_is_due : List Str := ["self", "side", "setting"]
def b_Flow_is_due : LS :=
  (sSeq (sAsg (eOp oIx (eFld cs_settings "settings" (eVar 0)) (eVar 1)) (gNm 2))
  (sSeq (sIf (eTest (eOp oGe (eOp oIx (eFld cs_full "full" (eVar 0)) (eVar 1)) (eFld cs_every "every" (eVar 2))))
  (sRet (eC (.bl true)))
  sNil)
  (sRet (eAndV (eOp oNotN (eOp oIx (eFld cs_first "first" (eVar 0)) (eVar 1)) (eC .non)) (eOp oGe (eFld cs_tick "tick" (eVar 0)) (eOp oPlus (eOp oIx (eFld cs_first "first" (eVar 0)) (eVar 1)) (eFld cs_delay "delay" (eVar 2))))))))
abbrev N_Flow_leave : List Str := ["self", "side"]
def b_Flow_leave : LS :=
  (sFor (iSeq (eTup (eCons (eC (.int 0)) (eCons (eC (.int 1)) eNil)))) (gNm 1)
  (sIf (eTest (eMeth "Flow" "is_due" G_Flow_is_due 2 (eVar 0) (eCons (eVar 1) eNil)))
  (sExpr (eMeth "Flow" "send" G_Flow_send 3 (eVar 0) (eCons (eVar 1) (eCons (eC (.int 0)) eNil))))
  sNil))
abbrev N_Flow_next_tick : List Str := ["self", "ticks", "side", "piece"]
def b_Flow_next_tick : LS :=
  (sSeq (sAsg (eLCM (iSeq (eFld cs_flight "flight" (eVar 0))) (.nm 3) eYes (eOp oIx (eVar 3) (eC (.int 0))) [3]) (gNm 1))
  (sSeq (sFor (iSeq (eTup (eCons (eC (.int 0)) (eCons (eC (.int 1)) eNil)))) (gNm 2)
  (sIf (eTest (eOp oNotN (eOp oIx (eFld cs_first "first" (eVar 0)) (eVar 2)) (eC .non)))
  (sExpr (eMt mAppend (eVar 1) (eCons (eOp oPlus (eOp oIx (eFld cs_first "first" (eVar 0)) (eVar 2)) (eFld cs_delay "delay" (eOp oIx (eFld cs_settings "settings" (eVar 0)) (eVar 2)))) eNil)))
  sNil))
  (sRet (eIf (eTest (eOp oGt (eB bLen (eCons (eVar 1) eNil)) (eC (.int 0)))) (eB bMin (eCons (eVar 1) eNil)) (eC .non)))))
abbrev N_Flow_land : List Str := ["self", "sender", "amount", "answered", "side"]
def b_Flow_land : LS :=
  (sSeq (sAsg (eOp oSub (eC (.int 1)) (eVar 1)) (gNm 4))
  (sSeq (sAsg (eB bMax2 (eCons (eOp oIx (eFld cs_known "known" (eVar 0)) (eVar 4)) (eCons (eVar 3) eNil))) (gSb (eFld cs_known "known" (eVar 0)) (eVar 4)))
  (sIf (eTest (eOp oGt (eVar 2) (eC (.int 0))))
  (sSeq (sAugS (eFld cs_come "come" (eVar 0)) (eVar 4) (eVar 2) (fun i j => i + j))
  (sSeq (sIf (eTest (eOp oEqD (eVar 2) (eFld cs_size "size" (eFld cs_line "line" (eVar 0)))))
  (sAugS (eFld cs_full "full" (eVar 0)) (eVar 4) (eC (.int 1)) (fun i j => i + j))
  sNil)
  (sIf (eTest (eOp oIsN (eOp oIx (eFld cs_first "first" (eVar 0)) (eVar 4)) (eC .non)))
  (sAsg (eFld cs_tick "tick" (eVar 0)) (gSb (eFld cs_first "first" (eVar 0)) (eVar 4)))
  sNil)))
  sNil)))
abbrev N_Flow_begin : List Str := ["self", "tick", "landing", "there", "sender", "amount", "answered", "side", "piece"]
def b_Flow_begin : LS :=
  (sSeq (sFldA cs_tick "tick" (eVar 1) (eVar 0))
  (sSeq (sAsg (eLC (iSeq (eFld cs_flight "flight" (eVar 0))) (.nm 8) (eTest (eOp oLe (eOp oIx (eVar 8) (eC (.int 0))) (eVar 1))) (eVar 8) [8]) (gNm 2))
  (sSeq (sFldA cs_flight "flight" (eLCM (iSeq (eFld cs_flight "flight" (eVar 0))) (.nm 8) (eTest (eOp oGt (eOp oIx (eVar 8) (eC (.int 0))) (eVar 1))) (eVar 8) [8]) (eVar 0))
  (sSeq (sFor (iSeq (eVar 2)) (gTp 4 (gCs (gNm 3) (gCs (gNm 4) (gCs (gNm 5) (gCs (gNm 6) gNl)))))
  (sExpr (eMeth "Flow" "land" G_Flow_land 4 (eVar 0) (eCons (eVar 4) (eCons (eVar 5) (eCons (eVar 6) eNil))))))
  (sFor (iSeq (eTup (eCons (eC (.int 0)) (eCons (eC (.int 1)) eNil)))) (gNm 7)
  (sExpr (eMeth "Flow" "let_go" G_Flow_let_go 2 (eVar 0) (eCons (eVar 7) eNil))))))))
abbrev N_pass_ticks : List Str := ["flow", "ticks", "goal", "after"]
def b_pass_ticks : LS :=
  (sSeq (sAsg (eOp oPlus (eFld cs_tick "tick" (eVar 0)) (eVar 1)) (gNm 2))
  (sSeq (sExpr (eMeth "Flow" "leave" G_Flow_leave 1 (eVar 0) eNil))
  (sSeq (sAsg (eMeth "Flow" "next_tick" G_Flow_next_tick 1 (eVar 0) eNil) (gNm 3))
  (sSeq (sWhile (eAnd (eTest (eOp oNotN (eVar 3) (eC .non))) (eTest (eOp oLt (eVar 3) (eVar 2))))
  (sSeq (sExpr (eMeth "Flow" "begin" G_Flow_begin 2 (eVar 0) (eCons (eVar 3) eNil)))
  (sSeq (sExpr (eMeth "Flow" "leave" G_Flow_leave 1 (eVar 0) eNil))
  (sAsg (eMeth "Flow" "next_tick" G_Flow_next_tick 1 (eVar 0) eNil) (gNm 3)))))
  (sExpr (eMeth "Flow" "begin" G_Flow_begin 2 (eVar 0) (eCons (eVar 2) eNil)))))))
abbrev N_flow_behind : List Str := ["flow", "deed", "found"]
def b_flow_behind : LS :=
  (sSeq (sAsg (eMeth "Flow" "copied" G_Flow_copied 1 (eVar 0) eNil) (gNm 2))
  (sSeq (sIf (eTest (eOp oEqD (eOp oIx (eVar 1) (eC (.int 0))) (eC (.str "write"))))
  (sExpr (eMeth "Flow" "put" G_Flow_put 3 (eVar 2) (eCons (eOp oIx (eVar 1) (eC (.int 1))) (eCons (eOp oIx (eVar 1) (eC (.int 2))) eNil))))
  (sIf (eTest (eOp oEqD (eOp oIx (eVar 1) (eC (.int 0))) (eC (.str "read"))))
  (sAugS (eFld cs_taken "taken" (eVar 2)) (eOp oIx (eVar 1) (eC (.int 1))) (eOp oIx (eVar 1) (eC (.int 2))) (fun i j => i + j))
  (sExpr (eCall G_pass_ticks 2 (eCons (eVar 2) (eCons (eOp oIx (eVar 1) (eC (.int 1))) eNil))))))
  (sRet (eVar 2))))
abbrev N_Session_do_deed : List Str := ["self", "deed"]
def b_Session_do_deed : LS :=
  (sSeq (sExpr (eCall G_check_deed 2 (eCons (eFld cs_flow "flow" (eVar 0)) (eCons (eVar 1) eNil))))
  (sSeq (sIf (eTest (eOp oGe (eB bLen (eCons (eFld cs_past "past" (eVar 0)) eNil)) (eC (.int 60))))
  (sRaise1 "TooMany" "limit" (eC (.int 60)))
  sNil)
  (sExpr (eMeth "Session" "show" G_Session_show 3 (eVar 0) (eCons (eCall G_flow_behind 2 (eCons (eFld cs_flow "flow" (eVar 0)) (eCons (eVar 1) eNil))) (eCons (eOp oPlus (eFld cs_past "past" (eVar 0)) (eLst (eCons (eFld cs_flow "flow" (eVar 0)) eNil))) eNil))))))
abbrev N_Session_wait : List Str := ["self", "n"]
def b_Session_wait : LS :=
  (sSeq (sExpr (eMeth "Session" "check_free" G_Session_check_free 1 (eVar 0) eNil))
  (sSeq (sExpr (eMeth "Session" "do_deed" G_Session_do_deed 2 (eVar 0) (eCons (eTup (eCons (eC (.str "wait")) (eCons (eVar 1) eNil))) eNil)))
  (sRet (eFld cs_now "now" (eVar 0)))))
abbrev N_Session_write : List Str := ["self", "side", "n"]
def b_Session_write : LS :=
  (sSeq (sExpr (eMeth "Session" "check_free" G_Session_check_free 1 (eVar 0) eNil))
  (sSeq (sExpr (eMeth "Session" "do_deed" G_Session_do_deed 2 (eVar 0) (eCons (eTup (eCons (eC (.str "write")) (eCons (eVar 1) (eCons (eVar 2) eNil)))) eNil)))
  (sRet (eOp oIx (eFld cs_holding "holding" (eVar 0)) (eVar 1)))))
abbrev N_Session_read : List Str := ["self", "side", "n"]
def b_Session_read : LS :=
  (sSeq (sExpr (eMeth "Session" "check_free" G_Session_check_free 1 (eVar 0) eNil))
  (sSeq (sExpr (eMeth "Session" "do_deed" G_Session_do_deed 2 (eVar 0) (eCons (eTup (eCons (eC (.str "read")) (eCons (eVar 1) (eCons (eVar 2) eNil)))) eNil)))
  (sRet (eOp oIx (eFld cs_unread "unread" (eVar 0)) (eVar 1)))))
abbrev N_law_call : List Str := ["_law_box", "_law_job_here"]
def b_law_call : LS :=
  (sSeq (sIf (eTest (eOp oEqD (eOp oIx (eVar 1) (eC (.int 0))) (eC (.str "wait"))))
  (sRet (eMeth "Session" "wait" G_Session_wait 2 (eVar 0) (eCons (eOp oIx (eVar 1) (eC (.int 1))) eNil)))
  sNil)
  (sRet (eIf (eTest (eOp oEqD (eOp oIx (eVar 1) (eC (.int 0))) (eC (.str "write")))) (eMeth "Session" "write" G_Session_write 3 (eVar 0) (eCons (eOp oIx (eVar 1) (eC (.int 1))) (eCons (eOp oIx (eVar 1) (eC (.int 2))) eNil))) (eMeth "Session" "read" G_Session_read 3 (eVar 0) (eCons (eOp oIx (eVar 1) (eC (.int 1))) (eCons (eOp oIx (eVar 1) (eC (.int 2))) eNil))))))
abbrev N_law_send : List Str := ["_law_world", "_law_k", "_law_many", "_law_here"]
def b_law_send : LS :=
  (sSeq (sAsg (eOp oIx (eOp oIx (eVar 0) (eC (.int 2))) (eVar 1)) (gNm 3))
  (sSeq (sAsg (eOp oSub (eOp oIx (eVar 3) (eC (.int 0))) (eVar 2)) (gSb (eVar 3) (eC (.int 0))))
  (sSeq (sAsg (eOp oPlus (eOp oIx (eVar 3) (eC (.int 1))) (eVar 2)) (gSb (eVar 3) (eC (.int 1))))
  (sSeq (sIf (eTest (eChain oLt oLt (eC (.int 0)) (eVar 2) (eOp oIx (eOp oIx (eVar 0) (eC (.int 0))) (eC (.int 0)))))
  (sAsg (eOp oIx (eVar 3) (eC (.int 1))) (gSb (eVar 3) (eC (.int 3))))
  sNil)
  (sSeq (sAsg (eC (.int 0)) (gSb (eVar 3) (eC (.int 6))))
  (sSeq (sAsg (eC .non) (gSb (eVar 3) (eC (.int 7))))
  (sSeq (sExpr (eMt mAppend (eOp oIx (eVar 0) (eC (.int 3))) (eCons (eTup (eCons (eOp oIx (eVar 0) (eC (.int 1))) (eCons (eVar 1) (eCons (eVar 2) (eCons (eOp oIx (eVar 3) (eC (.int 4))) eNil))))) eNil)))
  (sExpr (eMt mAppend (eOp oIx (eVar 0) (eC (.int 4))) (eCons (eTup (eCons (eOp oIx (eVar 0) (eC (.int 1))) (eCons (eVar 1) (eCons (eVar 2) (eCons (eOp oIx (eVar 3) (eC (.int 4))) eNil))))) eNil))))))))))
abbrev N_law_leave : List Str := ["_law_world", "_law_k", "_law_here", "_law_ways_here"]
def b_law_leave : LS :=
  (sFor (iSeq (eLst (eCons (eC (.int 0)) (eCons (eC (.int 1)) eNil)))) (gNm 1)
  (sSeq (sPar 2 3 (eCons (eOp oIx (eOp oIx (eVar 0) (eC (.int 2))) (eVar 1)) (eCons (eOp oIx (eOp oIx (eVar 0) (eC (.int 0))) (eOp oPlus (eC (.int 2)) (eVar 1))) eNil)))
  (sIf (eOr (eTest (eOp oGe (eOp oIx (eVar 2) (eC (.int 6))) (eOp oIx (eVar 3) (eC (.int 1))))) (eAnd (eTest (eOp oNotN (eOp oIx (eVar 2) (eC (.int 7))) (eC .non))) (eTest (eOp oGe (eOp oIx (eVar 0) (eC (.int 1))) (eOp oPlus (eOp oIx (eVar 2) (eC (.int 7))) (eOp oIx (eVar 3) (eC (.int 2))))))))
  (sExpr (eCall G_law_send 3 (eCons (eVar 0) (eCons (eVar 1) (eCons (eC (.int 0)) eNil)))))
  sNil)))
abbrev N_law_land : List Str := ["_law_world", "_law_born", "_law_piece", "_law_there", "_law_each"]
def b_law_land : LS :=
  (sSeq (sAsg (eOp oSub (eOp oIx (eVar 0) (eC (.int 1))) (eOp oIx (eOp oIx (eVar 0) (eC (.int 0))) (eC (.int 1)))) (gNm 1))
  (sSeq (sFor (iSeq (eLC (iSeq (eOp oIx (eVar 0) (eC (.int 3)))) (.nm 4) (eTest (eOp oLe (eOp oIx (eVar 4) (eC (.int 0))) (eVar 1))) (eVar 4) [4])) (gNm 2)
  (sSeq (sAsg (eOp oIx (eOp oIx (eVar 0) (eC (.int 2))) (eOp oSub (eC (.int 1)) (eOp oIx (eVar 2) (eC (.int 1))))) (gNm 3))
  (sSeq (sAsg (eB bMax2 (eCons (eOp oIx (eVar 3) (eC (.int 2))) (eCons (eOp oIx (eVar 2) (eC (.int 3))) eNil))) (gSb (eVar 3) (eC (.int 2))))
  (sSeq (sAsg (eOp oPlus (eOp oIx (eVar 3) (eC (.int 4))) (eOp oIx (eVar 2) (eC (.int 2)))) (gSb (eVar 3) (eC (.int 4))))
  (sSeq (sAsg (eOp oPlus (eOp oIx (eVar 3) (eC (.int 6))) (eB bInt (eCons (eOp oEqD (eOp oIx (eVar 2) (eC (.int 2))) (eOp oIx (eOp oIx (eVar 0) (eC (.int 0))) (eC (.int 0)))) eNil))) (gSb (eVar 3) (eC (.int 6))))
  (sIf (eAnd (eTest (eOp oGt (eOp oIx (eVar 2) (eC (.int 2))) (eC (.int 0)))) (eTest (eOp oIsN (eOp oIx (eVar 3) (eC (.int 7))) (eC .non))))
  (sAsg (eOp oIx (eVar 0) (eC (.int 1))) (gSb (eVar 3) (eC (.int 7))))
  sNil))))))
  (sAsg (eLCM (iSeq (eOp oIx (eVar 0) (eC (.int 3)))) (.nm 4) (eTest (eOp oGt (eOp oIx (eVar 4) (eC (.int 0))) (eVar 1))) (eVar 4) [4]) (gSb (eVar 0) (eC (.int 3))))))
abbrev N_law_free : List Str := ["_law_world", "_law_k", "_law_here", "_law_word", "_law_again", "_law_open_here"]
def b_law_free : LS :=
  (sSeq (sPar 2 3 (eCons (eOp oIx (eOp oIx (eVar 0) (eC (.int 2))) (eVar 1)) (eCons (eOp oIx (eOp oIx (eOp oIx (eVar 0) (eC (.int 0))) (eOp oPlus (eC (.int 2)) (eVar 1))) (eC (.int 0))) eNil)))
  (sSeq (sFor (iRangeN 1 (eCons (eOp oDiv (eOp oIx (eVar 2) (eC (.int 0))) (eOp oIx (eOp oIx (eVar 0) (eC (.int 0))) (eC (.int 0)))) eNil)) (gNm 4)
  (sExpr (eCall G_law_send 3 (eCons (eVar 0) (eCons (eVar 1) (eCons (eOp oIx (eOp oIx (eVar 0) (eC (.int 0))) (eC (.int 0))) eNil))))))
  (sSeq (sAsg (eOp oLt (eOp oIx (eVar 2) (eC (.int 2))) (eIf (eTest (eOp oEqD (eVar 3) (eC (.str "hold")))) (eOp oIx (eVar 2) (eC (.int 1))) (eOp oIx (eVar 2) (eC (.int 3))))) (gNm 5))
  (sIf (eAnd (eTest (eOp oGt (eOp oIx (eVar 2) (eC (.int 0))) (eC (.int 0)))) (eOr (eTest (eOp oEqD (eVar 3) (eC (.str "plain")))) (eNot (eTru (eVar 5)))))
  (sExpr (eCall G_law_send 3 (eCons (eVar 0) (eCons (eVar 1) (eCons (eOp oIx (eVar 2) (eC (.int 0))) eNil)))))
  sNil))))
abbrev N_law_waited : List Str := ["_law_world", "_law_many", "_law_again"]
def b_law_waited : LS :=
  (sFor (iRangeN 1 (eCons (eVar 1) eNil)) (gNm 2)
  (sSeq (sExpr (eCall G_law_leave 1 (eCons (eVar 0) eNil)))
  (sSeq (sAsg (eOp oPlus (eOp oIx (eVar 0) (eC (.int 1))) (eC (.int 1))) (gSb (eVar 0) (eC (.int 1))))
  (sSeq (sExpr (eCall G_law_land 1 (eCons (eVar 0) eNil)))
  (sSeq (sExpr (eCall G_law_free 2 (eCons (eVar 0) (eCons (eC (.int 0)) eNil))))
  (sExpr (eCall G_law_free 2 (eCons (eVar 0) (eCons (eC (.int 1)) eNil)))))))))
abbrev N_law_done : List Str := ["_law_world", "_law_job_here", "_law_here"]
def b_law_done : LS :=
  (sSeq (sIf (eTest (eOp oEqD (eOp oIx (eVar 1) (eC (.int 0))) (eC (.str "wait"))))
  (sSeq (sExpr (eCall G_law_waited 2 (eCons (eVar 0) (eCons (eOp oIx (eVar 1) (eC (.int 1))) eNil))))
  (sRet (eOp oIx (eVar 0) (eC (.int 1)))))
  sNil)
  (sSeq (sAsg (eOp oIx (eOp oIx (eVar 0) (eC (.int 2))) (eOp oIx (eVar 1) (eC (.int 1)))) (gNm 2))
  (sSeq (sIf (eTest (eOp oEqD (eOp oIx (eVar 1) (eC (.int 0))) (eC (.str "write"))))
  (sSeq (sAsg (eOp oPlus (eOp oIx (eVar 2) (eC (.int 0))) (eOp oIx (eVar 1) (eC (.int 2)))) (gSb (eVar 2) (eC (.int 0))))
  (sSeq (sExpr (eCall G_law_free 2 (eCons (eVar 0) (eCons (eOp oIx (eVar 1) (eC (.int 1))) eNil))))
  (sRet (eOp oIx (eVar 2) (eC (.int 0))))))
  sNil)
  (sSeq (sAsg (eOp oPlus (eOp oIx (eVar 2) (eC (.int 5))) (eOp oIx (eVar 1) (eC (.int 2)))) (gSb (eVar 2) (eC (.int 5))))
  (sRet (eOp oSub (eOp oIx (eVar 2) (eC (.int 4))) (eOp oIx (eVar 2) (eC (.int 5)))))))))
abbrev N_Session_len : List Str := ["self"]
def b_Session_len : LS :=
  (sRet (eB bLen (eCons (eFld cs_pieces "pieces" (eVar 0)) eNil)))
abbrev N_Session_repr : List Str := ["self"]
def b_Session_repr : LS :=
  (sRet (eFstr [(eC (.str "Session(tick ")), (eFmt (eFld cs_now "now" (eVar 0))), (eC (.str ", ")), (eFmt (eB bLen (eCons (eFld cs_pieces "pieces" (eVar 0)) eNil))), (eC (.str " pieces)"))]))
abbrev N_law_shown : List Str := ["_law_box", "_law_found"]
def b_law_shown : LS :=
  (sSeq (sAsg (eLst (eCons (eFld cs_now "now" (eVar 0)) (eCons (eFld cs_holding "holding" (eVar 0)) (eCons (eFld cs_unread "unread" (eVar 0)) (eCons (eFld cs_unanswered "unanswered" (eVar 0)) (eCons (eFld cs_pieces "pieces" (eVar 0)) (eCons (eFld cs_under_way "under_way" (eVar 0)) (eCons (eFld cs_busy "busy" (eVar 0)) (eCons (eB (bOwn "Session" G_Session_len pLen) (eCons (eVar 0) eNil)) eNil))))))))) (gNm 1))
  (sRet (eOp oPlus (eVar 1) (eLst (eCons (eB (bOwn "Session" G_Session_repr pRepr) (eCons (eVar 0) eNil)) (eCons (eB (bOwn "Session" G_Session_len pBool) (eCons (eVar 0) eNil)) eNil))))))
abbrev N_law_listed : List Str := ["_law_log"]
def b_law_listed : LS :=
  (sRet (eB bTuple (eCons (eSortS (eVar 0)) eNil)))
abbrev N_law_view : List Str := ["_law_world", "_law_pair", "_law_log", "_law_found", "_law_here"]
def b_law_view : LS :=
  (sSeq (sPar 1 2 (eCons (eOp oIx (eVar 0) (eC (.int 2))) (eCons (eOp oIx (eVar 0) (eC (.int 4))) eNil)))
  (sSeq (sAsg (eLst (eCons (eOp oIx (eVar 0) (eC (.int 1))) (eCons (eB bTuple (eCons (eLC (iSeq (eVar 1)) (.nm 4) eYes (eOp oIx (eVar 4) (eC (.int 0))) [4]) eNil)) (eCons (eB bTuple (eCons (eLC (iSeq (eVar 1)) (.nm 4) eYes (eOp oSub (eOp oIx (eVar 4) (eC (.int 4))) (eOp oIx (eVar 4) (eC (.int 5)))) [4]) eNil)) eNil)))) (gNm 3))
  (sSeq (sAsg (eOp oPlus (eVar 3) (eLst (eCons (eB bTuple (eCons (eLC (iSeq (eVar 1)) (.nm 4) eYes (eOp oSub (eOp oIx (eVar 4) (eC (.int 1))) (eOp oIx (eVar 4) (eC (.int 2)))) [4]) eNil)) (eCons (eCall G_law_listed 1 (eCons (eVar 2) eNil)) (eCons (eB bLen (eCons (eOp oIx (eVar 0) (eC (.int 3))) eNil)) (eCons (eC (.bl false)) (eCons (eB bLen (eCons (eVar 2) eNil)) eNil))))))) (gNm 3))
  (sRet (eOp oPlus (eVar 3) (eLst (eCons (eFstr [(eC (.str "Session(tick ")), (eFmt (eOp oIx (eVar 0) (eC (.int 1)))), (eC (.str ", ")), (eFmt (eB bLen (eCons (eVar 2) eNil))), (eC (.str " pieces)"))]) (eCons (eOp oNeD (eVar 2) (eLst eNil)) eNil))))))))
abbrev N_law_walked : List Str := ["_law_well_here", "_law_box", "_law_worlds", "_law_many", "_law_again", "_law_world", "_law_job_here"]
def b_law_walked : LS :=
  (sSeq (sFor (iRangeN 1 (eCons (eVar 3) eNil)) (gNm 4)
  (sSeq (sAsg (eCall G_law_copied 1 (eCons (eOp oIx (eVar 2) (eNeg (eC (.int 1)))) eNil)) (gNm 5))
  (sSeq (sAsg (eCall G_law_job 2 (eCons (eVar 0) (eCons (eVar 5) eNil))) (gNm 6))
  (sSeq (sIf (eOr (eTest (eOp oNeD (eB bReprD (eCons (eCall G_law_call 2 (eCons (eVar 1) (eCons (eVar 6) eNil))) eNil)) (eB bReprD (eCons (eCall G_law_done 2 (eCons (eVar 5) (eCons (eVar 6) eNil))) eNil)))) (eTest (eOp oNeD (eB bReprD (eCons (eCall G_law_shown 1 (eCons (eVar 1) eNil)) eNil)) (eB bReprD (eCons (eCall G_law_view 1 (eCons (eVar 5) eNil)) eNil)))))
  (sRet (eC (.bl false)))
  sNil)
  (sExpr (eMt mAppend (eVar 2) (eCons (eVar 5) eNil)))))))
  (sRet (eC (.bl true))))
abbrev N_law_right : List Str := ["_law_well_here", "_law_told_here", "_law_box", "_law_worlds", "_law_turn", "_law_again"]
def b_law_right : LS :=
  (sSeq (sAsg (eCall G_law_told 1 (eCons (eVar 0) eNil)) (gNm 1))
  (sSeq (sAsg (eTup (eCons (eMake "Session" G_Session_init 2 (eCons (eCall G_law_made 1 (eCons (eVar 1) eNil)) eNil)) (eCons (eLstM (eCons (eCall G_law_new 1 (eCons (eVar 1) eNil)) eNil)) eNil))) (gTp 2 (gCs (gNm 2) (gCs (gNm 3) gNl))))
  (sSeq (sIf (eTest (eOp oNeD (eB bReprD (eCons (eLam b_law_outcome N_law_outcome (eMeth "Session" "undo" G_Session_undo 1 (eVar 2) eNil)) eNil)) (eB bReprD (eCons (eLst (eCons (eC (.str "NothingToUndo")) (eCons (eC .non) eNil))) eNil))))
  (sRet (eC (.bl false)))
  sNil)
  (sSeq (sFor (iRangeN 1 (eCons (eC (.int 2)) eNil)) (gNm 4)
  (sSeq (sIf (eNot (eTest (eCall G_law_walked 4 (eCons (eVar 0) (eCons (eVar 2) (eCons (eVar 3) (eCons (eOp oPlus (eC (.int 1)) (eCall G_law_draw 2 (eCons (eVar 0) (eCons (eC (.int 10)) eNil)))) eNil)))))))
  (sRet (eC (.bl false)))
  sNil)
  (sSeq (sFor (iRangeN 1 (eCons (eOp oSub (eB bLen (eCons (eVar 3) eNil)) (eC (.int 1))) eNil)) (gNm 5)
  (sSeq (sExpr (eMt mPop (eVar 3) eNil))
  (sIf (eOr (eTest (eOp oNotN (eMeth "Session" "undo" G_Session_undo 1 (eVar 2) eNil) (eC .non))) (eTest (eOp oNeD (eB bReprD (eCons (eCall G_law_shown 1 (eCons (eVar 2) eNil)) eNil)) (eB bReprD (eCons (eCall G_law_view 1 (eCons (eOp oIx (eVar 3) (eNeg (eC (.int 1)))) eNil)) eNil)))))
  (sRet (eC (.bl false)))
  sNil)))
  (sSeq (sIf (eTest (eOp oNeD (eB bReprD (eCons (eLam b_law_outcome N_law_outcome (eMeth "Session" "undo" G_Session_undo 1 (eVar 2) eNil)) eNil)) (eB bReprD (eCons (eLst (eCons (eC (.str "NothingToUndo")) (eCons (eC .non) eNil))) eNil))))
  (sRet (eC (.bl false)))
  sNil)
  (sIf (eTest (eOp oNeD (eB bReprD (eCons (eCall G_law_shown 1 (eCons (eVar 2) eNil)) eNil)) (eB bReprD (eCons (eCall G_law_view 1 (eCons (eCall G_law_new 1 (eCons (eVar 1) eNil)) eNil)) eNil))))
  (sRet (eC (.bl false)))
  sNil)))))
  (sRet (eCall G_law_walked 4 (eCons (eVar 0) (eCons (eVar 2) (eCons (eVar 3) (eCons (eC (.int 3)) eNil))))))))))
abbrev N_law_well : List Str := ["_law_script", "_law_k", "_law_own", "_law_mixed", "_law_entry"]
def b_law_well : LS :=
  (sSeq (sAsg (eIf (eTest (eOp oLt (eVar 1) (eB bLen (eCons (eVar 0) eNil)))) (eB bInt (eCons (eOp oIx (eVar 0) (eVar 1)) eNil)) (eOp oPlus (eOp oMul (eC (.int 37)) (eVar 1)) (eC (.int 11)))) (gNm 2))
  (sSeq (sAsg (eOp oPlus (eC (.int 90017)) (eOp oMul (eC (.int 2503)) (eVar 1))) (gNm 3))
  (sSeq (sFor (iSeq (eSl (eVar 0) eNoPart (eSomePart (eC (.int 9))))) (gNm 4)
  (sAsg (eOp oMod (eB bInt (eCons (eOp oPlus (eOp oMul (eVar 3) (eC (.int 31337))) (eB bInt (eCons (eVar 4) eNil))) eNil)) (eC (.int 2147483543))) (gNm 3)))
  (sRet (eLstM (eCons (eOp oMod (eB bInt (eCons (eOp oPlus (eVar 3) (eOp oMul (eVar 2) (eC (.int 7919)))) eNil)) (eC (.int 2147483543))) (eCons (eC (.int 0)) (eCons (eIf (eOr (eTest (eOp oLt (eVar 2) (eC (.int 0)))) (eTest (eOp oGe (eVar 2) (eOp oPow (eC (.int 10)) (eC (.int 18)))))) (eB bAbs (eCons (eVar 2) eNil)) (eC (.int 0))) eNil))))))))
abbrev N_law : List Str := ["_law_script", "_law_k"]
def b_law : LS :=
  (sRet (eB bAll (eCons (eLC (iRangeN 1 (eCons (eB bMax2 (eCons (eC (.int 2)) (eCons (eB bMin2 (eCons (eB bLen (eCons (eVar 0) eNil)) (eCons (eC (.int 5)) eNil))) eNil))) eNil)) (.nm 1) eYes (eCall G_law_right 1 (eCons (eCall G_law_well 2 (eCons (eVar 0) (eCons (eVar 1) eNil))) eNil)) [1]) eNil)))
end LL.K67
end

section
set_option Elab.async false
set_option linter.all false
set_option maxRecDepth 100000
/-! K67Sim: simp rules for pairs and for how the state stands in the heap. -/
namespace LL.K67
open PySem LL
theorem b2i_cases (i : Int) (h0 : 0 ≤ i) (h1 : i < 2) : ∃ s, i = b2i s := by
  by_cases z : i = 0
  · exact ⟨false, z⟩
  · exact ⟨true, by unfold b2i; simp; omega⟩
@[simp] theorem b2i_nn (s : Bool) : 0 ≤ b2i s := by cases s <;> decide
@[simp] theorem b2i_lt (s : Bool) : b2i s < 2 := by cases s <;> decide
@[simp] theorem b2i_le (s : Bool) : b2i s ≤ 1 := by cases s <;> decide
@[simp] theorem b2i_f : b2i false = 0 := (rfl)
@[simp] theorem b2i_t : b2i true = 1 := (rfl)
@[simp] theorem one_sub_b2i (s : Bool) : 1 - b2i s = b2i (!s) := by cases s <;> rfl
@[simp] theorem b2i_nat (s : Bool) : (b2i s).toNat = cond s 1 0 := by cases s <;> rfl
@[simp] theorem b2i_inj (s t : Bool) : b2i s = b2i t ↔ s = t := by cases s <;> cases t <;> decide
section
variable {f : Bool → D} {s t : Bool} {v : D} {n : Nat} {h : LH} {R : LH → Prop}
@[simp] theorem prD_len : (prD f).length = 2 := (rfl)
@[simp] theorem prD_at : L2.atI (prD f) (b2i s) = some (f s) := by cases s <;> rfl
@[simp] theorem prD_at0 : L2.atI (prD f) 0 = some (f false) := (rfl)
@[simp] theorem prD_at1 : L2.atI (prD f) 1 = some (f true) := (rfl)
@[simp] theorem prD_ix : L2.ixN 2 (b2i s) = some (cond s 1 0) := by cases s <;> rfl
@[simp] theorem prD_ix0 : L2.ixN 2 0 = some 0 := (rfl)
@[simp] theorem prD_ix1 : L2.ixN 2 1 = some 1 := (rfl)
@[simp] theorem prD_set : (prD f).set (cond s 1 0) v = prD (upR f s v) := by cases s <;> rfl
@[simp] theorem prD_set0 : (prD f).set 0 v = prD (upR f false v) := (rfl)
@[simp] theorem prD_set1 : (prD f).set 1 v = prD (upR f true v) := (rfl)
@[simp] theorem prD_at0' : (prD f)[0]? = some (f false) := (rfl)
@[simp] theorem prD_at1' : (prD f)[1]? = some (f true) := (rfl)
@[simp] theorem prD_get0 {e : 0 < (prD f).length} : (prD f)[0]'e = f false := (rfl)
@[simp] theorem prD_get1 {e : 1 < (prD f).length} : (prD f)[1]'e = f true := (rfl)
@[simp] theorem prD_getb' : (prD f)[cond s 0 1]? = some (f (!s)) := by cases s <;> rfl
@[simp] theorem prD_set' : (prD f).set (cond s 0 1) v = prD (upR f (!s) v) := by cases s <;> rfl
@[simp] theorem prD_getb : (prD f)[cond s 1 0]? = some (f s) := by cases s <;> rfl
@[simp] theorem prD_all {p : D → Bool} : (prD f).all p = (p (f false) && p (f true)) := by simp [prD]
@[simp] theorem upR_f {α : Type} {f : Bool → α} {r : α} : upR f false r true = f true := (rfl)
@[simp] theorem upR_t {α : Type} {f : Bool → α} {r : α} : upR f true r false = f false := (rfl)
theorem upR_fn {α β : Type} {g : Bool → α} {k : α → β} {x : α} : upR (fun t => k (g t)) s (k x) = fun t => k (upR g s x t) := by
  funext t
  unfold upR
  split <;> rfl
@[simp] theorem upR_int {g : Bool → Int} {x : Int} : upR (fun t => D.int (g t)) s (.int x) = fun t => .int (upR g s x t) := upR_fn
@[simp] theorem upR_optN {g : Bool → Option Int} : upR (fun t => optD (g t)) s .non = fun t => optD (upR g s none t) := upR_fn (k := optD) (x := none)
@[simp] theorem upR_optI {g : Bool → Option Int} {x : Int} : upR (fun t => optD (g t)) s (.int x) = fun t => optD (upR g s (some x) t) := upR_fn (k := optD) (x := some x)
@[simp] theorem upR_self {α : Type} {g : Bool → α} : upR g s (g s) = g := by
  funext t
  unfold upR
  split
  · rename_i z; rw [z]
  · rfl
@[simp] theorem upR_upR {α : Type} {g : Bool → α} {x y : α} : upR (upR g s x) s y = upR g s y := by
  funext t
  unfold upR
  split <;> rfl
theorem row_kept {R : Bool → Row} {r : Row} : (upR R s r t).kept = upR (fun t => (R t).kept) s r.kept t := by unfold upR; split <;> rfl
theorem row_sent {R : Bool → Row} {r : Row} : (upR R s r t).sent = upR (fun t => (R t).sent) s r.sent t := by unfold upR; split <;> rfl
theorem row_known {R : Bool → Row} {r : Row} : (upR R s r t).known = upR (fun t => (R t).known) s r.known t := by unfold upR; split <;> rfl
theorem row_small {R : Bool → Row} {r : Row} : (upR R s r t).small = upR (fun t => (R t).small) s r.small t := by unfold upR; split <;> rfl
theorem row_come {R : Bool → Row} {r : Row} : (upR R s r t).come = upR (fun t => (R t).come) s r.come t := by unfold upR; split <;> rfl
theorem row_taken {R : Bool → Row} {r : Row} : (upR R s r t).taken = upR (fun t => (R t).taken) s r.taken t := by unfold upR; split <;> rfl
theorem row_full {R : Bool → Row} {r : Row} : (upR R s r t).full = upR (fun t => (R t).full) s r.full t := by unfold upR; split <;> rfl
theorem row_first {R : Bool → Row} {r : Row} : (upR R s r t).first = upR (fun t => (R t).first) s r.first t := by unfold upR; split <;> rfl
end
/-! addresses in a Flow -/
section
variable {n k : Nat} {s t : Bool}
@[simp] theorem sAt_self : (sAt n s = n) = False := by unfold sAt; simp; cases s <;> simp <;> omega
@[simp] theorem sAt_self' : (n = sAt n s) = False := by unfold sAt; simp; cases s <;> simp <;> omega
@[simp] theorem sAt_inj : (sAt n s = sAt n t) = (s = t) := by unfold sAt; cases s <;> cases t <;> simp
theorem sAt_lt : n + 12 < sAt n s ∧ sAt n s < n + 15 := by unfold sAt; cases s <;> simp
theorem sAt_ne (h : 14 < k) : (sAt n s = n + k) = False := by have := sAt_lt (n := n) (s := s); simp; omega
theorem sAt_ne' (h : 14 < k) : (n + k = sAt n s) = False := by have := sAt_lt (n := n) (s := s); simp; omega
@[simp] theorem sAt_n15 : (sAt n s = n + 15) = False := sAt_ne (by decide)
@[simp] theorem sAt_m15 : (n + 15 = sAt n s) = False := sAt_ne' (by decide)
@[simp] theorem sAt_n16 : (sAt n s = n + 16) = False := sAt_ne (by decide)
@[simp] theorem sAt_m16 : (n + 16 = sAt n s) = False := sAt_ne' (by decide)
@[simp] theorem sAt_n17 : (sAt n s = n + 17) = False := sAt_ne (by decide)
@[simp] theorem sAt_m17 : (n + 17 = sAt n s) = False := sAt_ne' (by decide)
@[simp] theorem sAt_n18 : (sAt n s = n + 18) = False := sAt_ne (by decide)
@[simp] theorem sAt_m18 : (n + 18 = sAt n s) = False := sAt_ne' (by decide)
@[simp] theorem sAt_n19 : (sAt n s = n + 19) = False := sAt_ne (by decide)
@[simp] theorem sAt_m19 : (n + 19 = sAt n s) = False := sAt_ne' (by decide)
@[simp] theorem sAt_n20 : (sAt n s = n + 20) = False := sAt_ne (by decide)
@[simp] theorem sAt_m20 : (n + 20 = sAt n s) = False := sAt_ne' (by decide)
@[simp] theorem sAt_n21 : (sAt n s = n + 21) = False := sAt_ne (by decide)
@[simp] theorem sAt_m21 : (n + 21 = sAt n s) = False := sAt_ne' (by decide)
@[simp] theorem sAt_n22 : (sAt n s = n + 22) = False := sAt_ne (by decide)
@[simp] theorem sAt_m22 : (n + 22 = sAt n s) = False := sAt_ne' (by decide)
@[simp] theorem sAt_n23 : (sAt n s = n + 23) = False := sAt_ne (by decide)
@[simp] theorem sAt_m23 : (n + 23 = sAt n s) = False := sAt_ne' (by decide)
@[simp] theorem sAt_n24 : (sAt n s = n + 24) = False := sAt_ne (by decide)
@[simp] theorem sAt_m24 : (n + 24 = sAt n s) = False := sAt_ne' (by decide)
end
end LL.K67
end

section
set_option Elab.async false
set_option linter.all false
set_option maxRecDepth 100000
/-! K67Val0: the well. -/
namespace LL.K67
open PySem LL
theorem V_law_draw : ∀ ds h Q E, ds.length = 2 → G_law_draw ds h Q E → b_law_draw (startD N_law_draw ds) h (bodyK Q E) := by
  rintro ds h Q E _ ⟨w, m, rfl, h0, h1, ⟨a, c, b, hw⟩, q⟩
  show b_law_draw [some (.ref w), some (.int m), none, none] h _
  refine byK fun κ kr kn ke => ?_
  unfold wellO at hw
  unfold b_law_draw
  simp [hw]
  split
  · exact ⟨⟨h0, h1⟩, kr _ _ (q _ _ _ _ ⟨_, rfl, mod_nn h0, mod_lt' h0⟩)⟩
  · exact ⟨.inr ⟨by omega, by omega⟩, h0, kr _ _ (q _ _ _ _ ⟨_, rfl, mod_nn h0, mod_lt' h0⟩)⟩
theorem V_law_one_of : ∀ ds h Q E, ds.length = 2 → G_law_one_of ds h Q E → b_law_one_of (startD N_law_one_of ds) h (bodyK Q E) := by
  rintro ds h Q E _ ⟨w, xs, rfl, h0, h1, hw, q⟩
  show b_law_one_of [some (.ref w), some (.lst xs)] h _
  refine byK fun κ kr kn ke => ?_
  unfold b_law_one_of
  simp
  refine ⟨w, _, rfl, by omega, by omega, hw, ?_⟩
  rintro r a c b ⟨i, rfl, i0, i1⟩
  simp [i0, i1]
  exact kr _ _ (q _ _ _ _ (List.getElem_mem _))
theorem wellAt_set {w : Nat} {h : LH} {a b c : Int} (hw : WellAt w h) : WellAt w (h.set w (wellO a c b)) := by
  obtain ⟨a', c', b', e⟩ := hw
  exact ⟨a, c, b, set_get e⟩
theorem wsp_of {w : Nat} {R : D → Prop} {h : LH} {Q : D → LH → Prop} {a b c : Int} (hw : WellAt w h) (q : ∀ r a c b, R r → Q r (h.set w (wellO a c b))) : wsp w R (h.set w (wellO a c b)) Q :=
  ⟨wellAt_set hw, fun r a' c' b' hr => by rw [List.set_set]; exact q _ _ _ _ hr⟩
theorem V_law_ways : ∀ ds h Q E, ds.length = 1 → G_law_ways ds h Q E → b_law_ways (startD N_law_ways ds) h (bodyK Q E) := by
  rintro ds h Q E _ ⟨w, rfl, hw, q⟩
  show b_law_ways [some (.ref w), none] h _
  refine byK fun κ kr kn ke => ?_
  unfold b_law_ways
  simp
  refine ⟨w, _, rfl, by simp, by simp, hw, ?_⟩
  intro r a c b hr
  refine ⟨w, 4, rfl, by omega, by omega, wsp_of hw ?_⟩
  rintro r1 a c b ⟨e, rfl, e0, e1⟩
  simp
  refine ⟨w, 41, rfl, by omega, by omega, wsp_of hw ?_⟩
  rintro r2 a c b ⟨d, rfl, d0, d1⟩
  refine ⟨w, _, rfl, by simp, by simp, wsp_of hw ?_⟩
  rintro r3 a c b hr3
  refine kr _ _ (q _ _ _ _ ?_)
  have hk : ∃ k, k < 3 ∧ r = .str (ruleS k) := by
    simp only [List.mem_cons, List.not_mem_nil, or_false] at hr
    rcases hr with rfl | rfl | rfl | rfl
    · exact ⟨1, by omega, rfl⟩
    · exact ⟨0, by omega, rfl⟩
    · exact ⟨2, by omega, rfl⟩
    · exact ⟨1, by omega, rfl⟩
  obtain ⟨k, hk, rfl⟩ := hk
  simp only [List.mem_cons, List.not_mem_nil, or_false] at hr3
  have hl : ∃ l, r3 = .int l ∧ 0 ≤ l ∧ l ≤ 40 := by
    rcases hr3 with rfl | rfl | rfl | rfl | rfl | rfl <;> exact ⟨_, rfl, by omega, by omega⟩
  obtain ⟨l, rfl, l0, l1⟩ := hl
  exact ⟨k, 1 + e, l, rfl, hk, by omega, by omega, l0, l1⟩
def parOf (z w : Int) (k0 k1 : Nat) (e0 e1 d0 d1 : Int) : Par := ⟨z, w, fun s => if s then k1 else k0, fun s => if s then e1 else e0, fun s => if s then d1 else d0⟩
theorem V_law_told : ∀ ds h Q E, ds.length = 1 → G_law_told ds h Q E → b_law_told (startD N_law_told ds) h (bodyK Q E) := by
  rintro ds h Q E _ ⟨w, rfl, hw, q⟩
  show b_law_told [some (.ref w), none] h _
  refine byK fun κ kr kn ke => ?_
  unfold b_law_told
  simp
  refine ⟨w, 40, rfl, by omega, by omega, hw, ?_⟩
  rintro r a c b ⟨z0, rfl, z1, z2⟩
  simp
  refine ⟨w, _, rfl, by simp, by simp, wsp_of hw ?_⟩
  intro r a c b hr
  refine ⟨w, 20, rfl, by omega, by omega, wsp_of hw ?_⟩
  rintro r1 a c b ⟨y0, rfl, y1, y2⟩
  simp
  refine ⟨w, _, rfl, by simp, by simp, wsp_of hw ?_⟩
  intro r2 a c b hr2
  refine ⟨w, rfl, wsp_of hw ?_⟩
  rintro r3 a c b ⟨k0, e0, d0, rfl, h1, h2, h3, h4, h5⟩
  refine ⟨w, rfl, wsp_of hw ?_⟩
  rintro r4 a c b ⟨k1, e1, d1, rfl, g1, g2, g3, g4, g5⟩
  refine kr _ _ (q _ _ _ _ ?_)
  simp only [List.mem_cons, List.not_mem_nil, or_false] at hr hr2
  have hl : ∃ l, r = .int l ∧ 1 ≤ l ∧ l ≤ 40 := by
    rcases hr with rfl | rfl | rfl | rfl | rfl | rfl | rfl | rfl <;> exact ⟨_, rfl, by omega, by omega⟩
  obtain ⟨z, rfl, z3, z4⟩ := hl
  have hl : ∃ l, r2 = .int l ∧ 1 ≤ l ∧ l ≤ 20 := by
    rcases hr2 with rfl | rfl | rfl | rfl | rfl <;> exact ⟨_, rfl, by omega, by omega⟩
  obtain ⟨y, rfl, y3, y4⟩ := hl
  refine ⟨parOf z y k0 k1 e0 e1 d0 d1, ⟨z3, z4, y3, by show y ≤ 200; omega, ?_, ?_, ?_, ?_, ?_⟩, rfl⟩ <;> intro s <;> cases s <;> simp [parOf] <;> omega

theorem WorldAt.set {A : WIx} {P : Par} {S : St} {h : LH} {w : Nat} {o : O} (W : WorldAt A P S h) (n : ¬ A.own w) : WorldAt A P S (h.set w o) := by
  simp only [WIx.own, not_or, not_exists] at n
  refine ⟨W.ok, ?_, fun s => ?_, ?_, ?_⟩
  · rw [List.getElem?_set_ne n.1]; exact W.w
  · rw [List.getElem?_set_ne (n.2.1 s)]; exact W.r s
  · rw [List.getElem?_set_ne n.2.2.1]; exact W.fl
  · rw [List.getElem?_set_ne n.2.2.2]; exact W.lg
theorem V_law_job : ∀ ds h Q E, ds.length = 2 → G_law_job ds h Q E → b_law_job (startD N_law_job ds) h (bodyK Q E) := by
  rintro ds h Q E _ ⟨w, A, P, S, rfl, W, hP, no, hw, q⟩
  show b_law_job [some (.ref w), some (.ref A.w), none, none, none] h _
  refine byK fun κ kr kn ke => ?_
  unfold b_law_job
  simp
  refine ⟨w, 10, rfl, by omega, by omega, hw, ?_⟩
  rintro r a c b ⟨t, rfl, t0, t1⟩
  refine ⟨w, 2, rfl, by omega, by omega, wsp_of hw ?_⟩
  rintro r a c b ⟨k, rfl, k0, k1⟩
  obtain ⟨s, rfl⟩ := b2i_cases k k0 k1
  have W1 := W.set (o := wellO a c b) no
  have e1 := W1.w
  have e2 := W1.r s
  simp [e1, e2, rowD]
  have rest : if t < 6 then
    seqA (toldD P) (List.set h w (wellO a c b)) fun ds =>
      ∃ d,
        L2.atI ds 0 = some d ∧
          oMul (D.int 3) d (List.set h w (wellO a c b)) fun x h1 =>
            bMin2 [D.int 60, x] h1 fun x h1 =>
              G_law_one_of [D.ref w, D.lst [D.int 3, D.int 6, D.int 12, x]] h1
                (fun x h1 =>
                  G_law_draw [D.ref w, x] h1
                    (fun y h2 =>
                      oPlus (D.int 1) y h2 fun x h1 => κ.rt (D.tup [D.str (Str.ofString "write"), D.int (b2i s), x]) h1)
                    fun cl fs h => κ.ex cl fs [some (D.ref w), some (D.ref A.w), some (D.int t), some (D.int (b2i s)), some (D.int ((S.row s).come - (S.row s).taken))] h)
                fun cl fs h => κ.ex cl fs [some (D.ref w), some (D.ref A.w), some (D.int t), some (D.int (b2i s)), some (D.int ((S.row s).come - (S.row s).taken))] h
  else
    G_law_one_of [D.ref w, D.lst [D.int 2, D.int 6, D.int 14, D.int 14, D.int 60]] (List.set h w (wellO a c b))
      (fun x h1 =>
        G_law_draw [D.ref w, x] h1
          (fun y h2 => oPlus (D.int 1) y h2 fun x h1 => κ.rt (D.tup [D.str (Str.ofString "wait"), x]) h1) fun cl fs h =>
          κ.ex cl fs [some (D.ref w), some (D.ref A.w), some (D.int t), some (D.int (b2i s)), some (D.int ((S.row s).come - (S.row s).taken))] h)
      fun cl fs h => κ.ex cl fs [some (D.ref w), some (D.ref A.w), some (D.int t), some (D.int (b2i s)), some (D.int ((S.row s).come - (S.row s).taken))] h := by
    have p1 := hP.s1
    have p2 := hP.s2
    split
    · simp [toldD]
      refine ⟨w, _, rfl, by simp, by simp, wsp_of hw ?_⟩
      intro r a c b hr
      simp only [List.mem_cons, List.not_mem_nil, or_false] at hr
      have : ∃ m, r = .int m ∧ 0 < m ∧ m ≤ 60 := by
        rcases hr with rfl | rfl | rfl | rfl <;> exact ⟨_, rfl, by omega, by omega⟩
      obtain ⟨m, rfl, m0, m1⟩ := this
      refine ⟨w, m, rfl, by omega, by omega, wsp_of hw ?_⟩
      rintro r a c b ⟨k, rfl, k0, k1⟩
      simp
      exact kr _ _ (q _ _ _ _ ⟨.write s (1 + k), ⟨by omega, by omega⟩, rfl⟩)
    · refine ⟨w, _, rfl, by simp, by simp, wsp_of hw ?_⟩
      intro r a c b hr
      simp only [List.mem_cons, List.not_mem_nil, or_false] at hr
      have : ∃ m, r = .int m ∧ 0 < m ∧ m ≤ 60 := by
        rcases hr with rfl | rfl | rfl | rfl | rfl <;> exact ⟨_, rfl, by omega, by omega⟩
      obtain ⟨m, rfl, m0, m1⟩ := this
      refine ⟨w, m, rfl, by omega, by omega, wsp_of hw ?_⟩
      rintro r a c b ⟨k, rfl, k0, k1⟩
      simp
      exact kr _ _ (q _ _ _ _ ⟨.wait (1 + k), ⟨by omega, by omega⟩, rfl⟩)
  split
  · split
    · refine ⟨w, _, rfl, ?_, ?_, wsp_of hw ?_⟩
      · split <;> omega
      · split <;> omega
      rintro r a c b ⟨m, rfl, m0, m1⟩
      simp
      refine kr _ _ (q _ _ _ _ ⟨.read s (1 + m), ⟨by omega, ?_, ?_⟩, rfl⟩)
      · split at m1 <;> omega
      · split at m1 <;> omega
    · exact rest
  · exact rest
theorem V_law_new : ∀ ds h Q E, ds.length = 1 → G_law_new ds h Q E → b_law_new (startD N_law_new ds) h (bodyK Q E) := by
  rintro ds h Q E _ ⟨P, rfl, q⟩
  show b_law_new [some (toldD P)] h _
  refine byK fun κ kr kn ke => ?_
  unfold b_law_new
  simp
  exact kr _ _ q
theorem V_law_well : ∀ ds h Q E, ds.length = 2 → G_law_well ds h Q E → b_law_well (startD N_law_well ds) h (bodyK Q E) := by
  rintro ds h Q E _ ⟨ns, k, rfl, hl, q⟩
  show b_law_well [some (.lst (ns.map .int)), some (.int k), none, none, none] h _
  refine byK fun κ kr kn ke => ?_
  unfold b_law_well
  simp
  have go : ∀ (o : Int) (K : LK), (∀ m z, K.nx [some (D.lst (List.map D.int ns)), some (D.int ↑k), some (D.int o), some (.int m), z] h) → forAt { items := cutD (List.map D.int ns) none (some 9), ok := fun x => True } (gNm 4)
      (sAsg (eOp oMod (eB bInt (eCons (eOp oPlus (eOp oMul (eVar 3) (eC (D.int 31337))) (eB bInt (eCons (eVar 4) eNil))) eNil)) (eC (D.int 2147483543))) (gNm 3))
      [some (D.lst (List.map D.int ns)), some (D.int ↑k), some (D.int o), some (D.int (90017 + 2503 * ↑k)), none] h K := by
    intro o K hK
    refine ⟨fun _ σ' h' => ∃ m z, σ' = [some (D.lst (List.map D.int ns)), some (D.int ↑k), some (D.int o), some (.int m), z] ∧ h' = h, ⟨_, _, rfl, rfl⟩, fun _ _ _ _ _ => trivial, ?_, ?_⟩
    · rintro i x σ' h' e ⟨m, z, rfl, rfl⟩
      have hx : x ∈ cutD (ns.map D.int) none (some 9) := List.mem_of_getElem? e
      have hx : x ∈ ns.map D.int := by
        unfold cutD at hx
        exact List.mem_of_mem_drop (List.mem_of_mem_take hx)
      obtain ⟨y, _, rfl⟩ := List.mem_map.mp hx
      simp
    · rintro σ' h' ⟨m, z, rfl, rfl⟩
      exact hK m z
  split
  · rename_i z
    simp [z]
    refine go _ _ fun m z => ?_
    simp
    (repeat' split) <;> exact kr _ _ (q _ _ _)
  · refine go _ _ fun m z => ?_
    simp
    (repeat' split) <;> exact kr _ _ (q _ _ _)
end LL.K67
end

section
set_option Elab.async false
set_option linter.all false
set_option maxRecDepth 100000
/-! K67Val1: the Flow. -/
namespace LL.K67
open PySem LL
theorem sum_len : ∀ {xs : List (Int × Int)}, (∀ x ∈ xs, 0 < x.1) → (xs.length : Int) ≤ sumA xs
  | [], _ => by simp [sumA]
  | x :: xs, h => by
    have a := sum_len (xs := xs) fun y hy => h y (List.mem_cons_of_mem _ hy)
    have b := h x List.mem_cons_self
    simp only [sumA, List.map_cons, List.sum_cons, List.length_cons] at *
    omega
theorem Stock.len {S : St} {stk : Stk} (k : Stock S stk) (s : Bool) : ((stk s).length : Int) ≤ (S.row s).kept := by
  rw [← k.sum s]; exact sum_len (k.pos s)
@[simp] theorem fm_stD (xs : List (Int × Int)) : ((xs.map stD).filterMap fun d => match d with | .tup [a, b] => some a | _ => none) = (xs.map (·.1)).map D.int := by
  induction xs with
  | nil => rfl
  | cons x xs ih => simp [stD, ih]
theorem V_Flow_kept : ∀ ds h Q E, ds.length = 2 → G_Flow_kept ds h Q E → b_Flow_kept (startD N_Flow_kept ds) h (bodyK Q E) := by
  rintro ds h Q E _ ⟨d, P, S, s, rfl, hF, hk, q⟩
  show b_Flow_kept [some d, some (.int (b2i s)), none, none] h _
  refine byK fun κ kr kn ke => ?_
  unfold b_Flow_kept
  have key : ∀ (stk : Stk), Stock S stk → ∀ J : LIt, J.items = (stk s).map stD → J.ok h → compAt J (.tp [2, 3]) eYes (eVar 2) [2, 3] [some d, some (.int (b2i s)), none, none] h (fun acc h1 => bSum [.lst acc] h1 κ.rt) := by
    intro stk K J hJ ok
    refine comp_pure (fun d => match d with | .tup [a, b] => some a | _ => none) ok ?_ ?_ ?_
    · rw [hJ, List.length_map]
      have := K.len s
      unfold sizeLine; omega
    · rw [hJ]
      intro x hx R hR
      obtain ⟨y, hy, rfl⟩ := List.mem_map.mp hx
      simp [stD] at hR ⊢
      exact hR
    · rw [hJ]
      have := K.sum s
      unfold sumA at this
      simp only [fm_stD, bSum_lst]
      exact ⟨_, rfl, by rw [this]; exact kr _ _ q⟩
  rcases hF with ⟨n, rfl, fl, stk, lng, F, K⟩ | ⟨stk, lng, rfl, K⟩
  · have e0 := F.self
    have e1 := F.st s
    have k := key stk K ⟨(stk s).map stD, fun h' => h'[sAt n s]? = some (.lst ((stk s).map stD))⟩ rfl e1
    simp [e0, e1, flowFs]
    exact k
  · have k := key stk K ⟨(stk s).map stD, fun _ => True⟩ rfl trivial
    simp [flowD, flowNs, flowDs]
    exact k
theorem V_Flow_fresh : ∀ ds h Q E, ds.length = 2 → G_Flow_fresh ds h Q E → b_Flow_fresh (startD N_Flow_fresh ds) h (bodyK Q E) := by
  rintro ds h Q E _ ⟨d, P, S, s, rfl, hF, q⟩
  show b_Flow_fresh [some d, some (.int (b2i s))] h _
  refine byK fun κ kr kn ke => ?_
  unfold b_Flow_fresh
  rcases hF with ⟨n, rfl, fl, stk, lng, F, K⟩ | ⟨stk, lng, rfl, K⟩
  · have e0 := F.self
    have e1 := F.come
    have e2 := F.taken
    simp [e0, e1, e2, flowFs]
    exact kr _ _ q
  · simp [flowD, flowNs, flowDs]
    exact kr _ _ q
end LL.K67
end

section
set_option Elab.async false
set_option linter.all false
set_option maxRecDepth 100000
/-! K67Val2: the Flow, made and copied. -/
namespace LL.K67
open PySem LL
theorem V_Flow_init : ∀ ds h Q E, ds.length = 2 → G_Flow_init ds h Q E → b_Flow_init (startD N_Flow_init ds) h (bodyK Q E) := by
  rintro ds h Q E _ ⟨pre, P, rfl, rfl, q⟩
  show b_Flow_init [some (.ref pre.length), some (lineD P)] _ _
  refine byK fun κ kr kn ke => ?_
  unfold b_Flow_init
  simp [-Bool.forall_bool, -Bool.exists_bool, lineD, lineNs, lineDs]
  exact kn _ _ q
theorem V_Flow_copied : ∀ ds h Q E, ds.length = 1 → G_Flow_copied ds h Q E → b_Flow_copied (startD N_Flow_copied ds) h (bodyK Q E) := by
  rintro ds h Q E _ ⟨P, S, stk, lng, rfl, K, q⟩
  show b_Flow_copied [some (flowD P S stk lng), none] _ _
  refine byK fun κ kr kn ke => ?_
  unfold b_Flow_copied
  simp [-Bool.forall_bool, -Bool.exists_bool, flowD, flowNs, flowDs]
  refine ⟨h, P, rfl, rfl, ?_⟩
  simp [-Bool.forall_bool, -Bool.exists_bool, newF, flowFs]
  refine kr _ _ (q _ ⟨h.length + 23, stk, lng, ⟨?_, fun s => ?_, ?_, ?_, ?_, ?_, ?_, ?_, ?_, ?_, ?_, ?_, .inl rfl⟩, K⟩ ?_)
  · simp [-Bool.forall_bool, -Bool.exists_bool, flowFs, prD, sAt]
  · cases s
    · simp [-Bool.forall_bool, -Bool.exists_bool, sAt]
    · exact app_new (k := 14)
  all_goals simp [-Bool.forall_bool, -Bool.exists_bool, Bel]
theorem bel_refl (n : Nat) (h : LH) : Bel n h h := rfl
theorem bel_trans {n : Nat} {a b c : LH} (p : Bel n a b) (q : Bel n b c) : Bel n a c := Eq.trans q p
theorem bel_set {n i : Nat} {a b : LH} {o : O} (p : Bel n a b) (hi : n ≤ i) : Bel n a (b.set i o) := by
  unfold Bel at *
  rw [List.take_set_of_le hi]; exact p
theorem bel_app {n : Nat} {a b l : LH} (p : Bel n a b) (hi : n ≤ b.length) : Bel n a (b ++ l) := by
  unfold Bel at *
  rw [List.take_append_of_le_length hi]; exact p
theorem sumA_nil : sumA [] = 0 := rfl
theorem sumA_cons {x : Int × Int} {xs : List (Int × Int)} : sumA (x :: xs) = x.1 + sumA xs := by simp [-Bool.forall_bool, -Bool.exists_bool, sumA]
/-- between two rounds of take_out: k is left -/
def TO (n fl : Nat) (P : Par) (S : St) (s : Bool) (m : Int) (h : LH) (k : Nat) (σ' : LV) (h' : LH) : Prop := ∃ stk' lng' u v, σ' = [some (.ref n), some (.int (b2i s)), some (.int m), some (.int k), u, v] ∧ FlowAt n fl P S stk' lng' h' ∧ (∀ t, sumA (stk' t) = (S.row t).kept - if t = s then m - k else 0) ∧ (∀ t, ∀ x ∈ stk' t, 0 < x.1) ∧ Bel n h h'
theorem FlowAt.toLong {n fl : Nat} {P : Par} {S : St} {stk : Stk} {lng lng' : Bool → Int} {h : LH} (F : FlowAt n fl P S stk lng h) : FlowAt n fl P S stk lng' (h.set (n + 22) (.lst (two lng'))) := by
  obtain ⟨a0, a1, a2, a3, a4, a5, a6, a7, a8, a9, a10, a11, ix⟩ := F
  have i1 : n + 22 ≠ fl := by omega
  refine ⟨?_, fun s => ?_, ?_, ?_, ?_, ?_, ?_, ?_, ?_, ?_, ?_, ?_, ix⟩
  all_goals simp [-Bool.forall_bool, -Bool.exists_bool, *]
theorem FlowAt.toStk {n fl : Nat} {P : Par} {S : St} {stk : Stk} {lng : Bool → Int} {h : LH} {s : Bool} {xs : List (Int × Int)} (F : FlowAt n fl P S stk lng h) : FlowAt n fl P S (upR stk s xs) lng (h.set (sAt n s) (.lst (xs.map stD))) := by
  obtain ⟨a0, a1, a2, a3, a4, a5, a6, a7, a8, a9, a10, a11, ix⟩ := F
  have i1 : sAt n s ≠ fl := by have := sAt_lt (n := n) (s := s); omega
  refine ⟨?_, fun t => ?_, ?_, ?_, ?_, ?_, ?_, ?_, ?_, ?_, ?_, ?_, ix⟩
  rotate_left
  · by_cases z : t = s
    · subst z; simp [-Bool.forall_bool, -Bool.exists_bool, a1 t]
    · rw [upR_ne z, List.getElem?_set_ne (by intro e; rw [sAt_inj] at e; exact z e.symm)]; exact a1 t
  all_goals simp [-Bool.forall_bool, -Bool.exists_bool, *]
theorem V_Flow_take_out : ∀ ds h Q E, ds.length = 3 → G_Flow_take_out ds h Q E → b_Flow_take_out (startD N_Flow_take_out ds) h (bodyK Q E) := by
  rintro ds h Q E _ ⟨n, fl, P, S, stk, lng, s, m, rfl, F, K, m0, m1, q⟩
  show b_Flow_take_out [some (.ref n), some (.int (b2i s)), some (.int m), none, none, none] h _
  refine byK fun κ kr kn ke => ?_
  unfold b_Flow_take_out
  simp [-Bool.forall_bool, -Bool.exists_bool]
  refine whileT (TO n fl P S s m h) m.toNat ⟨stk, lng, none, none, ?_, F, fun t => ?_, K.pos, rfl⟩ ?_
  · rw [Int.toNat_of_nonneg m0]
  · rw [Int.toNat_of_nonneg m0, K.sum t]; split <;> omega
  rintro k σ' h' ⟨stk', lng', u, v, rfl, F', hs, hp, hb⟩
  refine ⟨decide (0 < k), fun Qb E hq => by simpa [-Bool.forall_bool, -Bool.exists_bool] using hq, fun kp => ?_, fun kp => ?_⟩
  · have kp := of_decide_eq_true kp
    have e0 := F'.self
    have e1 := F'.st s
    have e2 := F'.long
    have ss := hs s
    simp [-Bool.forall_bool, -Bool.exists_bool] at ss
    obtain ⟨x, xs, hx⟩ : ∃ x xs, stk' s = x :: xs := by
      cases z : stk' s with
      | nil => rw [z, sumA_nil] at ss; omega
      | cons x xs => exact ⟨x, xs, rfl⟩
    have px := hp s x (by rw [hx]; exact List.mem_cons_self)
    rw [hx, List.map_cons] at e1
    rw [hx, sumA_cons] at ss
    have hpx : ∀ y ∈ xs, 0 < y.1 := fun y hy => hp s y (by rw [hx]; exact List.mem_cons_of_mem _ hy)
    have so : ∀ ys t, sumA (upR stk' s ys t) = if t = s then sumA ys else sumA (stk' t) := by
      intro ys t
      by_cases z : t = s
      · subst z; simp [-Bool.forall_bool, -Bool.exists_bool]
      · rw [upR_ne z, if_neg z]
    simp (maxDischargeDepth := 6) [-Bool.forall_bool, -Bool.exists_bool, e0, e1, e2, flowFs, stD]
    split
    · rename_i z
      refine ⟨0, kp, upR stk' s ((x.1 - k, x.2) :: xs), upR lng' s (if lng' s < S.tick - x.2 then S.tick - x.2 else lng' s), some (.int x.1), some (.int x.2), by rw [Int.sub_self]; rfl, ?_, fun t => ?_, fun t y hy => ?_, ?_⟩
      · exact F'.toLong.toStk
      · rw [so, sumA_cons, hs t]
        split
        · rename_i zt
          subst zt
          simp [-Bool.forall_bool, -Bool.exists_bool]; omega
        · rfl
      · by_cases zt : t = s
        · subst zt
          rw [upR_same] at hy
          rcases List.mem_cons.mp hy with rfl | hy
          · show 0 < x.1 - k; omega
          · exact hpx y hy
        · rw [upR_ne zt] at hy; exact hp t y hy
      · exact bel_set (bel_set hb (by omega)) (by have := sAt_lt (n := n) (s := s); omega)
    · rename_i z
      refine ⟨0, by simp [-Bool.forall_bool, -Bool.exists_bool, seqIndex?], (k - x.1).toNat, by omega, upR stk' s xs, upR lng' s (if lng' s < S.tick - x.2 then S.tick - x.2 else lng' s), some (.int x.1), some (.int x.2), ?_, F'.toLong.toStk, fun t => ?_, fun t y hy => ?_, ?_⟩
      · rw [Int.toNat_of_nonneg (by omega)]
      · rw [so, hs t]
        split
        · rename_i zt
          subst zt
          simp [-Bool.forall_bool, -Bool.exists_bool]; omega
        · rfl
      · by_cases zt : t = s
        · subst zt
          rw [upR_same] at hy
          exact hpx y hy
        · rw [upR_ne zt] at hy; exact hp t y hy
      · exact bel_set (bel_set hb (by omega)) (by have := sAt_lt (n := n) (s := s); omega)
  · have kp := of_decide_eq_false kp
    simp [-Bool.forall_bool, -Bool.exists_bool] at kp
    subst kp
    refine kn _ _ (q stk' lng' h' F' ?_ hp hb)
    intro t
    rw [hs t]; simp [-Bool.forall_bool, -Bool.exists_bool]
end LL.K67
end

section
set_option Elab.async false
set_option linter.all false
set_option maxRecDepth 100000
/-! K67Val3: the Flow, pieces are sent. -/
namespace LL.K67
open PySem LL
theorem V_Flow_send : ∀ ds h Q E, ds.length = 3 → G_Flow_send ds h Q E → b_Flow_send (startD N_Flow_send ds) h (bodyK Q E) := by
  rintro ds h Q E _ ⟨n, P, S, s, m, rfl, hP, m0, m1, l1, l2, ⟨fl, stk, lng, F, K⟩, q⟩
  show b_Flow_send [some (.ref n), some (.int (b2i s)), some (.int m)] h _
  refine byK fun κ kr kn ke => ?_
  unfold b_Flow_send
  have e0 := F.self
  simp (maxDischargeDepth := 6) [-Bool.forall_bool, -Bool.exists_bool, e0, flowFs]
  refine ⟨n, fl, P, S, stk, lng, s, m, rfl, F, K, m0, m1, fun stk' lng' h' F hs hp hb => ?_⟩
  obtain ⟨a0, a1, a2, a3, a4, a5, a6, a7, a8, a9, a10, a11, ix⟩ := F
  have i0 : fl ≠ n := by omega
  have i1 : fl ≠ n + 15 := by omega
  have i2 : fl ≠ n + 16 := by omega
  have i3 : fl ≠ n + 17 := by omega
  have i4 : fl ≠ n + 18 := by omega
  have i5 : fl ≠ n + 19 := by omega
  have i6 : fl ≠ n + 20 := by omega
  have i7 : fl ≠ n + 21 := by omega
  have i8 : fl ≠ n + 22 := by omega
  have i9 : fl ≠ n + 24 := by omega
  have i10 : ∀ s, fl ≠ sAt n s := fun s => by have := sAt_lt (n := n) (s := s); omega
  have l1 : S.flight.length < 16777216 := by omega
  have l2 : S.log.length < 16777216 := by omega
  have st : Stock (send P s m S) stk' := by
    refine ⟨fun t => ?_, hp⟩
    rw [hs t]
    by_cases z : t = s
    · subst z; simp [-Bool.forall_bool, -Bool.exists_bool, send, sendR]
    · simp [-Bool.forall_bool, -Bool.exists_bool, send, upR_ne z, z]
  simp (maxDischargeDepth := 6) [-Bool.forall_bool, -Bool.exists_bool, a0, a1, a2, a3, a4, a5, a6, a7, a8, a9, a10, a11, flowFs, lineD, lineNs, lineDs, i0, i1, i2, i3, i4, i5, i6, i7, i8, i9, i10, i0.symm, i1.symm, i2.symm, i3.symm, i4.symm, i5.symm, i6.symm, i7.symm, i8.symm, i9.symm, l1, l2]
  have lt := @sAt_lt n
  by_cases z1 : 0 < m
  · by_cases z2 : m < P.size
    · rw [if_pos z1, if_pos z2]
      refine kn _ _ (q _ ⟨fl, stk', lng', ⟨?_, ?_, ?_, ?_, ?_, ?_, ?_, ?_, ?_, ?_, ?_, ?_, ix⟩, st⟩ ?_)
      all_goals first | intro t | skip
      all_goals first | (simp (maxDischargeDepth := 6) [-Bool.forall_bool, -Bool.exists_bool, a0, a1, a2, a3, a4, a5, a6, a7, a8, a9, a10, a11, i0, i1, i2, i3, i4, i5, i6, i7, i8, i9, i10, i0.symm, i1.symm, i2.symm, i3.symm, i4.symm, i5.symm, i6.symm, i7.symm, i8.symm, i9.symm, send, sendR, row_sent, row_known, row_small, row_come, row_taken, row_full, row_first, z1, z2, pcD, pcF]; done) | skip
      exact bel_set (bel_set (bel_set (bel_set (bel_set (bel_set hb (by omega)) (by omega)) (by omega)) (by omega)) (by omega)) (by omega)
    · rw [if_pos z1, if_neg z2]
      refine kn _ _ (q _ ⟨fl, stk', lng', ⟨?_, ?_, ?_, ?_, ?_, ?_, ?_, ?_, ?_, ?_, ?_, ?_, ix⟩, st⟩ ?_)
      all_goals first | intro t | skip
      all_goals first | (simp (maxDischargeDepth := 6) [-Bool.forall_bool, -Bool.exists_bool, a0, a1, a2, a3, a4, a5, a6, a7, a8, a9, a10, a11, i0, i1, i2, i3, i4, i5, i6, i7, i8, i9, i10, i0.symm, i1.symm, i2.symm, i3.symm, i4.symm, i5.symm, i6.symm, i7.symm, i8.symm, i9.symm, send, sendR, row_sent, row_known, row_small, row_come, row_taken, row_full, row_first, z1, z2, pcD, pcF]; done) | skip
      exact bel_set (bel_set (bel_set (bel_set (bel_set hb (by omega)) (by omega)) (by omega)) (by omega)) (by omega)
  · by_cases z2 : True
    · rw [if_neg z1]
      refine kn _ _ (q _ ⟨fl, stk', lng', ⟨?_, ?_, ?_, ?_, ?_, ?_, ?_, ?_, ?_, ?_, ?_, ?_, ix⟩, st⟩ ?_)
      all_goals first | intro t | skip
      all_goals first | (simp (maxDischargeDepth := 6) [-Bool.forall_bool, -Bool.exists_bool, a0, a1, a2, a3, a4, a5, a6, a7, a8, a9, a10, a11, i0, i1, i2, i3, i4, i5, i6, i7, i8, i9, i10, i0.symm, i1.symm, i2.symm, i3.symm, i4.symm, i5.symm, i6.symm, i7.symm, i8.symm, i9.symm, send, sendR, row_sent, row_known, row_small, row_come, row_taken, row_full, row_first, z1, pcD, pcF]; done) | skip
      exact bel_set (bel_set (bel_set (bel_set (bel_set hb (by omega)) (by omega)) (by omega)) (by omega)) (by omega)
    · exact absurd trivial z2
end LL.K67
end

section
set_option Elab.async false
set_option linter.all false
set_option maxRecDepth 100000
/-! K67Val4: the Flow: rules, releases, answers. -/
namespace LL.K67
open PySem LL
variable {P : Par} {S : St} {s : Bool} {B L : Int}
theorem ruleS_hold {k : Nat} (h : k < 3) : (ruleS k = Str.ofString "hold") = (k = 1) := by
  have : k = 0 ∨ k = 1 ∨ k = 2 := by omega
  rcases this with rfl | rfl | rfl <;> simp [-Bool.forall_bool, -Bool.exists_bool, ruleS]
theorem ruleS_plain {k : Nat} (h : k < 3) : (ruleS k = Str.ofString "plain") = (k = 0) := by
  have : k = 0 ∨ k = 1 ∨ k = 2 := by omega
  rcases this with rfl | rfl | rfl <;> simp [-Bool.forall_bool, -Bool.exists_bool, ruleS]
theorem V_Flow_lets : ∀ ds h Q E, ds.length = 2 → G_Flow_lets ds h Q E → b_Flow_lets (startD N_Flow_lets ds) h (bodyK Q E) := by
  rintro ds h Q E _ ⟨n, P, S, s, rfl, hP, ⟨fl, stk, lng, F, K⟩, hk, q⟩
  show b_Flow_lets [some (.ref n), some (.int (b2i s)), none] h _
  refine byK fun κ kr kn ke => ?_
  unfold b_Flow_lets
  obtain ⟨a0, a1, a2, a3, a4, a5, a6, a7, a8, a9, a10, a11, ix⟩ := F
  have r := hP.r s
  simp (maxDischargeDepth := 6) [-Bool.forall_bool, -Bool.exists_bool, a0, a1, a2, a3, a4, a5, a6, a7, a8, a9, a10, a11, flowFs, lineD, lineNs, lineDs, setD, setNs, setDs, ruleS_hold r, ruleS_plain r]
  unfold letsR at q
  split
  · rename_i z
    have e : (decide (P.rule s = 0) || !decide ((S.row s).known < if P.rule s = 1 then (S.row s).sent else (S.row s).small)) = decide ((S.row s).sent = (S.row s).known) := by
      rw [z]; simp [-Bool.forall_bool, -Bool.exists_bool]
      have : ((S.row s).known < (S.row s).sent) = ¬ ((S.row s).sent = (S.row s).known) := propext ⟨fun a => by omega, fun a => by omega⟩
      simp [-Bool.forall_bool, -Bool.exists_bool, this]
    rw [e] at q
    exact kr _ _ q
  · rename_i z
    split
    · rename_i z0
      rw [z0] at q
      exact kr _ _ q
    · rename_i z0
      have e : (decide (P.rule s = 0) || !decide ((S.row s).known < if P.rule s = 1 then (S.row s).sent else (S.row s).small)) = decide ((S.row s).small ≤ (S.row s).known) := by
        simp [-Bool.forall_bool, -Bool.exists_bool, z, z0]
        by_cases y : (S.row s).small ≤ (S.row s).known
        · simp [-Bool.forall_bool, -Bool.exists_bool, y, show ¬ (S.row s).known < (S.row s).small by omega]
        · simp [-Bool.forall_bool, -Bool.exists_bool, y, show (S.row s).known < (S.row s).small by omega]
      rw [e] at q
      exact kr _ _ q
theorem V_Flow_is_due : ∀ ds h Q E, ds.length = 2 → G_Flow_is_due ds h Q E → b_Flow_is_due (startD N_Flow_is_due ds) h (bodyK Q E) := by
  rintro ds h Q E _ ⟨n, P, S, s, rfl, ⟨fl, stk, lng, F, K⟩, q⟩
  show b_Flow_is_due [some (.ref n), some (.int (b2i s)), none] h _
  refine byK fun κ kr kn ke => ?_
  unfold b_Flow_is_due
  obtain ⟨a0, a1, a2, a3, a4, a5, a6, a7, a8, a9, a10, a11, ix⟩ := F
  simp (maxDischargeDepth := 6) [-Bool.forall_bool, -Bool.exists_bool, a0, a1, a2, a3, a4, a5, a6, a7, a8, a9, a10, a11, flowFs, lineD, lineNs, lineDs, setD, setNs, setDs]
  unfold dueR at q
  split
  · rename_i z
    have e : decide ((S.row s).full ≥ P.every s) = true := by simpa [-Bool.forall_bool, -Bool.exists_bool] using z
    rw [e] at q
    exact kr _ _ q
  · rename_i z
    have e : decide ((S.row s).full ≥ P.every s) = false := by simpa [-Bool.forall_bool, -Bool.exists_bool] using z
    rw [e, Bool.false_or] at q
    cases zf : (S.row s).first with
    | none =>
      rw [zf] at q
      simp [-Bool.forall_bool, -Bool.exists_bool, optD]
      exact kr _ _ q
    | some f =>
      rw [zf] at q
      simp [-Bool.forall_bool, -Bool.exists_bool, optD]
      exact kr _ _ q
theorem sends_room (hP : P.Ok) (g : Good P B L S) {i : Nat} (hi : i ≤ ((S.row s).kept / P.size).toNat) : i * P.size ≤ (S.row s).kept := by
  have d := div_rest (g.k0 s) hP.s1
  have s1 := hP.s1
  have a : (i : Int) ≤ (((S.row s).kept / P.size).toNat : Int) := by omega
  have b : (i : Int) * P.size ≤ (((S.row s).kept / P.size).toNat : Int) * P.size := Int.mul_le_mul_of_nonneg_right a (by omega)
  omega
theorem sends_test (hP : P.Ok) (g : Good P B L S) {i : Nat} (hi : i ≤ ((S.row s).kept / P.size).toNat) : P.size ≤ ((sends P s i S).row s).kept ↔ i < ((S.row s).kept / P.size).toNat := by
  have d := div_rest (g.k0 s) hP.s1
  rw [sends_kept]
  have s1 := hP.s1
  generalize ((S.row s).kept / P.size).toNat = N at *
  constructor
  · intro h
    by_cases z : i = N
    · subst z; omega
    · omega
  · intro h
    have b : ((i + 1 : Nat) : Int) * P.size ≤ (N : Int) * P.size := Int.mul_le_mul_of_nonneg_right (by omega) (by omega)
    rw [Int.natCast_succ, Int.add_mul] at b
    omega
theorem bound_of (g : Good P B L S) (hB : B ≤ 100000) (hL : L ≤ 100000) : (∀ s, (S.row s).kept ≤ 1000000) ∧ S.flight.length < 1000000 ∧ S.log.length < 1000000 := by
  have a := g.log_lt hB hL
  have b := g.fl
  exact ⟨fun s => by have := g.kb s; have := g.s0 s; omega, by omega, by omega⟩
theorem V_Flow_let_go : ∀ ds h Q E, ds.length = 2 → G_Flow_let_go ds h Q E → b_Flow_let_go (startD N_Flow_let_go ds) h (bodyK Q E) := by
  rintro ds h Q E _ ⟨n, P, S, s, B, L, rfl, hP, g, hB, hL, hF, q⟩
  show b_Flow_let_go [some (.ref n), some (.int (b2i s)), none] h _
  refine byK fun κ kr kn ke => ?_
  unfold b_Flow_let_go
  simp [-Bool.forall_bool, -Bool.exists_bool]
  have s1 := hP.s1
  generalize hN : ((S.row s).kept / P.size).toNat = N
  refine whileT (fun m σ' h' => ∃ i : Nat, i ≤ N ∧ m = N - i ∧ σ' = [some (.ref n), some (.int (b2i s)), none] ∧ FlowOk n P (sends P s i S) h' ∧ Bel n h h') N ⟨0, by omega, rfl, rfl, hF, rfl⟩ ?_
  rintro m σ' h' ⟨i, hi, rfl, rfl, hF', hb⟩
  have rm := sends_room (s := s) hP g (i := i) (by omega)
  have g' := g.sends hP i rm
  have bd := bound_of g' hB hL
  have te := sends_test (s := s) hP g (i := i) (by omega)
  rw [hN] at te
  obtain ⟨fl, stk, lng, F, K⟩ := id hF'
  have e0 := F.self
  refine ⟨decide (i < N), fun Qb E hq => ?_, fun kp => ?_, fun kp => ?_⟩
  · simp [-Bool.forall_bool, -Bool.exists_bool, e0, flowFs]
    refine ⟨_, P, _, s, rfl, .inl ⟨n, rfl, hF'⟩, bd.1 s, ?_⟩
    simp [-Bool.forall_bool, -Bool.exists_bool, e0, flowFs, lineD, lineNs, lineDs, te]
    exact hq
  · have kp := of_decide_eq_true kp
    simp [-Bool.forall_bool, -Bool.exists_bool, e0, flowFs, lineD, lineNs, lineDs]
    refine ⟨n, P, _, s, _, rfl, hP, by omega, te.mpr kp, bd.2.1, bd.2.2, hF', fun h2 hF2 hb2 => ?_⟩
    exact ⟨N - (i + 1), by omega, i + 1, by omega, rfl, rfl, hF2, bel_trans hb hb2⟩
  · have kp := of_decide_eq_false kp
    have : i = N := by omega
    subst this
    simp [-Bool.forall_bool, -Bool.exists_bool, e0, flowFs]
    refine ⟨_, P, _, s, rfl, .inl ⟨n, rfl, hF'⟩, bd.1 s, ?_⟩
    unfold free at q
    simp only [hN] at q
    simp [-Bool.forall_bool, -Bool.exists_bool]
    split
    · rename_i k0
      simp [-Bool.forall_bool, -Bool.exists_bool, e0, flowFs]
      refine ⟨n, P, _, s, rfl, hP, hF', g'.kn s, ?_⟩
      simp [-Bool.forall_bool, -Bool.exists_bool]
      split
      · rename_i kl
        simp [-Bool.forall_bool, -Bool.exists_bool, e0, flowFs]
        refine ⟨n, P, _, s, _, rfl, hP, by omega, Int.le_refl _, bd.2.1, bd.2.2, hF', fun h2 hF2 hb2 => ?_⟩
        rw [if_pos ⟨k0, kl⟩] at q
        exact kn _ _ (q _ hF2 (bel_trans hb hb2))
      · rename_i kl
        rw [if_neg (fun z => kl z.2)] at q
        exact kn _ _ (q _ hF' hb)
    · rename_i k0
      rw [if_neg (fun z => k0 z.1)] at q
      exact kn _ _ (q _ hF' hb)
theorem V_Flow_put : ∀ ds h Q E, ds.length = 3 → G_Flow_put ds h Q E → b_Flow_put (startD N_Flow_put ds) h (bodyK Q E) := by
  rintro ds h Q E _ ⟨n, P, S, s, m, B, L, rfl, hP, g, hB, hL, hm, ⟨fl, stk, lng, F, K⟩, q⟩
  show b_Flow_put [some (.ref n), some (.int (b2i s)), some (.int m)] h _
  refine byK fun κ kr kn ke => ?_
  unfold b_Flow_put
  have a0 := F.self
  have a1 := F.st s
  have kl := K.len s
  have bd := g.kb s
  have s0 := g.s0 s
  have l1 : (stk s).length < 16777216 := by omega
  simp (maxDischargeDepth := 6) [-Bool.forall_bool, -Bool.exists_bool, a0, a1, flowFs, l1]
  refine ⟨n, P, wrote s m S, s, B + m, L, rfl, hP, g.wrote (by omega), hB, hL, ⟨fl, upR stk s (stk s ++ [(m, S.tick)]), lng, ?_, ?_⟩, fun h2 hF2 hb2 => kn _ _ (q _ hF2 (bel_trans (bel_set rfl (by have := sAt_lt (n := n) (s := s); omega)) hb2))⟩
  · have F2 := F.toStk (s := s) (xs := stk s ++ [(m, S.tick)])
    obtain ⟨a0, a1, a2, a3, a4, a5, a6, a7, a8, a9, a10, a11, ix⟩ := F2
    simp only [List.map_append, List.map_cons, List.map_nil, stD] at *
    refine ⟨a0, a1, ?_, ?_, ?_, ?_, ?_, ?_, ?_, a9, a10, a11, ix⟩
    all_goals simp [-Bool.forall_bool, -Bool.exists_bool, wrote, row_sent, row_known, row_small, row_come, row_taken, row_full, row_first, *]
  · refine ⟨fun t => ?_, fun t x hx => ?_⟩
    · by_cases z : t = s
      · subst z
        have := K.sum t
        simp [-Bool.forall_bool, -Bool.exists_bool, wrote, sumA] at *
        omega
      · rw [upR_ne z, K.sum t]; simp [-Bool.forall_bool, -Bool.exists_bool, wrote, upR_ne z]
    · by_cases z : t = s
      · subst z
        rw [upR_same] at hx
        rcases List.mem_append.mp hx with hx | hx
        · exact K.pos t x hx
        · obtain rfl := List.mem_singleton.mp hx; exact hm
      · rw [upR_ne z] at hx; exact K.pos t x hx
end LL.K67
end

section
set_option Elab.async false
set_option linter.all false
set_option maxRecDepth 100000
/-! K67Val5: the Flow: ticks. -/
namespace LL.K67
open PySem LL
variable {P : Par} {S : St} {s : Bool} {B L : Int}
theorem V_Flow_leave : ∀ ds h Q E, ds.length = 1 → G_Flow_leave ds h Q E → b_Flow_leave (startD N_Flow_leave ds) h (bodyK Q E) := by
  rintro ds h Q E _ ⟨n, P, S, B, L, rfl, hP, g, hB, hL, hF, q⟩
  show b_Flow_leave [some (.ref n), none] h _
  refine byK fun κ kr kn ke => ?_
  unfold b_Flow_leave
  -- one side
  have one : ∀ (s : Bool) (S : St) (B L : Int) (v : Option D) (h : LH) (K : LK), Good P B L S → B ≤ 100000 → L ≤ 100010 → FlowOk n P S h → (∀ h', FlowOk n P (leave1 P s S) h' → Bel n h h' → K.nx [some (.ref n), some (.int (b2i s))] h') →
      gNm 1 (.int (b2i s)) [some (.ref n), v] h (fun σ2 h2 => (sIf (eTest (eMeth "Flow" "is_due" G_Flow_is_due 2 (eVar 0) (eCons (eVar 1) eNil)))
        (sExpr (eMeth "Flow" "send" G_Flow_send 3 (eVar 0) (eCons (eVar 1) (eCons (eC (.int 0)) eNil)))) sNil) σ2 h2 K) (exOf K [some (.ref n), v]) := by
    intro s S B L v h K g hB hL hF hK
    have a := g.lg
    have b := g.fl
    have c := g.sentLe false
    have c2 := g.sentLe true
    obtain ⟨fl, stk, lng, F, Kk⟩ := id hF
    have e0 := F.self
    simp [-Bool.forall_bool, -Bool.exists_bool, e0, flowFs]
    refine ⟨n, P, S, s, rfl, hF, ?_⟩
    simp [-Bool.forall_bool, -Bool.exists_bool]
    split
    · rename_i z
      simp [-Bool.forall_bool, -Bool.exists_bool, e0, flowFs]
      refine ⟨n, P, S, s, 0, rfl, hP, Int.le_refl _, g.k0 s, by omega, by omega, hF, fun h' hF' hb => hK h' ?_ hb⟩
      unfold leave1
      rw [if_pos z]; exact hF'
    · rename_i z
      refine hK h ?_ rfl
      unfold leave1
      rw [if_neg z]; exact hF
  simp [-Bool.forall_bool, -Bool.exists_bool]
  refine forAt_two (fun _ => trivial) ?_
  refine one false S B L none h _ g hB (by omega) hF fun h1 hF1 hb1 => ?_
  refine one true _ B (L + 1) _ h1 _ g.leave1 hB (by omega) hF1 fun h2 hF2 hb2 => ?_
  exact kn _ _ (q _ hF2 (bel_trans hb1 hb2))
theorem V_Flow_land : ∀ ds h Q E, ds.length = 4 → G_Flow_land ds h Q E → b_Flow_land (startD N_Flow_land ds) h (bodyK Q E) := by
  rintro ds h Q E _ ⟨n, P, S, p, rfl, hP, hm, ⟨fl, stk, lng, F, K⟩, q⟩
  show b_Flow_land [some (.ref n), some (.int (b2i p.side)), some (.int p.amt), some (.int p.ans), none] h _
  refine byK fun κ kr kn ke => ?_
  unfold b_Flow_land
  obtain ⟨a0, a1, a2, a3, a4, a5, a6, a7, a8, a9, a10, a11, ix⟩ := F
  have i0 : fl ≠ n := by omega
  have i1 : fl ≠ n + 15 := by omega
  have i2 : fl ≠ n + 16 := by omega
  have i3 : fl ≠ n + 17 := by omega
  have i4 : fl ≠ n + 18 := by omega
  have i5 : fl ≠ n + 19 := by omega
  have i6 : fl ≠ n + 20 := by omega
  have i7 : fl ≠ n + 21 := by omega
  have i8 : fl ≠ n + 22 := by omega
  have i9 : fl ≠ n + 24 := by omega
  have st : Stock (landOne P S p) stk := by
    refine ⟨fun t => ?_, K.pos⟩
    rw [K.sum t]
    simp [-Bool.forall_bool, -Bool.exists_bool, landOne, row_kept, landR]
  have oN : ∀ o : Option Int, (optD o).isNon = decide (o = none) := by intro o; cases o <;> rfl
  have fi : ∀ k, FlowAt n fl P (landOne P S p) stk lng k → Bel n h k → κ.nx [some (.ref n), some (.int (b2i p.side)), some (.int p.amt), some (.int p.ans), some (.int (b2i (!p.side)))] k := fun k F b => kn _ _ (q _ ⟨fl, stk, lng, F, st⟩ b)
  have c1 : ∀ a b c : Int, (if a < b then b else a) = if b > a then b else a := by intro a b c; rfl
  simp (maxDischargeDepth := 6) [-Bool.forall_bool, -Bool.exists_bool, a0, a1, a2, a3, a4, a5, a6, a7, a8, a9, a10, a11, flowFs, lineD, lineNs, lineDs, i0, i1, i2, i3, i4, i5, i6, i7, i8, i9, i0.symm, i1.symm, i2.symm, i3.symm, i4.symm, i5.symm, i6.symm, i7.symm, i8.symm, i9.symm, oN]
  by_cases z1 : 0 < p.amt
  · rw [if_pos z1]
    by_cases z2 : p.amt = P.size
    · rw [if_pos z2]
      by_cases z3 : (S.row !p.side).first = none
      · rw [if_pos z3]
        refine fi _ ⟨?_, ?_, ?_, ?_, ?_, ?_, ?_, ?_, ?_, ?_, ?_, ?_, ix⟩ ?_
        all_goals first | intro t | skip
        all_goals first | (simp (maxDischargeDepth := 6) [-Bool.forall_bool, -Bool.exists_bool, a0, a1, a2, a3, a4, a5, a6, a7, a8, a9, a10, a11, i0, i1, i2, i3, i4, i5, i6, i7, i8, i9, i0.symm, i1.symm, i2.symm, i3.symm, i4.symm, i5.symm, i6.symm, i7.symm, i8.symm, i9.symm, landOne, landR, row_sent, row_known, row_small, row_come, row_taken, row_full, row_first, z1, if_pos z2, z3]; done) | skip
        exact (bel_set (bel_set (bel_set (bel_set rfl (by omega)) (by omega)) (by omega)) (by omega))
      · rw [if_neg z3]
        refine fi _ ⟨?_, ?_, ?_, ?_, ?_, ?_, ?_, ?_, ?_, ?_, ?_, ?_, ix⟩ ?_
        all_goals first | intro t | skip
        all_goals first | (simp (maxDischargeDepth := 6) [-Bool.forall_bool, -Bool.exists_bool, a0, a1, a2, a3, a4, a5, a6, a7, a8, a9, a10, a11, i0, i1, i2, i3, i4, i5, i6, i7, i8, i9, i0.symm, i1.symm, i2.symm, i3.symm, i4.symm, i5.symm, i6.symm, i7.symm, i8.symm, i9.symm, landOne, landR, row_sent, row_known, row_small, row_come, row_taken, row_full, row_first, z1, if_pos z2, z3]; done) | skip
        exact (bel_set (bel_set (bel_set rfl (by omega)) (by omega)) (by omega))
    · rw [if_neg z2]
      by_cases z3 : (S.row !p.side).first = none
      · rw [if_pos z3]
        refine fi _ ⟨?_, ?_, ?_, ?_, ?_, ?_, ?_, ?_, ?_, ?_, ?_, ?_, ix⟩ ?_
        all_goals first | intro t | skip
        all_goals first | (simp (maxDischargeDepth := 6) [-Bool.forall_bool, -Bool.exists_bool, a0, a1, a2, a3, a4, a5, a6, a7, a8, a9, a10, a11, i0, i1, i2, i3, i4, i5, i6, i7, i8, i9, i0.symm, i1.symm, i2.symm, i3.symm, i4.symm, i5.symm, i6.symm, i7.symm, i8.symm, i9.symm, landOne, landR, row_sent, row_known, row_small, row_come, row_taken, row_full, row_first, z1, z2, z3]; done) | skip
        exact (bel_set (bel_set (bel_set rfl (by omega)) (by omega)) (by omega))
      · rw [if_neg z3]
        refine fi _ ⟨?_, ?_, ?_, ?_, ?_, ?_, ?_, ?_, ?_, ?_, ?_, ?_, ix⟩ ?_
        all_goals first | intro t | skip
        all_goals first | (simp (maxDischargeDepth := 6) [-Bool.forall_bool, -Bool.exists_bool, a0, a1, a2, a3, a4, a5, a6, a7, a8, a9, a10, a11, i0, i1, i2, i3, i4, i5, i6, i7, i8, i9, i0.symm, i1.symm, i2.symm, i3.symm, i4.symm, i5.symm, i6.symm, i7.symm, i8.symm, i9.symm, landOne, landR, row_sent, row_known, row_small, row_come, row_taken, row_full, row_first, z1, z2, z3]; done) | skip
        exact (bel_set (bel_set rfl (by omega)) (by omega))
  · rw [if_neg z1]
    have z4 : p.amt = 0 := by omega
    have s1 := hP.s1
    have z5 : ¬ (0 = P.size) := by omega
    refine fi _ ⟨?_, ?_, ?_, ?_, ?_, ?_, ?_, ?_, ?_, ?_, ?_, ?_, ix⟩ ?_
    all_goals first | intro t | skip
    all_goals first | (simp (maxDischargeDepth := 6) [-Bool.forall_bool, -Bool.exists_bool, a0, a1, a2, a3, a4, a5, a6, a7, a8, a9, a10, a11, i0, i1, i2, i3, i4, i5, i6, i7, i8, i9, i0.symm, i1.symm, i2.symm, i3.symm, i4.symm, i5.symm, i6.symm, i7.symm, i8.symm, i9.symm, landOne, landR, row_sent, row_known, row_small, row_come, row_taken, row_full, row_first, z4, z5]; done) | skip
    exact (bel_set rfl (by omega))
theorem V_Flow_next_tick : ∀ ds h Q E, ds.length = 1 → G_Flow_next_tick ds h Q E → b_Flow_next_tick (startD N_Flow_next_tick ds) h (bodyK Q E) := by
  rintro ds h Q E _ ⟨n, P, S, rfl, ⟨fl, stk, lng, F, K⟩, hl, q⟩
  show b_Flow_next_tick [some (.ref n), none, none, none] h _
  refine byK fun κ kr kn ke => ?_
  unfold b_Flow_next_tick
  obtain ⟨a0, a1, a2, a3, a4, a5, a6, a7, a8, a9, a10, a11, ix⟩ := id F
  simp (maxDischargeDepth := 6) [-Bool.forall_bool, -Bool.exists_bool, a0, a1, a2, a3, a4, a5, a6, a7, a8, a9, a10, a11, flowFs, lineD, lineNs, lineDs]
  refine comp_pure (fun d => match d with | .tup (x :: _) => some x | _ => none) a10 (by simp [-Bool.forall_bool, -Bool.exists_bool]; exact lt_sizeLine (by omega)) ?_ ?_
  · intro x hx R hR
    obtain ⟨p, hp, rfl⟩ := List.mem_map.mp hx
    simp [-Bool.forall_bool, -Bool.exists_bool, pcF] at hR ⊢
    exact hR
  have fm : ∀ ps : List Pc, ((ps.map (pcF P)).filterMap fun d => match d with | .tup (x :: _) => some x | _ => none) = (ps.map fun p => p.born + P.way).map D.int := by
    intro ps
    induction ps with
    | nil => rfl
    | cons p ps ih => simp [-Bool.forall_bool, -Bool.exists_bool, pcF, ih]
  simp only [fm]
  -- one side
  have one : ∀ (s : Bool) (xs : List Int) (v : Option D) (κ : LK), xs.length < 2000000 → κ.nx [some (.ref n), some (.ref h.length), some (.int (b2i s)), none] (h ++ [.lst ((xs ++ tickF P S s).map .int)]) →
      gNm 2 (.int (b2i s)) [some (.ref n), some (.ref h.length), v, none] (h ++ [.lst (xs.map .int)]) (fun σ2 h2 => (sIf (eTest (eOp oNotN (eOp oIx (eFld cs_first "first" (eVar 0)) (eVar 2)) (eC .non)))
  (sExpr (eMt mAppend (eVar 1) (eCons (eOp oPlus (eOp oIx (eFld cs_first "first" (eVar 0)) (eVar 2)) (eFld cs_delay "delay" (eOp oIx (eFld cs_settings "settings" (eVar 0)) (eVar 2)))) eNil)))
  sNil) σ2 h2 κ) (exOf κ [some (.ref n), some (.ref h.length), v, none]) := by
    intro s xs v κ hx q
    have oN : ∀ o : Option Int, (optD o).isNon = decide (o = none) := by intro o; cases o <;> rfl
    unfold tickF at q
    cases zf : (S.row s).first with
    | none =>
      rw [zf] at q
      simp (maxDischargeDepth := 6) [-Bool.forall_bool, -Bool.exists_bool, a0, a8, flowFs, oN, zf]
      simpa [-Bool.forall_bool, -Bool.exists_bool] using q
    | some f =>
      rw [zf] at q
      have hx : xs.length < sizeLine := lt_sizeLine (by omega)
      simp (maxDischargeDepth := 6) [-Bool.forall_bool, -Bool.exists_bool, a0, a8, flowFs, oN, zf, optD, setD, setNs, setDs, hx]
      simpa [-Bool.forall_bool, -Bool.exists_bool] using q
  refine forAt_two (fun _ => trivial) ?_
  refine one false _ _ _ (by rw [List.length_map]; omega) ?_
  refine one true _ _ _ ?_ ?_
  · rw [List.length_append, List.length_map]
    have : (tickF P S false).length ≤ 1 := by unfold tickF; split <;> simp [-Bool.forall_bool, -Bool.exists_bool]
    omega
  have te : S.flight.map (fun p => p.born + P.way) ++ tickF P S false ++ tickF P S true = ticks P S := rfl
  rw [te]
  have FO : FlowOk n P S (h ++ [.lst ((ticks P S).map .int)]) := by
    refine ⟨fl, stk, lng, ⟨?_, fun s => ?_, ?_, ?_, ?_, ?_, ?_, ?_, ?_, ?_, ?_, ?_, ix⟩, K⟩
    all_goals simp [-Bool.forall_bool, -Bool.exists_bool, *]
  have hb : Bel n h (h ++ [.lst ((ticks P S).map .int)]) := bel_app rfl (by have := (List.getElem?_eq_some_iff.mp a0).1; omega)
  by_cases z : ticks P S = []
  · rw [z] at FO hb ⊢
    simp [-Bool.forall_bool, -Bool.exists_bool]
    exact kr _ _ (q _ _ FO hb (.inl ⟨rfl, z⟩))
  · have z' : 0 < (ticks P S).length := List.length_pos_iff.mpr z
    simp [-Bool.forall_bool, -Bool.exists_bool, z']
    exact ⟨_, rfl, z', fun m hm hy => kr _ _ (q _ _ FO hb (.inr ⟨m, rfl, hm, hy⟩))⟩
end LL.K67
end

section
set_option Elab.async false
set_option linter.all false
set_option maxRecDepth 100000
/-! K67Val6: the Flow: begin, waits, deeds. -/
namespace LL.K67
open PySem LL
variable {P : Par} {S : St} {s : Bool} {B L : Int}
theorem fold_fl (fl : List Pc) : ∀ (ps : List Pc) (S : St), ps.foldl (landOne P) { S with flight := fl } = { ps.foldl (landOne P) S with flight := fl }
  | [], _ => rfl
  | p :: ps, S => fold_fl fl ps (landOne P S p)
theorem FlowAt.tickTo {n fl : Nat} {stk : Stk} {lng : Bool → Int} {h : LH} (F : FlowAt n fl P S stk lng h) (t : Int) : FlowAt n fl P (at_ t S) stk lng (h.set n (.ins "Flow" (flowFs P t (sAt n) (n + 15) (n + 16) (n + 17) (n + 18) (n + 19) (n + 20) (n + 21) (n + 22) fl (n + 24)))) := by
  obtain ⟨a0, a1, a2, a3, a4, a5, a6, a7, a8, a9, a10, a11, ix⟩ := F
  have i1 : n ≠ fl := by omega
  refine ⟨?_, fun s => ?_, ?_, ?_, ?_, ?_, ?_, ?_, ?_, ?_, ?_, ?_, ix⟩
  all_goals simp [-Bool.forall_bool, -Bool.exists_bool, *, at_]
theorem FlowAt.flTo {n fl : Nat} {stk : Stk} {lng : Bool → Int} {h : LH} {ps : List Pc} (F : FlowAt n fl P S stk lng h) : FlowAt n h.length P { S with flight := ps } stk lng ((h ++ [O.lst (ps.map (pcF P))]).set n (.ins "Flow" (flowFs P S.tick (sAt n) (n + 15) (n + 16) (n + 17) (n + 18) (n + 19) (n + 20) (n + 21) (n + 22) h.length (n + 24)))) := by
  obtain ⟨a0, a1, a2, a3, a4, a5, a6, a7, a8, a9, a10, a11, ix⟩ := F
  have l0 := (List.getElem?_eq_some_iff.mp a0).1
  have l1 := (List.getElem?_eq_some_iff.mp a11).1
  have i1 : n ≠ h.length := by omega
  rw [app_setOld l0]
  refine ⟨?_, fun s => ?_, ?_, ?_, ?_, ?_, ?_, ?_, ?_, ?_, ?_, ?_, .inr l1⟩
  rotate_left 10
  · rw [List.getElem?_append_right (by simp [-Bool.forall_bool, -Bool.exists_bool])]; simp [-Bool.forall_bool, -Bool.exists_bool]
  all_goals first | exact app_old (by simp [-Bool.forall_bool, -Bool.exists_bool, a0, a1, a2, a3, a4, a5, a6, a7, a8, a9, a10, a11]) | skip
theorem V_Flow_begin : ∀ ds h Q E, ds.length = 2 → G_Flow_begin ds h Q E → b_Flow_begin (startD N_Flow_begin ds) h (bodyK Q E) := by
  rintro ds h Q E _ ⟨n, P, S, t, B, L, rfl, hP, g, hB, hL, ht, ⟨fl, stk, lng, F, K⟩, q⟩
  show b_Flow_begin [some (.ref n), some (.int t), none, none, none, none, none, none, none] h _
  refine byK fun κ kr kn ke => ?_
  unfold b_Flow_begin
  have bd := bound_of g hB hL
  have F1 := F.tickTo t
  have a0 := F.self
  simp (maxDischargeDepth := 6) [-Bool.forall_bool, -Bool.exists_bool, a0, flowFs]
  generalize hh : h.set n (.ins "Flow" _) = h1
  have e1 : h1 = h.set n (.ins "Flow" (flowFs P t (sAt n) (n + 15) (n + 16) (n + 17) (n + 18) (n + 19) (n + 20) (n + 21) (n + 22) fl (n + 24))) := hh.symm
  rw [← e1] at F1
  have b0 := F1.self
  have b10 := F1.flight
  simp (maxDischargeDepth := 6) [-Bool.forall_bool, -Bool.exists_bool, b0, b10, flowFs, at_]
  have st1 : Stock { at_ t S with flight := away P t S.flight } stk := ⟨K.sum, K.pos⟩
  refine comp_pure (fun d => match d with | .tup (.int b :: _) => if b ≤ t then some d else none | _ => none) b10 (by simp [-Bool.forall_bool, -Bool.exists_bool]; exact lt_sizeLine (by omega)) ?_ ?_
  · intro x hx R hR
    obtain ⟨p, hp, rfl⟩ := List.mem_map.mp hx
    simp [-Bool.forall_bool, -Bool.exists_bool, pcF] at hR ⊢
    split
    · rename_i z; rw [if_pos z] at hR; exact hR
    · rename_i z; rw [if_neg z] at hR; exact hR
  have fm1 : ∀ ps : List Pc, ((ps.map (pcF P)).filterMap fun d => match d with | .tup (.int b :: _) => if b ≤ t then some d else none | _ => none) = (here P t ps).map (pcF P) := by
    intro ps
    induction ps with
    | nil => rfl
    | cons p ps ih =>
      unfold here at *
      rw [List.map_cons, List.filterMap_cons, ih, List.filter_cons]
      by_cases z : p.born + P.way ≤ t
      · have z' : p.born ≤ t - P.way := by omega
        simp [-Bool.forall_bool, -Bool.exists_bool, pcF, z, z']
      · have z' : ¬ p.born ≤ t - P.way := by omega
        simp [-Bool.forall_bool, -Bool.exists_bool, pcF, z, z']
  simp only [fm1]
  simp (maxDischargeDepth := 6) [-Bool.forall_bool, -Bool.exists_bool, b0, b10, flowFs, at_]
  refine comp_pure (fun d => match d with | .tup (.int b :: _) => if t < b then some d else none | _ => none) b10 (by simp [-Bool.forall_bool, -Bool.exists_bool]; exact lt_sizeLine (by omega)) ?_ ?_
  · intro x hx R hR
    obtain ⟨p, hp, rfl⟩ := List.mem_map.mp hx
    simp [-Bool.forall_bool, -Bool.exists_bool, pcF] at hR ⊢
    split
    · rename_i z; rw [if_pos z] at hR; exact hR
    · rename_i z; rw [if_neg z] at hR; exact hR
  have fm2 : ∀ ps : List Pc, ((ps.map (pcF P)).filterMap fun d => match d with | .tup (.int b :: _) => if t < b then some d else none | _ => none) = (away P t ps).map (pcF P) := by
    intro ps
    induction ps with
    | nil => rfl
    | cons p ps ih =>
      unfold away at *
      rw [List.map_cons, List.filterMap_cons, ih, List.filter_cons]
      by_cases z : t < p.born + P.way
      · have z' : p.born > t - P.way := by omega
        simp [-Bool.forall_bool, -Bool.exists_bool, pcF, z, z']
      · have z' : ¬ p.born > t - P.way := by omega
        simp [-Bool.forall_bool, -Bool.exists_bool, pcF, z, z']
  simp only [fm2]
  have F2 := F1.flTo (ps := away P t S.flight)
  have hb2 : Bel n h ((h1 ++ [O.lst ((away P t S.flight).map (pcF P))]).set n (.ins "Flow" (flowFs P t (sAt n) (n + 15) (n + 16) (n + 17) (n + 18) (n + 19) (n + 20) (n + 21) (n + 22) h1.length (n + 24)))) := by
    refine bel_set (bel_app ?_ (by have := (List.getElem?_eq_some_iff.mp b0).1; omega)) (Nat.le_refl n)
    rw [e1]
    exact bel_set rfl (Nat.le_refl n)
  simp (maxDischargeDepth := 6) [-Bool.forall_bool, -Bool.exists_bool, b0, flowFs]
  have F3 : FlowAt n h1.length P { at_ t S with flight := away P t S.flight } stk lng ((h1 ++ [O.lst ((away P t S.flight).map (pcF P))]).set n (.ins "Flow" (flowFs P t (sAt n) (n + 15) (n + 16) (n + 17) (n + 18) (n + 19) (n + 20) (n + 21) (n + 22) h1.length (n + 24)))) := F2
  suffices loop : ∀ h3, FlowOk n P { at_ t S with flight := away P t S.flight } h3 → Bel n h h3 → forAt ⟨List.map (pcF P) (here P t S.flight), fun _ => True⟩ (gTp 4 (gCs (gNm 3) (gCs (gNm 4) (gCs (gNm 5) (gCs (gNm 6) gNl))))) (sExpr (eMeth "Flow" "land" G_Flow_land 4 (eVar 0) (eCons (eVar 4) (eCons (eVar 5) (eCons (eVar 6) eNil)))))
      [some (.ref n), some (.int t), some (.lst ((here P t S.flight).map (pcF P))), none, none, none, none, none, none] h3 { nx := seqK (sFor (iSeq (eTup (eCons (eC (.int 0)) (eCons (eC (.int 1)) eNil)))) (gNm 7) (sExpr (eMeth "Flow" "let_go" G_Flow_let_go 2 (eVar 0) (eCons (eVar 7) eNil)))) κ, rt := κ.rt, bk := κ.bk, ct := κ.ct, ex := κ.ex } from loop _ ⟨_, stk, lng, F3, st1⟩ hb2
  intro h3 FO3 hb2
  obtain ⟨I, hI⟩ : ∃ I : Nat → LV → LH → Prop, I = (fun i σ' h' => ∃ a b c d, σ' = [some (.ref n), some (.int t), some (.lst ((here P t S.flight).map (pcF P))), a, b, c, d, none, none] ∧ FlowOk n P (((here P t S.flight).take i).foldl (landOne P) { at_ t S with flight := away P t S.flight }) h' ∧ Bel n h h') := ⟨_, rfl⟩
  refine forBy I (by rw [hI]; exact ⟨_, _, _, _, rfl, FO3, hb2⟩) (fun _ _ _ _ _ => trivial) ?_ ?_
  · intro i x σ' h' hx hh
    rw [hI] at hh
    obtain ⟨a, b, c, d, rfl, FO, hb⟩ := hh
    rw [List.getElem?_map] at hx
    obtain ⟨p, hp, rfl⟩ := Option.map_eq_some_iff.mp hx
    have hpm : p ∈ S.flight := (List.mem_filter.mp (List.mem_of_getElem? hp)).1
    obtain ⟨fl', stk', lng', F', K'⟩ := id FO
    have c0 := F'.self
    simp [-Bool.forall_bool, -Bool.exists_bool, pcF, c0, flowFs]
    refine ⟨n, P, _, p, rfl, hP, g.am p hpm, FO, fun h'' FO' hb' => ?_⟩
    rw [hI]
    refine ⟨_, _, _, _, rfl, ?_, bel_trans hb hb'⟩
    rw [List.take_succ, hp, List.foldl_append]
    exact FO'
  intro σ' h' hh
  rw [hI] at hh
  obtain ⟨a, b, c, d, rfl, FO, hb⟩ := hh
  rw [show ((⟨List.map (pcF P) (here P t S.flight), fun _ => True⟩ : LIt).items).length = (here P t S.flight).length by simp [-Bool.forall_bool, -Bool.exists_bool], List.take_length, fold_fl] at FO
  have eL : ({ (here P t S.flight).foldl (landOne P) (at_ t S) with flight := away P t S.flight } : St) = land P (at_ t S) := rfl
  rw [eL] at FO
  have gl : Good P B L (land P (at_ t S)) := (g.at ht).land
  -- one side
  have one : ∀ (s : Bool) (S2 : St) (v : Option D) (h : LH) (K : LK), Good P B L S2 → FlowOk n P S2 h → (∀ h', FlowOk n P (free P s S2) h' → Bel n h h' → K.nx [some (.ref n), some (.int t), some (.lst ((here P t S.flight).map (pcF P))), a, b, c, d, some (.int (b2i s)), none] h') →
      gNm 7 (.int (b2i s)) [some (.ref n), some (.int t), some (.lst ((here P t S.flight).map (pcF P))), a, b, c, d, v, none] h (fun σ2 h2 => (sExpr (eMeth "Flow" "let_go" G_Flow_let_go 2 (eVar 0) (eCons (eVar 7) eNil))) σ2 h2 K) (exOf K [some (.ref n), some (.int t), some (.lst ((here P t S.flight).map (pcF P))), a, b, c, d, v, none]) := by
    intro s S2 v h K g hF hK
    obtain ⟨fl', stk', lng', F', K'⟩ := id hF
    have c0 := F'.self
    simp [-Bool.forall_bool, -Bool.exists_bool, c0, flowFs]
    exact ⟨n, P, S2, s, B, L, rfl, hP, g, hB, hL, hF, hK⟩
  simp [-Bool.forall_bool, -Bool.exists_bool]
  refine forAt_two (fun _ => trivial) ?_
  refine one false _ none h' _ gl FO fun h1 hF1 hb1 => ?_
  refine one true _ _ h1 _ (gl.free hP) hF1 fun h2 hF2 hb2 => ?_
  exact kn _ _ (q _ hF2 (bel_trans hb (bel_trans hb1 hb2)))
theorem V_pass_ticks : ∀ ds h Q E, ds.length = 2 → G_pass_ticks ds h Q E → b_pass_ticks (startD N_pass_ticks ds) h (bodyK Q E) := by
  rintro ds h Q E _ ⟨n, P, S, B, L, k, rfl, fin, k1, k60, hF, q⟩
  show b_pass_ticks [some (.ref n), some (.int k), none, none] h _
  refine byK fun κ kr kn ke => ?_
  unfold b_pass_ticks
  have hP := fin.p
  have hB := fin.b
  have hL := fin.l
  obtain ⟨fl, stk, lng, F, K⟩ := id hF
  have a0 := F.self
  simp [-Bool.forall_bool, -Bool.exists_bool, a0, flowFs]
  refine ⟨n, P, S, B, L, rfl, hP, fin.g, by omega, by omega, hF, fun h1 hF1 hb1 => ?_⟩
  obtain ⟨fl1, stk1, lng1, F1, K1⟩ := id hF1
  have b0 := F1.self
  simp [-Bool.forall_bool, -Bool.exists_bool, b0, flowFs]
  have bd := bound_of fin.g.leave (by omega) (by omega)
  -- behind next_tick
  refine ⟨n, P, _, rfl, hF1, bd.2.1, fun h2 d hF2 hb2 hd => ?_⟩
  simp [-Bool.forall_bool, -Bool.exists_bool]
  obtain ⟨I, hI⟩ : ∃ I : Nat → LV → LH → Prop, I = (fun m σ' h' => ∃ j d, j < k ∧ m = k - j ∧ σ' = [some (.ref n), some (.int k), some (.int (S.tick + k)), some d] ∧ FlowOk n P (leave P (waited P j S)) h' ∧ Bel n h h' ∧ ((d = .non ∧ ticks P (leave P (waited P j S)) = []) ∨ ∃ a, d = .int a ∧ a ∈ ticks P (leave P (waited P j S)) ∧ ∀ y ∈ ticks P (leave P (waited P j S)), a ≤ y)) := ⟨_, rfl⟩
  refine whileT I k (by rw [hI]; exact ⟨0, d, by omega, by omega, rfl, hF2, bel_trans hb1 hb2, hd⟩) ?_
  intro m σ' h' hh
  rw [hI] at hh
  obtain ⟨j, d, hj, rfl, rfl, hF', hb', hd'⟩ := hh
  obtain ⟨fl', stk', lng', F', K'⟩ := id hF'
  have c0 := F'.self
  have gw : ∀ i : Nat, i ≤ 60 → Good P B (L + 2 * 60) (waited P i S) := fun i hi => (fin.g.waited hP i).more (by omega)
  have ek : (S.tick + (k : Int)) = S.tick + ((k : Nat) : Int) := rfl
  -- the end: begin at the goal
  have last : (∀ y ∈ ticks P (leave P (waited P j S)), S.tick + (k : Int) ≤ y) → κ.nx [some (.ref n), some (.int k), some (.int (S.tick + k)), some d] = κ.nx [some (.ref n), some (.int k), some (.int (S.tick + k)), some d] := fun _ => rfl
  have fin2 : (∀ y ∈ ticks P (leave P (waited P j S)), S.tick + (k : Int) ≤ y) → seqK (sExpr (eMeth "Flow" "begin" G_Flow_begin 2 (eVar 0) (eCons (eVar 2) eNil))) κ [some (.ref n), some (.int k), some (.int (S.tick + k)), some d] h' := by
    intro hy
    simp [-Bool.forall_bool, -Bool.exists_bool, c0, flowFs]
    refine ⟨n, P, _, _, B, L + 2 * 60 + 2, rfl, hP, (gw j (by omega)).leave, by omega, by omega, ?_, hF', fun h2 hF2 hb2 => kn _ _ (q _ ?_ (bel_trans hb' hb2))⟩
    · rw [leave_tick, waited_tick]; omega
    · rw [jump hP fin.set rfl hj hy] at hF2
      exact hF2
  rcases hd' with ⟨rfl, ht⟩ | ⟨a, rfl, ha, hm⟩
  · refine ⟨false, fun Qb E hq => by simpa [-Bool.forall_bool, -Bool.exists_bool] using hq, fun hc => (nomatch hc), fun _ => ?_⟩
    exact fin2 (by rw [ht]; intro y hy; cases hy)
  · refine ⟨decide (a < S.tick + k), fun Qb E hq => by simpa [-Bool.forall_bool, -Bool.exists_bool] using hq, fun hc => ?_, fun hc => ?_⟩
    · have hc := of_decide_eq_true hc
      obtain ⟨j', j1, j2, rfl, j4⟩ := jump_next hP fin.set fin.lat rfl ha hm hc
      simp [-Bool.forall_bool, -Bool.exists_bool, c0, flowFs]
      refine ⟨n, P, _, _, B, L + 2 * 60 + 2, rfl, hP, (gw j (by omega)).leave, by omega, by omega, ?_, hF', fun h3 hF3 hb3 => ?_⟩
      · rw [leave_tick, waited_tick]; omega
      rw [j4] at hF3
      obtain ⟨fl3, stk3, lng3, F3, K3⟩ := id hF3
      have d0 := F3.self
      simp [-Bool.forall_bool, -Bool.exists_bool, d0, flowFs]
      refine ⟨n, P, _, B, L + 2 * 60, rfl, hP, gw j' (by omega), by omega, by omega, hF3, fun h4 hF4 hb4 => ?_⟩
      obtain ⟨fl4, stk4, lng4, F4, K4⟩ := id hF4
      have e0 := F4.self
      simp [-Bool.forall_bool, -Bool.exists_bool, e0, flowFs]
      have bd4 := bound_of (gw j' (by omega)).leave (by omega) (by omega)
      refine ⟨n, P, _, rfl, hF4, bd4.2.1, fun h5 d hF5 hb5 hd5 => ?_⟩
      rw [hI]
      exact ⟨k - j', by omega, j', d, j2, rfl, rfl, hF5, bel_trans hb' (bel_trans hb3 (bel_trans hb4 hb5)), hd5⟩
    · have hc := of_decide_eq_false hc
      exact fin2 fun y hy => by have := hm y hy; omega
end LL.K67
end

section
set_option Elab.async false
set_option linter.all false
set_option maxRecDepth 100000
/-! K67Val7: frozen flows, checks, lines. -/
namespace LL.K67
open PySem LL
variable {P : Par} {S : St} {s : Bool} {B L : Int}
theorem frzs_old {h : LH} {k : Nat} : ∀ {ds : List D}, D.bels k ds = true → Frzs h k ds ds
  | [], _ => .nil
  | d :: ds, b => by
    simp only [D.bels, Bool.and_eq_true] at b
    exact .cons (.old b.1) (frzs_old b.2)
@[simp] theorem bel_non {k : Nat} : D.bel k .non = true := by simp [-Bool.forall_bool, -Bool.exists_bool, -List.lookup_eq_none_iff, D.bel]
@[simp] theorem bel_bl {k : Nat} {b : Bool} : D.bel k (.bl b) = true := by simp [-Bool.forall_bool, -Bool.exists_bool, -List.lookup_eq_none_iff, D.bel]
@[simp] theorem bel_int {k : Nat} {b : Int} : D.bel k (.int b) = true := by simp [-Bool.forall_bool, -Bool.exists_bool, -List.lookup_eq_none_iff, D.bel]
@[simp] theorem bel_str {k : Nat} {b : Str} : D.bel k (.str b) = true := by simp [-Bool.forall_bool, -Bool.exists_bool, -List.lookup_eq_none_iff, D.bel]
@[simp] theorem bel_tup {k : Nat} {ds : List D} : D.bel k (.tup ds) = D.bels k ds := by simp [-Bool.forall_bool, -Bool.exists_bool, -List.lookup_eq_none_iff, D.bel]
@[simp] theorem bel_lst {k : Nat} {ds : List D} : D.bel k (.lst ds) = D.bels k ds := by simp [-Bool.forall_bool, -Bool.exists_bool, -List.lookup_eq_none_iff, D.bel]
@[simp] theorem bel_ob {k : Nat} {C : Str} {ns : List Str} {ds : List D} : D.bel k (.ob C ns ds) = D.bels k ds := by simp [-Bool.forall_bool, -Bool.exists_bool, -List.lookup_eq_none_iff, D.bel]
@[simp] theorem bels_nil {k : Nat} : D.bels k [] = true := by simp [-Bool.forall_bool, -Bool.exists_bool, -List.lookup_eq_none_iff, D.bels]
@[simp] theorem bels_cons {k : Nat} {d : D} {ds : List D} : D.bels k (d :: ds) = (D.bel k d && D.bels k ds) := by simp [-Bool.forall_bool, -Bool.exists_bool, -List.lookup_eq_none_iff, D.bels]
theorem bels_map {α : Type} {k : Nat} {f : α → D} (hf : ∀ a, D.bel k (f a) = true) : ∀ {xs : List α}, D.bels k (xs.map f) = true
  | [] => by simp [-Bool.forall_bool, -Bool.exists_bool, -List.lookup_eq_none_iff]
  | x :: xs => by simp [-Bool.forall_bool, -Bool.exists_bool, -List.lookup_eq_none_iff, hf x, bels_map hf (xs := xs)]
@[simp] theorem bel_opt {k : Nat} {o : Option Int} : D.bel k (optD o) = true := by cases o <;> simp [-Bool.forall_bool, -Bool.exists_bool, -List.lookup_eq_none_iff, optD]
@[simp] theorem bels_pr {k : Nat} {f : Bool → D} : D.bels k (prD f) = (D.bel k (f false) && D.bel k (f true)) := by simp [-Bool.forall_bool, -Bool.exists_bool, -List.lookup_eq_none_iff, prD]
@[simp] theorem bel_st {k : Nat} {x : Int × Int} : D.bel k (stD x) = true := by simp [-Bool.forall_bool, -Bool.exists_bool, -List.lookup_eq_none_iff, stD]
@[simp] theorem bel_pc {k : Nat} {p : Pc} : D.bel k (pcD p) = true := by simp [-Bool.forall_bool, -Bool.exists_bool, -List.lookup_eq_none_iff, pcD]
@[simp] theorem bel_pcF {k : Nat} {p : Pc} : D.bel k (pcF P p) = true := by simp [-Bool.forall_bool, -Bool.exists_bool, -List.lookup_eq_none_iff, pcF]
@[simp] theorem bel_set' {k : Nat} : D.bel k (setD P s) = true := by simp [-Bool.forall_bool, -Bool.exists_bool, -List.lookup_eq_none_iff, setD, setDs, wayD]
@[simp] theorem bel_line {k : Nat} : D.bel k (lineD P) = true := by simp [-Bool.forall_bool, -Bool.exists_bool, -List.lookup_eq_none_iff, lineD, lineDs, toldD, wayD]
theorem frz_new {h : LH} {k n : Nat} {ds : List D} (e : h[n]? = some (.lst ds)) (l : k ≤ n) (b : D.bels k ds = true) : Frz h k (.ref n) (.lst ds) := .newL l e (frzs_old b)
theorem frz_flow {n fl k : Nat} {stk : Stk} {lng : Bool → Int} {h : LH} (F : FlowAt n fl P S stk lng h) (hk : k ≤ n) : Frz h k (.ref n) (flowD P S stk lng) := by
  have ix := F.ix
  have la := @sAt_lt n
  refine .newI hk F.self (.cons (.old (by simp [-Bool.forall_bool, -Bool.exists_bool, -List.lookup_eq_none_iff])) (.cons (.old (by simp [-Bool.forall_bool, -Bool.exists_bool, -List.lookup_eq_none_iff])) (.cons (.old (by simp [-Bool.forall_bool, -Bool.exists_bool, -List.lookup_eq_none_iff])) (.cons (.lst (.cons (frz_new (F.st false) (by have := @la false; omega) (bels_map (by simp [-Bool.forall_bool, -Bool.exists_bool, -List.lookup_eq_none_iff]))) (.cons (frz_new (F.st true) (by have := @la true; omega) (bels_map (by simp [-Bool.forall_bool, -Bool.exists_bool, -List.lookup_eq_none_iff]))) .nil))) ?_))))
  refine .cons (frz_new F.out (by omega) (by simp [-Bool.forall_bool, -Bool.exists_bool, -List.lookup_eq_none_iff])) (.cons (frz_new F.known (by omega) (by simp [-Bool.forall_bool, -Bool.exists_bool, -List.lookup_eq_none_iff])) (.cons (frz_new F.small (by omega) (by simp [-Bool.forall_bool, -Bool.exists_bool, -List.lookup_eq_none_iff])) (.cons (frz_new F.come (by omega) (by simp [-Bool.forall_bool, -Bool.exists_bool, -List.lookup_eq_none_iff])) (.cons (frz_new F.taken (by omega) (by simp [-Bool.forall_bool, -Bool.exists_bool, -List.lookup_eq_none_iff])) (.cons (frz_new F.full (by omega) (by simp [-Bool.forall_bool, -Bool.exists_bool, -List.lookup_eq_none_iff])) ?_)))))
  exact .cons (frz_new F.first (by omega) (by simp [-Bool.forall_bool, -Bool.exists_bool, -List.lookup_eq_none_iff])) (.cons (frz_new F.long (by omega) (by simp [-Bool.forall_bool, -Bool.exists_bool, -List.lookup_eq_none_iff])) (.cons (frz_new F.flight (by omega) (bels_map (by simp [-Bool.forall_bool, -Bool.exists_bool, -List.lookup_eq_none_iff]))) (.cons (frz_new F.log (by omega) (bels_map (by simp [-Bool.forall_bool, -Bool.exists_bool, -List.lookup_eq_none_iff]))) .nil)))
theorem V_flow_behind : ∀ ds h Q E, ds.length = 2 → G_flow_behind ds h Q E → b_flow_behind (startD N_flow_behind ds) h (bodyK (frz0K h Q) E) := by
  rintro ds h Q E _ ⟨P, S, stk, lng, B, L, j, rfl, K, fin, hj, q⟩
  show b_flow_behind [some (flowD P S stk lng), some (jobD j), none] h _
  refine byK fun κ kr kn ke => ?_
  unfold b_flow_behind
  have hP := fin.p
  have hB := fin.b
  have hL := fin.l
  simp [-Bool.forall_bool, -Bool.exists_bool, -List.lookup_eq_none_iff, flowD, flowNs, flowDs]
  refine ⟨P, S, stk, lng, rfl, K, fun h1 hF1 hb1 => ?_⟩
  have done_ : ∀ h2 σ, σ = [some (flowD P S stk lng), some (jobD j), some (D.ref h.length)] → FlowOk h.length P (j.run P S) h2 → Bel h.length h1 h2 → seqK (sRet (eVar 2)) κ σ h2 := by
    rintro h2 σ rfl ⟨fl, stk', lng', F, K'⟩ hb2
    simp [-Bool.forall_bool, -Bool.exists_bool, -List.lookup_eq_none_iff]
    refine kr _ _ ⟨_, frz_flow F (Nat.le_refl _), ?_, q _ _ K'⟩
    have := bel_trans hb1 hb2
    unfold Bel at this
    rw [this, List.take_length]
  obtain ⟨fl, stk', lng', F, K'⟩ := id hF1
  have a0 := F.self
  have a6 := F.taken
  cases j with
  | write s m =>
    obtain ⟨m1, m2⟩ := hj
    simp [-Bool.forall_bool, -Bool.exists_bool, -List.lookup_eq_none_iff, jobD, rjobD, Job.raw, a0, flowFs]
    exact ⟨_, P, S, s, m, B, L, rfl, hP, fin.g, by omega, by omega, by omega, hF1, fun h2 hF2 hb2 => done_ h2 _ rfl hF2 hb2⟩
  | read s m =>
    simp [-Bool.forall_bool, -Bool.exists_bool, -List.lookup_eq_none_iff, jobD, rjobD, Job.raw, a0, a6, flowFs]
    refine done_ _ _ rfl ⟨fl, stk', lng', ?_, ?_⟩ (bel_set rfl (by omega))
    · obtain ⟨a0, a1, a2, a3, a4, a5, a6, a7, a8, a9, a10, a11, ix⟩ := F
      have i1 : h.length + 19 ≠ fl := by omega
      refine ⟨?_, fun s => ?_, ?_, ?_, ?_, ?_, ?_, ?_, ?_, ?_, ?_, ?_, ix⟩
      all_goals simp [-Bool.forall_bool, -Bool.exists_bool, -List.lookup_eq_none_iff, Job.run, readS, row_sent, row_known, row_small, row_come, row_taken, row_full, row_first, a0, a1, a2, a3, a4, a5, a6, a7, a8, a9, a10, a11, i1]
    · refine ⟨fun t => ?_, K'.pos⟩
      rw [K'.sum t]; simp [-Bool.forall_bool, -Bool.exists_bool, -List.lookup_eq_none_iff, Job.run, readS, row_kept]
  | wait m =>
    obtain ⟨m1, m2⟩ := hj
    simp [-Bool.forall_bool, -Bool.exists_bool, -List.lookup_eq_none_iff, jobD, rjobD, Job.raw, a0, flowFs]
    have e : (m.toNat : Int) = m := Int.toNat_of_nonneg (by omega)
    refine ⟨_, P, S, B, L, m.toNat, by rw [e], fin, by omega, by omega, hF1, fun h2 hF2 hb2 => done_ h2 _ rfl hF2 hb2⟩
theorem V_check_line : ∀ ds h Q E, ds.length = 1 → G_check_line ds h Q E → b_check_line (startD N_check_line ds) h (bodyK Q E) := by
  rintro ds h Q E _ ⟨P, rfl, q⟩
  show b_check_line [some (lineD P)] h _
  refine byK fun κ kr kn ke => ?_
  unfold b_check_line
  simp [-Bool.forall_bool, -Bool.exists_bool, -List.lookup_eq_none_iff, lineD]
  exact ⟨true, rfl, by simpa [-Bool.forall_bool, -Bool.exists_bool, -List.lookup_eq_none_iff] using kn _ _ q⟩
theorem V_check_setting : ∀ ds h Q E, ds.length = 1 → G_check_setting ds h Q E → b_check_setting (startD N_check_setting ds) h (bodyK Q E) := by
  rintro ds h Q E _ ⟨P, s, rfl, q⟩
  show b_check_setting [some (setD P s)] h _
  refine byK fun κ kr kn ke => ?_
  unfold b_check_setting
  simp [-Bool.forall_bool, -Bool.exists_bool, -List.lookup_eq_none_iff, setD]
  exact ⟨true, rfl, by simpa [-Bool.forall_bool, -Bool.exists_bool, -List.lookup_eq_none_iff] using kn _ _ q⟩
theorem V_is_integer : ∀ ds h Q E, ds.length = 1 → G_is_integer ds h Q E → b_is_integer (startD N_is_integer ds) h (bodyK Q E) := by
  rintro ds h Q E _ ⟨v, rfl, pv, q⟩
  show b_is_integer [some v] h _
  refine byK fun κ kr kn ke => ?_
  unfold b_is_integer
  have q := kr _ _ q
  cases v <;> first | (exact absurd pv Bool.false_ne_true) | skip
  all_goals simp [-Bool.forall_bool, -Bool.exists_bool, -List.lookup_eq_none_iff]
  all_goals first
    | exact ⟨false, rfl, by simpa [-Bool.forall_bool, -Bool.exists_bool, -List.lookup_eq_none_iff, isInt] using q⟩
    | exact ⟨true, rfl, by simp [-Bool.forall_bool, -Bool.exists_bool, -List.lookup_eq_none_iff]; exact ⟨true, rfl, q⟩⟩
    | exact ⟨true, rfl, by simp [-Bool.forall_bool, -Bool.exists_bool, -List.lookup_eq_none_iff]; exact ⟨false, rfl, q⟩⟩
theorem V_is_between : ∀ ds h Q E, ds.length = 3 → G_is_between ds h Q E → b_is_between (startD N_is_between ds) h (bodyK Q E) := by
  rintro ds h Q E _ ⟨v, l, u, rfl, pv, q⟩
  show b_is_between [some v, some (.int l), some (.int u)] h _
  refine byK fun κ kr kn ke => ?_
  unfold b_is_between
  simp [-Bool.forall_bool, -Bool.exists_bool, -List.lookup_eq_none_iff]
  refine ⟨v, rfl, pv, ?_⟩
  have q := kr _ _ q
  cases v <;> first
    | (exact absurd pv Bool.false_ne_true)
    | (simp [-Bool.forall_bool, -Bool.exists_bool, -List.lookup_eq_none_iff, isInt]; exact q)
    | skip
  rename_i i
  simp [-Bool.forall_bool, -Bool.exists_bool, -List.lookup_eq_none_iff, isInt]
  split
  · rename_i z
    simpa [-Bool.forall_bool, -Bool.exists_bool, -List.lookup_eq_none_iff, betw, z] using q
  · rename_i z
    simpa [-Bool.forall_bool, -Bool.exists_bool, -List.lookup_eq_none_iff, betw, z] using q
theorem V_check_number : ∀ ds h Q E, ds.length = 3 → G_check_number ds h Q E → b_check_number (startD N_check_number ds) h (bodyK Q E) := by
  rintro ds h Q E _ ⟨v, l, u, rfl, pv, q1, q2⟩
  show b_check_number [some v, some (.int l), some (.int u)] h _
  refine byK fun κ kr kn ke => ?_
  unfold b_check_number
  simp [-Bool.forall_bool, -Bool.exists_bool, -List.lookup_eq_none_iff]
  refine ⟨v, l, u, rfl, pv, ?_⟩
  cases z : betw v l u with
  | true => simp [-Bool.forall_bool, -Bool.exists_bool, -List.lookup_eq_none_iff]; exact kn _ _ (q1 z)
  | false => simp [-Bool.forall_bool, -Bool.exists_bool, -List.lookup_eq_none_iff]; exact ke _ _ _ _ (q2 z)
theorem V_check_side : ∀ ds h Q E, ds.length = 1 → G_check_side ds h Q E → b_check_side (startD N_check_side ds) h (bodyK Q E) := by
  rintro ds h Q E _ ⟨v, rfl, pv, q1, q2⟩
  show b_check_side [some v] h _
  refine byK fun κ kr kn ke => ?_
  unfold b_check_side
  simp [-Bool.forall_bool, -Bool.exists_bool, -List.lookup_eq_none_iff]
  refine ⟨v, _, _, rfl, pv, ?_⟩
  cases z : betw v 0 1 with
  | true => simp [-Bool.forall_bool, -Bool.exists_bool, -List.lookup_eq_none_iff]; exact kn _ _ (q1 z)
  | false => simp [-Bool.forall_bool, -Bool.exists_bool, -List.lookup_eq_none_iff]; exact ke _ _ _ _ (q2 z)
theorem V_Setting_init : ∀ ds h Q E, ds.length = 4 → G_Setting_init ds h Q E → b_Setting_init (startD N_Setting_init ds) h (bodyK Q E) := by
  rintro ds h Q E _ ⟨pre, P, s, hP, rfl, rfl, q⟩
  show b_Setting_init [some (.ref pre.length), some (.str (ruleS (P.rule s))), some (.int (P.every s)), some (.int (P.delay s))] _ _
  refine byK fun κ kr kn ke => ?_
  unfold b_Setting_init
  have e1 := hP.e1 s
  have e2 := hP.e2 s
  have d1 := hP.d1 s
  have d2 := hP.d2 s
  have r := hP.r s
  have hr : P.rule s = 0 ∨ P.rule s = 1 ∨ P.rule s = 2 := by omega
  have inR : inD (.str (ruleS (P.rule s))) [.str "plain", .str "hold", .str "few"] = true := by
    rcases hr with h | h | h <;> rw [h] <;> decide +kernel
  simp [-Bool.forall_bool, -Bool.exists_bool, -List.lookup_eq_none_iff]
  refine ⟨true, rfl, rfl, ?_⟩
  simp [-Bool.forall_bool, -Bool.exists_bool, -List.lookup_eq_none_iff, tup_RULES, inR, flD]
  refine ⟨_, _, _, rfl, rfl, fun _ => ?_, fun z => absurd z (by simp [-Bool.forall_bool, -Bool.exists_bool, -List.lookup_eq_none_iff, betw, e1, e2])⟩
  simp [-Bool.forall_bool, -Bool.exists_bool, -List.lookup_eq_none_iff]
  refine ⟨_, _, _, rfl, rfl, fun _ => ?_, fun z => absurd z (by simp [-Bool.forall_bool, -Bool.exists_bool, -List.lookup_eq_none_iff, betw, d1, d2])⟩
  simp [-Bool.forall_bool, -Bool.exists_bool, -List.lookup_eq_none_iff]
  exact kn _ _ q
theorem V_Line_init : ∀ ds h Q E, ds.length = 5 → G_Line_init ds h Q E → b_Line_init (startD N_Line_init ds) h (bodyK Q E) := by
  rintro ds h Q E _ ⟨pre, P, hP, rfl, rfl, q⟩
  show b_Line_init [some (.ref pre.length), some (.int P.size), some (.int P.way), some (setD P false), some (setD P true)] _ _
  refine byK fun κ kr kn ke => ?_
  unfold b_Line_init
  simp [-Bool.forall_bool, -Bool.exists_bool, -List.lookup_eq_none_iff]
  refine ⟨_, _, _, rfl, rfl, fun _ => ?_, fun z => absurd z (by simp [-Bool.forall_bool, -Bool.exists_bool, -List.lookup_eq_none_iff, betw, hP.s1, hP.s2])⟩
  simp [-Bool.forall_bool, -Bool.exists_bool, -List.lookup_eq_none_iff]
  refine ⟨_, _, _, rfl, rfl, fun _ => ?_, fun z => absurd z (by simp [-Bool.forall_bool, -Bool.exists_bool, -List.lookup_eq_none_iff, betw, hP.w1, hP.w2])⟩
  simp [-Bool.forall_bool, -Bool.exists_bool, -List.lookup_eq_none_iff]
  refine ⟨P, false, rfl, ?_⟩
  simp [-Bool.forall_bool, -Bool.exists_bool, -List.lookup_eq_none_iff]
  refine ⟨P, true, rfl, ?_⟩
  simp [-Bool.forall_bool, -Bool.exists_bool, -List.lookup_eq_none_iff, setD, setNs, setDs]
  exact kn _ _ q
theorem V_law_made : ∀ ds h Q E, ds.length = 1 → G_law_made ds h Q E → b_law_made (startD N_law_made ds) h (bodyK Q E) := by
  rintro ds h Q E _ ⟨P, hP, rfl, q⟩
  show b_law_made [some (toldD P), none, none, none, none] _ _
  refine byK fun κ kr kn ke => ?_
  unfold b_law_made
  simp [-Bool.forall_bool, -Bool.exists_bool, -List.lookup_eq_none_iff, toldD, wayD]
  refine ⟨h, P, false, hP, rfl, rfl, rfl, setD P false, .newI (C := "Setting") (fs := setNs.zip (setDs P false)) (Nat.le_refl _) (by rw [app_new0]; rfl) (frzs_old (by simp [-Bool.forall_bool, -Bool.exists_bool, -List.lookup_eq_none_iff, setNs, setDs, wayD])), by simp [-Bool.forall_bool, -Bool.exists_bool, -List.lookup_eq_none_iff], ?_⟩
  refine ⟨h, P, true, hP, rfl, rfl, rfl, setD P true, .newI (C := "Setting") (fs := setNs.zip (setDs P true)) (Nat.le_refl _) (by rw [app_new0]; rfl) (frzs_old (by simp [-Bool.forall_bool, -Bool.exists_bool, -List.lookup_eq_none_iff, setNs, setDs, wayD])), by simp [-Bool.forall_bool, -Bool.exists_bool, -List.lookup_eq_none_iff], ?_⟩
  refine ⟨h, P, hP, rfl, rfl, rfl, lineD P, .newI (C := "Line") (fs := lineNs.zip (lineDs P)) (Nat.le_refl _) (by rw [app_new0]; rfl) (frzs_old (by simp [-Bool.forall_bool, -Bool.exists_bool, -List.lookup_eq_none_iff, lineNs, lineDs, toldD, wayD])), by simp [-Bool.forall_bool, -Bool.exists_bool, -List.lookup_eq_none_iff], ?_⟩
  exact kr _ _ q
theorem betw_side {v : D} (h : betw v 0 1 = true) : v = .int (b2i (sideOf v)) := by
  cases v <;> first | (exact absurd h Bool.false_ne_true) | skip
  rename_i i
  simp only [betw, decide_eq_true_eq] at h
  have : i = 0 ∨ i = 1 := by omega
  rcases this with rfl | rfl <;> rfl
theorem betw_num {v : D} {l u : Int} (h : betw v l u = true) : v = .int (amtOf v) ∧ l ≤ amtOf v ∧ amtOf v ≤ u := by
  cases v <;> first | (exact absurd h Bool.false_ne_true) | skip
  rename_i i
  simp only [betw, decide_eq_true_eq] at h
  exact ⟨rfl, h.1, h.2⟩
theorem V_check_deed : ∀ ds h Q E, ds.length = 2 → G_check_deed ds h Q E → b_check_deed (startD N_check_deed ds) h (bodyK Q E) := by
  rintro ds h Q E _ ⟨P, S, stk, lng, r, rfl, K, pl, q1, q2⟩
  show b_check_deed [some (flowD P S stk lng), some (rjobD r)] _ _
  refine byK fun κ kr kn ke => ?_
  unfold b_check_deed
  cases r with
  | write s n =>
    simp only [RJob.plain, Bool.and_eq_true] at pl
    simp [-Bool.forall_bool, -Bool.exists_bool, -List.lookup_eq_none_iff, rjobD, flowD]
    refine ⟨s, rfl, pl.1, fun z => ?_, fun z => ke _ _ _ _ (q2 _ _ (by simp [-Bool.forall_bool, -Bool.exists_bool, -List.lookup_eq_none_iff, RJob.err, errS, z]))⟩
    simp [-Bool.forall_bool, -Bool.exists_bool, -List.lookup_eq_none_iff]
    refine ⟨n, _, _, rfl, pl.2, fun z2 => ?_, fun z2 => ke _ _ _ _ (q2 _ _ (by simp [-Bool.forall_bool, -Bool.exists_bool, -List.lookup_eq_none_iff, RJob.err, errS, errN, z, z2]))⟩
    simp [-Bool.forall_bool, -Bool.exists_bool, -List.lookup_eq_none_iff]
    exact kn _ _ (q1 (by simp [-Bool.forall_bool, -Bool.exists_bool, -List.lookup_eq_none_iff, RJob.err, errS, errN, z, z2]))
  | read s n =>
    simp only [RJob.plain, Bool.and_eq_true] at pl
    simp [-Bool.forall_bool, -Bool.exists_bool, -List.lookup_eq_none_iff, rjobD, flowD, flowNs, flowDs]
    refine ⟨s, rfl, pl.1, fun z => ?_, fun z => ke _ _ _ _ (q2 _ _ (by simp [-Bool.forall_bool, -Bool.exists_bool, -List.lookup_eq_none_iff, RJob.err, errS, z]))⟩
    simp [-Bool.forall_bool, -Bool.exists_bool, -List.lookup_eq_none_iff]
    refine ⟨n, _, _, rfl, pl.2, fun z2 => ?_, fun z2 => ke _ _ _ _ (q2 _ _ (by simp [-Bool.forall_bool, -Bool.exists_bool, -List.lookup_eq_none_iff, RJob.err, errS, errN, z, z2]))⟩
    have es := betw_side z
    obtain ⟨en, n1, n2⟩ := betw_num z2
    simp [-Bool.forall_bool, -Bool.exists_bool, -List.lookup_eq_none_iff]
    refine ⟨_, P, S, sideOf s, by rw [← es]; rfl, .inr ⟨stk, lng, rfl, K⟩, ?_⟩
    have e : n = .int (amtOf n) := en
    generalize hm : amtOf n = m at *
    subst e
    simp [-Bool.forall_bool, -Bool.exists_bool, -List.lookup_eq_none_iff]
    by_cases z3 : unr S (sideOf s) < m
    · simp [-Bool.forall_bool, -Bool.exists_bool, -List.lookup_eq_none_iff, z3]
      refine ke _ _ _ _ (q2 _ _ ?_)
      have z4 : (S.row (sideOf s)).come - (S.row (sideOf s)).taken < m := z3
      simp [-Bool.forall_bool, -Bool.exists_bool, -List.lookup_eq_none_iff, RJob.err, errS, errN, z, z2, hm, z4]
    · simp [-Bool.forall_bool, -Bool.exists_bool, -List.lookup_eq_none_iff, z3]
      refine kn _ _ (q1 ?_)
      have z4 : ¬ (S.row (sideOf s)).come - (S.row (sideOf s)).taken < m := z3
      simp only [RJob.err, errS, errN, z, z2, hm, if_true, if_neg z4]
  | wait n =>
    simp [-Bool.forall_bool, -Bool.exists_bool, -List.lookup_eq_none_iff, rjobD, flowD]
    refine ⟨n, _, _, rfl, pl, fun z => ?_, fun z => ke _ _ _ _ (q2 _ _ (by simp [-Bool.forall_bool, -Bool.exists_bool, -List.lookup_eq_none_iff, RJob.err, errN, z]))⟩
    simp [-Bool.forall_bool, -Bool.exists_bool, -List.lookup_eq_none_iff]
    exact kn _ _ (q1 (by simp [-Bool.forall_bool, -Bool.exists_bool, -List.lookup_eq_none_iff, RJob.err, errN, z]))
end LL.K67
end

section
set_option Elab.async false
set_option linter.all false
set_option maxRecDepth 100000
/-! K67Val8: the session. -/
namespace LL.K67
open PySem LL
variable {P : Par} {S : St} {s : Bool} {B L : Int}
theorem k2_pc (p : Pc) : k2 (pcD p) = (p.born, b2i p.side) := rfl
theorem le2_pc (a b : Pc) : le2 (pcD a) (pcD b) = le2P a b := rfl
theorem sort_map (ps : List Pc) : (ps.map pcD).mergeSort le2 = (sorted ps).map pcD := by
  unfold sorted
  rw [← List.map_mergeSort]
  · intro a _ b _; exact (le2_pc a b).symm
theorem is2_map (ps : List Pc) : (ps.map pcD).all is2 = true := by
  rw [List.all_eq_true]
  intro d hd
  obtain ⟨p, _, rfl⟩ := List.mem_map.mp hd
  rfl
theorem cut_init {xs : List D} {x : D} : cutD (xs ++ [x]) none (some (-1)) = xs := by
  unfold cutD HT.sIx
  have e : ((-1 : Int) + ((xs ++ [x]).length : Int)).toNat = xs.length := by simp only [List.length_append, List.length_singleton]; omega
  show List.take ((if (-1 : Int) < 0 then ((-1 : Int) + ((xs ++ [x]).length : Int)).toNat else _) - 0) (List.drop 0 (xs ++ [x])) = xs
  rw [if_pos (by omega), e, List.drop_zero, Nat.sub_zero, List.take_left]
theorem Hist.length : ∀ {ds : List D} {us : List St}, Hist P ds us → ds.length = us.length
  | [], [], _ => rfl
  | _ :: _, _ :: _, h => congrArg (· + 1) (Hist.length h.2)
  | [], _ :: _, h => h.elim
  | _ :: _, [], h => h.elim
theorem Hist.snoc {d : D} {u : St} (hd : ∃ stk lng, d = flowD P u stk lng ∧ Stock u stk) : ∀ {ds : List D} {us : List St}, Hist P ds us → Hist P (ds ++ [d]) (us ++ [u])
  | [], [], _ => ⟨hd, trivial⟩
  | _ :: _, _ :: _, h => ⟨h.1, Hist.snoc hd h.2⟩
  | [], _ :: _, h => h.elim
  | _ :: _, [], h => h.elim
theorem Hist.last {u : St} : ∀ {us : List St} {ds : List D}, Hist P ds (us ++ [u]) → ∃ ds' stk lng, ds = ds' ++ [flowD P u stk lng] ∧ Stock u stk ∧ Hist P ds' us
  | [], [], h => h.elim
  | [], [d], h => by obtain ⟨⟨stk, lng, rfl, K⟩, _⟩ := h; exact ⟨[], stk, lng, rfl, K, trivial⟩
  | [], _ :: _ :: _, h => h.2.elim
  | _ :: _, [], h => h.elim
  | _ :: us, d :: ds, h => by
    obtain ⟨ds', stk, lng, e, K, r⟩ := Hist.last (us := us) (ds := ds) h.2
    exact ⟨d :: ds', stk, lng, by rw [e]; rfl, K, h.1, r⟩
theorem b2i_betw {s : Bool} : betw (.int (b2i s)) 0 1 = true := by cases s <;> rfl
theorem b2i_side {s : Bool} : sideOf (.int (b2i s)) = s := by cases s <;> rfl
theorem raw_plain (j : Job) : j.raw.plain = true := by cases j <;> rfl
theorem raw_err {j : Job} (h : j.Ok S) : j.raw.err S = none := by
  cases j with
  | read s m =>
    obtain ⟨h1, h2, h3⟩ := h
    have z : betw (.int m) 1 60 = true := decide_eq_true ⟨h1, h2⟩
    have z2 : ¬ (S.row s).come - (S.row s).taken < m := by omega
    simp only [Job.raw, RJob.err, errS, errN, b2i_betw, b2i_side, z, amtOf, if_true, if_neg z2]
  | write s m =>
    have z : betw (.int m) 1 60 = true := decide_eq_true h
    simp only [Job.raw, RJob.err, errS, errN, b2i_betw, z, if_true]
  | wait m =>
    have z : betw (.int m) 1 60 = true := decide_eq_true h
    simp only [Job.raw, RJob.err, errN, z, if_true]
theorem errS_none {v : D} {e : XErr} (h : errS v e = none) : betw v 0 1 = true ∧ e = none := by
  unfold errS at h
  by_cases z : betw v 0 1 = true
  · rw [if_pos z] at h; exact ⟨z, h⟩
  · rw [if_neg z] at h; cases h
theorem errN_none {v : D} {e : XErr} (h : errN v e = none) : betw v 1 60 = true ∧ e = none := by
  unfold errN at h
  by_cases z : betw v 1 60 = true
  · rw [if_pos z] at h; exact ⟨z, h⟩
  · rw [if_neg z] at h; cases h
theorem err_none {r : RJob} (h : r.err S = none) : ∃ j : Job, r = j.raw ∧ j.Ok S := by
  cases r with
  | read s n =>
    obtain ⟨z, h⟩ := errS_none h
    obtain ⟨z2, h⟩ := errN_none h
    obtain ⟨e, n1, n2⟩ := betw_num z2
    by_cases z3 : (S.row (sideOf s)).come - (S.row (sideOf s)).taken < amtOf n
    · rw [if_pos z3] at h; cases h
    · exact ⟨.read (sideOf s) (amtOf n), by rw [Job.raw, ← betw_side z, ← e], n1, n2, by omega⟩
  | write s n =>
    obtain ⟨z, h⟩ := errS_none h
    obtain ⟨z2, h⟩ := errN_none h
    obtain ⟨e, n1, n2⟩ := betw_num z2
    exact ⟨.write (sideOf s) (amtOf n), by rw [Job.raw, ← betw_side z, ← e], n1, n2⟩
  | wait n =>
    obtain ⟨z2, h⟩ := errN_none h
    obtain ⟨e, n1, n2⟩ := betw_num z2
    exact ⟨.wait (amtOf n), by rw [Job.raw, ← e], n1, n2⟩
theorem raw_inj {j j' : Job} (h : j.raw = j'.raw) : j = j' := by
  cases j <;> cases j' <;> simp only [Job.raw, RJob.read.injEq, RJob.write.injEq, RJob.wait.injEq, D.int.injEq, reduceCtorEq] at h
  · obtain ⟨h1, rfl⟩ := h
    have := congrArg (fun i => sideOf (.int i)) h1
    simp only [b2i_side] at this
    rw [this]
  · obtain ⟨h1, rfl⟩ := h
    have := congrArg (fun i => sideOf (.int i)) h1
    simp only [b2i_side] at this
    rw [this]
  · rw [h]
theorem V_Session_show : ∀ ds h Q E, ds.length = 3 → G_Session_show ds h Q E → b_Session_show (startD N_Session_show ds) h (bodyK Q E) := by
  rintro ds h Q E _ ⟨b, P, S, stk, lng, past, fs, β, rfl, K, hb, hfs, hk, hl, q⟩
  show b_Session_show [some (.ref b), some (flowD P S stk lng), some (.lst past)] _ _
  refine byK fun κ kr kn ke => ?_
  unfold b_Session_show
  have hF : FlowIs (flowD P S stk lng) P S h := .inr ⟨stk, lng, rfl, K⟩
  have lt := (List.getElem?_eq_some_iff.mp hb).1
  have isF : ∀ h' m, (flowNs.zip (flowDs P S stk lng)).lookup m = none → isIns "Flow" m (flowD P S stk lng) h' := fun h' m e => ⟨rfl, e⟩
  rcases hfs with ⟨rfl, rfl⟩ | ⟨S', stk', lng', past', rfl⟩
  all_goals
    simp [-Bool.forall_bool, -Bool.exists_bool, -List.lookup_eq_none_iff, hb, sessFs0, sessFs, flowD, flowNs, flowDs]
    refine ⟨_, P, S, false, rfl, .inr ⟨stk, lng, rfl, K⟩, hk false, ?_⟩
    simp [-Bool.forall_bool, -Bool.exists_bool, -List.lookup_eq_none_iff]
    refine ⟨_, P, S, true, rfl, .inr ⟨stk, lng, rfl, K⟩, hk true, ?_⟩
    simp [-Bool.forall_bool, -Bool.exists_bool, -List.lookup_eq_none_iff, hb, lt]
    refine ⟨_, P, S, false, rfl, .inr ⟨stk, lng, rfl, K⟩, ?_⟩
    simp [-Bool.forall_bool, -Bool.exists_bool, -List.lookup_eq_none_iff]
    refine ⟨_, P, S, true, rfl, .inr ⟨stk, lng, rfl, K⟩, ?_⟩
    simp [-Bool.forall_bool, -Bool.exists_bool, -List.lookup_eq_none_iff, hb, lt, sort_map]
    exact ⟨fun _ _ => rfl, kn _ _ q⟩
theorem V_Session_check_free : ∀ ds h Q E, ds.length = 1 → G_Session_check_free ds h Q E → b_Session_check_free (startD N_Session_check_free ds) h (bodyK Q E) := by
  rintro ds h Q E _ ⟨b, P, S, us, β, rfl, ⟨o, ho, stk, lng, past, K, hp, rfl⟩, q1, q2⟩
  show b_Session_check_free [some (.ref b)] _ _
  refine byK fun κ kr kn ke => ?_
  unfold b_Session_check_free
  simp [-Bool.forall_bool, -Bool.exists_bool, -List.lookup_eq_none_iff, ho, sessFs]
  cases β with
  | false => simp [-Bool.forall_bool, -Bool.exists_bool, -List.lookup_eq_none_iff]; exact kn _ _ (q1 rfl)
  | true => simp [-Bool.forall_bool, -Bool.exists_bool, -List.lookup_eq_none_iff]; exact ke _ _ _ _ (q2 rfl)
theorem V_Session_init : ∀ ds h Q E, ds.length = 2 → G_Session_init ds h Q E → b_Session_init (startD N_Session_init ds) h (bodyK Q E) := by
  rintro ds h Q E _ ⟨pre, P, rfl, rfl, q⟩
  show b_Session_init [some (.ref pre.length), some (lineD P)] _ _
  refine byK fun κ kr kn ke => ?_
  unfold b_Session_init
  simp [-Bool.forall_bool, -Bool.exists_bool, -List.lookup_eq_none_iff]
  refine ⟨P, rfl, ?_⟩
  simp [-Bool.forall_bool, -Bool.exists_bool, -List.lookup_eq_none_iff]
  generalize hp : pre ++ [O.ins "Session" [("line", lineD P), ("busy", .bl false)]] = pr
  have lp : pr.length = pre.length + 1 := by rw [← hp]; simp [-Bool.forall_bool, -Bool.exists_bool, -List.lookup_eq_none_iff]
  refine ⟨pr, P, by rw [lp], by rw [← hp]; simp [-Bool.forall_bool, -Bool.exists_bool, -List.lookup_eq_none_iff], rfl, flowD P init (fun _ => []) (fun _ => 0), ?_, by simp [-Bool.forall_bool, -Bool.exists_bool, -List.lookup_eq_none_iff], ?_⟩
  · rw [← lp]
    have old : ∀ i (o : O), (newF P pr.length)[i]? = some o → (pr ++ newF P pr.length)[pr.length + i]? = some o := fun i o e => by rw [app_new]; exact e
    refine .newI (C := "Flow") (fs := flowFs P 0 (fun s => pr.length + 1 + cond s 1 0) (pr.length + 3) (pr.length + 4) (pr.length + 5) (pr.length + 6) (pr.length + 7) (pr.length + 8) (pr.length + 9) (pr.length + 10) (pr.length + 11) (pr.length + 12)) (Nat.le_refl _) (old 0 _ rfl) ?_
    refine .cons (.old (by simp [-Bool.forall_bool, -Bool.exists_bool, -List.lookup_eq_none_iff])) (.cons (.old (by simp [-Bool.forall_bool, -Bool.exists_bool, -List.lookup_eq_none_iff])) (.cons (.old (by simp [-Bool.forall_bool, -Bool.exists_bool, -List.lookup_eq_none_iff])) (.cons (.lst (.cons (frz_new (old 1 _ rfl) (by first | (simp [-Bool.forall_bool, -Bool.exists_bool, -List.lookup_eq_none_iff]; done) | (simp [-Bool.forall_bool, -Bool.exists_bool, -List.lookup_eq_none_iff]; omega)) bels_nil) (.cons (frz_new (old 2 _ rfl) (by first | (simp [-Bool.forall_bool, -Bool.exists_bool, -List.lookup_eq_none_iff]; done) | (simp [-Bool.forall_bool, -Bool.exists_bool, -List.lookup_eq_none_iff]; omega)) bels_nil) .nil))) ?_)))
    refine .cons (frz_new (old 3 _ rfl) (by omega) (by simp [-Bool.forall_bool, -Bool.exists_bool, -List.lookup_eq_none_iff])) (.cons (frz_new (old 4 _ rfl) (by omega) (by simp [-Bool.forall_bool, -Bool.exists_bool, -List.lookup_eq_none_iff])) (.cons (frz_new (old 5 _ rfl) (by omega) (by simp [-Bool.forall_bool, -Bool.exists_bool, -List.lookup_eq_none_iff])) (.cons (frz_new (old 6 _ rfl) (by omega) (by simp [-Bool.forall_bool, -Bool.exists_bool, -List.lookup_eq_none_iff])) (.cons (frz_new (old 7 _ rfl) (by omega) (by simp [-Bool.forall_bool, -Bool.exists_bool, -List.lookup_eq_none_iff])) (.cons (frz_new (old 8 _ rfl) (by omega) (by simp [-Bool.forall_bool, -Bool.exists_bool, -List.lookup_eq_none_iff])) ?_)))))
    exact .cons (frz_new (old 9 _ rfl) (by omega) (by simp [-Bool.forall_bool, -Bool.exists_bool, -List.lookup_eq_none_iff])) (.cons (frz_new (old 10 _ rfl) (by omega) (by simp [-Bool.forall_bool, -Bool.exists_bool, -List.lookup_eq_none_iff])) (.cons (frz_new (old 11 _ rfl) (by omega) bels_nil) (.cons (frz_new (old 12 _ rfl) (by omega) bels_nil) .nil)))
  refine ⟨pre.length, P, init, fun _ => [], fun _ => 0, [], sessFs0 P, false, rfl, ⟨fun _ => rfl, fun _ x hx => by cases hx⟩, by rw [← hp]; simp [-Bool.forall_bool, -Bool.exists_bool, -List.lookup_eq_none_iff, sessFs0], .inl ⟨rfl, rfl⟩, fun _ => by show (0 : Int) ≤ _; omega, by show (0 : Nat) ≤ _; omega, ?_⟩
  refine kn _ _ ?_
  rw [← hp]
  simp [-Bool.forall_bool, -Bool.exists_bool, -List.lookup_eq_none_iff]
  exact q _ ⟨_, _, [], ⟨fun _ => rfl, fun _ x hx => by cases hx⟩, trivial, rfl⟩
/-- what a deed leads to -/
theorem Fine.bd (fin : Fine P S B L) : (∀ s, (S.row s).kept ≤ 1000000) ∧ S.flight.length < 1000000 ∧ S.log.length < 1000000 := bound_of fin.g (by have := fin.b; omega) (by have := fin.l; omega)
theorem run_bd (fin : Fine P S B L) {j : Job} (hj : j.Ok S) : (∀ s, ((j.run P S).row s).kept ≤ 1000000) ∧ (j.run P S).flight.length < 1000000 ∧ (j.run P S).log.length < 1000000 := by
  have hB := fin.b
  have hL := fin.l
  cases j with
  | write s m => exact bound_of ((fin.g.wrote (s := s) (m := m) (by have := hj.1; omega)).free fin.p) (by have := hj.2; omega) (by omega)
  | read s m => exact bound_of fin.g.readS (by omega) (by omega)
  | wait m => exact bound_of (fin.g.waited fin.p m.toNat) (by omega) (by have := hj.2; omega)
theorem V_Session_do_deed : ∀ ds h Q E, ds.length = 2 → G_Session_do_deed ds h Q E → b_Session_do_deed (startD N_Session_do_deed ds) h (bodyK Q E) := by
  rintro ds h Q E _ ⟨b, P, S, us, β, B, L, r, rfl, ⟨o, ho, stk, lng, past, K, hp, rfl⟩, fin, pl, q⟩
  show b_Session_do_deed [some (.ref b), some (rjobD r)] _ _
  refine byK fun κ kr kn ke => ?_
  unfold b_Session_do_deed
  simp [-Bool.forall_bool, -Bool.exists_bool, -List.lookup_eq_none_iff, ho, sessFs]
  refine ⟨P, S, stk, lng, r, rfl, K, pl, fun z => ?_, fun c fs z => ke _ _ _ _ (q.2.1 rfl c fs z)⟩
  obtain ⟨j, rfl, hj⟩ := err_none z
  have lp := hp.length
  simp [-Bool.forall_bool, -Bool.exists_bool, -List.lookup_eq_none_iff, ho, sessFs, lp]
  by_cases h6 : 60 ≤ us.length
  · have h6' : (60 : Int) ≤ (us.length : Int) := by omega
    simp [-Bool.forall_bool, -Bool.exists_bool, -List.lookup_eq_none_iff, h6', ho]
    exact ke _ _ _ _ (q.2.2.1 rfl z h6)
  have h6' : ¬ (60 : Int) ≤ (us.length : Int) := by omega
  simp [-Bool.forall_bool, -Bool.exists_bool, -List.lookup_eq_none_iff, h6', ho]
  refine ⟨P, S, stk, lng, B, L, j, rfl, K, fin, hj, fun stk' lng' K' => ?_⟩
  have h1 : past.length + 1 ≤ sizeLine := le_sizeLine (by omega)
  have bd := run_bd fin hj
  simp [-Bool.forall_bool, -Bool.exists_bool, -List.lookup_eq_none_iff, ho, sessFs, h1]
  refine ⟨b, P, _, stk', lng', past ++ [flowD P S stk lng], _, β, rfl, K', ho, .inr ⟨S, stk, lng, past, rfl⟩, bd.1, by omega, ?_⟩
  exact kn _ _ (q.2.2.2 rfl j _ rfl hj (by omega) ⟨stk', lng', _, K', hp.snoc ⟨stk, lng, rfl, K⟩, rfl⟩)
theorem sess_set {b : Nat} {us : List St} {β : Bool} {h : LH} {o o' : O} (ho : h[b]? = some o') (h1 : SessO P S us β o) : SessAt b P S us β (h.set b o) := ⟨o, set_get ho, h1⟩
theorem V_Session_write : ∀ ds h Q E, ds.length = 3 → G_Session_write ds h Q E → b_Session_write (startD N_Session_write ds) h (bodyK Q E) := by
  rintro ds h Q E _ ⟨b, P, S, us, β, B, L, s, n, rfl, ⟨o, ho, so⟩, fin, pl, q1, q2, q3, q4⟩
  show b_Session_write [some (.ref b), some s, some n] _ _
  refine byK fun κ kr kn ke => ?_
  unfold b_Session_write
  obtain ⟨stk, lng, past, K, hp, rfl⟩ := id so
  simp [-Bool.forall_bool, -Bool.exists_bool, -List.lookup_eq_none_iff, ho, sessFs]
  refine ⟨b, P, S, us, β, rfl, ⟨_, ho, so⟩, fun zβ => ?_, fun zβ => ke _ _ _ _ (q1 zβ)⟩
  simp [-Bool.forall_bool, -Bool.exists_bool, -List.lookup_eq_none_iff, ho, sessFs]
  refine ⟨b, P, S, us, β, B, L, .write s n, rfl, ⟨_, ho, so⟩, fin, pl, fun z => (nomatch z), fun _ c fs z => ke _ _ _ _ (q2 zβ c fs z), fun _ z1 z2 => ke _ _ _ _ (q3 zβ z1 z2), fun _ j o ej hj h6 so' => ?_⟩
  have q := kr _ _ (q4 zβ j o ej hj h6 so')
  cases j <;> simp only [Job.raw, reduceCtorEq, RJob.read.injEq, RJob.write.injEq, RJob.wait.injEq] at ej
  obtain ⟨rfl, rfl⟩ := ej
  obtain ⟨stk', lng', past', K', hp', rfl⟩ := so'
  have lt := (List.getElem?_eq_some_iff.mp ho).1
  simp [-Bool.forall_bool, -Bool.exists_bool, -List.lookup_eq_none_iff, ho, sessFs, lt]
  exact q
theorem V_Session_read : ∀ ds h Q E, ds.length = 3 → G_Session_read ds h Q E → b_Session_read (startD N_Session_read ds) h (bodyK Q E) := by
  rintro ds h Q E _ ⟨b, P, S, us, β, B, L, s, n, rfl, ⟨o, ho, so⟩, fin, pl, q1, q2, q3, q4⟩
  show b_Session_read [some (.ref b), some s, some n] _ _
  refine byK fun κ kr kn ke => ?_
  unfold b_Session_read
  obtain ⟨stk, lng, past, K, hp, rfl⟩ := id so
  simp [-Bool.forall_bool, -Bool.exists_bool, -List.lookup_eq_none_iff, ho, sessFs]
  refine ⟨b, P, S, us, β, rfl, ⟨_, ho, so⟩, fun zβ => ?_, fun zβ => ke _ _ _ _ (q1 zβ)⟩
  simp [-Bool.forall_bool, -Bool.exists_bool, -List.lookup_eq_none_iff, ho, sessFs]
  refine ⟨b, P, S, us, β, B, L, .read s n, rfl, ⟨_, ho, so⟩, fin, pl, fun z => (nomatch z), fun _ c fs z => ke _ _ _ _ (q2 zβ c fs z), fun _ z1 z2 => ke _ _ _ _ (q3 zβ z1 z2), fun _ j o ej hj h6 so' => ?_⟩
  have q := kr _ _ (q4 zβ j o ej hj h6 so')
  cases j <;> simp only [Job.raw, reduceCtorEq, RJob.read.injEq, RJob.write.injEq, RJob.wait.injEq] at ej
  obtain ⟨rfl, rfl⟩ := ej
  obtain ⟨stk', lng', past', K', hp', rfl⟩ := so'
  have lt := (List.getElem?_eq_some_iff.mp ho).1
  simp [-Bool.forall_bool, -Bool.exists_bool, -List.lookup_eq_none_iff, ho, sessFs, lt]
  exact q
theorem V_Session_wait : ∀ ds h Q E, ds.length = 2 → G_Session_wait ds h Q E → b_Session_wait (startD N_Session_wait ds) h (bodyK Q E) := by
  rintro ds h Q E _ ⟨b, P, S, us, β, B, L, n, rfl, ⟨o, ho, so⟩, fin, pl, q1, q2, q3, q4⟩
  show b_Session_wait [some (.ref b), some n] _ _
  refine byK fun κ kr kn ke => ?_
  unfold b_Session_wait
  obtain ⟨stk, lng, past, K, hp, rfl⟩ := id so
  simp [-Bool.forall_bool, -Bool.exists_bool, -List.lookup_eq_none_iff, ho, sessFs]
  refine ⟨b, P, S, us, β, rfl, ⟨_, ho, so⟩, fun zβ => ?_, fun zβ => ke _ _ _ _ (q1 zβ)⟩
  simp [-Bool.forall_bool, -Bool.exists_bool, -List.lookup_eq_none_iff, ho, sessFs]
  refine ⟨b, P, S, us, β, B, L, .wait n, rfl, ⟨_, ho, so⟩, fin, pl, fun z => (nomatch z), fun _ c fs z => ke _ _ _ _ (q2 zβ c fs z), fun _ z1 z2 => ke _ _ _ _ (q3 zβ z1 z2), fun _ j o ej hj h6 so' => ?_⟩
  have q := kr _ _ (q4 zβ j o ej hj h6 so')
  cases j <;> simp only [Job.raw, reduceCtorEq, RJob.read.injEq, RJob.write.injEq, RJob.wait.injEq] at ej
  subst ej
  obtain ⟨stk', lng', past', K', hp', rfl⟩ := so'
  have lt := (List.getElem?_eq_some_iff.mp ho).1
  simp [-Bool.forall_bool, -Bool.exists_bool, -List.lookup_eq_none_iff, ho, sessFs, lt]
  exact q
theorem V_law_call : ∀ ds h Q E, ds.length = 2 → G_law_call ds h Q E → b_law_call (startD N_law_call ds) h (bodyK Q E) := by
  rintro ds h Q E _ ⟨b, P, S, us, β, B, L, r, rfl, ⟨o, ho, so⟩, fin, pl, q⟩
  show b_law_call [some (.ref b), some (rjobD r)] _ _
  refine byK fun κ kr kn ke => ?_
  unfold b_law_call
  obtain ⟨stk, lng, past, K, hp, rfl⟩ := id so
  have q : dsp b P S us β β r h κ.rt (fun c fs h => ∀ σ, κ.ex c fs σ h) (ansD P S) := dsp_mono kr (fun c fs h z σ => ke _ _ _ _ z) q
  cases r with
  | write s n =>
    simp [-Bool.forall_bool, -Bool.exists_bool, -List.lookup_eq_none_iff, rjobD, ho, sessFs]
    exact ⟨b, P, S, us, β, B, L, s, n, rfl, ⟨_, ho, so⟩, fin, pl, dsp_mono (fun _ _ z => z) (fun _ _ _ z => z _) q⟩
  | read s n =>
    simp [-Bool.forall_bool, -Bool.exists_bool, -List.lookup_eq_none_iff, rjobD, ho, sessFs]
    exact ⟨b, P, S, us, β, B, L, s, n, rfl, ⟨_, ho, so⟩, fin, pl, dsp_mono (fun _ _ z => z) (fun _ _ _ z => z _) q⟩
  | wait n =>
    simp [-Bool.forall_bool, -Bool.exists_bool, -List.lookup_eq_none_iff, rjobD, ho, sessFs]
    exact ⟨b, P, S, us, β, B, L, n, rfl, ⟨_, ho, so⟩, fin, pl, dsp_mono (fun _ _ z => z) (fun _ _ _ z => z _) q⟩
theorem V_Session_undo : ∀ ds h Q E, ds.length = 1 → G_Session_undo ds h Q E → b_Session_undo (startD N_Session_undo ds) h (bodyK Q E) := by
  rintro ds h Q E _ ⟨b, P, S, us, β, rfl, ⟨o, ho, so⟩, hu, hb, q1, q2, q3⟩
  show b_Session_undo [some (.ref b)] _ _
  refine byK fun κ kr kn ke => ?_
  unfold b_Session_undo
  obtain ⟨stk, lng, past, K, hp, rfl⟩ := id so
  simp [-Bool.forall_bool, -Bool.exists_bool, -List.lookup_eq_none_iff, ho, sessFs]
  refine ⟨b, P, S, us, β, rfl, ⟨_, ho, so⟩, fun zβ => ?_, fun zβ => ke _ _ _ _ (q1 zβ)⟩
  subst zβ
  have lp := hp.length
  rcases List.eq_nil_or_concat us with rfl | ⟨us', u, rfl⟩
  · cases past with
    | cons _ _ => cases lp
    | nil =>
      simp [-Bool.forall_bool, -Bool.exists_bool, -List.lookup_eq_none_iff, ho, sessFs]
      exact ke _ _ _ _ (q2 rfl rfl)
  · rw [List.concat_eq_append] at *
    obtain ⟨ds', stk', lng', rfl, K', hp'⟩ := hp.last
    have hl : ds'.length ≤ 100000 := by have := hp'.length; simp only [List.length_append, List.length_singleton] at hu; omega
    simp [-Bool.forall_bool, -Bool.exists_bool, -List.lookup_eq_none_iff, ho, sessFs]
    have nz : ¬ (ds'.length : Int) + 1 = 0 := by omega
    rw [if_neg nz, cut_init]
    obtain ⟨hk, hl2⟩ := hb u (by simp only [List.mem_append, List.mem_singleton, or_true])
    refine ⟨b, P, u, stk', lng', ds', _, false, rfl, K', ho, .inr ⟨S, stk, lng, _, rfl⟩, hk, hl2, ?_⟩
    exact kn _ _ (q3 _ _ _ rfl rfl ⟨stk', lng', ds', K', hp', rfl⟩)
theorem V_Session_len : ∀ ds h Q E, ds.length = 1 → G_Session_len ds h Q E → b_Session_len (startD N_Session_len ds) h (bodyK Q E) := by
  rintro ds h Q E _ ⟨b, P, S, us, β, rfl, ⟨o, ho, stk, lng, past, K, hp, rfl⟩, q⟩
  show b_Session_len [some (.ref b)] _ _
  refine byK fun κ kr kn ke => ?_
  unfold b_Session_len
  simp [-Bool.forall_bool, -Bool.exists_bool, -List.lookup_eq_none_iff, ho, sessFs]
  have : (sorted S.log).length = S.log.length := List.length_mergeSort _
  rw [this]
  exact kr _ _ q
theorem log2_small {i : Int} (h0 : 0 ≤ i) (h1 : i ≤ 1000000) : i.natAbs.log2 < 1920 :=
  Nat.lt_of_lt_of_le (PySem.Flt.log2_lt_of (k := 20) (by decide) (by have : i.natAbs ≤ 1000000 := by omega
                                                                     have e : (2 : Nat) ^ 20 = 1048576 := by decide
                                                                     omega)) (by decide)
/-- the parts of a session's name fit -/
theorem name_fits {t : Int} {n : Nat} (h0 : 0 ≤ t) (h1 : t ≤ 100000) (hn : n ≤ 1000000) {R : Prop} (q : R) : (Str.empty ++ Str.ofString "Session(tick ").length ≤ sizeLine ∧
    t.natAbs.log2 < 1920 ∧ (Str.empty ++ Str.ofString "Session(tick " ++ Str.ofString t.repr).length ≤ sizeLine ∧
        (Str.empty ++ Str.ofString "Session(tick " ++ Str.ofString t.repr ++ Str.ofString ", ").length ≤ sizeLine ∧
          n.log2 < 1920 ∧ (Str.empty ++ Str.ofString "Session(tick " ++ Str.ofString t.repr ++ Str.ofString ", " ++ Str.ofString ((n : Int).repr)).length ≤ sizeLine ∧
              (Str.empty ++ Str.ofString "Session(tick " ++ Str.ofString t.repr ++ Str.ofString ", " ++ Str.ofString ((n : Int).repr) ++ Str.ofString " pieces)").length ≤ sizeLine ∧ R := by
  have l1 : (Str.ofString t.repr).length ≤ 100002 := by
    have := PyProof.Rows.len_str_of_int t
    have e : toString t = t.repr := rfl
    rw [e] at this; omega
  have l2 : (Str.ofString ((n : Int).repr)).length ≤ 1000002 := by
    have := PyProof.Rows.len_str_of_int (n : Int)
    have e : toString (n : Int) = (n : Int).repr := rfl
    rw [e] at this; omega
  have a0 : (Str.empty ++ Str.ofString "Session(tick ").length ≤ 100 := by decide +kernel
  have a1 : (Str.ofString ", ").length ≤ 100 := by decide +kernel
  have a2 : (Str.ofString " pieces)").length ≤ 100 := by decide +kernel
  generalize Str.empty ++ Str.ofString "Session(tick " = x0 at *
  have z : sizeLine = 16777216 := rfl
  rw [z]
  refine ⟨by omega, log2_small h0 (by omega), ?_, ?_, log2_small (i := (n : Int)) (by omega) (by omega), ?_, ?_, q⟩
  all_goals simp only [Str.length_append]; omega
theorem V_Session_repr : ∀ ds h Q E, ds.length = 1 → G_Session_repr ds h Q E → b_Session_repr (startD N_Session_repr ds) h (bodyK Q E) := by
  rintro ds h Q E _ ⟨b, P, S, us, β, rfl, ⟨o, ho, stk, lng, past, K, hp, rfl⟩, t0, t1, hl, q⟩
  show b_Session_repr [some (.ref b)] _ _
  refine byK fun κ kr kn ke => ?_
  unfold b_Session_repr
  simp [-Bool.forall_bool, -Bool.exists_bool, -List.lookup_eq_none_iff, ho, sessFs]
  have e : (sorted S.log).length = S.log.length := List.length_mergeSort _
  rw [e]
  exact name_fits t0 t1 hl (kr _ _ q)
theorem V_law_shown : ∀ ds h Q E, ds.length = 1 → G_law_shown ds h Q E → b_law_shown (startD N_law_shown ds) h (bodyK Q E) := by
  rintro ds h Q E _ ⟨b, P, S, us, β, rfl, sa, t0, t1, hl, q⟩
  show b_law_shown [some (.ref b), none] _ _
  refine byK fun κ kr kn ke => ?_
  unfold b_law_shown
  obtain ⟨o, ho, stk, lng, past, K, hp, rfl⟩ := id sa
  simp [-Bool.forall_bool, -Bool.exists_bool, -List.lookup_eq_none_iff, ho, sessFs]
  refine ⟨b, P, S, us, β, rfl, sa, ?_⟩
  have z : (S.log.length : Int) < 9223372036854775808 := by omega
  simp [-Bool.forall_bool, -Bool.exists_bool, -List.lookup_eq_none_iff, ho, sessFs, z]
  refine ⟨b, P, S, us, β, rfl, sa, t0, t1, hl, ?_⟩
  simp [-Bool.forall_bool, -Bool.exists_bool, -List.lookup_eq_none_iff, ho, sessFs, z]
  refine ⟨b, P, S, us, β, rfl, sa, ?_⟩
  simp [-Bool.forall_bool, -Bool.exists_bool, -List.lookup_eq_none_iff, ho, sessFs, z]
  have e : ((S.log.length : Int) != 0) = decide (S.log ≠ []) := by
    cases S.log with
    | nil => rfl
    | cons x xs => simp [-Bool.forall_bool, -Bool.exists_bool, -List.lookup_eq_none_iff]; omega
  rw [e]
  exact kr _ _ q
end LL.K67
end

section
set_option Elab.async false
set_option linter.all false
set_option maxRecDepth 100000
/-! K67Val9: the law's own walk. -/
namespace LL.K67
open PySem LL
variable {P : Par} {S : St} {s : Bool} {B L : Int}
theorem fr_refl (own : Nat → Prop) (h : LH) : Fr own h h := ⟨Nat.le_refl _, fun _ _ _ => rfl⟩
theorem fr_set {own : Nat → Prop} {a b : LH} {i : Nat} {o : O} (f : Fr own a b) (hi : own i) : Fr own a (b.set i o) := by
  refine ⟨by rw [List.length_set]; exact f.len, fun j hj hn => ?_⟩
  rw [List.getElem?_set_ne (by rintro rfl; exact hn hi)]
  exact f.same j hj hn
theorem own_w (A : WIx) : A.own A.w := .inl rfl
theorem own_r (A : WIx) (s : Bool) : A.own (A.r s) := .inr (.inl ⟨s, rfl⟩)
theorem own_fl (A : WIx) : A.own A.fl := .inr (.inr (.inl rfl))
theorem own_lg (A : WIx) : A.own A.lg := .inr (.inr (.inr rfl))
@[simp] theorem told_at (P : Par) (s : Bool) : L2.atI [D.int P.size, .int P.way, wayD P false, wayD P true] (2 + b2i s) = some (wayD P s) := by cases s <;> rfl
/-- the parts of a world are apart -/
structure Apart (A : WIx) (s : Bool) : Prop where
  a1 : A.w ≠ A.r s
  a2 : A.r s ≠ A.w
  a3 : A.w ≠ A.fl
  a4 : A.fl ≠ A.w
  a5 : A.w ≠ A.lg
  a6 : A.lg ≠ A.w
  a7 : A.r s ≠ A.fl
  a8 : A.fl ≠ A.r s
  a9 : A.r s ≠ A.lg
  a10 : A.lg ≠ A.r s
  a11 : A.fl ≠ A.lg
  a12 : A.lg ≠ A.fl
theorem WIx.Ok.apart {A : WIx} (o : A.Ok) (s : Bool) : Apart A s := ⟨o.wr s, (o.wr s).symm, o.wf, o.wf.symm, o.wl, o.wl.symm, o.rf s, (o.rf s).symm, o.rl s, (o.rl s).symm, o.fl, o.fl.symm⟩
theorem row_ne {A : WIx} (o : A.Ok) {s t : Bool} (h : t ≠ s) : A.r s ≠ A.r t := by
  have : t = !s := by cases s <;> cases t <;> simp_all [-Bool.forall_bool, -Bool.exists_bool, -List.lookup_eq_none_iff]
  subst this
  exact o.rr s
theorem WorldAt.rowS {A : WIx} {h : LH} (W : WorldAt A P S h) (r : Row) : WorldAt A P { S with row := upR S.row s r } (h.set (A.r s) (.lst (rowD r))) := by
  refine ⟨W.ok, ?_, fun t => ?_, ?_, ?_⟩
  · rw [List.getElem?_set_ne (W.ok.wr s).symm]; exact W.w
  · by_cases z : t = s
    · subst z
      show _ = some (O.lst (rowD (upR S.row t r t)))
      rw [upR_same]
      exact set_get (W.r t)
    · rw [List.getElem?_set_ne (row_ne W.ok z)]
      show _ = some (O.lst (rowD (upR S.row s r t)))
      rw [upR_ne z]; exact W.r t
  · rw [List.getElem?_set_ne (W.ok.rf s)]; exact W.fl
  · rw [List.getElem?_set_ne (W.ok.rl s)]; exact W.lg
theorem WorldAt.flS {A : WIx} {h : LH} (W : WorldAt A P S h) (ps : List Pc) : WorldAt A P { S with flight := ps } (h.set A.fl (.lst (ps.map pcD))) := by
  refine ⟨W.ok, ?_, fun t => ?_, ?_, ?_⟩
  · rw [List.getElem?_set_ne W.ok.wf.symm]; exact W.w
  · rw [List.getElem?_set_ne (W.ok.rf t).symm]; exact W.r t
  · exact set_get W.fl
  · rw [List.getElem?_set_ne W.ok.fl]; exact W.lg
theorem WorldAt.lgS {A : WIx} {h : LH} (W : WorldAt A P S h) (ps : List Pc) : WorldAt A P { S with log := ps } (h.set A.lg (.lst (ps.map pcD))) := by
  refine ⟨W.ok, ?_, fun t => ?_, ?_, ?_⟩
  · rw [List.getElem?_set_ne W.ok.wl.symm]; exact W.w
  · rw [List.getElem?_set_ne (W.ok.rl t).symm]; exact W.r t
  · rw [List.getElem?_set_ne W.ok.fl.symm]; exact W.fl
  · exact set_get W.lg
theorem WorldAt.tickS {A : WIx} {h : LH} (W : WorldAt A P S h) (t : Int) : WorldAt A P (at_ t S) (h.set A.w (.lst [toldD P, .int t, .lst (prD fun s => .ref (A.r s)), .ref A.fl, .ref A.lg])) := by
  refine ⟨W.ok, ?_, fun t => ?_, ?_, ?_⟩
  · exact set_get W.w
  · rw [List.getElem?_set_ne (W.ok.wr t)]; exact W.r t
  · rw [List.getElem?_set_ne W.ok.wf]; exact W.fl
  · rw [List.getElem?_set_ne W.ok.wl]; exact W.lg
theorem WorldAt.lt {A : WIx} {h : LH} (W : WorldAt A P S h) {i : Nat} (hi : A.own i) : i < h.length := by
  rcases hi with rfl | ⟨s, rfl⟩ | rfl | rfl
  · exact (List.getElem?_eq_some_iff.mp W.w).1
  · exact (List.getElem?_eq_some_iff.mp (W.r s)).1
  · exact (List.getElem?_eq_some_iff.mp W.fl).1
  · exact (List.getElem?_eq_some_iff.mp W.lg).1
theorem later_trans {A : WIx} {S' S'' : St} {a b c : LH} {fl : Nat} (W : WorldAt A P S a) (h1 : fl = A.fl ∨ a.length ≤ fl) (W' : WorldAt { A with fl := fl } P S' b) (f1 : Fr A.own a b) (h2 : WorldLater { A with fl := fl } P S'' b c) : WorldLater A P S'' a c := by
  obtain ⟨fl2, e2, W2, f2⟩ := h2
  refine ⟨fl2, ?_, W2, Nat.le_trans f1.len f2.len, fun i hi hn => ?_⟩
  · rcases e2 with e2 | e2
    · rw [e2]; exact h1
    · exact .inr (Nat.le_trans f1.len e2)
  · rw [f2.same i (Nat.lt_of_lt_of_le hi f1.len) ?_, f1.same i hi hn]
    intro z
    rcases z with z | ⟨s, z⟩ | z | z
    · exact hn (.inl z)
    · exact hn (.inr (.inl ⟨s, z⟩))
    · have z : i = fl := z
      rcases h1 with h1 | h1
      · exact hn (.inr (.inr (.inl (z.trans h1))))
      · omega
    · exact hn (.inr (.inr (.inr z)))
theorem later_refl {A : WIx} {h : LH} (W : WorldAt A P S h) : WorldLater A P S h h := ⟨A.fl, .inl rfl, W, fr_refl _ _⟩
theorem V_law_send : ∀ ds h Q E, ds.length = 3 → G_law_send ds h Q E → b_law_send (startD N_law_send ds) h (bodyK Q E) := by
  rintro ds h Q E _ ⟨A, P, S, s, m, rfl, W, l1, l2, q⟩
  show b_law_send [some (.ref A.w), some (.int (b2i s)), some (.int m), none] h _
  refine byK fun κ kr kn ke => ?_
  unfold b_law_send
  obtain ⟨a1, a2, a3, a4, a5, a6, a7, a8, a9, a10, a11, a12⟩ := W.ok.apart s
  have e0 := W.w
  have e1 := W.r s
  have e2 := W.fl
  have e3 := W.lg
  have l1 : S.flight.length < 16777216 := by omega
  have l2 : S.log.length < 16777216 := by omega
  have W' := ((W.rowS (s := s) (sendR P m (S.row s))).flS (S.flight ++ [⟨S.tick, s, m, (S.row s).come⟩])).lgS (S.log ++ [⟨S.tick, s, m, (S.row s).come⟩])
  have f := fr_set (fr_set (fr_set (fr_refl A.own h) (own_r A s) (o := .lst (rowD (sendR P m (S.row s))))) (own_fl A) (o := .lst ((S.flight ++ [(⟨S.tick, s, m, (S.row s).come⟩ : Pc)]).map pcD))) (own_lg A) (o := .lst ((S.log ++ [(⟨S.tick, s, m, (S.row s).come⟩ : Pc)]).map pcD))
  have q := kn [some (.ref A.w), some (.int (b2i s)), some (.int m), some (.ref (A.r s))] _ (q _ ⟨A.fl, .inl rfl, W', f⟩)
  simp (maxDischargeDepth := 6) [-Bool.forall_bool, -Bool.exists_bool, -List.lookup_eq_none_iff, e0, e1, e2, e3, rowD, toldD, a1, a2, a3, a4, a5, a6, a7, a8, a9, a10, a11, a12, l1, l2]
  simp only [List.map_append, List.map_cons, List.map_nil, rowD, sendR, optD, pcD] at q
  by_cases z1 : 0 < m
  · by_cases z2 : m < P.size
    · simpa [-Bool.forall_bool, -Bool.exists_bool, -List.lookup_eq_none_iff, z1, z2] using q
    · simpa [-Bool.forall_bool, -Bool.exists_bool, -List.lookup_eq_none_iff, z1, z2] using q
  · simpa [-Bool.forall_bool, -Bool.exists_bool, -List.lookup_eq_none_iff, z1] using q
theorem V_law_leave : ∀ ds h Q E, ds.length = 1 → G_law_leave ds h Q E → b_law_leave (startD N_law_leave ds) h (bodyK Q E) := by
  rintro ds h Q E _ ⟨A, P, S, B, L, rfl, W, hP, g, hB, hL, q⟩
  show b_law_leave [some (.ref A.w), none, none, none] h _
  refine byK fun κ kr kn ke => ?_
  unfold b_law_leave
  have one : ∀ (s : Bool) (A : WIx) (S : St) (B L : Int) (u v w : Option D) (h : LH) (K : LK), Good P B L S → B ≤ 100000 → L ≤ 100010 → WorldAt A P S h → (∀ h' v w, WorldLater A P (leave1 P s S) h h' → K.nx [some (.ref A.w), some (.int (b2i s)), v, w] h') →
      gNm 1 (.int (b2i s)) [some (.ref A.w), u, v, w] h (fun σ2 h2 => (sSeq (sPar 2 3 (eCons (eOp oIx (eOp oIx (eVar 0) (eC (.int 2))) (eVar 1)) (eCons (eOp oIx (eOp oIx (eVar 0) (eC (.int 0))) (eOp oPlus (eC (.int 2)) (eVar 1))) eNil)))
  (sIf (eOr (eTest (eOp oGe (eOp oIx (eVar 2) (eC (.int 6))) (eOp oIx (eVar 3) (eC (.int 1))))) (eAnd (eTest (eOp oNotN (eOp oIx (eVar 2) (eC (.int 7))) (eC .non))) (eTest (eOp oGe (eOp oIx (eVar 0) (eC (.int 1))) (eOp oPlus (eOp oIx (eVar 2) (eC (.int 7))) (eOp oIx (eVar 3) (eC (.int 2))))))))
  (sExpr (eCall G_law_send 3 (eCons (eVar 0) (eCons (eVar 1) (eCons (eC (.int 0)) eNil)))))
  sNil)) σ2 h2 K) (exOf K [some (.ref A.w), u, v, w]) := by
    intro s A S B L u v w h K g hB hL W hK
    have bd := g.lg
    have b2 := g.fl
    have c := g.sentLe false
    have c2 := g.sentLe true
    have e0 := W.w
    have e1 := W.r s
    have dn : ∀ w, dueR P s S.tick (S.row s) = true → G_law_send [.ref A.w, .int (b2i s), .int 0] h (fun x h1 => K.nx [some (.ref A.w), some (.int (b2i s)), some (.ref (A.r s)), w] h1) (fun cl fs h => K.ex cl fs [some (.ref A.w), some (.int (b2i s)), some (.ref (A.r s)), w] h) := by
      intro w z
      refine ⟨A, P, S, s, 0, rfl, W, by omega, by omega, fun h' l => hK h' _ _ ?_⟩
      unfold leave1
      rw [if_pos z]; exact l
    have dd : ∀ w, dueR P s S.tick (S.row s) = false → K.nx [some (.ref A.w), some (.int (b2i s)), some (.ref (A.r s)), w] h := by
      intro w z
      refine hK h _ _ ?_
      unfold leave1
      rw [if_neg (by rw [z]; decide)]; exact later_refl W
    simp [-Bool.forall_bool, -Bool.exists_bool, -List.lookup_eq_none_iff, e0, e1, rowD, toldD]
    simp [-Bool.forall_bool, -Bool.exists_bool, -List.lookup_eq_none_iff, e0, e1, rowD, wayD]
    have oN : ∀ o : Option Int, (optD o).isNon = decide (o = none) := by intro o; cases o <;> rfl
    unfold dueR at dn dd
    split
    · rename_i z
      exact dn _ (by simp [-Bool.forall_bool, -Bool.exists_bool, -List.lookup_eq_none_iff, z])
    · rename_i z
      rw [oN]
      cases zf : (S.row s).first with
      | none => simpa [-Bool.forall_bool, -Bool.exists_bool, -List.lookup_eq_none_iff] using dd _ (by rw [zf]; simp [-Bool.forall_bool, -Bool.exists_bool, -List.lookup_eq_none_iff]; omega)
      | some f =>
        simp [-Bool.forall_bool, -Bool.exists_bool, -List.lookup_eq_none_iff, optD]
        rw [zf] at dn dd
        split
        · rename_i z2
          exact dn _ (by simp [-Bool.forall_bool, -Bool.exists_bool, -List.lookup_eq_none_iff, z2])
        · rename_i z2
          exact dd _ (by simp [-Bool.forall_bool, -Bool.exists_bool, -List.lookup_eq_none_iff]; omega)
  simp [-Bool.forall_bool, -Bool.exists_bool, -List.lookup_eq_none_iff]
  refine forAt_two (fun _ => trivial) ?_
  refine one false A S B L none none none h _ g hB (by omega) W fun h1 v1 w1 l1 => ?_
  obtain ⟨fl, efl, W1, f1⟩ := l1
  refine one true { A with fl := fl } _ B (L + 1) _ v1 w1 h1 _ g.leave1 hB (by omega) W1 fun h2 v2 w2 l2 => ?_
  exact kn _ _ (q _ (later_trans W efl W1 f1 l2))
theorem WorldAt.newFl {A : WIx} {h : LH} (W : WorldAt A P S h) (ps : List Pc) : WorldAt { A with fl := h.length } P { S with flight := ps } ((h.set A.w (.lst [toldD P, .int S.tick, .lst (prD fun s => .ref (A.r s)), .ref h.length, .ref A.lg])) ++ [O.lst (ps.map pcD)]) := by
  have lw := W.lt (own_w A)
  have lr := fun s => W.lt (own_r A s)
  have ll := W.lt (own_lg A)
  have o := W.ok
  refine ⟨⟨o.wr, by show A.w ≠ h.length; omega, o.wl, o.rr, fun s => by show A.r s ≠ h.length; have := lr s; omega, o.rl, by show h.length ≠ A.lg; omega⟩, ?_, fun t => ?_, ?_, ?_⟩
  · exact app_old (set_get W.w)
  · exact app_old (by rw [List.getElem?_set_ne (o.wr t)]; exact W.r t)
  · show (_ ++ [O.lst (ps.map pcD)])[h.length]? = _
    rw [List.getElem?_append_right (by simp [-Bool.forall_bool, -Bool.exists_bool, -List.lookup_eq_none_iff])]; simp [-Bool.forall_bool, -Bool.exists_bool, -List.lookup_eq_none_iff]
  · exact app_old (by rw [List.getElem?_set_ne o.wl]; exact W.lg)
theorem V_law_land : ∀ ds h Q E, ds.length = 1 → G_law_land ds h Q E → b_law_land (startD N_law_land ds) h (bodyK Q E) := by
  rintro ds h Q E _ ⟨A, P, S, B, L, rfl, W, hP, g, hB, hL, q⟩
  show b_law_land [some (.ref A.w), none, none, none, none] h _
  refine byK fun κ kr kn ke => ?_
  unfold b_law_land
  have bd := bound_of g hB hL
  have e0 := W.w
  have e2 := W.fl
  simp [-Bool.forall_bool, -Bool.exists_bool, -List.lookup_eq_none_iff, e0, e2, toldD]
  refine comp_pure (fun d => match d with | .tup (.int b :: _) => if b ≤ S.tick - P.way then some d else none | _ => none) e2 (by simp [-Bool.forall_bool, -Bool.exists_bool, -List.lookup_eq_none_iff]; exact lt_sizeLine (by omega)) ?_ ?_
  · intro x hx R hR
    obtain ⟨p, hp, rfl⟩ := List.mem_map.mp hx
    simp [-Bool.forall_bool, -Bool.exists_bool, -List.lookup_eq_none_iff, pcD] at hR ⊢
    split
    · rename_i z; rw [if_pos z] at hR; exact hR
    · rename_i z; rw [if_neg z] at hR; exact hR
  have fm1 : ∀ ps : List Pc, ((ps.map pcD).filterMap fun d => match d with | .tup (.int b :: _) => if b ≤ S.tick - P.way then some d else none | _ => none) = (here P S.tick ps).map pcD := by
    intro ps
    induction ps with
    | nil => rfl
    | cons p ps ih =>
      unfold here at *
      rw [List.map_cons, List.filterMap_cons, ih, List.filter_cons]
      by_cases z : p.born ≤ S.tick - P.way
      · simp [-Bool.forall_bool, -Bool.exists_bool, -List.lookup_eq_none_iff, pcD, z]
      · simp [-Bool.forall_bool, -Bool.exists_bool, -List.lookup_eq_none_iff, pcD, z]
  simp only [fm1]
  obtain ⟨I, hI⟩ : ∃ I : Nat → LV → LH → Prop, I = (fun i σ' h' => ∃ a b, σ' = [some (.ref A.w), some (.int (S.tick - P.way)), a, b, none] ∧ WorldAt A P (((here P S.tick S.flight).take i).foldl (landOne P) S) h' ∧ Fr A.own h h') := ⟨_, rfl⟩
  refine forBy I (by rw [hI]; exact ⟨_, _, rfl, W, fr_refl _ _⟩) (fun _ _ _ _ _ => trivial) ?_ ?_
  · intro i x σ' h' hx hh
    rw [hI] at hh
    obtain ⟨a, b, rfl, W', f⟩ := hh
    rw [List.getElem?_map] at hx
    obtain ⟨p, hp, rfl⟩ := Option.map_eq_some_iff.mp hx
    have c0 := W'.w
    have c1 := W'.r (!p.side)
    obtain ⟨a1, a2, a3, a4, a5, a6, a7, a8, a9, a10, a11, a12⟩ := W.ok.apart (!p.side)
    have oN : ∀ o : Option Int, (optD o).isNon = decide (o = none) := by intro o; cases o <;> rfl
    have tk : (((here P S.tick S.flight).take i).foldl (landOne P) S).tick = S.tick := fold_land.1
    have st : ((here P S.tick S.flight).take (i + 1)).foldl (landOne P) S = landOne P (((here P S.tick S.flight).take i).foldl (landOne P) S) p := by
      rw [List.take_succ, hp, List.foldl_append]; rfl
    generalize hS : ((here P S.tick S.flight).take i).foldl (landOne P) S = S1 at *
    have fin : ∀ h2 v, h2 = h'.set (A.r !p.side) (.lst (rowD (landR P S1.tick p (S1.row !p.side)))) → opq I (i + 1) [some (.ref A.w), some (.int (S.tick - P.way)), some (pcD p), v, none] h2 := by
      rintro h2 v rfl
      show I _ _ _
      rw [hI]
      refine ⟨_, _, rfl, ?_, fr_set f (own_r A _)⟩
      rw [st]
      exact W'.rowS _
    simp [-Bool.forall_bool, -Bool.exists_bool, -List.lookup_eq_none_iff, c0, c1, rowD, pcD, toldD, oN, a1, a2, set_get c1]
    by_cases z1 : 0 < p.amt
    · rw [if_pos z1]
      by_cases z3 : (S1.row !p.side).first = none
      · rw [if_pos z3]
        exact fin _ _ (by simp [-Bool.forall_bool, -Bool.exists_bool, -List.lookup_eq_none_iff, rowD, landR, z1, z3, optD])
      · rw [if_neg z3]
        exact fin _ _ (by simp [-Bool.forall_bool, -Bool.exists_bool, -List.lookup_eq_none_iff, rowD, landR, z3])
    · rw [if_neg z1]
      exact fin _ _ (by simp [-Bool.forall_bool, -Bool.exists_bool, -List.lookup_eq_none_iff, rowD, landR, z1])
  intro σ' h' hh
  rw [hI] at hh
  obtain ⟨a, b, rfl, W', f⟩ := hh
  rw [show ((⟨List.map pcD (here P S.tick S.flight), fun _ => True⟩ : LIt).items).length = (here P S.tick S.flight).length by simp [-Bool.forall_bool, -Bool.exists_bool, -List.lookup_eq_none_iff], List.take_length] at W'
  have c0 := W'.w
  have c2 := W'.fl
  have ef : (List.foldl (landOne P) S (here P S.tick S.flight)).flight = S.flight := fold_land.2.1
  have et : (List.foldl (landOne P) S (here P S.tick S.flight)).tick = S.tick := fold_land.1
  rw [ef] at c2
  simp [-Bool.forall_bool, -Bool.exists_bool, -List.lookup_eq_none_iff, c0, c2]
  refine comp_pure (fun d => match d with | .tup (.int b :: _) => if S.tick - P.way < b then some d else none | _ => none) c2 (by simp [-Bool.forall_bool, -Bool.exists_bool, -List.lookup_eq_none_iff]; exact lt_sizeLine (by omega)) ?_ ?_
  · intro x hx R hR
    obtain ⟨p, hp, rfl⟩ := List.mem_map.mp hx
    simp [-Bool.forall_bool, -Bool.exists_bool, -List.lookup_eq_none_iff, pcD] at hR ⊢
    split
    · rename_i z; rw [if_pos z] at hR; exact hR
    · rename_i z; rw [if_neg z] at hR; exact hR
  have fm2 : ∀ ps : List Pc, ((ps.map pcD).filterMap fun d => match d with | .tup (.int b :: _) => if S.tick - P.way < b then some d else none | _ => none) = (away P S.tick ps).map pcD := by
    intro ps
    induction ps with
    | nil => rfl
    | cons p ps ih =>
      unfold away at *
      rw [List.map_cons, List.filterMap_cons, ih, List.filter_cons]
      by_cases z : S.tick - P.way < p.born
      · simp [-Bool.forall_bool, -Bool.exists_bool, -List.lookup_eq_none_iff, pcD, z]
      · simp [-Bool.forall_bool, -Bool.exists_bool, -List.lookup_eq_none_iff, pcD, z]
  simp only [fm2]
  have W2 := W'.newFl (away P S.tick S.flight)
  have lw := W'.lt (own_w A)
  have q := kn [some (.ref A.w), some (.int (S.tick - P.way)), a, b, none] _ (q _ ⟨h'.length, .inr f.len, W2, ?_⟩)
  · simp [-Bool.forall_bool, -Bool.exists_bool, -List.lookup_eq_none_iff, c0, lw, app_setOld]
    exact q
  · have f2 := fr_set f (own_w A) (o := .lst [toldD P, .int S.tick, .lst (prD fun s => .ref (A.r s)), .ref h'.length, .ref A.lg])
    rw [et]
    refine ⟨by rw [List.length_append]; have := f2.len; omega, fun i hi hn => ?_⟩
    rw [List.getElem?_append_left (Nat.lt_of_lt_of_le hi f2.len)]
    exact f2.same i hi hn
end LL.K67
end

section
set_option Elab.async false
set_option linter.all false
set_option maxRecDepth 100000
/-! K67ValA: the law's own walk, continued. -/
namespace LL.K67
open PySem LL
variable {P : Par} {S : St} {s : Bool} {B L : Int}
theorem V_law_free : ∀ ds h Q E, ds.length = 2 → G_law_free ds h Q E → b_law_free (startD N_law_free ds) h (bodyK Q E) := by
  rintro ds h Q E _ ⟨A, P, S, s, B, L, rfl, W, hP, g, hB, hL, q⟩
  show b_law_free [some (.ref A.w), some (.int (b2i s)), none, none, none, none] h _
  refine byK fun κ kr kn ke => ?_
  unfold b_law_free
  have e0 := W.w
  have e1 := W.r s
  have s1 := hP.s1
  have s2 := hP.s2
  have k0 := g.k0 s
  have kb := g.kb s
  have ks := g.s0 s
  have d0 : 0 ≤ (S.row s).kept / P.size := Int.ediv_nonneg k0 (by omega)
  have d1 : (S.row s).kept / P.size ≤ (S.row s).kept := Int.ediv_le_self _ k0
  have dv : L2.CDiv (S.row s).kept P.size := ⟨by omega, by omega⟩
  simp [-Bool.forall_bool, -Bool.exists_bool, -List.lookup_eq_none_iff, e0, e1, toldD, rowD]
  simp [-Bool.forall_bool, -Bool.exists_bool, -List.lookup_eq_none_iff, wayD, dv]
  refine ⟨by omega, by omega, ?_⟩
  generalize hN : ((S.row s).kept / P.size).toNat = N
  obtain ⟨I, hI⟩ : ∃ I : Nat → LV → LH → Prop, I = (fun i σ' h' => ∃ a, σ' = [some (.ref A.w), some (.int (b2i s)), some (.ref (A.r s)), some (.str (ruleS (P.rule s))), a, none] ∧ WorldLater A P (sends P s i S) h h') := ⟨_, rfl⟩
  refine forBy I (by rw [hI]; exact ⟨_, rfl, later_refl W⟩) (fun _ _ _ _ _ => trivial) ?_ ?_
  · intro i x σ' h' hx hh
    rw [hI] at hh
    obtain ⟨a, rfl, fl, efl, W', f⟩ := hh
    obtain ⟨hi, rfl⟩ := rngD_get hx
    have rm := sends_room (s := s) hP g (i := i) (by omega)
    have bd := bound_of (g.sends hP i rm) hB hL
    have c0 : h'[A.w]? = _ := W'.w
    simp [-Bool.forall_bool, -Bool.exists_bool, -List.lookup_eq_none_iff, c0, toldD]
    refine ⟨{ A with fl := fl }, P, _, s, P.size, rfl, W', bd.2.1, bd.2.2, fun h2 l => ?_⟩
    show I _ _ _
    rw [hI]
    exact ⟨_, rfl, later_trans W efl W' f l⟩
  intro σ' h' hh
  rw [hI] at hh
  obtain ⟨a, rfl, fl, efl, W', f⟩ := hh
  simp only [rngD_len] at W'
  have rm := sends_room (s := s) hP g (i := N) (by omega)
  have g' := g.sends hP N rm
  have bd := bound_of g' hB hL
  have c0 : h'[A.w]? = _ := W'.w
  have c1 : h'[A.r s]? = _ := W'.r s
  have r := hP.r s
  unfold free at q
  simp only [hN] at q
  generalize hS : sends P s N S = S1 at *
  have go : letsR P s (S1.row s) = true → 0 < (S1.row s).kept → ∀ v, G_law_send [.ref A.w, .int (b2i s), .int (S1.row s).kept] h' (fun x h1 => κ.nx [some (.ref A.w), some (.int (b2i s)), some (.ref (A.r s)), some (.str (ruleS (P.rule s))), a, v] h1) (fun cl fs h => κ.ex cl fs [some (.ref A.w), some (.int (b2i s)), some (.ref (A.r s)), some (.str (ruleS (P.rule s))), a, v] h) := by
    intro z1 z2 v
    rw [if_pos ⟨z2, z1⟩] at q
    exact ⟨{ A with fl := fl }, P, S1, s, _, rfl, W', bd.2.1, bd.2.2, fun h2 l => kn _ _ (q _ (later_trans W efl W' f l))⟩
  have stay : ¬ (0 < (S1.row s).kept ∧ letsR P s (S1.row s) = true) → ∀ v, κ.nx [some (.ref A.w), some (.int (b2i s)), some (.ref (A.r s)), some (.str (ruleS (P.rule s))), a, v] h' := by
    intro z v
    rw [if_neg z] at q
    exact kn _ _ (q _ ⟨fl, efl, W', f⟩)
  unfold letsR at go stay
  simp [-Bool.forall_bool, -Bool.exists_bool, -List.lookup_eq_none_iff, c0, c1, toldD, rowD, ruleS_hold r, ruleS_plain r]
  (repeat' split) <;> first | (refine go ?_ (by assumption) _; simp [-Bool.forall_bool, -Bool.exists_bool, -List.lookup_eq_none_iff, *]; done) | (refine go ?_ (by assumption) _; simp [-Bool.forall_bool, -Bool.exists_bool, -List.lookup_eq_none_iff, *]; omega) | (refine stay ?_ _; simp [-Bool.forall_bool, -Bool.exists_bool, -List.lookup_eq_none_iff, *]; done)
theorem V_law_waited : ∀ ds h Q E, ds.length = 2 → G_law_waited ds h Q E → b_law_waited (startD N_law_waited ds) h (bodyK Q E) := by
  rintro ds h Q E _ ⟨A, P, S, B, L, n, rfl, W, hP, g, hB, hL, hn, q⟩
  show b_law_waited [some (.ref A.w), some (.int n), none] h _
  refine byK fun κ kr kn ke => ?_
  unfold b_law_waited
  simp [-Bool.forall_bool, -Bool.exists_bool, -List.lookup_eq_none_iff]
  refine ⟨by omega, ?_⟩
  obtain ⟨I, hI⟩ : ∃ I : Nat → LV → LH → Prop, I = (fun i σ' h' => ∃ a, σ' = [some (.ref A.w), some (.int n), a] ∧ WorldLater A P (waited P i S) h h') := ⟨_, rfl⟩
  refine forBy I (by rw [hI]; exact ⟨_, rfl, later_refl W⟩) (fun _ _ _ _ _ => trivial) ?_ ?_
  · intro i x σ' h' hx hh
    rw [hI] at hh
    obtain ⟨a, rfl, fl, efl, W', f⟩ := hh
    obtain ⟨hi, rfl⟩ := rngD_get hx
    have gw : Good P B (L + 2 * i) (waited P i S) := g.waited hP i
    simp [-Bool.forall_bool, -Bool.exists_bool, -List.lookup_eq_none_iff]
    refine ⟨{ A with fl := fl }, P, _, B, L + 2 * i, rfl, W', hP, gw, hB, by omega, fun h1 l1 => ?_⟩
    obtain ⟨fl1, efl1, W1, f1⟩ := later_trans W efl W' f l1
    have c0 : h1[A.w]? = _ := W1.w
    simp [-Bool.forall_bool, -Bool.exists_bool, -List.lookup_eq_none_iff, c0]
    have W2 := W1.tickS ((waited P i S).tick + 1)
    have f2 := fr_set f1 (own_w A) (o := .lst [toldD P, .int ((waited P i S).tick + 1), .lst (prD fun s => .ref (A.r s)), .ref fl1, .ref A.lg])
    have g2 : Good P B (L + 2 * i + 2) (at_ ((waited P i S).tick + 1) (leave P (waited P i S))) := gw.leave.at (by rw [leave_tick]; omega)
    refine ⟨{ A with fl := fl1 }, P, _, B, L + 2 * i + 2, rfl, W2, hP, g2, hB, by omega, fun h3 l3 => ?_⟩
    obtain ⟨fl3, efl3, W3, f3⟩ := later_trans W efl1 W2 f2 l3
    refine ⟨{ A with fl := fl3 }, P, _, false, B, L + 2 * i + 2, rfl, W3, hP, g2.land, hB, by omega, fun h4 l4 => ?_⟩
    obtain ⟨fl4, efl4, W4, f4⟩ := later_trans W efl3 W3 f3 l4
    refine ⟨{ A with fl := fl4 }, P, _, true, B, L + 2 * i + 2, rfl, W4, hP, g2.land.free hP, hB, by omega, fun h5 l5 => ?_⟩
    show I _ _ _
    rw [hI]
    exact ⟨_, rfl, later_trans W efl4 W4 f4 l5⟩
  intro σ' h' hh
  rw [hI] at hh
  obtain ⟨a, rfl, l⟩ := hh
  simp only [rngD_len, Int.toNat_natCast] at l
  exact kn _ _ (q _ l)
theorem V_law_done : ∀ ds h Q E, ds.length = 2 → G_law_done ds h Q E → b_law_done (startD N_law_done ds) h (bodyK Q E) := by
  rintro ds h Q E _ ⟨A, P, S, B, L, j, rfl, W, fin, hj, q⟩
  show b_law_done [some (.ref A.w), some (jobD j), none] h _
  refine byK fun κ kr kn ke => ?_
  unfold b_law_done
  have hP := fin.p
  have hB := fin.b
  have hL := fin.l
  have e0 := W.w
  cases j with
  | wait m =>
    obtain ⟨m1, m2⟩ := hj
    have e : (m.toNat : Int) = m := Int.toNat_of_nonneg (by omega)
    simp [-Bool.forall_bool, -Bool.exists_bool, -List.lookup_eq_none_iff, jobD, rjobD, Job.raw]
    refine ⟨A, P, S, B, L, m.toNat, by rw [e], W, hP, fin.g, by omega, by omega, by omega, fun h1 l => ?_⟩
    obtain ⟨fl, efl, W1, f1⟩ := id l
    have c0 : h1[A.w]? = _ := W1.w
    simp [-Bool.forall_bool, -Bool.exists_bool, -List.lookup_eq_none_iff, c0]
    exact kr _ _ (q _ l)
  | write s m =>
    obtain ⟨m1, m2⟩ := hj
    have e1 := W.r s
    simp [-Bool.forall_bool, -Bool.exists_bool, -List.lookup_eq_none_iff, jobD, rjobD, Job.raw, e0, e1, rowD]
    have W1 := W.rowS (s := s) { S.row s with kept := (S.row s).kept + m }
    have f1 := fr_set (fr_refl A.own h) (own_r A s) (o := .lst (rowD { S.row s with kept := (S.row s).kept + m }))
    refine ⟨A, P, wrote s m S, s, B + m, L, rfl, W1, hP, fin.g.wrote (by omega), by omega, by omega, fun h2 l => ?_⟩
    have l2 := later_trans W (.inl rfl) W1 f1 l
    obtain ⟨fl, efl, W2, f2⟩ := id l2
    have c1 : h2[A.r s]? = _ := W2.r s
    simp [-Bool.forall_bool, -Bool.exists_bool, -List.lookup_eq_none_iff, c1, rowD]
    exact kr _ _ (q _ l2)
  | read s m =>
    have e1 := W.r s
    simp [-Bool.forall_bool, -Bool.exists_bool, -List.lookup_eq_none_iff, jobD, rjobD, Job.raw, e0, e1, rowD]
    have W1 := W.rowS (s := s) { S.row s with taken := (S.row s).taken + m }
    have f1 := fr_set (fr_refl A.own h) (own_r A s) (o := .lst (rowD { S.row s with taken := (S.row s).taken + m }))
    have l2 : WorldLater A P (Job.run P S (.read s m)) h _ := ⟨A.fl, .inl rfl, W1, f1⟩
    have q := kr _ _ (q _ l2)
    simp [-Bool.forall_bool, -Bool.exists_bool, -List.lookup_eq_none_iff, Job.ans, Job.run, readS] at q
    exact q
theorem leS_pc (a b : Pc) : leS (pcD a) (pcD b) = le2P a b := by
  show decide (a.born * 2 + b2i a.side ≤ b.born * 2 + b2i b.side) = decide _
  have h1 := b2i_nn a.side
  have h2 := b2i_le a.side
  have h3 := b2i_nn b.side
  have h4 := b2i_le b.side
  by_cases z : a.born * 2 + b2i a.side ≤ b.born * 2 + b2i b.side
  · rw [decide_eq_true z, eq_comm, decide_eq_true_eq]; omega
  · rw [decide_eq_false z, eq_comm, decide_eq_false_iff_not]; omega
theorem sortS_map (ps : List Pc) : (ps.map pcD).mergeSort leS = (sorted ps).map pcD := by
  unfold sorted
  rw [← List.map_mergeSort]
  · intro a _ b _; exact (leS_pc a b).symm
theorem V_law_listed : ∀ ds h Q E, ds.length = 1 → G_law_listed ds h Q E → b_law_listed (startD N_law_listed ds) h (bodyK Q E) := by
  rintro ds h Q E _ ⟨lg, ps, rfl, hl, hn, q⟩
  show b_law_listed [some (.ref lg)] h _
  refine byK fun κ kr kn ke => ?_
  unfold b_law_listed
  simp [-Bool.forall_bool, -Bool.exists_bool, -List.lookup_eq_none_iff, hl, sortS_map]
  exact ⟨fun _ _ => rfl, kr _ _ q⟩
end LL.K67
end

section
set_option Elab.async false
set_option linter.all false
set_option maxRecDepth 100000
/-! K67ValB: what is shown, the law. -/
namespace LL.K67
open PySem LL
variable {P : Par} {S : St} {s : Bool} {B L : Int}
theorem comp_pr {J : LIt} {p : Pt} {e : LE} {vs : List Nat} {σ : LV} {h : LH} {Q : List D → LH → Prop} {f : Bool → D} (g : Bool → D) (hJ : J.items = prD f) (hok : J.ok h)
    (hst : ∀ s, ∀ R : D → LH → Prop, R (g s) h → p.st (f s) (lwipe σ vs) fun σ2 => e σ2 h R (fun _ _ _ => False)) (q : Q (prD g) h) : compAt J p eYes e vs σ h Q := by
  refine ⟨fun i acc h' => acc = (prD g).take i ∧ h' = h, ⟨rfl, rfl⟩, fun i acc h' _ hI => by rw [hI.2]; exact hok, ?_, ?_⟩
  · rintro i x acc h' hx ⟨rfl, rfl⟩
    rw [hJ] at hx
    have hi := (List.getElem?_eq_some_iff.mp hx).1
    have : i = 0 ∨ i = 1 := by rw [prD_len] at hi; omega
    rcases this with rfl | rfl
    · cases hx
      have := hst false (fun y h3 => ((prD g).take 0).length < sizeLine ∧ (prD g).take 0 ++ [y] = (prD g).take (0 + 1) ∧ h3 = h') ⟨lt_sizeLine (by simp [-Bool.forall_bool, -Bool.exists_bool, -List.lookup_eq_none_iff, prD]), rfl, rfl⟩
      simpa [-Bool.forall_bool, -Bool.exists_bool, -List.lookup_eq_none_iff, eYes] using this
    · cases hx
      have := hst true (fun y h3 => ((prD g).take 1).length < sizeLine ∧ (prD g).take 1 ++ [y] = (prD g).take (1 + 1) ∧ h3 = h') ⟨lt_sizeLine (by simp [-Bool.forall_bool, -Bool.exists_bool, -List.lookup_eq_none_iff, prD]), rfl, rfl⟩
      simpa [-Bool.forall_bool, -Bool.exists_bool, -List.lookup_eq_none_iff, eYes] using this
  · rintro acc h' ⟨rfl, rfl⟩
    rw [hJ]; exact q
/-- pieces as data -/
def pcPy (p : Pc) : PyData := .tuple [.int p.born, .int (b2i p.side), .int p.amt, .int p.ans]
theorem dPy_pc (p : Pc) : dPy (pcD p) = some (pcPy p) := rfl
theorem dPys_pc : ∀ ps : List Pc, dPys (ps.map pcD) = some (ps.map pcPy)
  | [] => rfl
  | p :: ps => by rw [List.map_cons, dPys, dPy_pc, dPys_pc ps]; rfl
theorem lay_pc : ∀ ps : List Pc, PyData.canLayAll0 (ps.map pcPy) = true
  | [] => rfl
  | p :: ps => by rw [List.map_cons, PyData.canLayAll0, lay_pc ps]; rfl
theorem depth_pc : ∀ ps : List Pc, PyData.depthAll (ps.map pcPy) ≤ 1
  | [] => by decide
  | p :: ps => by
    rw [List.map_cons, PyData.depthAll]
    have := depth_pc ps
    have e : PyData.depth (pcPy p) = 1 := rfl
    omega
theorem shaped_pc (ps : List Pc) : SeqAt.shaped (.list (ps.map pcPy)) = true := by
  unfold SeqAt.shaped
  have := depth_pc ps
  have e : PyData.depth (.list (ps.map pcPy)) = PyData.depthAll (ps.map pcPy) + 1 := rfl
  rw [e, Bool.and_eq_true]
  exact ⟨lay_pc ps, by simp [-Bool.forall_bool, -Bool.exists_bool, -List.lookup_eq_none_iff]; omega⟩
theorem eqv_nil (ps : List Pc) : (!PyData.eqv (.list (ps.map pcPy)) (.list [])) = decide (ps ≠ []) := by
  cases ps with
  | nil => rfl
  | cons p ps => rfl
theorem V_law_view : ∀ ds h Q E, ds.length = 1 → G_law_view ds h Q E → b_law_view (startD N_law_view ds) h (bodyK Q E) := by
  rintro ds h Q E _ ⟨A, P, S, B, L, rfl, W, g, hB, hL, ht, q⟩
  show b_law_view [some (.ref A.w), none, none, none, none] h _
  refine byK fun κ kr kn ke => ?_
  unfold b_law_view
  have e0 := W.w
  have e1 := W.r
  have e2 := W.fl
  have e3 := W.lg
  have bd := bound_of g hB hL
  simp [-Bool.forall_bool, -Bool.exists_bool, -List.lookup_eq_none_iff, e0]
  refine comp_pr (f := fun s => .ref (A.r s)) (fun s => .int (kpt S s)) rfl trivial (fun s R hR => by simpa [-Bool.forall_bool, -Bool.exists_bool, -List.lookup_eq_none_iff, e1 s, rowD, kpt] using hR) ?_
  refine comp_pr (f := fun s => .ref (A.r s)) (fun s => .int (unr S s)) rfl trivial (fun s R hR => by simpa [-Bool.forall_bool, -Bool.exists_bool, -List.lookup_eq_none_iff, e1 s, rowD, unr] using hR) ?_
  refine comp_pr (f := fun s => .ref (A.r s)) (fun s => .int (una S s)) rfl trivial (fun s R hR => by simpa [-Bool.forall_bool, -Bool.exists_bool, -List.lookup_eq_none_iff, e1 s, rowD, una] using hR) ?_
  refine ⟨A.lg, S.log, rfl, e3, by omega, ?_⟩
  simp [-Bool.forall_bool, -Bool.exists_bool, -List.lookup_eq_none_iff, e0, e2, e3]
  refine name_fits g.t0 ht (by omega) ⟨.list (S.log.map pcPy), .list [], ?_, rfl, shaped_pc _, by decide +kernel, ?_⟩
  · show (match h[A.lg]? with | some (.lst ds) => (dPys ds).map PyData.list | _ => none) = _
    rw [e3]
    show (dPys (S.log.map pcD)).map PyData.list = _
    rw [dPys_pc]; rfl
  · rw [eqv_nil]
    exact kr _ _ q
/-! ### the texts -/
def pyTwo (f : Bool → Int) : PyData := .tuple [.int (f false), .int (f true)]
def pyShown (S : St) : PyData := .list [.int S.tick, pyTwo (kpt S), pyTwo (unr S), pyTwo (una S), .tuple ((sorted S.log).map pcPy), .int S.flight.length, .bool false, .int S.log.length, .str (nameS S), .bool (decide (S.log ≠ []))]
theorem py_shown (S : St) : dPy (shownD S) = some (pyShown S) := by
  have e : dPy (.tup ((sorted S.log).map pcD)) = some (.tuple ((sorted S.log).map pcPy)) := by rw [dPy, dPys_pc]; rfl
  simp only [shownD, pyShown, dPy, dPys, dPys_pc, prD, pyTwo, Option.map]
/-- a number of few figures -/
theorem int_shown {i : Int} (h0 : 0 ≤ i) (h1 : i < 100000) : (PyData.shown (.int i)).length ≤ 8 := by
  have := PyProof.Rows.toString_length_le (v := i) h0 (k := 5) (by decide) (by omega)
  show (Str.ofString (toString i)).length ≤ 8
  omega
theorem int_weight {i : Int} (h0 : 0 ≤ i) (h1 : i < 100000) : PyData.weight (.int i) ≤ 17 := by
  have : i.natAbs < 2 ^ 17 := by
    have e : (2 : Nat) ^ 17 = 131072 := by decide
    omega
  show (if i == 0 then 0 else i.natAbs.log2 + 1) ≤ 17
  split
  · omega
  · have := PySem.Flt.log2_lt_of (k := 17) (by decide) this
    omega
theorem int_showable {i : Int} (h0 : 0 ≤ i) (h1 : i < 100000) : PyData.showable (.int i) = true := by
  show decide (i.natAbs.log2 < 1920) = true
  exact decide_eq_true (log2_small h0 (by omega))
def small (i : Int) : Prop := 0 ≤ i ∧ i < 100000
structure PcS (p : Pc) : Prop where
  a : small p.born
  c : small p.amt
  d : small p.ans
theorem b2i_small (s : Bool) : small (b2i s) := by cases s <;> (unfold small; decide)
theorem pcs_short : ∀ {ps : List Pc}, (∀ p ∈ ps, PcS p) → PyData.leavesShortAll 8 (ps.map pcPy) = true ∧ PyData.showableAll (ps.map pcPy) = true ∧ PyData.weightAll (ps.map pcPy) ≤ 73 * ps.length
  | [], _ => ⟨rfl, rfl, Nat.le_refl _⟩
  | p :: ps, h => by
    obtain ⟨i1, i2, i3⟩ := pcs_short (ps := ps) fun q hq => h q (List.mem_cons_of_mem _ hq)
    obtain ⟨⟨a0, a1⟩, ⟨c0, c1⟩, ⟨d0, d1⟩⟩ := h p List.mem_cons_self
    obtain ⟨b0, b1⟩ := b2i_small p.side
    refine ⟨?_, ?_, ?_⟩
    · rw [List.map_cons, PyData.leavesShortAll, i1, Bool.and_true]
      simp [-Bool.forall_bool, -Bool.exists_bool, -List.lookup_eq_none_iff, pcPy, PyData.leavesShort, PyData.leavesShortAll, int_shown a0 a1, int_shown b0 b1, int_shown c0 c1, int_shown d0 d1]
    · rw [List.map_cons, PyData.showableAll, i2, Bool.and_true]
      simp only [pcPy, PyData.showable, PyData.showableAll]
      have e1 := int_showable a0 a1
      have e2 := int_showable b0 b1
      have e3 := int_showable c0 c1
      have e4 := int_showable d0 d1
      simp only [PyData.showable] at e1 e2 e3 e4
      simp only [e1, e2, e3, e4, Bool.and_true]
    · rw [List.map_cons, PyData.weightAll, List.length_cons]
      have w1 := int_weight a0 a1
      have w2 := int_weight b0 b1
      have w3 := int_weight c0 c1
      have w4 := int_weight d0 d1
      have e : PyData.weight (pcPy p) = PyData.weight (.int p.born) + 1 + (PyData.weight (.int (b2i p.side)) + 1 + (PyData.weight (.int p.amt) + 1 + (PyData.weight (.int p.ans) + 1 + 0))) := rfl
      omega
end LL.K67
end

section
set_option Elab.async false
set_option linter.all false
set_option maxRecDepth 100000
/-! K67ValC: what stays true from deed to deed; the law. -/
namespace LL.K67
open PySem LL
variable {P : Par} {S : St} {s : Bool} {B L : Int}
theorem Tk.up {r : Row} {fl lg : List Pc} {t : Int} (k : Tk S) (h : 0 ≤ r.taken ∧ r.taken ≤ r.come ∧ 0 ≤ r.known) : Tk ⟨t, upR S.row s r, fl, lg⟩ := by
  intro u
  by_cases z : u = s
  · subst z; show 0 ≤ (upR S.row u r u).taken ∧ (upR S.row u r u).taken ≤ (upR S.row u r u).come ∧ 0 ≤ (upR S.row u r u).known; rw [upR_same]; exact h
  · show 0 ≤ (upR S.row s r u).taken ∧ (upR S.row s r u).taken ≤ (upR S.row s r u).come ∧ 0 ≤ (upR S.row s r u).known; rw [upR_ne z]; exact k u
theorem Tk.send {m : Int} (k : Tk S) : Tk (send P s m S) := k.up (k s)
theorem Tk.sends (k : Tk S) : ∀ n, Tk (sends P s n S)
  | 0 => k
  | n + 1 => (Tk.sends k n).send
theorem Tk.free (k : Tk S) : Tk (free P s S) := by
  unfold LL.K67.free
  simp only
  split
  · exact (k.sends _).send
  · exact k.sends _
theorem Tk.leave1 (k : Tk S) : Tk (leave1 P s S) := by
  unfold LL.K67.leave1
  split
  · exact k.send
  · exact k
theorem Tk.leave (k : Tk S) : Tk (leave P S) := k.leave1.leave1
theorem Tk.fold : ∀ {ps : List Pc} {S : St}, Tk S → (∀ p ∈ ps, 0 ≤ p.amt) → Tk (ps.foldl (landOne P) S)
  | [], _, k, _ => k
  | p :: ps, S, k, h => by
    refine Tk.fold (S := landOne P S p) ?_ fun q hq => h q (List.mem_cons_of_mem _ hq)
    have a := h p List.mem_cons_self
    have b := k (!p.side)
    refine k.up ⟨b.1, ?_, ?_⟩
    · show (S.row !p.side).taken ≤ (S.row !p.side).come + p.amt; omega
    · show 0 ≤ (if p.ans > (S.row !p.side).known then p.ans else (S.row !p.side).known)
      split <;> omega
theorem Tk.land (k : Tk S) (g : Good P B L S) : Tk (land P S) := Tk.fold k fun p hp => g.am p (List.mem_filter.mp hp).1
theorem Tk.begin {t : Int} (k : Tk S) (g : Good P B L S) (h : S.tick ≤ t) : Tk (begin_ P t S) := ((Tk.land (S := at_ t S) k (g.at h)).free).free
theorem Tk.waited (hP : P.Ok) (k : Tk S) (g : Good P B L S) : ∀ n, Tk (waited P n S)
  | 0 => k
  | n + 1 => ((Tk.waited hP k g n).leave).begin (B := B) (L := L + 2 * n + 2) ((g.waited hP n).leave) (by rw [leave_tick]; omega)
/-- a deed leads from what is fine to what is fine -/
theorem Fine.run (fin : Fine P S B L) {j : Job} (hj : j.Ok S) (hB : B + 60 ≤ 3000) (hL : L + 120 ≤ 6000) : Fine P (j.run P S) (B + 60) (L + 120) := by
  have hP := fin.p
  have moreB : ∀ {S : St} {B B' L : Int}, Good P B L S → B ≤ B' → Good P B' L S := fun g h => ⟨g.t0, g.k0, g.s0, g.c0, g.kn, fun s => Int.le_trans (g.kb s) h, g.eq, g.am, g.an, g.lg, g.fl, fun p hp => by
    obtain ⟨a, b, c, d, e, f⟩ := g.lp p hp
    exact ⟨a, b, c, Int.le_trans d h, e, Int.le_trans f h⟩⟩
  cases j with
  | write s m =>
    obtain ⟨m1, m2⟩ := hj
    have g := fin.g.wrote (s := s) (m := m) (by omega)
    have oth : ∀ t, t ≠ s → (wrote s m S).row t = S.row t := fun t h => upR_ne h
    refine ⟨hP, fun t => ?_, later_free hP (S := wrote s m S) fin.lat, (moreB (g.free hP) (by omega)).more (by omega), ?_, hB, hL⟩
    · by_cases z : t = s
      · subst z; exact free_settles hP (g.k0 t)
      · have : t = !s := by cases s <;> cases t <;> simp_all [-Bool.forall_bool, -Bool.exists_bool, -List.lookup_eq_none_iff]
        subst this
        refine settled_of (S := S) ?_ (fin.set _)
        show S.row (!s) = (free P s (wrote s m S)).row (!s)
        rw [free_other]; exact (oth _ z).symm
    · have k : Tk (wrote s m S) := fin.tk.up (fin.tk s)
      exact k.free
  | read s m =>
    obtain ⟨m1, m2, m3⟩ := hj
    refine ⟨hP, fun t => ?_, fin.lat, (moreB fin.g.readS (by omega)).more (by omega), fin.tk.up ?_, hB, hL⟩
    · have f := fin.set t
      unfold Settled letsR at *
      have e1 : ((Job.run P S (.read s m)).row t).kept = (S.row t).kept := by simp [-Bool.forall_bool, -Bool.exists_bool, -List.lookup_eq_none_iff, Job.run, readS, row_kept]
      have e2 : ((Job.run P S (.read s m)).row t).known = (S.row t).known := by simp [-Bool.forall_bool, -Bool.exists_bool, -List.lookup_eq_none_iff, Job.run, readS, row_known]
      have e3 : ((Job.run P S (.read s m)).row t).sent = (S.row t).sent := by simp [-Bool.forall_bool, -Bool.exists_bool, -List.lookup_eq_none_iff, Job.run, readS, row_sent]
      have e4 : ((Job.run P S (.read s m)).row t).small = (S.row t).small := by simp [-Bool.forall_bool, -Bool.exists_bool, -List.lookup_eq_none_iff, Job.run, readS, row_small]
      rw [e1, e2, e3, e4]; exact f
    · have := fin.tk s
      exact ⟨by show 0 ≤ (S.row s).taken + m; omega, by show (S.row s).taken + m ≤ (S.row s).come; omega, this.2.2⟩
  | wait m =>
    obtain ⟨m1, m2⟩ := hj
    exact ⟨hP, waited_settled hP fin.set _, waited_later hP fin.lat _, (moreB (fin.g.waited hP m.toNat) (by omega)).more (by omega), Tk.waited hP fin.tk fin.g _, hB, hL⟩
theorem cps_small (x : String) : (Str.ofString x).cps.toList.all (fun c => decide (c < 16 ^ 8)) = true := by
  rw [Str.ofString_eq_toList, List.all_eq_true]
  intro c hc
  simp only [List.toList_toArray] at hc
  obtain ⟨d, _, rfl⟩ := List.mem_map.mp hc
  have e : (16 : Nat) ^ 8 = 2 ^ 32 := by decide
  rw [e]
  exact decide_eq_true (UInt32.toNat_lt d.val)
theorem cps_app (x y : Str) : (x ++ y).cps.toList = x.cps.toList ++ y.cps.toList := by
  show (x.cps ++ y.cps).toList = _
  simp [-Bool.forall_bool, -Bool.exists_bool, -List.lookup_eq_none_iff]
theorem name_short (S : St) : PyData.leavesShort 8 (.str (nameS S)) = true := by
  have e : PyData.leavesShort 8 (.str (nameS S)) = (nameS S).cps.toList.all (fun c => decide (c < 16 ^ 8)) := by rw [PyData.leavesShort]
  rw [e]
  unfold nameS
  have z : Str.empty.cps.toList.all (fun c => decide (c < 16 ^ 8)) = true := rfl
  simp only [cps_app, List.all_append, cps_small, z, Bool.and_true]
theorem name_weight (t0 : 0 ≤ S.tick) (t1 : S.tick ≤ 100000) (hl : S.log.length ≤ 1000000) : PyData.weight (.str (nameS S)) ≤ 50 := by
  show (nameS S).length ≤ 50
  unfold nameS
  have a0 : (Str.empty ++ Str.ofString "Session(tick ").length ≤ 13 := by decide +kernel
  have a1 : (Str.ofString ", ").length ≤ 2 := by decide +kernel
  have a2 : (Str.ofString " pieces)").length ≤ 8 := by decide +kernel
  have l1 := PyProof.Rows.toString_length_le (v := S.tick) t0 (k := 6) (by decide) (by omega)
  have l2 := PyProof.Rows.toString_length_le (v := (S.log.length : Int)) (by omega) (k := 7) (by decide) (by omega)
  generalize Str.empty ++ Str.ofString "Session(tick " = x0 at *
  simp only [Str.length_append]
  omega
theorem Fine.shown (fin : Fine P S B L) (ht : S.tick < 100000) : (pyShown S).showable = true ∧ (pyShown S).shown.length ≤ sizeLine ∧ (pyShown S).depth ≤ 60 := by
  have g := fin.g
  have hB := fin.b
  have hL := fin.l
  have bd := fin.bd
  have lg := g.lg
  have sl0 := g.sentLe false
  have sl1 := g.sentLe true
  have n1 : (S.log.length : Int) ≤ 12000 := by omega
  have mem : ∀ p ∈ sorted S.log, PcS p := by
    intro p hp
    have hp : p ∈ S.log := by unfold sorted at hp; exact (List.mem_mergeSort).mp hp
    obtain ⟨a, b, c, d, e, f⟩ := g.lp p hp
    exact ⟨⟨a, by omega⟩, ⟨c, by omega⟩, ⟨e, by omega⟩⟩
  obtain ⟨p1, p2, p3⟩ := pcs_short mem
  have len : (sorted S.log).length = S.log.length := List.length_mergeSort _
  rw [len] at p3
  have kp : ∀ s, small (kpt S s) := fun s => ⟨g.k0 s, by show (S.row s).kept < 100000; have := g.kb s; have := g.s0 s; omega⟩
  have un : ∀ s, small (unr S s) := fun s => by
    have a := fin.tk s
    have b := g.comeLe s
    have c := g.sentLe (!s)
    exact ⟨by show 0 ≤ (S.row s).come - (S.row s).taken; omega, by show (S.row s).come - (S.row s).taken < 100000; omega⟩
  have ua : ∀ s, small (una S s) := fun s => by
    have a := fin.tk s
    have b := g.kn s
    have c := g.sentLe s
    exact ⟨by show 0 ≤ (S.row s).sent - (S.row s).known; omega, by show (S.row s).sent - (S.row s).known < 100000; omega⟩
  have tk : small S.tick := ⟨g.t0, ht⟩
  have fl : small (S.flight.length : Int) := ⟨by omega, by have := g.fl; omega⟩
  have lgS : small (S.log.length : Int) := ⟨by omega, by omega⟩
  have sh : ∀ {i : Int}, small i → PyData.showable (.int i) = true := fun h => int_showable h.1 h.2
  have ls : ∀ {i : Int}, small i → PyData.leavesShort 8 (.int i) = true := fun h => decide_eq_true (int_shown h.1 h.2)
  have ws : ∀ {i : Int}, small i → PyData.weight (.int i) ≤ 17 := fun h => int_weight h.1 h.2
  have two_sh : ∀ {f : Bool → Int}, (∀ s, small (f s)) → PyData.showable (pyTwo f) = true := fun h => by
    show (PyData.showable (.int _) && (PyData.showable (.int _) && true)) = true
    rw [sh (h false), sh (h true)]; rfl
  have two_ls : ∀ {f : Bool → Int}, (∀ s, small (f s)) → PyData.leavesShort 8 (pyTwo f) = true := fun h => by
    show (PyData.leavesShort 8 (.int _) && (PyData.leavesShort 8 (.int _) && true)) = true
    rw [ls (h false), ls (h true)]; rfl
  have two_w : ∀ {f : Bool → Int}, (∀ s, small (f s)) → PyData.weight (pyTwo f) ≤ 36 := fun {f} h => by
    have a := ws (h false)
    have b := ws (h true)
    show PyData.weight (.int (f false)) + 1 + (PyData.weight (.int (f true)) + 1 + 0) ≤ 36
    omega
  refine ⟨?_, PyData.shown_fits (B := 8) (by decide) (by decide) ?_ ?_, ?_⟩
  · show (PyData.showable (.int S.tick) && (PyData.showable (pyTwo (kpt S)) && (PyData.showable (pyTwo (unr S)) && (PyData.showable (pyTwo (una S)) && (PyData.showableAll ((sorted S.log).map pcPy) && (PyData.showable (.int S.flight.length) && (true && (PyData.showable (.int S.log.length) && (true && (true && true)))))))))) = true
    rw [sh tk, two_sh kp, two_sh un, two_sh ua, p2, sh fl, sh lgS]; rfl
  · show (PyData.leavesShort 8 (.int S.tick) && (PyData.leavesShort 8 (pyTwo (kpt S)) && (PyData.leavesShort 8 (pyTwo (unr S)) && (PyData.leavesShort 8 (pyTwo (una S)) && (PyData.leavesShortAll 8 ((sorted S.log).map pcPy) && (PyData.leavesShort 8 (.int S.flight.length) && (true && (PyData.leavesShort 8 (.int S.log.length) && (PyData.leavesShort 8 (.str (nameS S)) && (true && true)))))))))) = true
    rw [ls tk, two_ls kp, two_ls un, two_ls ua, p1, ls fl, ls lgS, name_short]; rfl
  · have e : PyData.weight (pyShown S) = PyData.weight (.int S.tick) + 1 + (PyData.weight (pyTwo (kpt S)) + 1 + (PyData.weight (pyTwo (unr S)) + 1 + (PyData.weight (pyTwo (una S)) + 1 + (PyData.weightAll ((sorted S.log).map pcPy) + 1 + (PyData.weight (.int S.flight.length) + 1 + (0 + 1 + (PyData.weight (.int S.log.length) + 1 + (PyData.weight (.str (nameS S)) + 1 + (0 + 1 + 0))))))))) := rfl
    rw [e]
    have w1 := ws tk
    have w2 := two_w kp
    have w3 := two_w un
    have w4 := two_w ua
    have w5 := ws fl
    have w6 := ws lgS
    have w7 := name_weight (S := S) g.t0 (by omega) (by omega)
    have z : (2 : Nat) ^ 20 = 1048576 := by decide
    omega
  · have e : PyData.depth (pyShown S) = max (PyData.depth (.int S.tick)) (max (PyData.depth (pyTwo (kpt S))) (max (PyData.depth (pyTwo (unr S))) (max (PyData.depth (pyTwo (una S))) (max (PyData.depthAll ((sorted S.log).map pcPy) + 1) (max (PyData.depth (.int S.flight.length)) (max 0 (max (PyData.depth (.int S.log.length)) (max 0 (max 0 0))))))))) + 1 := rfl
    rw [e]
    have := depth_pc (sorted S.log)
    have e0 : ∀ i, PyData.depth (.int i) = 0 := fun _ => rfl
    have e1 : ∀ f, PyData.depth (pyTwo f) = 1 := fun _ => rfl
    rw [e0, e0, e0, e1, e1, e1]
    omega
end LL.K67
end

section
set_option Elab.async false
set_option linter.all false
set_option maxRecDepth 100000
/-! K67ValD: deeds, tellings, the law's def. -/
namespace LL.K67
open PySem LL
variable {P : Par} {S : St} {s : Bool} {B L : Int}
theorem fine_init (hP : P.Ok) : Fine P init 0 0 := by
  refine ⟨hP, fun s => ⟨Int.le_refl _, ?_, fun z => by have := z.1; simp [-Bool.forall_bool, -Bool.exists_bool, -List.lookup_eq_none_iff, init] at this⟩, fun p hp => (nomatch hp), ?_, fun s => ⟨Int.le_refl _, Int.le_refl _, Int.le_refl _⟩, by omega, by omega⟩
  · show (0 : Int) < P.size
    have := hP.s1; omega
  · exact ⟨Int.le_refl _, fun _ => Int.le_refl _, fun _ => Int.le_refl _, fun _ => Int.le_refl _, fun _ => Int.le_refl _, fun _ => Int.le_refl _, fun s => by rw [show init.flight = [] from rfl, amts_nil]; rfl, fun p hp => (nomatch hp), fun p hp => (nomatch hp), by decide, Nat.le_refl _, fun p hp => (nomatch hp)⟩
theorem run_tick {j : Job} (hj : j.Ok S) : (j.run P S).tick ≤ S.tick + 60 ∧ S.tick ≤ (j.run P S).tick := by
  cases j with
  | write s m => 
    have : (Job.run P S (.write s m)).tick = S.tick := free_tick
    omega
  | read s m => 
    have : (Job.run P S (.read s m)).tick = S.tick := rfl
    omega
  | wait m =>
    have : (Job.run P S (.wait m)).tick = S.tick + m.toNat := waited_tick
    obtain ⟨m1, m2⟩ := hj
    omega
theorem ans_small (fin : Fine P S B L) (ht : S.tick < 100000) (j : Job) : small (j.ans S) := by
  have g := fin.g
  have hB := fin.b
  cases j with
  | write s m => exact ⟨g.k0 s, by show (S.row s).kept < 100000; have := g.kb s; have := g.s0 s; omega⟩
  | read s m =>
    have a := fin.tk s
    have b := g.comeLe s
    have c := g.sentLe (!s)
    exact ⟨by show 0 ≤ (S.row s).come - (S.row s).taken; omega, by show (S.row s).come - (S.row s).taken < 100000; omega⟩
  | wait m => exact ⟨g.t0, ht⟩
def pyWay (P : Par) (s : Bool) : PyData := .tuple [.str (ruleS (P.rule s)), .int (P.every s), .int (P.delay s)]
def pyTold (P : Par) : PyData := .tuple [.int P.size, .int P.way, pyWay P false, pyWay P true]
theorem py_told (P : Par) : dPy (toldD P) = some (pyTold P) := rfl
theorem ruleS_ok {k : Nat} (h : k < 3) : PyData.strOk (ruleS k) = true := by
  have : k = 0 ∨ k = 1 ∨ k = 2 := by omega
  rcases this with rfl | rfl | rfl <;> decide +kernel
theorem told_shaped (hP : P.Ok) : SeqAt.shaped (pyTold P) = true := by
  have a := ruleS_ok (hP.r false)
  have b := ruleS_ok (hP.r true)
  unfold SeqAt.shaped
  rw [Bool.and_eq_true]
  refine ⟨?_, rfl⟩
  simp [-Bool.forall_bool, -Bool.exists_bool, -List.lookup_eq_none_iff, pyTold, pyWay, PyData.canLay0, PyData.canLayAll0, a, b]
theorem told_eqv (hP : P.Ok) : PyData.eqv (pyTold P) (pyTold P) = true := by
  have h := told_shaped hP
  unfold SeqAt.shaped at h
  rw [Bool.and_eq_true] at h
  exact SeqAt.eqv_refl _ h.1
theorem V_law : ∀ ds h Q E, ds.length = 1 → G_law ds h Q E → b_law (startD N_law ds) h (bodyK Q E) := by
  rintro ds h Q E _ ⟨ns, rfl, rfl, hl, hb, q⟩
  show b_law [some (.lst (ns.map .int)), none] _ _
  refine byK fun κ kr kn ke => ?_
  unfold b_law
  simp [-Bool.forall_bool, -Bool.exists_bool, -List.lookup_eq_none_iff]
  refine ⟨by split <;> split <;> omega, by split <;> split <;> omega, ?_⟩
  have h5 : (if 2 < if 5 < (ns.length : Int) then 5 else (ns.length : Int) then if 5 < (ns.length : Int) then 5 else (ns.length : Int) else 2).toNat ≤ 5 := by split <;> split <;> omega
  generalize (if 2 < if 5 < (ns.length : Int) then 5 else (ns.length : Int) then if 5 < (ns.length : Int) then 5 else (ns.length : Int) else 2).toNat = N at *
  refine ⟨fun i acc _ => acc = List.replicate i (.bl true), rfl, fun _ _ _ _ _ => trivial, ?_, ?_⟩
  · rintro i x acc h hx rfl
    obtain ⟨hi, rfl⟩ := rngD_get hx
    have hi5 : i < 16777216 := by omega
    simp [-Bool.forall_bool, -Bool.exists_bool, -List.lookup_eq_none_iff]
    refine ⟨ns, i, rfl, hl, fun a c b => ?_⟩
    refine ⟨_, rfl, ⟨a, c, b, by simp [-Bool.forall_bool, -Bool.exists_bool, -List.lookup_eq_none_iff]⟩, fun h' => ?_⟩
    exact ⟨lt_sizeLine hi5, by rw [List.replicate_succ']⟩
  · rintro acc h rfl
    rw [rngD_len]
    refine ⟨List.replicate N true, by simp [-Bool.forall_bool, -Bool.exists_bool, -List.lookup_eq_none_iff], ?_⟩
    simp [-Bool.forall_bool, -Bool.exists_bool, -List.lookup_eq_none_iff]
    exact kr _ _ (q _ _ rfl)
end LL.K67
end

section
set_option Elab.async false
set_option linter.all false
set_option maxRecDepth 100000
/-! K67X0: copies of worlds; what a call ends with. -/
namespace LL.K67
open PySem LL
variable {P : Par} {S : St} {s : Bool} {B L : Int}
theorem bListM_ref {n : Nat} {h : LH} {ds : List D} {Q : D → LH → Prop} (q : h[n]? = some (.lst ds)) : bListM [.ref n] h Q = Q (.ref h.length) (h ++ [.lst ds]) := by
  show seqA (.ref n) h _ = _
  unfold seqA seqL
  simp only [q]
theorem V_law_copied : ∀ ds h Q E, ds.length = 1 → G_law_copied ds h Q E → b_law_copied (startD N_law_copied ds) h (bodyK Q E) := by
  rintro ds h Q E _ ⟨A, P, S, rfl, W, h1, h2, q⟩
  show b_law_copied [some (.ref A.w)] h _
  refine byK fun κ kr kn ke => ?_
  unfold b_law_copied
  have e0 := W.w
  have e1 := W.r false
  have e2 := W.r true
  have e3 := W.fl
  have e4 := W.lg
  simp [-Bool.forall_bool, -Bool.exists_bool, -List.lookup_eq_none_iff, e0, e1, e2, e3, e4, bListM_ref]
  exact kr _ _ q
theorem cix_ok (n : Nat) : (cix n).Ok := by
  refine ⟨fun s => ?_, ?_, ?_, fun s => ?_, fun s => ?_, fun s => ?_, ?_⟩ <;> (try cases s) <;> simp [-Bool.forall_bool, -Bool.exists_bool, -List.lookup_eq_none_iff, cix]
theorem cix_own {n i : Nat} (h : (cix n).own i) : n ≤ i ∧ i < n + 5 := by
  rcases h with z | ⟨s, z⟩ | z | z
  · simp only [cix] at z; omega
  · cases s <;> simp only [cix, cond] at z <;> omega
  · simp only [cix] at z; omega
  · simp only [cix] at z; omega
theorem world_copy (P : Par) (S : St) (h : LH) : WorldAt (cix h.length) P S (h ++ copyW P S h.length) := by
  refine ⟨cix_ok _, ?_, fun s => ?_, ?_, ?_⟩
  · exact (app_new (k := 4)).trans rfl
  · cases s
    · exact (app_new (k := 0)).trans rfl
    · exact (app_new (k := 1)).trans rfl
  · exact (app_new (k := 2)).trans rfl
  · exact (app_new (k := 3)).trans rfl
theorem newW_eq (P : Par) (n : Nat) : newW P n = copyW P init n := rfl
/-- the word for what a call raises -/
def outc (c : Str) (fs : List (Str × D)) (R : D → Prop) : Prop :=
  (c = "Busy" ∧ R (.lst [.str "Busy", .non])) ∨ (c = "NotThere" ∧ R (.lst [.str "NotThere", .non])) ∨ (c = "NothingToUndo" ∧ R (.lst [.str "NothingToUndo", .non])) ∨
  (∃ v, c = "InvalidSide" ∧ fs = [(Str.ofString "value", v)] ∧ R (.lst [.str "InvalidSide", v])) ∨ (∃ v, c = "InvalidNumber" ∧ fs = [(Str.ofString "value", v)] ∧ R (.lst [.str "InvalidNumber", v])) ∨
  (∃ v, c = "InvalidDeeds" ∧ fs = [(Str.ofString "index", v)] ∧ R (.lst [.str "InvalidDeeds", v])) ∨ (∃ v, c = "TooMany" ∧ fs = [(Str.ofString "limit", v)] ∧ R (.lst [.str "TooMany", v]))
theorem nd {d : Option Addr} {x : Str × D} (hd : d = none → [x] = []) : ∃ dd, d = some dd := by
  cases d with
  | none => cases hd rfl
  | some dd => exact ⟨dd, rfl⟩
theorem outcome_run {L : D} {ask : LAsk} {h : LH} {Q : D → LH → Prop} {E : XL} (mA : MonoA ask) (w : ask h (fun d h' => Q (.lst [.str "given", d]) h') (fun c fs h' => outc c fs fun d => Q d h')) : b_law_outcome L ask (startD N_law_outcome [L]) h (bodyK Q E) := by
  show b_law_outcome L ask [some L, none, none, none] h _
  refine byK fun κ kr kn ke => ?_
  unfold b_law_outcome
  simp [-Bool.forall_bool, -Bool.exists_bool, -List.lookup_eq_none_iff]
  refine mA _ _ _ _ _ (fun d h' z => kr _ _ z) (fun c fs h' z => ?_) w
  rcases z with ⟨rfl, z⟩ | ⟨rfl, z⟩ | ⟨rfl, z⟩ | ⟨v, rfl, rfl, z⟩ | ⟨v, rfl, rfl, z⟩ | ⟨v, rfl, rfl, z⟩ | ⟨v, rfl, rfl, z⟩
  · exact hdsL_yes rfl fun a d hd => by simp [-Bool.forall_bool, -Bool.exists_bool, -List.lookup_eq_none_iff]; exact kr _ _ z
  · exact hdsL_no rfl (hdsL_yes rfl fun a d hd => by simp [-Bool.forall_bool, -Bool.exists_bool, -List.lookup_eq_none_iff]; exact kr _ _ z)
  · exact hdsL_no rfl (hdsL_no rfl (hdsL_yes rfl fun a d hd => by simp [-Bool.forall_bool, -Bool.exists_bool, -List.lookup_eq_none_iff]; exact kr _ _ z))
  · exact hdsL_no rfl (hdsL_no rfl (hdsL_no rfl (hdsL_yes rfl fun a d hd => by
      obtain ⟨dd, rfl⟩ := nd hd
      simp [-Bool.forall_bool, -Bool.exists_bool, -List.lookup_eq_none_iff]
      exact ⟨_, _, ⟨rfl, rfl⟩, v, rfl, kr _ _ z⟩)))
  · exact hdsL_no rfl (hdsL_no rfl (hdsL_no rfl (hdsL_no rfl (hdsL_yes rfl fun a d hd => by
      obtain ⟨dd, rfl⟩ := nd hd
      simp [-Bool.forall_bool, -Bool.exists_bool, -List.lookup_eq_none_iff]
      exact ⟨_, _, ⟨rfl, rfl⟩, v, rfl, kr _ _ z⟩))))
  · exact hdsL_no rfl (hdsL_no rfl (hdsL_no rfl (hdsL_no rfl (hdsL_no rfl (hdsL_yes rfl fun a d hd => by
      obtain ⟨dd, rfl⟩ := nd hd
      simp [-Bool.forall_bool, -Bool.exists_bool, -List.lookup_eq_none_iff]
      exact ⟨_, _, ⟨rfl, rfl⟩, v, rfl, kr _ _ z⟩)))))
  · exact hdsL_no rfl (hdsL_no rfl (hdsL_no rfl (hdsL_no rfl (hdsL_no rfl (hdsL_no rfl (hdsL_yes rfl fun a d hd => by
      obtain ⟨dd, rfl⟩ := nd hd
      simp [-Bool.forall_bool, -Bool.exists_bool, -List.lookup_eq_none_iff]
      exact ⟨_, _, ⟨rfl, rfl⟩, v, rfl, kr _ _ z⟩))))))
theorem lam_outcome {m : LE} {σ : LV} {h : LH} {Q : D → LH → Prop} {E : XL} (mA : MonoA (m σ)) (w : m σ h (fun d h' => Q (.lst [.str "given", d]) h') (fun c fs h' => outc c fs fun d => Q d h')) : eLam b_law_outcome N_law_outcome m σ h Q E :=
  ⟨Q, E, fun _ _ z => z, fun _ _ _ z => z, fun L => outcome_run mA w⟩
theorem mono_var (i : Nat) : Mono (eVar i) := fun σ h Q Q' E E' hQ hE q => by
  unfold eVar at *
  split at q
  · exact hQ _ _ q
  · exact q.elim
theorem mono_nil0 : Mono eNil := fun σ h Q Q' E E' hQ hE q => hQ _ _ q
end LL.K67
end

section
set_option Elab.async false
set_option linter.all false
set_option maxRecDepth 100000
/-! K67X1: the desk: what stays true from deed to deed. -/
namespace LL.K67
open PySem LL
variable {P : Par} {S : St} {s : Bool} {B L : Int}
theorem WorldAt.old {A : WIx} {h h' : LH} (W : WorldAt A P S h) (k : ∀ i, A.own i → h'[i]? = h[i]?) : WorldAt A P S h' :=
  ⟨W.ok, by rw [k _ (.inl rfl)]; exact W.w, fun s => by rw [k _ (.inr (.inl ⟨s, rfl⟩))]; exact W.r s, by rw [k _ (.inr (.inr (.inl rfl)))]; exact W.fl, by rw [k _ (.inr (.inr (.inr rfl)))]; exact W.lg⟩
variable {w b wl : Nat} {xs : List (WIx × St)} {us : List St} {h h' : LH}
theorem Ws.old (W : Ws P xs h) (k : ∀ (i : Nat) (A : WIx) (T : St), xs[i]? = some (A, T) → ∀ x, A.own x → h'[x]? = h[x]?) : Ws P xs h' := ⟨fun i A T e => (W.at_ i A T e).old (k i A T e), W.dis⟩
/-- the desk where nothing that it tells of was changed -/
theorem Desk.old (d : Desk w b wl P xs us S h) (hw : WellAt w h') (kb : h'[b]? = h[b]?) (kl : h'[wl]? = h[wl]?) (k : ∀ (i : Nat) (A : WIx) (T : St), xs[i]? = some (A, T) → ∀ x, A.own x → h'[x]? = h[x]?) : Desk w b wl P xs us S h' := by
  obtain ⟨o, ho, so⟩ := d.sess
  exact ⟨d.p, hw, ⟨o, by rw [kb]; exact ho, so⟩, by rw [kl]; exact d.list, d.ws.old k, d.hist, d.fine, d.ne, d.now⟩
theorem Desk.lens (d : Desk w b wl P xs us S h) : w < h.length ∧ b < h.length ∧ wl < h.length ∧ ∀ (i : Nat) (A : WIx) (T : St), xs[i]? = some (A, T) → ∀ x, A.own x → x < h.length := by
  obtain ⟨a, c, e, hw⟩ := d.well
  obtain ⟨o, ho, _⟩ := d.sess
  exact ⟨(List.getElem?_eq_some_iff.mp hw).1, (List.getElem?_eq_some_iff.mp ho).1, (List.getElem?_eq_some_iff.mp d.list).1, fun i A T e x o => (d.ws.at_ i A T e).lt o⟩
theorem wellAt_old (hw : WellAt w h) (k : h'[w]? = h[w]?) : WellAt w h' := by
  obtain ⟨a, c, e, hw⟩ := hw
  exact ⟨a, c, e, by rw [k]; exact hw⟩
theorem Desk.app (d : Desk w b wl P xs us S h) (l : LH) : Desk w b wl P xs us S (h ++ l) := by
  obtain ⟨l1, l2, l3, l4⟩ := d.lens
  have k : ∀ i, i < h.length → (h ++ l)[i]? = h[i]? := fun i hi => List.getElem?_append_left hi
  exact d.old (wellAt_old d.well (k _ l1)) (k _ l2) (k _ l3) fun i A T e x o => k _ (l4 i A T e x o)
/-- a draw -/
theorem Desk.draw (d : Desk w b wl P xs us S h) (a c e : Int) : Desk w b wl P xs us S (h.set w (wellO a c e)) := by
  obtain ⟨n1, n2, n3⟩ := d.ne
  exact d.old (wellAt_set d.well) (by rw [List.getElem?_set_ne n1]) (by rw [List.getElem?_set_ne n2]) fun i A T e x o => by
    rw [List.getElem?_set_ne]
    rintro rfl
    exact (d.now i A T e).1 o
theorem last_get {α : Type} {xs : List α} {a : α} {us : List α} (e : xs = us ++ [a]) : xs[us.length]? = some a := by rw [e]; simp [-Bool.forall_bool, -Bool.exists_bool, -List.lookup_eq_none_iff]
/-- the world on top -/
theorem Desk.top (d : Desk w b wl P xs us S h) : ∃ A ys, xs = ys ++ [(A, S)] ∧ ys.map (·.2) = us := by
  have hh := d.hist
  rcases List.eq_nil_or_concat xs with rfl | ⟨ys, ⟨A, T⟩, rfl⟩
  · simp [-Bool.forall_bool, -Bool.exists_bool, -List.lookup_eq_none_iff] at hh
  · rw [List.concat_eq_append] at hh ⊢
    rw [List.map_append] at hh
    obtain ⟨h1, h2⟩ := List.append_inj' hh rfl
    simp only [List.map_cons, List.map_nil, List.cons.injEq, and_true] at h2
    subst h2
    exact ⟨A, ys, rfl, h1⟩
/-- a deed is done: the session, and a copy of the world on top -/
theorem Desk.push (d : Desk w b wl P xs us S h) {S' : St} {A : WIx} {h' : LH} (hw : WellAt w h') (so : SessAt b P S' (us ++ [S]) false h') (W : WorldAt A P S' h') (nA : ∀ x, A.own x → h.length ≤ x) (kl : h'[wl]? = some (.lst ((xs.map fun p => D.ref p.1.w) ++ [.ref A.w])))
    (k : ∀ (i : Nat) (A : WIx) (T : St), xs[i]? = some (A, T) → ∀ x, A.own x → h'[x]? = h[x]?) (fin : Fine P S' (60 * xs.length) (120 * xs.length)) (tk : S'.tick ≤ 60 * xs.length) : Desk w b wl P (xs ++ [(A, S')]) (us ++ [S]) S' h' := by
  obtain ⟨l1, l2, l3, l4⟩ := d.lens
  have cs : ∀ {i : Nat} {B : WIx} {T : St}, (xs ++ [(A, S')])[i]? = some (B, T) → xs[i]? = some (B, T) ∨ (i = xs.length ∧ B = A ∧ T = S') := by
    intro i B T e
    by_cases hi : i < xs.length
    · rw [List.getElem?_append_left hi] at e; exact .inl e
    · rw [List.getElem?_append_right (by omega)] at e
      have : i - xs.length = 0 := by
        have := (List.getElem?_eq_some_iff.mp e).1
        simp only [List.length_singleton] at this
        omega
      rw [this] at e
      cases e
      exact .inr ⟨by omega, rfl, rfl⟩
  refine ⟨d.p, hw, so, by simpa [-Bool.forall_bool, -Bool.exists_bool, -List.lookup_eq_none_iff] using kl, ⟨fun i B T e => ?_, fun i j B C T U hij e1 e2 x o1 o2 => ?_⟩, by rw [List.map_append, d.hist]; rfl, fun i B T e => ?_, d.ne, fun i B T e => ?_⟩
  · rcases cs e with e | ⟨rfl, rfl, rfl⟩
    · exact (d.ws.at_ i B T e).old (k i B T e)
    · exact W
  · rcases cs e1 with f1 | ⟨i1, _, _⟩
    · rcases cs e2 with f2 | ⟨_, eC, _⟩
      · exact d.ws.dis i j B C T U hij f1 f2 x o1 o2
      · have := l4 i B T f1 x o1
        have := nA x (eC ▸ o2)
        omega
    · rcases cs e2 with f2 | ⟨i2, _, _⟩
      · have := (List.getElem?_eq_some_iff.mp f2).1; omega
      · omega
  · rcases cs e with e | ⟨rfl, rfl, rfl⟩
    · exact d.fine i B T e
    · exact ⟨fin, tk⟩
  · rcases cs e with e | ⟨rfl, rfl, rfl⟩
    · exact d.now i B T e
    · refine ⟨fun o => ?_, fun o => ?_, fun o => ?_⟩ <;> (have := nA _ o; omega)
end LL.K67
end

section
set_option Elab.async false
set_option linter.all false
set_option maxRecDepth 100000
/-! K67X2: deeds, one after the other. -/
namespace LL.K67
open PySem LL
variable {P : Par} {S : St} {s : Bool} {B L : Int}
variable {w b wl : Nat} {xs : List (WIx × St)} {us : List St} {h h' : LH}
theorem V_law_walked : ∀ ds h Q E, ds.length = 4 → G_law_walked ds h Q E → b_law_walked (startD N_law_walked ds) h (bodyK Q E) := by
  rintro ds h Q E _ ⟨w, b, wl, P, xs0, us0, S0, n, rfl, d0, hn, q⟩
  show b_law_walked [some (.ref w), some (.ref b), some (.ref wl), some (.int n), none, none, none] h _
  refine byK fun κ kr kn ke => ?_
  unfold b_law_walked
  simp [-Bool.forall_bool, -Bool.exists_bool, -List.lookup_eq_none_iff]
  refine ⟨by omega, ?_⟩
  obtain ⟨I, hI⟩ : ∃ I : Nat → LV → LH → Prop, I = (fun i σ' h' => ∃ a c e xs' us' S', σ' = [some (.ref w), some (.ref b), some (.ref wl), some (.int n), a, c, e] ∧ Desk w b wl P xs' us' S' h' ∧ us'.length = us0.length + i ∧ (us' ++ [S'])[0]? = (us0 ++ [S0])[0]?) := ⟨_, rfl⟩
  refine forBy I (by rw [hI]; exact ⟨_, _, _, _, _, _, rfl, d0, rfl, rfl⟩) (fun _ _ _ _ _ => trivial) ?_ ?_
  rotate_left
  · intro σ' h' hh
    rw [hI] at hh
    obtain ⟨a, c, e, xs', us', S', rfl, d, hl, hz⟩ := hh
    simp [-Bool.forall_bool, -Bool.exists_bool, -List.lookup_eq_none_iff]
    refine kr _ _ (q _ _ _ _ d ?_ hz)
    rw [rngD_len] at hl
    omega
  intro i y σ' h1 hy hh
  rw [hI] at hh
  obtain ⟨a, c, e, xs, us, S, rfl, d, hl, hz⟩ := hh
  have hi : i < n := by
    have := (List.getElem?_eq_some_iff.mp hy).1
    rw [rngD_len] at this
    omega
  obtain ⟨A, ys, rfl, hys⟩ := d.top
  have ly : ys.length = us.length := by rw [← hys]; simp [-Bool.forall_bool, -Bool.exists_bool, -List.lookup_eq_none_iff]
  have el := d.list
  simp [-Bool.forall_bool, -Bool.exists_bool, -List.lookup_eq_none_iff, el]
  have WA := d.ws.at_ us.length A S (by rw [← ly]; simp [-Bool.forall_bool, -Bool.exists_bool, -List.lookup_eq_none_iff])
  obtain ⟨fin, tk⟩ := d.fine us.length A S (by rw [← ly]; simp [-Bool.forall_bool, -Bool.exists_bool, -List.lookup_eq_none_iff])
  have bd0 := fin.bd
  obtain ⟨l1, l2, l3, l4⟩ := d.lens
  obtain ⟨n1, n2, n3⟩ := d.ne
  refine ⟨A, P, S, rfl, WA, by omega, by omega, ?_⟩
  have W2 := world_copy P S h1
  have d2 := d.app (copyW P S h1.length)
  have own : ∀ x, (cix h1.length).own x → h1.length ≤ x := fun x o => (cix_own o).1
  have no : ∀ x, x < h1.length → ¬ (cix h1.length).own x := fun x hx o => by have := own x o; omega
  have k2 : ∀ x, x < h1.length → (h1 ++ copyW P S h1.length)[x]? = h1[x]? := fun x hx => List.getElem?_append_left hx
  have le2 : h1.length ≤ (h1 ++ copyW P S h1.length).length := by simp [-Bool.forall_bool, -Bool.exists_bool, -List.lookup_eq_none_iff]
  generalize h1 ++ copyW P S h1.length = h2 at *
  refine ⟨w, cix h1.length, P, S, rfl, W2, d.p, no w l1, d2.well, ?_⟩
  rintro r c1 c2 c3 ⟨j, hj, rfl⟩
  have d3 := d2.draw c1 c2 c3
  have W3 := W2.set (o := wellO c1 c2 c3) (no w l1)
  have k3 : ∀ x, x < h1.length → x ≠ w → (h2.set w (wellO c1 c2 c3))[x]? = h1[x]? := fun x hx hw => by rw [List.getElem?_set_ne (Ne.symm hw)]; exact k2 x hx
  have le3 : h1.length ≤ (h2.set w (wellO c1 c2 c3)).length := by simpa [-Bool.forall_bool, -Bool.exists_bool, -List.lookup_eq_none_iff] using le2
  generalize h2.set w (wellO c1 c2 c3) = h3 at *
  refine ⟨b, P, S, us, false, _, _, j.raw, rfl, d3.sess, fin, raw_plain j, (fun z => (nomatch z)), (fun _ c fs z => by rw [raw_err hj] at z; cases z), (fun _ _ z => by omega), fun _ j' o2 ej hj' h6 so2 => ?_⟩
  obtain rfl := raw_inj ej
  have fin2 := fin.run hj (by omega) (by omega)
  have tk2 := run_tick (P := P) hj
  have t0 := fin2.g.t0
  have sm := ans_small fin2 (by omega) j
  have sl : (PyData.shown (.int (j.ans (j.run P S)))).length ≤ sizeLine := le_sizeLine (by have := int_shown sm.1 sm.2; omega)
  have hw3 := d3.well
  obtain ⟨o3, ho3, _⟩ := d3.sess
  have hb4 : (h3.set b o2)[b]? = some o2 := set_get ho3
  have W4 := W3.set (o := o2) (no b l2)
  have hw4 : WellAt w (h3.set b o2) := wellAt_old hw3 (List.getElem?_set_ne (Ne.symm n1))
  have k4 : ∀ x, x < h1.length → x ≠ w → x ≠ b → (h3.set b o2)[x]? = h1[x]? := fun x hx hw hb => by rw [List.getElem?_set_ne (Ne.symm hb)]; exact k3 x hx hw
  have le4 : h1.length ≤ (h3.set b o2).length := by simpa [-Bool.forall_bool, -Bool.exists_bool, -List.lookup_eq_none_iff] using le3
  have el4 : (h3.set b o2)[wl]? = some (.lst ((ys ++ [(A, S)]).map fun p => D.ref p.1.w)) := by rw [k4 wl l3 (Ne.symm n2) (Ne.symm n3)]; exact el
  generalize h3.set b o2 = h4 at *
  refine ⟨.int (j.ans (j.run P S)), rfl, int_showable sm.1 sm.2, sl, Nat.zero_le _, ?_⟩
  refine ⟨cix h1.length, P, S, _, _, j, rfl, W4, fin, hj, fun h5 l => ?_⟩
  refine ⟨.int (j.ans (j.run P S)), rfl, int_showable sm.1 sm.2, sl, Nat.zero_le _, ?_⟩
  rw [if_pos rfl]
  obtain ⟨fl2, efl, W5, f5⟩ := l
  have k5 : ∀ x, x < h1.length → h5[x]? = h4[x]? := fun x hx => f5.same x (by omega) (no x hx)
  have sa : SessAt b P (j.run P S) (us ++ [S]) false h5 := ⟨o2, by rw [k5 b l2]; exact hb4, so2⟩
  have hw5 : WellAt w h5 := wellAt_old hw4 (k5 w l1)
  have el5 : h5[wl]? = some (.lst ((ys ++ [(A, S)]).map fun p => D.ref p.1.w)) := by rw [k5 wl l3]; exact el4
  have own5 : ∀ x, ({ cix h1.length with fl := fl2 } : WIx).own x → h1.length ≤ x := by
    rintro x (z | ⟨s, z⟩ | z | z)
    · exact own x (.inl z)
    · exact own x (.inr (.inl ⟨s, z⟩))
    · have z : x = fl2 := z
      rcases efl with e | e
      · exact own x (.inr (.inr (.inl (z.trans e))))
      · omega
    · exact own x (.inr (.inr (.inr z)))
  have bd := fin2.bd
  obtain ⟨p1, p2, p3⟩ := fin2.shown (by omega)
  refine ⟨b, P, _, _, false, rfl, sa, t0, by omega, by omega, ?_⟩
  refine ⟨pyShown _, py_shown _, p1, p2, p3, ?_⟩
  refine ⟨{ cix h1.length with fl := fl2 }, P, _, _, _, rfl, W5, fin2.g, by omega, by omega, by omega, ?_⟩
  refine ⟨pyShown _, py_shown _, p1, p2, p3, ?_⟩
  have zl : (((ys ++ [(A, S)]).map fun p => D.ref p.1.w) ++ [D.ref (cix h1.length).w]).length ≤ sizeLine := le_sizeLine (by simp [-Bool.forall_bool, -Bool.exists_bool, -List.lookup_eq_none_iff]; omega)
  simp [-Bool.forall_bool, -Bool.exists_bool, -List.lookup_eq_none_iff, el5]
  refine ⟨lt_sizeLine (by omega), ?_⟩
  show I _ _ _
  rw [hI]
  refine ⟨_, _, _, (ys ++ [(A, S)]) ++ [({ cix h1.length with fl := fl2 }, j.run P S)], us ++ [S], j.run P S, rfl, d.push (A := { cix h1.length with fl := fl2 }) ?_ ?_ ?_ own5 ?_ ?_ ?_ ?_, by simp [-Bool.forall_bool, -Bool.exists_bool, -List.lookup_eq_none_iff]; omega, by rw [List.getElem?_append_left (by simp [-Bool.forall_bool, -Bool.exists_bool, -List.lookup_eq_none_iff])]; exact hz⟩
  · exact wellAt_old hw5 (List.getElem?_set_ne (Ne.symm n2))
  · obtain ⟨o, ho, so⟩ := sa
    exact ⟨o, by rw [List.getElem?_set_ne (Ne.symm n3)]; exact ho, so⟩
  · exact W5.set fun z => by have := own5 _ z; omega
  · rw [set_get el5]; simp [-Bool.forall_bool, -Bool.exists_bool, -List.lookup_eq_none_iff, cix]
  · intro i B T e x ox
    have := d.now i B T e
    have hx := l4 i B T e x ox
    rw [List.getElem?_set_ne (by rintro rfl; exact this.2.2 ox), k5 x hx, k4 x hx (by rintro rfl; exact this.1 ox) (by rintro rfl; exact this.2.1 ox)]
  · have e : (ys ++ [(A, S)]).length = us.length + 1 := by simp [-Bool.forall_bool, -Bool.exists_bool, -List.lookup_eq_none_iff, ly]
    rw [e]
    have e1 : 60 * (us.length : Int) + 60 = 60 * ((us.length + 1 : Nat) : Int) := by omega
    have e2 : 120 * (us.length : Int) + 120 = 120 * ((us.length + 1 : Nat) : Int) := by omega
    rw [← e1, ← e2]; exact fin2
  · have e : (ys ++ [(A, S)]).length = us.length + 1 := by simp [-Bool.forall_bool, -Bool.exists_bool, -List.lookup_eq_none_iff, ly]
    rw [e]; omega
end LL.K67
end

section
set_option Elab.async false
set_option linter.all false
set_option maxRecDepth 100000
/-! K67X3: the law. -/
namespace LL.K67
open PySem LL
variable {P : Par} {S : St} {s : Bool} {B L : Int}
variable {w b wl : Nat} {xs : List (WIx × St)} {us : List St} {h h' : LH}
/-- a deed is taken back: the session, and the world on top is gone -/
theorem Desk.pop (d : Desk w b wl P xs us S h) {ys : List (WIx × St)} {A : WIx} {us' : List St} {u : St} (ex : xs = ys ++ [(A, S)]) (eu : us = us' ++ [u]) {h' : LH} (hw : WellAt w h') (so : SessAt b P u us' false h') (kl : h'[wl]? = some (.lst (ys.map fun p => D.ref p.1.w)))
    (k : ∀ (i : Nat) (B : WIx) (T : St), ys[i]? = some (B, T) → ∀ x, B.own x → h'[x]? = h[x]?) : Desk w b wl P ys us' u h' := by
  subst ex eu
  have up : ∀ {i : Nat} {q : WIx × St}, ys[i]? = some q → (ys ++ [(A, S)])[i]? = some q := fun {i q} e => by rw [List.getElem?_append_left (List.getElem?_eq_some_iff.mp e).1]; exact e
  have hh := d.hist
  rw [List.map_append] at hh
  obtain ⟨h1, _⟩ := List.append_inj' hh rfl
  exact ⟨d.p, hw, so, kl, ⟨fun i B T e => (d.ws.at_ i B T (up e)).old (k i B T e), fun i j B C T U hij e1 e2 => d.ws.dis i j B C T U hij (up e1) (up e2)⟩, h1, fun i B T e => d.fine i B T (up e), d.ne, fun i B T e => d.now i B T (up e)⟩
/-- what the session and the law's world show of a moment of the desk -/
theorem Desk.fineS (d : Desk w b wl P xs us S h) : Fine P S (60 * us.length) (120 * us.length) ∧ S.tick ≤ 60 * us.length := by
  obtain ⟨A, ys, rfl, hy⟩ := d.top
  have ly : ys.length = us.length := by rw [← hy]; simp [-Bool.forall_bool, -Bool.exists_bool, -List.lookup_eq_none_iff]
  exact d.fine us.length A S (by rw [← ly]; simp [-Bool.forall_bool, -Bool.exists_bool, -List.lookup_eq_none_iff])
/-- the desk at the beginning -/
theorem desk_start (hP : P.Ok) (hw : WellAt w h) {o : O} (so : SessO P init [] false o) : Desk w h.length (h.length + 6) P [(cix (h.length + 1), init)] [] init (((h ++ [o]) ++ newW P (h ++ [o]).length) ++ [.lst [.ref (cix (h.length + 1)).w]]) := by
  obtain ⟨a, c, b, e⟩ := hw
  have lw := (List.getElem?_eq_some_iff.mp e).1
  have ln : (h ++ [o]).length = h.length + 1 := by simp [-Bool.forall_bool, -Bool.exists_bool, -List.lookup_eq_none_iff]
  have W := world_copy P init (h ++ [o])
  rw [ln] at W
  have own : ∀ x, (cix (h.length + 1)).own x → h.length + 1 ≤ x ∧ x < h.length + 1 + 5 := fun x ox => cix_own ox
  have l2 : ((h ++ [o]) ++ newW P (h ++ [o]).length).length = h.length + 6 := by simp [-Bool.forall_bool, -Bool.exists_bool, -List.lookup_eq_none_iff, newW]
  refine ⟨hP, ⟨a, c, b, app_old (app_old (app_old e))⟩, ⟨o, app_old (app_old (by simp [-Bool.forall_bool, -Bool.exists_bool, -List.lookup_eq_none_iff])), so⟩, ?_, ⟨fun i A S e => ?_, fun i j A B S T hij e1 e2 => ?_⟩, rfl, fun i A T e => ?_, ⟨by omega, by omega, by omega⟩, fun i A T e => ?_⟩
  · rw [← l2, app_new0]; rfl
  · cases i with
    | zero =>
      cases e
      rw [ln]
      exact W.old fun x ox => List.getElem?_append_left (by have := own x ox; rw [← ln, l2]; omega)
    | succ i => simp [-Bool.forall_bool, -Bool.exists_bool, -List.lookup_eq_none_iff] at e
  · have a1 := (List.getElem?_eq_some_iff.mp e1).1
    have a2 := (List.getElem?_eq_some_iff.mp e2).1
    simp [-Bool.forall_bool, -Bool.exists_bool, -List.lookup_eq_none_iff] at a1 a2
    omega
  · cases i with
    | zero => cases e; exact ⟨fine_init hP, Int.le_refl _⟩
    | succ i => simp [-Bool.forall_bool, -Bool.exists_bool, -List.lookup_eq_none_iff] at e
  · cases i with
    | zero => cases e; exact ⟨fun ox => by have := own _ ox; omega, fun ox => by have := own _ ox; omega, fun ox => by have := own _ ox; omega⟩
    | succ i => simp [-Bool.forall_bool, -Bool.exists_bool, -List.lookup_eq_none_iff] at e
end LL.K67
end

section
set_option Elab.async false
set_option linter.all false
set_option maxRecDepth 100000
/-! K67X4: the law. -/
namespace LL.K67
open PySem LL
variable {P : Par} {S : St} {s : Bool} {B L : Int}
variable {w b wl : Nat} {xs : List (WIx × St)} {us : List St} {h h' : LH}
theorem mPop_snoc {n : Nat} {h : LH} {zs : List D} {y : D} {Q : D → LH → Prop} (q : h[n]? = some (.lst (zs ++ [y]))) : mPop (.ref n) [] h Q = Q y (h.set n (.lst zs)) := by
  unfold mPop
  simp [-Bool.forall_bool, -Bool.exists_bool, -List.lookup_eq_none_iff, q]
theorem atI_snoc {zs : List D} {y : D} : L2.atI (zs ++ [y]) (-1) = some y := by
  rw [atI_last (by simp [-Bool.forall_bool, -Bool.exists_bool, -List.lookup_eq_none_iff])]
  simp [-Bool.forall_bool, -Bool.exists_bool, -List.lookup_eq_none_iff]
theorem Desk.bds (d : Desk w b wl P xs us S h) (l : us.length ≤ 40) : ∀ u ∈ us, (∀ s, (u.row s).kept ≤ 1000000) ∧ u.log.length ≤ 1000000 := by
  obtain ⟨A, ys, rfl, hy⟩ := d.top
  intro u hu
  rw [← hy] at hu
  obtain ⟨⟨B, T⟩, hm, rfl⟩ := List.mem_map.mp hu
  obtain ⟨i, hi⟩ := List.mem_iff_getElem?.mp hm
  have := (d.fine i B T (by rw [List.getElem?_append_left (List.getElem?_eq_some_iff.mp hi).1]; exact hi)).1.bd
  exact ⟨this.1, Nat.le_of_lt this.2.2⟩
theorem V_law_right : ∀ ds h Q E, ds.length = 1 → G_law_right ds h Q E → b_law_right (startD N_law_right ds) h (bodyK Q E) := by
  rintro ds h Q E _ ⟨w, rfl, hw, q⟩
  show b_law_right [some (.ref w), none, none, none, none, none] h _
  refine byK fun κ kr kn ke => ?_
  unfold b_law_right
  simp [-Bool.forall_bool, -Bool.exists_bool, -List.lookup_eq_none_iff]
  refine ⟨w, rfl, hw, ?_⟩
  rintro r a1 a2 a3 ⟨P, hP, rfl⟩
  have hw := wellAt_set (a := a1) (b := a3) (c := a2) hw
  generalize h.set w (wellO a1 a2 a3) = h1 at *
  refine ⟨P, hP, rfl, ?_⟩
  simp [-Bool.forall_bool, -Bool.exists_bool, -List.lookup_eq_none_iff]
  refine ⟨h1, P, rfl, rfl, fun o so => ⟨rfl, ?_⟩⟩
  refine ⟨P, rfl, ?_⟩
  have d0 := desk_start hP hw so
  have ew : h1.length + 1 + 4 = (cix (h1.length + 1)).w := rfl
  simp [-Bool.forall_bool, -Bool.exists_bool, -List.lookup_eq_none_iff]
  rw [ew]
  have el : h1.length + (List.length (newW P (h1.length + 1)) + 1) = h1.length + 6 := rfl
  rw [el]
  have eh : h1 ++ o :: (newW P (h1.length + 1) ++ [O.lst [D.ref (cix (h1.length + 1)).w]]) = ((h1 ++ [o]) ++ newW P (h1 ++ [o]).length) ++ [.lst [.ref (cix (h1.length + 1)).w]] := by simp [-Bool.forall_bool, -Bool.exists_bool, -List.lookup_eq_none_iff]
  rw [eh]
  generalize hA : cix (h1.length + 1) = A0 at *
  generalize ((h1 ++ [o]) ++ newW P (h1 ++ [o]).length) ++ [.lst [.ref A0.w]] = h2 at *
  generalize h1.length = b at *
  generalize b + 6 = wl at *
  have mU : ∀ σ, MonoA ((eMeth "Session" "undo" G_Session_undo 1 (eVar 2) eNil) σ) := fun σ h Q Q' E E' hQ hE q => mono_meth M_Session_undo (mono_var 2) mono_nil0 σ h Q Q' E E' hQ hE q
  refine lam_outcome (mU _) ?_
  obtain ⟨o2, ho2, so2⟩ := d0.sess
  obtain ⟨stk, lng, past, K, hp, rfl⟩ := id so2
  simp [-Bool.forall_bool, -Bool.exists_bool, -List.lookup_eq_none_iff, ho2, sessFs]
  refine ⟨b, P, init, [], false, rfl, ⟨_, ho2, so2⟩, Nat.zero_le _, fun u hu => (nomatch hu), fun z => (nomatch z), fun _ _ => ?_, fun us' u o _ z => by simp [-Bool.forall_bool, -Bool.exists_bool, -List.lookup_eq_none_iff] at z⟩
  refine .inr (.inr (.inl ⟨rfl, ?_⟩))
  refine ⟨.list [.str "NothingToUndo", .none], rfl, by decide +kernel, by decide +kernel, by decide, .list [.str "NothingToUndo", .none], rfl, by decide +kernel, by decide +kernel, by decide, ?_⟩
  rw [if_pos rfl]
  obtain ⟨I, hI⟩ : ∃ I : Nat → LV → LH → Prop, I = (fun i σ' h' => ∃ a c A, σ' = [some (.ref w), some (toldD P), some (.ref b), some (.ref wl), a, c] ∧ Desk w b wl P [(A, init)] [] init h') := ⟨_, rfl⟩
  refine forBy I (by rw [hI]; exact ⟨_, _, _, rfl, d0⟩) (fun _ _ _ _ _ => trivial) ?_ ?_
  rotate_left
  · intro σ' h' hh
    rw [hI] at hh
    obtain ⟨a, c, A, rfl, d⟩ := hh
    simp [-Bool.forall_bool, -Bool.exists_bool, -List.lookup_eq_none_iff]
    refine ⟨w, b, wl, P, _, _, _, 3, rfl, d, by decide, fun xs' us' S' h' _ _ _ => ?_⟩
    exact kr _ _ (q _)
  intro i y σ' h3 hy hh
  rw [hI] at hh
  obtain ⟨a, c, A, rfl, d⟩ := hh
  simp [-Bool.forall_bool, -Bool.exists_bool, -List.lookup_eq_none_iff]
  refine ⟨w, 10, rfl, by decide, by decide, d.well, ?_⟩
  rintro r c1 c2 c3 ⟨k, rfl, k0, k1⟩
  have d := d.draw c1 c2 c3
  generalize h3.set w (wellO c1 c2 c3) = h4 at *
  simp [-Bool.forall_bool, -Bool.exists_bool, -List.lookup_eq_none_iff]
  refine ⟨w, b, wl, P, _, _, _, 1 + k.toNat, by rw [show (1 : Int) + k = ((1 + k.toNat : Nat) : Int) by omega], d, by simp [-Bool.forall_bool, -Bool.exists_bool, -List.lookup_eq_none_iff]; omega, fun xs us S h5 d hl hz => ?_⟩
  have lx : xs.length = us.length + 1 := by
    have := congrArg List.length d.hist
    simpa [-Bool.forall_bool, -Bool.exists_bool, -List.lookup_eq_none_iff] using this
  simp [-Bool.forall_bool, -Bool.exists_bool, -List.lookup_eq_none_iff, d.list, lx]
  refine ⟨by simp [-Bool.forall_bool, -Bool.exists_bool, -List.lookup_eq_none_iff] at hl; omega, ?_⟩
  generalize hm : us.length = m at *
  have hm60 : m ≤ 40 := by simp [-Bool.forall_bool, -Bool.exists_bool, -List.lookup_eq_none_iff] at hl; omega
  have hz : (us ++ [S])[0]? = some init := by rw [hz]; rfl
  obtain ⟨I2, hI2⟩ : ∃ I2 : Nat → LV → LH → Prop, I2 = (fun j σ' h' => ∃ a xs us S, σ' = [some (.ref w), some (toldD P), some (.ref b), some (.ref wl), some y, a] ∧ Desk w b wl P xs us S h' ∧ us.length + j = m ∧ (us ++ [S])[0]? = some init) := ⟨_, rfl⟩
  refine forBy I2 (by rw [hI2]; exact ⟨_, _, _, _, rfl, d, hm, hz⟩) (fun _ _ _ _ _ => trivial) ?_ ?_
  · intro j z σ' h6 hz hh
    rw [hI2] at hh
    obtain ⟨a, xs, us, S, rfl, d, hj, h0⟩ := hh
    have hjm : j < m := by
      have := (List.getElem?_eq_some_iff.mp hz).1
      rw [rngD_len] at this
      omega
    rcases List.eq_nil_or_concat us with rfl | ⟨us', u, rfl⟩
    · simp [-Bool.forall_bool, -Bool.exists_bool, -List.lookup_eq_none_iff] at hj; omega
    rw [List.concat_eq_append] at *
    obtain ⟨A', ys, rfl, hys⟩ := d.top
    have el : h6[wl]? = some (.lst ((ys.map fun p => D.ref p.1.w) ++ [.ref A'.w])) := by have := d.list; simpa [-Bool.forall_bool, -Bool.exists_bool, -List.lookup_eq_none_iff] using this
    simp [-Bool.forall_bool, -Bool.exists_bool, -List.lookup_eq_none_iff, el, mPop_snoc el]
    obtain ⟨l1, l2, l3, l4⟩ := d.lens
    obtain ⟨n1, n2, n3⟩ := d.ne
    obtain ⟨o1, ho1, so1⟩ := d.sess
    have ho7 : (h6.set wl (.lst (ys.map fun p => D.ref p.1.w)))[b]? = some o1 := by rw [List.getElem?_set_ne (Ne.symm n3)]; exact ho1
    have hl7 : (h6.set wl (.lst (ys.map fun p => D.ref p.1.w)))[wl]? = some (.lst (ys.map fun p => D.ref p.1.w)) := set_get el
    have hw7 : WellAt w (h6.set wl (.lst (ys.map fun p => D.ref p.1.w))) := wellAt_old d.well (List.getElem?_set_ne (Ne.symm n2))
    have k7 : ∀ x, x ≠ wl → (h6.set wl (.lst (ys.map fun p => D.ref p.1.w)))[x]? = h6[x]? := fun x hx => List.getElem?_set_ne (Ne.symm hx)
    generalize h6.set wl (.lst (ys.map fun p => D.ref p.1.w)) = h7 at *
    have lu : us'.length + 1 ≤ 40 := by simp [-Bool.forall_bool, -Bool.exists_bool, -List.lookup_eq_none_iff] at hj; omega
    constructor
    · obtain ⟨stk, lng, past, K, hp, rfl⟩ := id so1
      simp [-Bool.forall_bool, -Bool.exists_bool, -List.lookup_eq_none_iff, ho7, sessFs]
    refine ⟨b, P, S, us' ++ [u], false, rfl, ⟨_, ho7, so1⟩, by simp [-Bool.forall_bool, -Bool.exists_bool, -List.lookup_eq_none_iff]; omega, d.bds (by simp [-Bool.forall_bool, -Bool.exists_bool, -List.lookup_eq_none_iff]; omega), fun z => (nomatch z), fun _ z => by simp [-Bool.forall_bool, -Bool.exists_bool, -List.lookup_eq_none_iff] at z, fun us2 u2 o _ e so => ?_⟩
    obtain ⟨e1, e2⟩ := List.append_inj' e rfl
    obtain rfl := e1
    obtain rfl : u = u2 := by simpa [-Bool.forall_bool, -Bool.exists_bool, -List.lookup_eq_none_iff] using e2
    rw [if_pos (show D.non.isNon = true from rfl)]
    have ho8 : (h7.set b o)[b]? = some o := set_get ho7
    have d' : Desk w b wl P ys us' u (h7.set b o) := d.pop rfl rfl (wellAt_old hw7 (List.getElem?_set_ne (Ne.symm n1))) ⟨o, ho8, so⟩ (by rw [List.getElem?_set_ne n3]; exact hl7) fun i B T e x ox => by
      have nw := d.now i B T (by rw [List.getElem?_append_left (List.getElem?_eq_some_iff.mp e).1]; exact e)
      rw [List.getElem?_set_ne (by rintro rfl; exact nw.2.1 ox), k7 x (by rintro rfl; exact nw.2.2 ox)]
    generalize h7.set b o = h8 at *
    obtain ⟨fin, tk⟩ := d'.fineS
    have bd := fin.bd
    have t0 := fin.g.t0
    obtain ⟨p1, p2, p3⟩ := fin.shown (by omega)
    obtain ⟨A2, zs, rfl, hzs⟩ := d'.top
    have W2 := d'.ws.at_ zs.length A2 u (by simp [-Bool.forall_bool, -Bool.exists_bool, -List.lookup_eq_none_iff])
    have hl8 : h8[wl]? = some (.lst ((zs.map fun p => D.ref p.1.w) ++ [.ref A2.w])) := by have := d'.list; simpa [-Bool.forall_bool, -Bool.exists_bool, -List.lookup_eq_none_iff] using this
    refine ⟨b, P, u, us', false, rfl, d'.sess, t0, by omega, by omega, ?_⟩
    refine ⟨pyShown _, py_shown _, p1, p2, p3, ?_⟩
    simp only [seqA, seqL, hl8]
    refine ⟨_, atI_snoc, ?_⟩
    refine ⟨A2, P, u, _, _, rfl, W2, fin.g, by omega, by omega, by omega, ?_⟩
    refine ⟨pyShown _, py_shown _, p1, p2, p3, ?_⟩
    rw [if_pos rfl]
    show I2 _ _ _
    rw [hI2]
    refine ⟨_, _, _, _, rfl, d', ?_, ?_⟩
    · simp [-Bool.forall_bool, -Bool.exists_bool, -List.lookup_eq_none_iff] at hj; omega
    · rw [List.getElem?_append_left (by simp [-Bool.forall_bool, -Bool.exists_bool, -List.lookup_eq_none_iff])] at h0; exact h0
  · intro σ' h6 hh
    rw [hI2] at hh
    obtain ⟨a, xs, us, S, rfl, d, hj, h0⟩ := hh
    rw [rngD_len] at hj
    have e0 : us = [] := by
      have : us.length = 0 := by omega
      exact List.length_eq_zero_iff.mp this
    subst e0
    have e1 : S = init := by simpa [-Bool.forall_bool, -Bool.exists_bool, -List.lookup_eq_none_iff] using h0
    subst e1
    obtain ⟨A', ys, rfl, hys⟩ := d.top
    obtain rfl : ys = [] := by simpa [-Bool.forall_bool, -Bool.exists_bool, -List.lookup_eq_none_iff] using hys
    simp [-Bool.forall_bool, -Bool.exists_bool, -List.lookup_eq_none_iff]
    refine lam_outcome (mU _) ?_
    obtain ⟨o2, ho2, so2⟩ := d.sess
    obtain ⟨stk, lng, past, K, hp, rfl⟩ := id so2
    simp [-Bool.forall_bool, -Bool.exists_bool, -List.lookup_eq_none_iff, ho2, sessFs]
    refine ⟨b, P, init, [], false, rfl, ⟨_, ho2, so2⟩, Nat.zero_le _, fun u hu => (nomatch hu), fun z => (nomatch z), fun _ _ => ?_, fun us' u o _ z => by simp [-Bool.forall_bool, -Bool.exists_bool, -List.lookup_eq_none_iff] at z⟩
    refine .inr (.inr (.inl ⟨rfl, ?_⟩))
    refine ⟨.list [.str "NothingToUndo", .none], rfl, by decide +kernel, by decide +kernel, by decide, .list [.str "NothingToUndo", .none], rfl, by decide +kernel, by decide +kernel, by decide, ?_⟩
    rw [if_pos rfl]
    obtain ⟨fin, tk⟩ := d.fineS
    have bd := fin.bd
    have t0 := fin.g.t0
    have z0 : init.tick = 0 := rfl
    obtain ⟨p1, p2, p3⟩ := fin.shown (by omega)
    refine ⟨b, P, init, [], false, rfl, d.sess, t0, by omega, by omega, ?_⟩
    refine ⟨pyShown _, py_shown _, p1, p2, p3, ?_⟩
    refine ⟨P, rfl, ?_⟩
    refine ⟨cix h6.length, P, init, _, _, rfl, world_copy P init h6, fin.g, by simp [-Bool.forall_bool, -Bool.exists_bool, -List.lookup_eq_none_iff], by simp [-Bool.forall_bool, -Bool.exists_bool, -List.lookup_eq_none_iff], by omega, ?_⟩
    refine ⟨pyShown _, py_shown _, p1, p2, p3, ?_⟩
    rw [if_pos rfl]
    show I _ _ _
    rw [hI]
    exact ⟨_, _, A', rfl, d.app _⟩
end LL.K67
end

section
set_option Elab.async false
set_option linter.all false
set_option maxRecDepth 100000
set_option maxHeartbeats 4000000
namespace LL.K67
open PySem PySem.Spec PyProof.Rows L2 LL
theorem S_law_draw : FnScope N_law_draw ["_law_well_here", "_law_many"] (defScope (top 45)) := ⟨rfl, rfl, rfl, by decide +kernel, rfl, by decide +kernel, by decide +kernel⟩
theorem J_law_draw {P : Program} {w : World} {K : Frag} {mg : Str → Option Value} {h base : Heap} (D : Wd w K mg h base) (cdv : Value) (A : Around) (outer : List Env) (s : Shared) (H : Hp) (E : XK) (hc : CodeAt K (He.fAd K ("_law_draw", none)) cdv) (hr : RoomG 1 (A.deeper (envOfC "_law_draw" (defScope (top 45)) s.heap.objs.size (He.fAd K ("_law_draw", none)) cdv))) :
    JSs (cxOf (L2N.CX P w) P w K mg base N_law_draw "_law_draw" (defScope (top 45)) (He.fAd K ("_law_draw", none)) cdv A outer s H E) (fun cls d _ H => E cls d H) (defBody (top 45)) b_law_draw := by
  have S := S_law_draw
  exact (jss_cons (js_asg (je_plus (je_ix (je_var (pe_var (i := 0) rfl (.inl rfl))) je_int) je_int) (jg_sub (je_var (pe_var (i := 0) rfl (.inl rfl))) je_int))
  (jss_cons (js_if (jt_gt (je_ix (je_var (pe_var (i := 0) rfl (.inl rfl))) je_int) je_int)
  (jss_cons (js_asg (je_B call_divmod bsDivmod D.u_divmod rfl (ja_cons (je_BT call_int1 bsInt D.u_int rfl (ja_cons (je_ix (je_var (pe_var (i := 0) rfl (.inl rfl))) je_int) ja_nil)) (ja_cons (je_var (pe_var (i := 1) rfl (.inl rfl))) ja_nil))) (jg_tup rfl (jgs_cons (W := NoW) (jg_sub (je_var (pe_var (i := 0) rfl (.inl rfl))) je_int) (jgs_cons (W := NoW) (jg_name (i := 2) (pg_name S.nd rfl (.inl rfl))) jgs_nil))))
  (jss_one (js_ret (je_var (pe_var (i := 2) rfl (.inl rfl))))))
  jss_nil)
  (jss_cons (js_set (je_BT call_int1 bsInt D.u_int rfl (ja_cons (je_ix (je_var (pe_var (i := 0) rfl (.inl rfl))) je_int) ja_nil)) (fun h => ps_set (i := 3) S.nd rfl (.inl rfl) h))
  (jss_cons (js_asg (je_mod (je_BT call_int1 bsInt D.u_int rfl (ja_cons (je_plus (je_plus (je_mul (je_var (pe_var (i := 3) rfl (.inl rfl))) (je_plus (je_mod (je_BT call_int1 bsInt D.u_int rfl (ja_cons (je_var (pe_var (i := 3) rfl (.inl rfl))) ja_nil)) je_int) je_int)) (je_mul je_int (je_ix (je_var (pe_var (i := 0) rfl (.inl rfl))) je_int))) je_int) ja_nil)) je_int) (jg_sub (je_var (pe_var (i := 0) rfl (.inl rfl))) je_int))
  (jss_one (js_ret (je_mod (je_BT call_int1 bsInt D.u_int rfl (ja_cons (je_div (je_ix (je_var (pe_var (i := 0) rfl (.inl rfl))) je_int) je_int) ja_nil)) (je_var (pe_var (i := 1) rfl (.inl rfl))))))))))
theorem S_law_one_of : FnScope N_law_one_of ["_law_well_here", "_law_things"] (defScope (top 46)) := ⟨rfl, rfl, rfl, by decide +kernel, rfl, by decide +kernel, by decide +kernel⟩
theorem J_law_one_of {P : Program} {w : World} {K : Frag} {mg : Str → Option Value} {h base : Heap} (D : Wd w K mg h base) (h_law_draw : Keeps P w K mg base 2 (He.fAd K ("_law_draw", none)) 2 G_law_draw) (cdv : Value) (A : Around) (outer : List Env) (s : Shared) (H : Hp) (E : XK) (hc : CodeAt K (He.fAd K ("_law_one_of", none)) cdv) (hr : RoomG 2 (A.deeper (envOfC "_law_one_of" (defScope (top 46)) s.heap.objs.size (He.fAd K ("_law_one_of", none)) cdv))) :
    JSs (cxOf (L2N.CX P w) P w K mg base N_law_one_of "_law_one_of" (defScope (top 46)) (He.fAd K ("_law_one_of", none)) cdv A outer s H E) (fun cls d _ H => E cls d H) (defBody (top 46)) b_law_one_of := by
  have S := S_law_one_of
  exact (jss_one (js_ret (je_ix (je_var (pe_var (i := 1) rfl (.inl rfl))) (je_call h_law_draw (hr.mono (by decide)) D.g__law_draw D.k_law_draw (L2N.takes_of rfl rfl rfl rfl) (ja_cons (je_var (pe_var (i := 0) rfl (.inl rfl))) (ja_cons (je_B (CallR.or call_len_seq call_len_str) bsLen D.u_len rfl (ja_cons (je_var (pe_var (i := 1) rfl (.inl rfl))) ja_nil)) ja_nil))))))
theorem S_law_ways : FnScope N_law_ways ["_law_well_here"] (defScope (top 47)) := ⟨rfl, rfl, rfl, by decide +kernel, rfl, by decide +kernel, by decide +kernel⟩
theorem J_law_ways {P : Program} {w : World} {K : Frag} {mg : Str → Option Value} {h base : Heap} (D : Wd w K mg h base) (h_law_one_of : Keeps P w K mg base 3 (He.fAd K ("_law_one_of", none)) 2 G_law_one_of) (h_law_draw : Keeps P w K mg base 2 (He.fAd K ("_law_draw", none)) 2 G_law_draw) (cdv : Value) (A : Around) (outer : List Env) (s : Shared) (H : Hp) (E : XK) (hc : CodeAt K (He.fAd K ("_law_ways", none)) cdv) (hr : RoomG 3 (A.deeper (envOfC "_law_ways" (defScope (top 47)) s.heap.objs.size (He.fAd K ("_law_ways", none)) cdv))) :
    JSs (cxOf (L2N.CX P w) P w K mg base N_law_ways "_law_ways" (defScope (top 47)) (He.fAd K ("_law_ways", none)) cdv A outer s H E) (fun cls d _ H => E cls d H) (defBody (top 47)) b_law_ways := by
  have S := S_law_ways
  exact (jss_cons (js_set (je_call h_law_one_of (hr.mono (by decide)) D.g__law_one_of D.k_law_one_of (L2N.takes_of rfl rfl rfl rfl) (ja_cons (je_var (pe_var (i := 0) rfl (.inl rfl))) (ja_cons (je_lst (ja_cons je_str (ja_cons je_str (ja_cons je_str (ja_cons je_str ja_nil))))) ja_nil))) (fun h => ps_set (i := 1) S.nd rfl (.inl rfl) h))
  (jss_one (js_ret (je_tup (ja_cons (je_var (pe_var (i := 1) rfl (.inl rfl))) (ja_cons (je_plus je_int (je_call h_law_draw (hr.mono (by decide)) D.g__law_draw D.k_law_draw (L2N.takes_of rfl rfl rfl rfl) (ja_cons (je_var (pe_var (i := 0) rfl (.inl rfl))) (ja_cons je_int ja_nil)))) (ja_cons (je_call h_law_one_of (hr.mono (by decide)) D.g__law_one_of D.k_law_one_of (L2N.takes_of rfl rfl rfl rfl) (ja_cons (je_var (pe_var (i := 0) rfl (.inl rfl))) (ja_cons (je_lst (ja_cons je_int (ja_cons je_int (ja_cons je_int (ja_cons je_int (ja_cons je_int (ja_cons (je_call h_law_draw (hr.mono (by decide)) D.g__law_draw D.k_law_draw (L2N.takes_of rfl rfl rfl rfl) (ja_cons (je_var (pe_var (i := 0) rfl (.inl rfl))) (ja_cons je_int ja_nil))) ja_nil))))))) ja_nil))) ja_nil)))))))
theorem S_law_told : FnScope N_law_told ["_law_well_here"] (defScope (top 48)) := ⟨rfl, rfl, rfl, by decide +kernel, rfl, by decide +kernel, by decide +kernel⟩
theorem J_law_told {P : Program} {w : World} {K : Frag} {mg : Str → Option Value} {h base : Heap} (D : Wd w K mg h base) (h_law_one_of : Keeps P w K mg base 3 (He.fAd K ("_law_one_of", none)) 2 G_law_one_of) (h_law_draw : Keeps P w K mg base 2 (He.fAd K ("_law_draw", none)) 2 G_law_draw) (h_law_ways : Keeps P w K mg base 4 (He.fAd K ("_law_ways", none)) 1 G_law_ways) (cdv : Value) (A : Around) (outer : List Env) (s : Shared) (H : Hp) (E : XK) (hc : CodeAt K (He.fAd K ("_law_told", none)) cdv) (hr : RoomG 4 (A.deeper (envOfC "_law_told" (defScope (top 48)) s.heap.objs.size (He.fAd K ("_law_told", none)) cdv))) :
    JSs (cxOf (L2N.CX P w) P w K mg base N_law_told "_law_told" (defScope (top 48)) (He.fAd K ("_law_told", none)) cdv A outer s H E) (fun cls d _ H => E cls d H) (defBody (top 48)) b_law_told := by
  have S := S_law_told
  exact (jss_cons (js_set (je_call h_law_one_of (hr.mono (by decide)) D.g__law_one_of D.k_law_one_of (L2N.takes_of rfl rfl rfl rfl) (ja_cons (je_var (pe_var (i := 0) rfl (.inl rfl))) (ja_cons (je_lst (ja_cons je_int (ja_cons je_int (ja_cons je_int (ja_cons je_int (ja_cons je_int (ja_cons je_int (ja_cons je_int (ja_cons (je_plus je_int (je_call h_law_draw (hr.mono (by decide)) D.g__law_draw D.k_law_draw (L2N.takes_of rfl rfl rfl rfl) (ja_cons (je_var (pe_var (i := 0) rfl (.inl rfl))) (ja_cons je_int ja_nil)))) ja_nil))))))))) ja_nil))) (fun h => ps_set (i := 1) S.nd rfl (.inl rfl) h))
  (jss_one (js_ret (je_tup (ja_cons (je_var (pe_var (i := 1) rfl (.inl rfl))) (ja_cons (je_call h_law_one_of (hr.mono (by decide)) D.g__law_one_of D.k_law_one_of (L2N.takes_of rfl rfl rfl rfl) (ja_cons (je_var (pe_var (i := 0) rfl (.inl rfl))) (ja_cons (je_lst (ja_cons je_int (ja_cons je_int (ja_cons je_int (ja_cons je_int (ja_cons (je_plus je_int (je_call h_law_draw (hr.mono (by decide)) D.g__law_draw D.k_law_draw (L2N.takes_of rfl rfl rfl rfl) (ja_cons (je_var (pe_var (i := 0) rfl (.inl rfl))) (ja_cons je_int ja_nil)))) ja_nil)))))) ja_nil))) (ja_cons (je_call h_law_ways (hr.mono (by decide)) D.g__law_ways D.k_law_ways (L2N.takes_of rfl rfl rfl rfl) (ja_cons (je_var (pe_var (i := 0) rfl (.inl rfl))) ja_nil)) (ja_cons (je_call h_law_ways (hr.mono (by decide)) D.g__law_ways D.k_law_ways (L2N.takes_of rfl rfl rfl rfl) (ja_cons (je_var (pe_var (i := 0) rfl (.inl rfl))) ja_nil)) ja_nil))))))))
theorem S_law_new : FnScope N_law_new ["_law_told_here"] (defScope (top 50)) := ⟨rfl, rfl, rfl, by decide +kernel, rfl, by decide +kernel, by decide +kernel⟩
theorem J_law_new {P : Program} {w : World} {K : Frag} {mg : Str → Option Value} {h base : Heap} (D : Wd w K mg h base) (cdv : Value) (A : Around) (outer : List Env) (s : Shared) (H : Hp) (E : XK) (hc : CodeAt K (He.fAd K ("_law_new", none)) cdv) (hr : RoomG 1 (A.deeper (envOfC "_law_new" (defScope (top 50)) s.heap.objs.size (He.fAd K ("_law_new", none)) cdv))) :
    JSs (cxOf (L2N.CX P w) P w K mg base N_law_new "_law_new" (defScope (top 50)) (He.fAd K ("_law_new", none)) cdv A outer s H E) (fun cls d _ H => E cls d H) (defBody (top 50)) b_law_new := by
  have S := S_law_new
  exact (jss_one (js_ret (je_lstM (ja_cons (je_var (pe_var (i := 0) rfl (.inl rfl))) (ja_cons je_int (ja_cons (je_lst (ja_cons (je_lstM (ja_cons je_int (ja_cons je_int (ja_cons je_int (ja_cons je_int (ja_cons je_int (ja_cons je_int (ja_cons je_int (ja_cons je_non ja_nil))))))))) (ja_cons (je_lstM (ja_cons je_int (ja_cons je_int (ja_cons je_int (ja_cons je_int (ja_cons je_int (ja_cons je_int (ja_cons je_int (ja_cons je_non ja_nil))))))))) ja_nil))) (ja_cons (je_lstM ja_nil) (ja_cons (je_lstM ja_nil) ja_nil))))))))
theorem S_NotALine_init : FnScope N_NotALine_init ["self", "value"] (defScope (inClass (top 6) 0)) := ⟨rfl, rfl, rfl, by decide +kernel, rfl, by decide +kernel, by decide +kernel⟩
theorem S_check_line : FnScope N_check_line ["value"] (defScope (top 29)) := ⟨rfl, rfl, rfl, by decide +kernel, rfl, by decide +kernel, by decide +kernel⟩
theorem J_check_line {P : Program} {w : World} {K : Frag} {mg : Str → Option Value} {h base : Heap} (D : Wd w K mg h base) (h_NotALine_init : OexK P w K mg base (He.fAd K ("NotALine", some "__init__")) "value") (cdv : Value) (A : Around) (outer : List Env) (s : Shared) (H : Hp) (E : XK) (hc : CodeAt K (He.fAd K ("check_line", none)) cdv) (hr : RoomG 3 (A.deeper (envOfC "check_line" (defScope (top 29)) s.heap.objs.size (He.fAd K ("check_line", none)) cdv))) :
    JSs (cxOf (L2N.CX P w) P w K mg base N_check_line "check_line" (defScope (top 29)) (He.fAd K ("check_line", none)) cdv A outer s H E) (fun cls d _ H => E cls d H) (defBody (top 29)) b_check_line := by
  have S := S_check_line
  exact (jss_one (js_if (jt_not (jt_val (je_isi (T := .cl "Line") (je_var (pe_var (i := 0) rfl (.inl rfl))) (pe_cln D.g_Line) (.own _) D.is_Line D.u_isinstance)))
  (jss_one (js_raise1 (je_var (pe_var (i := 0) rfl (.inl rfl))) D.xo_NotALine h_NotALine_init (hr.mono (by decide)) D.g_NotALine (L2N.takes_of rfl rfl rfl rfl)))
  jss_nil))
theorem S_Flow_kept : FnScope N_Flow_kept ["self", "side"] (defScope (inClass (top 39) 1)) := ⟨rfl, rfl, rfl, by decide +kernel, rfl, by decide +kernel, by decide +kernel⟩
theorem J_Flow_kept {P : Program} {w : World} {K : Frag} {mg : Str → Option Value} {h base : Heap} (D : Wd w K mg h base) (cdv : Value) (A : Around) (outer : List Env) (s : Shared) (H : Hp) (E : XK) (hc : CodeAt K (He.fAd K ("Flow", some "kept")) cdv) (hr : RoomG 1 (A.deeper (envOfC "Flow.kept" (defScope (inClass (top 39) 1)) s.heap.objs.size (He.fAd K ("Flow", some "kept")) cdv))) :
    JSs (cxOf (L2N.CX P w) P w K mg base N_Flow_kept "Flow.kept" (defScope (inClass (top 39) 1)) (He.fAd K ("Flow", some "kept")) cdv A outer s H E) (fun cls d _ H => E cls d H) (defBody (inClass (top 39) 1)) b_Flow_kept := by
  have S := S_Flow_kept
  exact (jss_one (js_ret (je_B (cr_sum rfl) bsSum D.u_sum rfl (ja_cons (je_lc (own := [("amount", 2), ("tick", 3)]) (p := (.tp [2, 3])) rfl S.nd (ji_seq (je_ix (je_fld D.f_stock (je_var (pe_var (i := 0) rfl (.inl rfl)))) (je_var (pe_var (i := 1) rfl (.inl rfl))))) (blkOk_by rfl) (by decide) (fun _ _ _ _ _ => pg_tup rfl (pgs_cons (pg_name S.nd rfl (.inl rfl)) (pgs_cons (pg_name S.nd rfl (.inl rfl)) pgs_nil))) (fun _ _ _ _ _ => jts_nil) (fun _ _ _ _ _ => (je_var (pe_var (i := 2) rfl (.inl rfl))))) ja_nil))))
theorem S_Flow_fresh : FnScope N_Flow_fresh ["self", "side"] (defScope (inClass (top 39) 2)) := ⟨rfl, rfl, rfl, by decide +kernel, rfl, by decide +kernel, by decide +kernel⟩
theorem J_Flow_fresh {P : Program} {w : World} {K : Frag} {mg : Str → Option Value} {h base : Heap} (D : Wd w K mg h base) (cdv : Value) (A : Around) (outer : List Env) (s : Shared) (H : Hp) (E : XK) (hc : CodeAt K (He.fAd K ("Flow", some "fresh")) cdv) (hr : RoomG 1 (A.deeper (envOfC "Flow.fresh" (defScope (inClass (top 39) 2)) s.heap.objs.size (He.fAd K ("Flow", some "fresh")) cdv))) :
    JSs (cxOf (L2N.CX P w) P w K mg base N_Flow_fresh "Flow.fresh" (defScope (inClass (top 39) 2)) (He.fAd K ("Flow", some "fresh")) cdv A outer s H E) (fun cls d _ H => E cls d H) (defBody (inClass (top 39) 2)) b_Flow_fresh := by
  have S := S_Flow_fresh
  exact (jss_one (js_ret (je_sub (je_ix (je_fld D.f_come (je_var (pe_var (i := 0) rfl (.inl rfl)))) (je_var (pe_var (i := 1) rfl (.inl rfl)))) (je_ix (je_fld D.f_taken (je_var (pe_var (i := 0) rfl (.inl rfl)))) (je_var (pe_var (i := 1) rfl (.inl rfl)))))))
theorem S_Session_show : FnScope N_Session_show ["self", "flow", "past"] (defScope (inClass (top 42) 1)) := ⟨rfl, rfl, rfl, by decide +kernel, rfl, by decide +kernel, by decide +kernel⟩
theorem J_Session_show {P : Program} {w : World} {K : Frag} {mg : Str → Option Value} {h base : Heap} (D : Wd w K mg h base) (h_Flow_kept : Keeps P w K mg base 2 (He.fAd K ("Flow", some "kept")) 2 G_Flow_kept) (h_Flow_fresh : Keeps P w K mg base 2 (He.fAd K ("Flow", some "fresh")) 2 G_Flow_fresh) (cdv : Value) (A : Around) (outer : List Env) (s : Shared) (H : Hp) (E : XK) (hc : CodeAt K (He.fAd K ("Session", some "show")) cdv) (hr : RoomG 2 (A.deeper (envOfC "Session.show" (defScope (inClass (top 42) 1)) s.heap.objs.size (He.fAd K ("Session", some "show")) cdv))) :
    JSs (cxOf (L2N.CX P w) P w K mg base N_Session_show "Session.show" (defScope (inClass (top 42) 1)) (He.fAd K ("Session", some "show")) cdv A outer s H E) (fun cls d _ H => E cls d H) (defBody (inClass (top 42) 1)) b_Session_show := by
  have S := S_Session_show
  have LT := lamT_of (X := cxOf (L2N.CX P w) P w K mg base N_Session_show "Session.show" (defScope (inClass (top 42) 1)) (He.fAd K ("Session", some "show")) cdv A outer s H E) (p := ("Session", some "show")) (q := "Session.show.<locals>.<lambda>") lamMem0 D.lt_Session_show D.tabsOk D.tb_Session_show (by rw [hc.eq] <;> rfl) rfl
  exact (jss_cons (js_fld D.f_flow (je_var (pe_var (i := 1) rfl (.inl rfl))) (je_var (pe_var (i := 0) rfl (.inl rfl))))
  (jss_cons (js_fld D.f_past (je_var (pe_var (i := 2) rfl (.inl rfl))) (je_var (pe_var (i := 0) rfl (.inl rfl))))
  (jss_cons (js_fld D.f_now (je_fld D.f_tick (je_var (pe_var (i := 1) rfl (.inl rfl)))) (je_var (pe_var (i := 0) rfl (.inl rfl))))
  (jss_cons (js_fld D.f_holding (je_tup (ja_cons (je_meth (je_var (pe_var (i := 1) rfl (.inl rfl))) D.c_Flow D.m_Flow_kept h_Flow_kept (hr.mono (by decide)) (L2N.takes_of rfl rfl rfl rfl) (ja_cons je_int ja_nil)) (ja_cons (je_meth (je_var (pe_var (i := 1) rfl (.inl rfl))) D.c_Flow D.m_Flow_kept h_Flow_kept (hr.mono (by decide)) (L2N.takes_of rfl rfl rfl rfl) (ja_cons je_int ja_nil)) ja_nil))) (je_var (pe_var (i := 0) rfl (.inl rfl))))
  (jss_cons (js_fld D.f_unread (je_tup (ja_cons (je_meth (je_var (pe_var (i := 1) rfl (.inl rfl))) D.c_Flow D.m_Flow_fresh h_Flow_fresh (hr.mono (by decide)) (L2N.takes_of rfl rfl rfl rfl) (ja_cons je_int ja_nil)) (ja_cons (je_meth (je_var (pe_var (i := 1) rfl (.inl rfl))) D.c_Flow D.m_Flow_fresh h_Flow_fresh (hr.mono (by decide)) (L2N.takes_of rfl rfl rfl rfl) (ja_cons je_int ja_nil)) ja_nil))) (je_var (pe_var (i := 0) rfl (.inl rfl))))
  (jss_cons (js_fld D.f_unanswered (je_tup (ja_cons (je_sub (je_ix (je_fld D.f_out (je_var (pe_var (i := 1) rfl (.inl rfl)))) je_int) (je_ix (je_fld D.f_known (je_var (pe_var (i := 1) rfl (.inl rfl)))) je_int)) (ja_cons (je_sub (je_ix (je_fld D.f_out (je_var (pe_var (i := 1) rfl (.inl rfl)))) je_int) (je_ix (je_fld D.f_known (je_var (pe_var (i := 1) rfl (.inl rfl)))) je_int)) ja_nil))) (je_var (pe_var (i := 0) rfl (.inl rfl))))
  (jss_cons (js_fld D.f_pieces (je_BT call_tuple_of bsTuple D.u_tuple rfl (ja_cons (je_sort2 (je_fld D.f_log (je_var (pe_var (i := 1) rfl (.inl rfl)))) (fun h => pe_sortK h hr LT (lam1_by rfl) (key_two (by decide)) (fun _ _ _ _ _ _ => rfl) D.u_sorted (by decide) rfl rfl rfl rfl rfl rfl rfl rfl)) ja_nil)) (je_var (pe_var (i := 0) rfl (.inl rfl))))
  (jss_one (js_fld D.f_under_way (je_B (CallR.or call_len_seq call_len_str) bsLen D.u_len rfl (ja_cons (je_fld D.f_flight (je_var (pe_var (i := 1) rfl (.inl rfl)))) ja_nil)) (je_var (pe_var (i := 0) rfl (.inl rfl))))))))))))
theorem S_Flow_init : FnScope N_Flow_init ["self", "line"] (defScope (inClass (top 39) 0)) := ⟨rfl, rfl, rfl, by decide +kernel, rfl, by decide +kernel, by decide +kernel⟩
theorem J_Flow_init {P : Program} {w : World} {K : Frag} {mg : Str → Option Value} {h base : Heap} (D : Wd w K mg h base) (cdv : Value) (A : Around) (outer : List Env) (s : Shared) (H : Hp) (E : XK) (hc : CodeAt K (He.fAd K ("Flow", some "__init__")) cdv) (hr : RoomG 1 (A.deeper (envOfC "Flow.__init__" (defScope (inClass (top 39) 0)) s.heap.objs.size (He.fAd K ("Flow", some "__init__")) cdv))) :
    JSs (cxOf (L2N.CX P w) P w K mg base N_Flow_init "Flow.__init__" (defScope (inClass (top 39) 0)) (He.fAd K ("Flow", some "__init__")) cdv A outer s H E) (fun cls d _ H => E cls d H) (defBody (inClass (top 39) 0)) b_Flow_init := by
  have S := S_Flow_init
  exact (jss_cons (js_fld D.f_line (je_var (pe_var (i := 1) rfl (.inl rfl))) (je_var (pe_var (i := 0) rfl (.inl rfl))))
  (jss_cons (js_fld D.f_settings (je_tup (ja_cons (je_fld D.f_near (je_var (pe_var (i := 1) rfl (.inl rfl)))) (ja_cons (je_fld D.f_far (je_var (pe_var (i := 1) rfl (.inl rfl)))) ja_nil))) (je_var (pe_var (i := 0) rfl (.inl rfl))))
  (jss_cons (js_fld D.f_tick je_int (je_var (pe_var (i := 0) rfl (.inl rfl))))
  (jss_cons (js_fld D.f_stock (je_lst (ja_cons (je_lstM ja_nil) (ja_cons (je_lstM ja_nil) ja_nil))) (je_var (pe_var (i := 0) rfl (.inl rfl))))
  (jss_cons (js_fld D.f_out (je_lstM (ja_cons je_int (ja_cons je_int ja_nil))) (je_var (pe_var (i := 0) rfl (.inl rfl))))
  (jss_cons (js_fld D.f_known (je_lstM (ja_cons je_int (ja_cons je_int ja_nil))) (je_var (pe_var (i := 0) rfl (.inl rfl))))
  (jss_cons (js_fld D.f_small (je_lstM (ja_cons je_int (ja_cons je_int ja_nil))) (je_var (pe_var (i := 0) rfl (.inl rfl))))
  (jss_cons (js_fld D.f_come (je_lstM (ja_cons je_int (ja_cons je_int ja_nil))) (je_var (pe_var (i := 0) rfl (.inl rfl))))
  (jss_cons (js_fld D.f_taken (je_lstM (ja_cons je_int (ja_cons je_int ja_nil))) (je_var (pe_var (i := 0) rfl (.inl rfl))))
  (jss_cons (js_fld D.f_full (je_lstM (ja_cons je_int (ja_cons je_int ja_nil))) (je_var (pe_var (i := 0) rfl (.inl rfl))))
  (jss_cons (js_fld D.f_first (je_lstM (ja_cons je_non (ja_cons je_non ja_nil))) (je_var (pe_var (i := 0) rfl (.inl rfl))))
  (jss_cons (js_fld D.f_long (je_lstM (ja_cons je_int (ja_cons je_int ja_nil))) (je_var (pe_var (i := 0) rfl (.inl rfl))))
  (jss_cons (js_fld D.f_flight (je_lstM ja_nil) (je_var (pe_var (i := 0) rfl (.inl rfl))))
  (jss_one (js_fld D.f_log (je_lstM ja_nil) (je_var (pe_var (i := 0) rfl (.inl rfl))))))))))))))))))
theorem S_Session_init : FnScope N_Session_init ["self", "line"] (defScope (inClass (top 42) 0)) := ⟨rfl, rfl, rfl, by decide +kernel, rfl, by decide +kernel, by decide +kernel⟩
theorem J_Session_init {P : Program} {w : World} {K : Frag} {mg : Str → Option Value} {h base : Heap} (D : Wd w K mg h base) (h_check_line : Keeps P w K mg base 4 (He.fAd K ("check_line", none)) 1 G_check_line) (h_Session_show : Keeps P w K mg base 3 (He.fAd K ("Session", some "show")) 3 G_Session_show) (h_Flow_init : Keeps P w K mg base 2 (He.fAd K ("Flow", some "__init__")) 2 G_Flow_init) (cdv : Value) (A : Around) (outer : List Env) (s : Shared) (H : Hp) (E : XK) (hc : CodeAt K (He.fAd K ("Session", some "__init__")) cdv) (hr : RoomG 4 (A.deeper (envOfC "Session.__init__" (defScope (inClass (top 42) 0)) s.heap.objs.size (He.fAd K ("Session", some "__init__")) cdv))) :
    JSs (cxOf (L2N.CX P w) P w K mg base N_Session_init "Session.__init__" (defScope (inClass (top 42) 0)) (He.fAd K ("Session", some "__init__")) cdv A outer s H E) (fun cls d _ H => E cls d H) (defBody (inClass (top 42) 0)) b_Session_init := by
  have S := S_Session_init
  exact (jss_cons (js_expr (je_call h_check_line (hr.mono (by decide)) D.g_check_line D.k_check_line (L2N.takes_of rfl rfl rfl rfl) (ja_cons (je_var (pe_var (i := 1) rfl (.inl rfl))) ja_nil)))
  (jss_cons (js_fld D.f_line (je_var (pe_var (i := 1) rfl (.inl rfl))) (je_var (pe_var (i := 0) rfl (.inl rfl))))
  (jss_cons (js_fld D.f_busy je_bl (je_var (pe_var (i := 0) rfl (.inl rfl))))
  (jss_one (js_expr (je_meth (je_var (pe_var (i := 0) rfl (.inl rfl))) D.c_Session D.m_Session_show h_Session_show (hr.mono (by decide)) (L2N.takes_of rfl rfl rfl rfl) (ja_cons (je_frz0 (je_make D.mk_Flow h_Flow_init (hr.mono (by decide)) D.g_Flow (L2N.takes_of rfl rfl rfl rfl) (ja_cons (je_var (pe_var (i := 1) rfl (.inl rfl))) ja_nil))) (ja_cons (je_lst ja_nil) ja_nil))))))))
theorem S_is_integer : FnScope N_is_integer ["value"] (defScope (top 23)) := ⟨rfl, rfl, rfl, by decide +kernel, rfl, by decide +kernel, by decide +kernel⟩
theorem J_is_integer {P : Program} {w : World} {K : Frag} {mg : Str → Option Value} {h base : Heap} (D : Wd w K mg h base) (cdv : Value) (A : Around) (outer : List Env) (s : Shared) (H : Hp) (E : XK) (hc : CodeAt K (He.fAd K ("is_integer", none)) cdv) (hr : RoomG 1 (A.deeper (envOfC "is_integer" (defScope (top 23)) s.heap.objs.size (He.fAd K ("is_integer", none)) cdv))) :
    JSs (cxOf (L2N.CX P w) P w K mg base N_is_integer "is_integer" (defScope (top 23)) (He.fAd K ("is_integer", none)) cdv A outer s H E) (fun cls d _ H => E cls d H) (defBody (top 23)) b_is_integer := by
  have S := S_is_integer
  exact (jss_one (js_ret (je_and (je_isi (T := .bt "int") (je_var (pe_var (i := 0) rfl (.inl rfl))) (pe_tyn D.u_int rfl) (.ty _) D.is_int D.u_isinstance) (je_one (je_not (je_isi (T := .bt "bool") (je_var (pe_var (i := 0) rfl (.inl rfl))) (pe_tyn D.u_bool rfl) (.ty _) D.is_bool D.u_isinstance))))))
theorem S_is_between : FnScope N_is_between ["value", "low", "high"] (defScope (top 24)) := ⟨rfl, rfl, rfl, by decide +kernel, rfl, by decide +kernel, by decide +kernel⟩
theorem J_is_between {P : Program} {w : World} {K : Frag} {mg : Str → Option Value} {h base : Heap} (D : Wd w K mg h base) (h_is_integer : Keeps P w K mg base 2 (He.fAd K ("is_integer", none)) 1 G_is_integer) (cdv : Value) (A : Around) (outer : List Env) (s : Shared) (H : Hp) (E : XK) (hc : CodeAt K (He.fAd K ("is_between", none)) cdv) (hr : RoomG 2 (A.deeper (envOfC "is_between" (defScope (top 24)) s.heap.objs.size (He.fAd K ("is_between", none)) cdv))) :
    JSs (cxOf (L2N.CX P w) P w K mg base N_is_between "is_between" (defScope (top 24)) (He.fAd K ("is_between", none)) cdv A outer s H E) (fun cls d _ H => E cls d H) (defBody (top 24)) b_is_between := by
  have S := S_is_between
  exact (jss_one (js_ret (je_and (je_call h_is_integer (hr.mono (by decide)) D.g_is_integer D.k_is_integer (L2N.takes_of rfl rfl rfl rfl) (ja_cons (je_var (pe_var (i := 0) rfl (.inl rfl))) ja_nil)) (je_one (je_chain op_le op_le oiLe oiLe (je_var (pe_var (i := 1) rfl (.inl rfl))) (je_var (pe_var (i := 0) rfl (.inl rfl))) (je_var (pe_var (i := 2) rfl (.inl rfl))) (by rfl))))))
theorem S_InvalidNumber_init : FnScope N_InvalidNumber_init ["self", "value"] (defScope (inClass (top 8) 0)) := ⟨rfl, rfl, rfl, by decide +kernel, rfl, by decide +kernel, by decide +kernel⟩
theorem S_check_number : FnScope N_check_number ["value", "low", "high"] (defScope (top 25)) := ⟨rfl, rfl, rfl, by decide +kernel, rfl, by decide +kernel, by decide +kernel⟩
theorem J_check_number {P : Program} {w : World} {K : Frag} {mg : Str → Option Value} {h base : Heap} (D : Wd w K mg h base) (h_is_between : Keeps P w K mg base 3 (He.fAd K ("is_between", none)) 3 G_is_between) (h_InvalidNumber_init : OexK P w K mg base (He.fAd K ("InvalidNumber", some "__init__")) "value") (cdv : Value) (A : Around) (outer : List Env) (s : Shared) (H : Hp) (E : XK) (hc : CodeAt K (He.fAd K ("check_number", none)) cdv) (hr : RoomG 3 (A.deeper (envOfC "check_number" (defScope (top 25)) s.heap.objs.size (He.fAd K ("check_number", none)) cdv))) :
    JSs (cxOf (L2N.CX P w) P w K mg base N_check_number "check_number" (defScope (top 25)) (He.fAd K ("check_number", none)) cdv A outer s H E) (fun cls d _ H => E cls d H) (defBody (top 25)) b_check_number := by
  have S := S_check_number
  exact (jss_one (js_if (jt_not (jt_val (je_call h_is_between (hr.mono (by decide)) D.g_is_between D.k_is_between (L2N.takes_of rfl rfl rfl rfl) (ja_cons (je_var (pe_var (i := 0) rfl (.inl rfl))) (ja_cons (je_var (pe_var (i := 1) rfl (.inl rfl))) (ja_cons (je_var (pe_var (i := 2) rfl (.inl rfl))) ja_nil))))))
  (jss_one (js_raise1 (je_var (pe_var (i := 0) rfl (.inl rfl))) D.xo_InvalidNumber h_InvalidNumber_init (hr.mono (by decide)) D.g_InvalidNumber (L2N.takes_of rfl rfl rfl rfl)))
  jss_nil))
theorem S_NotASetting_init : FnScope N_NotASetting_init ["self", "value"] (defScope (inClass (top 5) 0)) := ⟨rfl, rfl, rfl, by decide +kernel, rfl, by decide +kernel, by decide +kernel⟩
theorem S_check_setting : FnScope N_check_setting ["value"] (defScope (top 27)) := ⟨rfl, rfl, rfl, by decide +kernel, rfl, by decide +kernel, by decide +kernel⟩
theorem J_check_setting {P : Program} {w : World} {K : Frag} {mg : Str → Option Value} {h base : Heap} (D : Wd w K mg h base) (h_NotASetting_init : OexK P w K mg base (He.fAd K ("NotASetting", some "__init__")) "value") (cdv : Value) (A : Around) (outer : List Env) (s : Shared) (H : Hp) (E : XK) (hc : CodeAt K (He.fAd K ("check_setting", none)) cdv) (hr : RoomG 3 (A.deeper (envOfC "check_setting" (defScope (top 27)) s.heap.objs.size (He.fAd K ("check_setting", none)) cdv))) :
    JSs (cxOf (L2N.CX P w) P w K mg base N_check_setting "check_setting" (defScope (top 27)) (He.fAd K ("check_setting", none)) cdv A outer s H E) (fun cls d _ H => E cls d H) (defBody (top 27)) b_check_setting := by
  have S := S_check_setting
  exact (jss_one (js_if (jt_not (jt_val (je_isi (T := .cl "Setting") (je_var (pe_var (i := 0) rfl (.inl rfl))) (pe_cln D.g_Setting) (.own _) D.is_Setting D.u_isinstance)))
  (jss_one (js_raise1 (je_var (pe_var (i := 0) rfl (.inl rfl))) D.xo_NotASetting h_NotASetting_init (hr.mono (by decide)) D.g_NotASetting (L2N.takes_of rfl rfl rfl rfl)))
  jss_nil))
theorem S_Line_init : FnScope N_Line_init ["self", "size", "way", "near", "far"] (defScope (inClass (top 28) 0)) := ⟨rfl, rfl, rfl, by decide +kernel, rfl, by decide +kernel, by decide +kernel⟩
theorem J_Line_init {P : Program} {w : World} {K : Frag} {mg : Str → Option Value} {h base : Heap} (D : Wd w K mg h base) (h_check_number : Keeps P w K mg base 4 (He.fAd K ("check_number", none)) 3 G_check_number) (h_check_setting : Keeps P w K mg base 4 (He.fAd K ("check_setting", none)) 1 G_check_setting) (cdv : Value) (A : Around) (outer : List Env) (s : Shared) (H : Hp) (E : XK) (hc : CodeAt K (He.fAd K ("Line", some "__init__")) cdv) (hr : RoomG 4 (A.deeper (envOfC "Line.__init__" (defScope (inClass (top 28) 0)) s.heap.objs.size (He.fAd K ("Line", some "__init__")) cdv))) :
    JSs (cxOf (L2N.CX P w) P w K mg base N_Line_init "Line.__init__" (defScope (inClass (top 28) 0)) (He.fAd K ("Line", some "__init__")) cdv A outer s H E) (fun cls d _ H => E cls d H) (defBody (inClass (top 28) 0)) b_Line_init := by
  have S := S_Line_init
  exact (jss_cons (js_expr (je_call h_check_number (hr.mono (by decide)) D.g_check_number D.k_check_number (L2N.takes_of rfl rfl rfl rfl) (ja_cons (je_var (pe_var (i := 1) rfl (.inl rfl))) (ja_cons je_int (ja_cons (je_gint D.i_MOST_SIZE) ja_nil)))))
  (jss_cons (js_expr (je_call h_check_number (hr.mono (by decide)) D.g_check_number D.k_check_number (L2N.takes_of rfl rfl rfl rfl) (ja_cons (je_var (pe_var (i := 2) rfl (.inl rfl))) (ja_cons je_int (ja_cons (je_gint D.i_MOST_WAY) ja_nil)))))
  (jss_cons (js_expr (je_call h_check_setting (hr.mono (by decide)) D.g_check_setting D.k_check_setting (L2N.takes_of rfl rfl rfl rfl) (ja_cons (je_var (pe_var (i := 3) rfl (.inl rfl))) ja_nil)))
  (jss_cons (js_expr (je_call h_check_setting (hr.mono (by decide)) D.g_check_setting D.k_check_setting (L2N.takes_of rfl rfl rfl rfl) (ja_cons (je_var (pe_var (i := 4) rfl (.inl rfl))) ja_nil)))
  (jss_cons (js_fld D.f_size (je_var (pe_var (i := 1) rfl (.inl rfl))) (je_var (pe_var (i := 0) rfl (.inl rfl))))
  (jss_cons (js_fld D.f_way (je_var (pe_var (i := 2) rfl (.inl rfl))) (je_var (pe_var (i := 0) rfl (.inl rfl))))
  (jss_cons (js_fld D.f_near (je_var (pe_var (i := 3) rfl (.inl rfl))) (je_var (pe_var (i := 0) rfl (.inl rfl))))
  (jss_cons (js_fld D.f_far (je_var (pe_var (i := 4) rfl (.inl rfl))) (je_var (pe_var (i := 0) rfl (.inl rfl))))
  (jss_one (js_fld D.f_told (je_tup (ja_cons (je_var (pe_var (i := 1) rfl (.inl rfl))) (ja_cons (je_var (pe_var (i := 2) rfl (.inl rfl))) (ja_cons (je_fld D.f_told (je_var (pe_var (i := 3) rfl (.inl rfl)))) (ja_cons (je_fld D.f_told (je_var (pe_var (i := 4) rfl (.inl rfl)))) ja_nil))))) (je_var (pe_var (i := 0) rfl (.inl rfl)))))))))))))
theorem S_InvalidRule_init : FnScope N_InvalidRule_init ["self", "value"] (defScope (inClass (top 7) 0)) := ⟨rfl, rfl, rfl, by decide +kernel, rfl, by decide +kernel, by decide +kernel⟩
theorem S_Setting_init : FnScope N_Setting_init ["self", "rule", "every", "delay"] (defScope (inClass (top 26) 0)) := ⟨rfl, rfl, rfl, by decide +kernel, rfl, by decide +kernel, by decide +kernel⟩
theorem J_Setting_init {P : Program} {w : World} {K : Frag} {mg : Str → Option Value} {h base : Heap} (D : Wd w K mg h base) (h_InvalidRule_init : OexK P w K mg base (He.fAd K ("InvalidRule", some "__init__")) "value") (h_check_number : Keeps P w K mg base 4 (He.fAd K ("check_number", none)) 3 G_check_number) (cdv : Value) (A : Around) (outer : List Env) (s : Shared) (H : Hp) (E : XK) (hc : CodeAt K (He.fAd K ("Setting", some "__init__")) cdv) (hr : RoomG 4 (A.deeper (envOfC "Setting.__init__" (defScope (inClass (top 26) 0)) s.heap.objs.size (He.fAd K ("Setting", some "__init__")) cdv))) :
    JSs (cxOf (L2N.CX P w) P w K mg base N_Setting_init "Setting.__init__" (defScope (inClass (top 26) 0)) (He.fAd K ("Setting", some "__init__")) cdv A outer s H E) (fun cls d _ H => E cls d H) (defBody (inClass (top 26) 0)) b_Setting_init := by
  have S := S_Setting_init
  exact (jss_cons (js_if (PWPT (jw_or (jt_not (jt_val (je_isi (T := .bt "str") (je_var (pe_var (i := 1) rfl (.inl rfl))) (pe_tyn D.u_str rfl) (.ty _) D.is_str D.u_isinstance))) (jw_or1 (jt_notIn (je_var (pe_var (i := 1) rfl (.inl rfl))) (je_gtup D.g_RULES D.t_RULES D.r_RULES)))))
  (jss_one (js_raise1 (je_var (pe_var (i := 1) rfl (.inl rfl))) D.xo_InvalidRule h_InvalidRule_init (hr.mono (by decide)) D.g_InvalidRule (L2N.takes_of rfl rfl rfl rfl)))
  jss_nil)
  (jss_cons (js_expr (je_call h_check_number (hr.mono (by decide)) D.g_check_number D.k_check_number (L2N.takes_of rfl rfl rfl rfl) (ja_cons (je_var (pe_var (i := 2) rfl (.inl rfl))) (ja_cons je_int (ja_cons (je_gint D.i_MOST_EVERY) ja_nil)))))
  (jss_cons (js_expr (je_call h_check_number (hr.mono (by decide)) D.g_check_number D.k_check_number (L2N.takes_of rfl rfl rfl rfl) (ja_cons (je_var (pe_var (i := 3) rfl (.inl rfl))) (ja_cons je_int (ja_cons (je_gint D.i_MOST_DELAY) ja_nil)))))
  (jss_cons (js_fld D.f_rule (je_var (pe_var (i := 1) rfl (.inl rfl))) (je_var (pe_var (i := 0) rfl (.inl rfl))))
  (jss_cons (js_fld D.f_every (je_var (pe_var (i := 2) rfl (.inl rfl))) (je_var (pe_var (i := 0) rfl (.inl rfl))))
  (jss_cons (js_fld D.f_delay (je_var (pe_var (i := 3) rfl (.inl rfl))) (je_var (pe_var (i := 0) rfl (.inl rfl))))
  (jss_one (js_fld D.f_told (je_tup (ja_cons (je_var (pe_var (i := 1) rfl (.inl rfl))) (ja_cons (je_var (pe_var (i := 2) rfl (.inl rfl))) (ja_cons (je_var (pe_var (i := 3) rfl (.inl rfl))) ja_nil)))) (je_var (pe_var (i := 0) rfl (.inl rfl)))))))))))
theorem S_law_made : FnScope N_law_made ["_law_told_here"] (defScope (top 49)) := ⟨rfl, rfl, rfl, by decide +kernel, rfl, by decide +kernel, by decide +kernel⟩
theorem J_law_made {P : Program} {w : World} {K : Frag} {mg : Str → Option Value} {h base : Heap} (D : Wd w K mg h base) (h_Line_init : Keeps P w K mg base 5 (He.fAd K ("Line", some "__init__")) 5 G_Line_init) (h_Setting_init : Keeps P w K mg base 5 (He.fAd K ("Setting", some "__init__")) 4 G_Setting_init) (cdv : Value) (A : Around) (outer : List Env) (s : Shared) (H : Hp) (E : XK) (hc : CodeAt K (He.fAd K ("_law_made", none)) cdv) (hr : RoomG 6 (A.deeper (envOfC "_law_made" (defScope (top 49)) s.heap.objs.size (He.fAd K ("_law_made", none)) cdv))) :
    JSs (cxOf (L2N.CX P w) P w K mg base N_law_made "_law_made" (defScope (top 49)) (He.fAd K ("_law_made", none)) cdv A outer s H E) (fun cls d _ H => E cls d H) (defBody (top 49)) b_law_made := by
  have S := S_law_made
  exact (jss_cons (js_asg (je_var (pe_var (i := 0) rfl (.inl rfl))) (jg_tup rfl (jgs_cons (W := NoW) (jg_name (i := 1) (pg_name S.nd rfl (.inl rfl))) (jgs_cons (W := NoW) (jg_name (i := 2) (pg_name S.nd rfl (.inl rfl))) (jgs_cons (W := NoW) (jg_name (i := 3) (pg_name S.nd rfl (.inl rfl))) (jgs_cons (W := NoW) (jg_name (i := 4) (pg_name S.nd rfl (.inl rfl))) jgs_nil))))))
  (jss_one (js_ret (je_frz0 (je_make D.mk_Line h_Line_init (hr.mono (by decide)) D.g_Line (L2N.takes_of rfl rfl rfl rfl) (ja_cons (je_var (pe_var (i := 1) rfl (.inl rfl))) (ja_cons (je_var (pe_var (i := 2) rfl (.inl rfl))) (ja_cons (je_frz0 (je_make D.mk_Setting h_Setting_init (hr.mono (by decide)) D.g_Setting (L2N.takes_of rfl rfl rfl rfl) (ja_cons (je_ix (je_var (pe_var (i := 3) rfl (.inl rfl))) je_int) (ja_cons (je_ix (je_var (pe_var (i := 3) rfl (.inl rfl))) je_int) (ja_cons (je_ix (je_var (pe_var (i := 3) rfl (.inl rfl))) je_int) ja_nil))))) (ja_cons (je_frz0 (je_make D.mk_Setting h_Setting_init (hr.mono (by decide)) D.g_Setting (L2N.takes_of rfl rfl rfl rfl) (ja_cons (je_ix (je_var (pe_var (i := 4) rfl (.inl rfl))) je_int) (ja_cons (je_ix (je_var (pe_var (i := 4) rfl (.inl rfl))) je_int) (ja_cons (je_ix (je_var (pe_var (i := 4) rfl (.inl rfl))) je_int) ja_nil))))) ja_nil)))))))))
theorem S_law_outcome : FnScope N_law_outcome ["_law_ask"] (defScope (top 63)) := ⟨rfl, rfl, rfl, by decide +kernel, rfl, by decide +kernel, by decide +kernel⟩
theorem J_law_outcome {P : Program} {w : World} {K : Frag} {mg : Str → Option Value} {h base : Heap} (D : Wd w K mg h base) (cdv : Value) (A : Around) (outer : List Env) (s : Shared) (H : Hp) (E : XK) (L : LL.D) (ask : LAsk) (hc : CodeAt K (He.fAd K ("_law_outcome", none)) cdv) (hr : RoomG 1 (A.deeper (envOfC "_law_outcome" (defScope (top 63)) s.heap.objs.size (He.fAd K ("_law_outcome", none)) cdv))) (mA : MonoA ask) (ha : ∀ (W' : WX) (pn : List (Addr × Obj)) (xe : Value → Shared → Prop) (p1 p2 : Pos), L2N.Takes ((cxOf (L2N.CX P w) P w K mg base N_law_outcome "_law_outcome" (defScope (top 63)) (He.fAd K ("_law_outcome", none)) cdv A outer s H E).tr pn xe) W' → JE ((cxOf (L2N.CX P w) P w K mg base N_law_outcome "_law_outcome" (defScope (top 63)) (He.fAd K ("_law_outcome", none)) cdv A outer s H E).tr pn xe) W' (.Call (.Name "_law_ask" p1) [] [] p2) (eAsk 0 L ask)) :
    JSs (cxOf (L2N.CX P w) P w K mg base N_law_outcome "_law_outcome" (defScope (top 63)) (He.fAd K ("_law_outcome", none)) cdv A outer s H E) (fun cls d _ H => E cls d H) (defBody (top 63)) (b_law_outcome L ask) := by
  have S := S_law_outcome
  exact (jss_cons (js_asg (je_tup (ja_cons je_str (ja_cons je_non ja_nil))) (jg_tup rfl (jgs_cons (W := NoW) (jg_name (i := 1) (pg_name S.nd rfl (.inl rfl))) (jgs_cons (W := NoW) (jg_name (i := 2) (pg_name S.nd rfl (.inl rfl))) jgs_nil))))
  (jss_cons (js_try S.nd (L2N.takes_of rfl rfl rfl rfl) (fun W_ pn xe tk_ pp_ => (jss_one (js_set (ha _ _ _ _ _ tk_) (fun h => ps_set (i := 2) S.nd rfl (.inl rfl) h))))
  (.cons (names_own D.g_Busy) D.xl_Busy True.intro (fun a oe c d pn hz hd => (jss_one (js_set je_str (fun h => ps_set (i := 1) S.nd rfl (.inl rfl) h))))
  (.cons (names_own D.g_NotThere) D.xl_NotThere True.intro (fun a oe c d pn hz hd => (jss_one (js_set je_str (fun h => ps_set (i := 1) S.nd rfl (.inl rfl) h))))
  (.cons (names_own D.g_NothingToUndo) D.xl_NothingToUndo True.intro (fun a oe c d pn hz hd => (jss_one (js_set je_str (fun h => ps_set (i := 1) S.nd rfl (.inl rfl) h))))
  (.cons (names_own D.g_InvalidSide) D.xl_InvalidSide ⟨rfl, rfl⟩ (fun a oe c d pn hz hd => (jss_one (js_par (ja_cons je_str (ja_cons (je_xf D.xf_InvalidSide D.xn_InvalidSide_value hz hd (je_var (pe_var (i := 3) rfl (.inl rfl)))) ja_nil)) (fun h => ps_parH (i := 1) (j := 2) (hot_suite hz hd) S.nd rfl rfl (by decide) rfl rfl h rfl))))
  (.cons (names_own D.g_InvalidNumber) D.xl_InvalidNumber ⟨rfl, rfl⟩ (fun a oe c d pn hz hd => (jss_one (js_par (ja_cons je_str (ja_cons (je_xf D.xf_InvalidNumber D.xn_InvalidNumber_value hz hd (je_var (pe_var (i := 3) rfl (.inl rfl)))) ja_nil)) (fun h => ps_parH (i := 1) (j := 2) (hot_suite hz hd) S.nd rfl rfl (by decide) rfl rfl h rfl))))
  (.cons (names_own D.g_InvalidDeeds) D.xl_InvalidDeeds ⟨rfl, rfl⟩ (fun a oe c d pn hz hd => (jss_one (js_par (ja_cons je_str (ja_cons (je_xf D.xf_InvalidDeeds D.xn_InvalidDeeds_index hz hd (je_var (pe_var (i := 3) rfl (.inl rfl)))) ja_nil)) (fun h => ps_parH (i := 1) (j := 2) (hot_suite hz hd) S.nd rfl rfl (by decide) rfl rfl h rfl))))
  (.cons (names_own D.g_TooMany) D.xl_TooMany ⟨rfl, rfl⟩ (fun a oe c d pn hz hd => (jss_one (js_par (ja_cons je_str (ja_cons (je_xf D.xf_TooMany D.xn_TooMany_limit hz hd (je_var (pe_var (i := 3) rfl (.inl rfl)))) ja_nil)) (fun h => ps_parH (i := 1) (j := 2) (hot_suite hz hd) S.nd rfl rfl (by decide) rfl rfl h rfl))))
  .nil))))))))
  (jss_one (js_ret (je_lst (ja_cons (je_var (pe_var (i := 1) rfl (.inl rfl))) (ja_cons (je_var (pe_var (i := 2) rfl (.inl rfl))) ja_nil)))))))
theorem S_Session_check_free : FnScope N_Session_check_free ["self"] (defScope (inClass (top 42) 2)) := ⟨rfl, rfl, rfl, by decide +kernel, rfl, by decide +kernel, by decide +kernel⟩
theorem J_Session_check_free {P : Program} {w : World} {K : Frag} {mg : Str → Option Value} {h base : Heap} (D : Wd w K mg h base) (cdv : Value) (A : Around) (outer : List Env) (s : Shared) (H : Hp) (E : XK) (hc : CodeAt K (He.fAd K ("Session", some "check_free")) cdv) (hr : RoomG 1 (A.deeper (envOfC "Session.check_free" (defScope (inClass (top 42) 2)) s.heap.objs.size (He.fAd K ("Session", some "check_free")) cdv))) :
    JSs (cxOf (L2N.CX P w) P w K mg base N_Session_check_free "Session.check_free" (defScope (inClass (top 42) 2)) (He.fAd K ("Session", some "check_free")) cdv A outer s H E) (fun cls d _ H => E cls d H) (defBody (inClass (top 42) 2)) b_Session_check_free := by
  have S := S_Session_check_free
  exact (jss_one (js_if (jt_tru (je_fld D.f_busy (je_var (pe_var (i := 0) rfl (.inl rfl)))))
  (jss_one (js_raise0 PySem.F.excBase_LookupError (raises0 D.xr_Busy).1 D.g_Busy (raises0 D.xr_Busy).2.1 (raises0 D.xr_Busy).2.2 (L2N.takes_of rfl rfl rfl rfl)))
  jss_nil))
theorem S_Session_undo : FnScope N_Session_undo ["self"] (defScope (inClass (top 42) 8)) := ⟨rfl, rfl, rfl, by decide +kernel, rfl, by decide +kernel, by decide +kernel⟩
theorem J_Session_undo {P : Program} {w : World} {K : Frag} {mg : Str → Option Value} {h base : Heap} (D : Wd w K mg h base) (h_Session_check_free : Keeps P w K mg base 2 (He.fAd K ("Session", some "check_free")) 1 G_Session_check_free) (h_Session_show : Keeps P w K mg base 3 (He.fAd K ("Session", some "show")) 3 G_Session_show) (cdv : Value) (A : Around) (outer : List Env) (s : Shared) (H : Hp) (E : XK) (hc : CodeAt K (He.fAd K ("Session", some "undo")) cdv) (hr : RoomG 3 (A.deeper (envOfC "Session.undo" (defScope (inClass (top 42) 8)) s.heap.objs.size (He.fAd K ("Session", some "undo")) cdv))) :
    JSs (cxOf (L2N.CX P w) P w K mg base N_Session_undo "Session.undo" (defScope (inClass (top 42) 8)) (He.fAd K ("Session", some "undo")) cdv A outer s H E) (fun cls d _ H => E cls d H) (defBody (inClass (top 42) 8)) b_Session_undo := by
  have S := S_Session_undo
  exact (jss_cons (js_expr (je_meth0 (je_var (pe_var (i := 0) rfl (.inl rfl))) D.c_Session D.m_Session_check_free h_Session_check_free (hr.mono (by decide)) (L2N.takes_of rfl rfl rfl rfl)))
  (jss_cons (js_if (jt_eqD hr (je_B (CallR.or call_len_seq call_len_str) bsLen D.u_len rfl (ja_cons (je_fld D.f_past (je_var (pe_var (i := 0) rfl (.inl rfl)))) ja_nil)) je_int)
  (jss_one (js_raise0 PySem.F.excBase_LookupError (raises0 D.xr_NothingToUndo).1 D.g_NothingToUndo (raises0 D.xr_NothingToUndo).2.1 (raises0 D.xr_NothingToUndo).2.2 (L2N.takes_of rfl rfl rfl rfl)))
  jss_nil)
  (jss_one (js_expr (je_meth (je_var (pe_var (i := 0) rfl (.inl rfl))) D.c_Session D.m_Session_show h_Session_show (hr.mono (by decide)) (L2N.takes_of rfl rfl rfl rfl) (ja_cons (je_ix (je_fld D.f_past (je_var (pe_var (i := 0) rfl (.inl rfl)))) (je_neg je_int)) (ja_cons (je_sl (je_fld D.f_past (je_var (pe_var (i := 0) rfl (.inl rfl)))) jo_none (jo_some (je_neg je_int))) ja_nil)))))))
theorem S_law_copied : FnScope N_law_copied ["_law_world"] (defScope (top 61)) := ⟨rfl, rfl, rfl, by decide +kernel, rfl, by decide +kernel, by decide +kernel⟩
theorem J_law_copied {P : Program} {w : World} {K : Frag} {mg : Str → Option Value} {h base : Heap} (D : Wd w K mg h base) (cdv : Value) (A : Around) (outer : List Env) (s : Shared) (H : Hp) (E : XK) (hc : CodeAt K (He.fAd K ("_law_copied", none)) cdv) (hr : RoomG 1 (A.deeper (envOfC "_law_copied" (defScope (top 61)) s.heap.objs.size (He.fAd K ("_law_copied", none)) cdv))) :
    JSs (cxOf (L2N.CX P w) P w K mg base N_law_copied "_law_copied" (defScope (top 61)) (He.fAd K ("_law_copied", none)) cdv A outer s H E) (fun cls d _ H => E cls d H) (defBody (top 61)) b_law_copied := by
  have S := S_law_copied
  exact (jss_one (js_ret (je_lstM (ja_cons (je_ix (je_var (pe_var (i := 0) rfl (.inl rfl))) je_int) (ja_cons (je_ix (je_var (pe_var (i := 0) rfl (.inl rfl))) je_int) (ja_cons (je_lst (ja_cons (je_BT call_list_of bsListM D.u_list rfl (ja_cons (je_ix (je_ix (je_var (pe_var (i := 0) rfl (.inl rfl))) je_int) je_int) ja_nil)) (ja_cons (je_BT call_list_of bsListM D.u_list rfl (ja_cons (je_ix (je_ix (je_var (pe_var (i := 0) rfl (.inl rfl))) je_int) je_int) ja_nil)) ja_nil))) (ja_cons (je_BT call_list_of bsListM D.u_list rfl (ja_cons (je_ix (je_var (pe_var (i := 0) rfl (.inl rfl))) je_int) ja_nil)) (ja_cons (je_BT call_list_of bsListM D.u_list rfl (ja_cons (je_ix (je_var (pe_var (i := 0) rfl (.inl rfl))) je_int) ja_nil)) ja_nil))))))))
theorem S_law_job : FnScope N_law_job ["_law_well_here", "_law_world"] (defScope (top 62)) := ⟨rfl, rfl, rfl, by decide +kernel, rfl, by decide +kernel, by decide +kernel⟩
theorem J_law_job {P : Program} {w : World} {K : Frag} {mg : Str → Option Value} {h base : Heap} (D : Wd w K mg h base) (h_law_draw : Keeps P w K mg base 2 (He.fAd K ("_law_draw", none)) 2 G_law_draw) (h_law_one_of : Keeps P w K mg base 3 (He.fAd K ("_law_one_of", none)) 2 G_law_one_of) (cdv : Value) (A : Around) (outer : List Env) (s : Shared) (H : Hp) (E : XK) (hc : CodeAt K (He.fAd K ("_law_job", none)) cdv) (hr : RoomG 3 (A.deeper (envOfC "_law_job" (defScope (top 62)) s.heap.objs.size (He.fAd K ("_law_job", none)) cdv))) :
    JSs (cxOf (L2N.CX P w) P w K mg base N_law_job "_law_job" (defScope (top 62)) (He.fAd K ("_law_job", none)) cdv A outer s H E) (fun cls d _ H => E cls d H) (defBody (top 62)) b_law_job := by
  have S := S_law_job
  exact (jss_cons (js_par (ja_cons (je_call h_law_draw (hr.mono (by decide)) D.g__law_draw D.k_law_draw (L2N.takes_of rfl rfl rfl rfl) (ja_cons (je_var (pe_var (i := 0) rfl (.inl rfl))) (ja_cons je_int ja_nil))) (ja_cons (je_call h_law_draw (hr.mono (by decide)) D.g__law_draw D.k_law_draw (L2N.takes_of rfl rfl rfl rfl) (ja_cons (je_var (pe_var (i := 0) rfl (.inl rfl))) (ja_cons je_int ja_nil))) ja_nil)) (fun h => ps_par (i := 2) (j := 3) rfl S.nd rfl rfl (by decide) rfl rfl h rfl))
  (jss_cons (js_set (je_sub (je_ix (je_ix (je_ix (je_var (pe_var (i := 1) rfl (.inl rfl))) je_int) (je_var (pe_var (i := 3) rfl (.inl rfl)))) je_int) (je_ix (je_ix (je_ix (je_var (pe_var (i := 1) rfl (.inl rfl))) je_int) (je_var (pe_var (i := 3) rfl (.inl rfl)))) je_int)) (fun h => ps_set (i := 4) S.nd rfl (.inl rfl) h))
  (jss_cons (js_if (PWPT (jw_and (jt_lt (je_var (pe_var (i := 2) rfl (.inl rfl))) je_int) (jw_and1 (jt_gt (je_var (pe_var (i := 4) rfl (.inl rfl))) je_int))))
  (jss_one (js_ret (je_tup (ja_cons je_str (ja_cons (je_var (pe_var (i := 3) rfl (.inl rfl))) (ja_cons (je_plus je_int (je_call h_law_draw (hr.mono (by decide)) D.g__law_draw D.k_law_draw (L2N.takes_of rfl rfl rfl rfl) (ja_cons (je_var (pe_var (i := 0) rfl (.inl rfl))) (ja_cons (je_B (call_min2 rfl) bsMin2 D.u_min rfl (ja_cons (je_var (pe_var (i := 4) rfl (.inl rfl))) (ja_cons je_int ja_nil))) ja_nil)))) ja_nil))))))
  jss_nil)
  (jss_cons (js_if (jt_lt (je_var (pe_var (i := 2) rfl (.inl rfl))) je_int)
  (jss_one (js_ret (je_tup (ja_cons je_str (ja_cons (je_var (pe_var (i := 3) rfl (.inl rfl))) (ja_cons (je_plus je_int (je_call h_law_draw (hr.mono (by decide)) D.g__law_draw D.k_law_draw (L2N.takes_of rfl rfl rfl rfl) (ja_cons (je_var (pe_var (i := 0) rfl (.inl rfl))) (ja_cons (je_call h_law_one_of (hr.mono (by decide)) D.g__law_one_of D.k_law_one_of (L2N.takes_of rfl rfl rfl rfl) (ja_cons (je_var (pe_var (i := 0) rfl (.inl rfl))) (ja_cons (je_lst (ja_cons je_int (ja_cons je_int (ja_cons je_int (ja_cons (je_B (call_min2 rfl) bsMin2 D.u_min rfl (ja_cons je_int (ja_cons (je_mul je_int (je_ix (je_ix (je_var (pe_var (i := 1) rfl (.inl rfl))) je_int) je_int)) ja_nil))) ja_nil))))) ja_nil))) ja_nil)))) ja_nil))))))
  jss_nil)
  (jss_one (js_ret (je_tup (ja_cons je_str (ja_cons (je_plus je_int (je_call h_law_draw (hr.mono (by decide)) D.g__law_draw D.k_law_draw (L2N.takes_of rfl rfl rfl rfl) (ja_cons (je_var (pe_var (i := 0) rfl (.inl rfl))) (ja_cons (je_call h_law_one_of (hr.mono (by decide)) D.g__law_one_of D.k_law_one_of (L2N.takes_of rfl rfl rfl rfl) (ja_cons (je_var (pe_var (i := 0) rfl (.inl rfl))) (ja_cons (je_lst (ja_cons je_int (ja_cons je_int (ja_cons je_int (ja_cons je_int (ja_cons je_int ja_nil)))))) ja_nil))) ja_nil)))) ja_nil)))))))))
theorem S_InvalidSide_init : FnScope N_InvalidSide_init ["self", "value"] (defScope (inClass (top 9) 0)) := ⟨rfl, rfl, rfl, by decide +kernel, rfl, by decide +kernel, by decide +kernel⟩
theorem S_check_side : FnScope N_check_side ["value"] (defScope (top 32)) := ⟨rfl, rfl, rfl, by decide +kernel, rfl, by decide +kernel, by decide +kernel⟩
theorem J_check_side {P : Program} {w : World} {K : Frag} {mg : Str → Option Value} {h base : Heap} (D : Wd w K mg h base) (h_is_between : Keeps P w K mg base 3 (He.fAd K ("is_between", none)) 3 G_is_between) (h_InvalidSide_init : OexK P w K mg base (He.fAd K ("InvalidSide", some "__init__")) "value") (cdv : Value) (A : Around) (outer : List Env) (s : Shared) (H : Hp) (E : XK) (hc : CodeAt K (He.fAd K ("check_side", none)) cdv) (hr : RoomG 3 (A.deeper (envOfC "check_side" (defScope (top 32)) s.heap.objs.size (He.fAd K ("check_side", none)) cdv))) :
    JSs (cxOf (L2N.CX P w) P w K mg base N_check_side "check_side" (defScope (top 32)) (He.fAd K ("check_side", none)) cdv A outer s H E) (fun cls d _ H => E cls d H) (defBody (top 32)) b_check_side := by
  have S := S_check_side
  exact (jss_one (js_if (jt_not (jt_val (je_call h_is_between (hr.mono (by decide)) D.g_is_between D.k_is_between (L2N.takes_of rfl rfl rfl rfl) (ja_cons (je_var (pe_var (i := 0) rfl (.inl rfl))) (ja_cons je_int (ja_cons je_int ja_nil))))))
  (jss_one (js_raise1 (je_var (pe_var (i := 0) rfl (.inl rfl))) D.xo_InvalidSide h_InvalidSide_init (hr.mono (by decide)) D.g_InvalidSide (L2N.takes_of rfl rfl rfl rfl)))
  jss_nil))
theorem S_check_deed : FnScope N_check_deed ["flow", "deed"] (defScope (top 35)) := ⟨rfl, rfl, rfl, by decide +kernel, rfl, by decide +kernel, by decide +kernel⟩
theorem J_check_deed {P : Program} {w : World} {K : Frag} {mg : Str → Option Value} {h base : Heap} (D : Wd w K mg h base) (h_check_side : Keeps P w K mg base 4 (He.fAd K ("check_side", none)) 1 G_check_side) (h_check_number : Keeps P w K mg base 4 (He.fAd K ("check_number", none)) 3 G_check_number) (h_Flow_fresh : Keeps P w K mg base 2 (He.fAd K ("Flow", some "fresh")) 2 G_Flow_fresh) (cdv : Value) (A : Around) (outer : List Env) (s : Shared) (H : Hp) (E : XK) (hc : CodeAt K (He.fAd K ("check_deed", none)) cdv) (hr : RoomG 4 (A.deeper (envOfC "check_deed" (defScope (top 35)) s.heap.objs.size (He.fAd K ("check_deed", none)) cdv))) :
    JSs (cxOf (L2N.CX P w) P w K mg base N_check_deed "check_deed" (defScope (top 35)) (He.fAd K ("check_deed", none)) cdv A outer s H E) (fun cls d _ H => E cls d H) (defBody (top 35)) b_check_deed := by
  have S := S_check_deed
  exact (jss_cons (js_if (jt_neD hr (je_ix (je_var (pe_var (i := 1) rfl (.inl rfl))) je_int) je_str)
  (jss_one (js_expr (je_call h_check_side (hr.mono (by decide)) D.g_check_side D.k_check_side (L2N.takes_of rfl rfl rfl rfl) (ja_cons (je_ix (je_var (pe_var (i := 1) rfl (.inl rfl))) je_int) ja_nil))))
  jss_nil)
  (jss_cons (js_expr (je_call h_check_number (hr.mono (by decide)) D.g_check_number D.k_check_number (L2N.takes_of rfl rfl rfl rfl) (ja_cons (je_ix (je_var (pe_var (i := 1) rfl (.inl rfl))) (je_neg je_int)) (ja_cons je_int (ja_cons (je_gint D.i_MOST_BYTES) ja_nil)))))
  (jss_one (js_if (PWPT (jw_and (jt_eqD hr (je_ix (je_var (pe_var (i := 1) rfl (.inl rfl))) je_int) je_str) (jw_and1 (jt_lt (je_meth (je_var (pe_var (i := 0) rfl (.inl rfl))) D.c_Flow D.m_Flow_fresh h_Flow_fresh (hr.mono (by decide)) (L2N.takes_of rfl rfl rfl rfl) (ja_cons (je_ix (je_var (pe_var (i := 1) rfl (.inl rfl))) je_int) ja_nil)) (je_ix (je_var (pe_var (i := 1) rfl (.inl rfl))) je_int)))))
  (jss_one (js_raise0 PySem.F.excBase_LookupError (raises0 D.xr_NotThere).1 D.g_NotThere (raises0 D.xr_NotThere).2.1 (raises0 D.xr_NotThere).2.2 (L2N.takes_of rfl rfl rfl rfl)))
  jss_nil))))
theorem S_TooMany_init : FnScope N_TooMany_init ["self", "limit"] (defScope (inClass (top 14) 0)) := ⟨rfl, rfl, rfl, by decide +kernel, rfl, by decide +kernel, by decide +kernel⟩
theorem S_Flow_copied : FnScope N_Flow_copied ["self"] (defScope (inClass (top 39) 13)) := ⟨rfl, rfl, rfl, by decide +kernel, rfl, by decide +kernel, by decide +kernel⟩
theorem J_Flow_copied {P : Program} {w : World} {K : Frag} {mg : Str → Option Value} {h base : Heap} (D : Wd w K mg h base) (h_Flow_init : Keeps P w K mg base 2 (He.fAd K ("Flow", some "__init__")) 2 G_Flow_init) (cdv : Value) (A : Around) (outer : List Env) (s : Shared) (H : Hp) (E : XK) (hc : CodeAt K (He.fAd K ("Flow", some "copied")) cdv) (hr : RoomG 3 (A.deeper (envOfC "Flow.copied" (defScope (inClass (top 39) 13)) s.heap.objs.size (He.fAd K ("Flow", some "copied")) cdv))) :
    JSs (cxOf (L2N.CX P w) P w K mg base N_Flow_copied "Flow.copied" (defScope (inClass (top 39) 13)) (He.fAd K ("Flow", some "copied")) cdv A outer s H E) (fun cls d _ H => E cls d H) (defBody (inClass (top 39) 13)) b_Flow_copied := by
  have S := S_Flow_copied
  exact (jss_cons (js_set (je_make D.mk_Flow h_Flow_init (hr.mono (by decide)) D.g_Flow (L2N.takes_of rfl rfl rfl rfl) (ja_cons (je_fld D.f_line (je_var (pe_var (i := 0) rfl (.inl rfl)))) ja_nil)) (fun h => ps_set (i := 1) S.nd rfl (.inl rfl) h))
  (jss_cons (js_fld D.f_tick (je_fld D.f_tick (je_var (pe_var (i := 0) rfl (.inl rfl)))) (je_var (pe_var (i := 1) rfl (.inl rfl))))
  (jss_cons (js_fld D.f_stock (je_lst (ja_cons (je_BT call_list_of bsListM D.u_list rfl (ja_cons (je_ix (je_fld D.f_stock (je_var (pe_var (i := 0) rfl (.inl rfl)))) je_int) ja_nil)) (ja_cons (je_BT call_list_of bsListM D.u_list rfl (ja_cons (je_ix (je_fld D.f_stock (je_var (pe_var (i := 0) rfl (.inl rfl)))) je_int) ja_nil)) ja_nil))) (je_var (pe_var (i := 1) rfl (.inl rfl))))
  (jss_cons (js_asg (je_tup (ja_cons (je_BT call_list_of bsListM D.u_list rfl (ja_cons (je_fld D.f_out (je_var (pe_var (i := 0) rfl (.inl rfl)))) ja_nil)) (ja_cons (je_BT call_list_of bsListM D.u_list rfl (ja_cons (je_fld D.f_known (je_var (pe_var (i := 0) rfl (.inl rfl)))) ja_nil)) (ja_cons (je_BT call_list_of bsListM D.u_list rfl (ja_cons (je_fld D.f_small (je_var (pe_var (i := 0) rfl (.inl rfl)))) ja_nil)) ja_nil)))) (jg_tup rfl (jgs_cons (W := NoW) (jg_fld D.f_out (je_var (pe_var (i := 1) rfl (.inl rfl)))) (jgs_cons (W := NoW) (jg_fld D.f_known (je_var (pe_var (i := 1) rfl (.inl rfl)))) (jgs_cons (W := NoW) (jg_fld D.f_small (je_var (pe_var (i := 1) rfl (.inl rfl)))) jgs_nil)))))
  (jss_cons (js_asg (je_tup (ja_cons (je_BT call_list_of bsListM D.u_list rfl (ja_cons (je_fld D.f_come (je_var (pe_var (i := 0) rfl (.inl rfl)))) ja_nil)) (ja_cons (je_BT call_list_of bsListM D.u_list rfl (ja_cons (je_fld D.f_taken (je_var (pe_var (i := 0) rfl (.inl rfl)))) ja_nil)) (ja_cons (je_BT call_list_of bsListM D.u_list rfl (ja_cons (je_fld D.f_full (je_var (pe_var (i := 0) rfl (.inl rfl)))) ja_nil)) ja_nil)))) (jg_tup rfl (jgs_cons (W := NoW) (jg_fld D.f_come (je_var (pe_var (i := 1) rfl (.inl rfl)))) (jgs_cons (W := NoW) (jg_fld D.f_taken (je_var (pe_var (i := 1) rfl (.inl rfl)))) (jgs_cons (W := NoW) (jg_fld D.f_full (je_var (pe_var (i := 1) rfl (.inl rfl)))) jgs_nil)))))
  (jss_cons (js_asg (je_tup (ja_cons (je_BT call_list_of bsListM D.u_list rfl (ja_cons (je_fld D.f_first (je_var (pe_var (i := 0) rfl (.inl rfl)))) ja_nil)) (ja_cons (je_BT call_list_of bsListM D.u_list rfl (ja_cons (je_fld D.f_long (je_var (pe_var (i := 0) rfl (.inl rfl)))) ja_nil)) ja_nil))) (jg_tup rfl (jgs_cons (W := NoW) (jg_fld D.f_first (je_var (pe_var (i := 1) rfl (.inl rfl)))) (jgs_cons (W := NoW) (jg_fld D.f_long (je_var (pe_var (i := 1) rfl (.inl rfl)))) jgs_nil))))
  (jss_cons (js_asg (je_tup (ja_cons (je_BT call_list_of bsListM D.u_list rfl (ja_cons (je_fld D.f_flight (je_var (pe_var (i := 0) rfl (.inl rfl)))) ja_nil)) (ja_cons (je_BT call_list_of bsListM D.u_list rfl (ja_cons (je_fld D.f_log (je_var (pe_var (i := 0) rfl (.inl rfl)))) ja_nil)) ja_nil))) (jg_tup rfl (jgs_cons (W := NoW) (jg_fld D.f_flight (je_var (pe_var (i := 1) rfl (.inl rfl)))) (jgs_cons (W := NoW) (jg_fld D.f_log (je_var (pe_var (i := 1) rfl (.inl rfl)))) jgs_nil))))
  (jss_one (js_ret (je_var (pe_var (i := 1) rfl (.inl rfl))))))))))))
theorem S_Flow_take_out : FnScope N_Flow_take_out ["self", "side", "amount"] (defScope (inClass (top 39) 3)) := ⟨rfl, rfl, rfl, by decide +kernel, rfl, by decide +kernel, by decide +kernel⟩
theorem J_Flow_take_out {P : Program} {w : World} {K : Frag} {mg : Str → Option Value} {h base : Heap} (D : Wd w K mg h base) (cdv : Value) (A : Around) (outer : List Env) (s : Shared) (H : Hp) (E : XK) (hc : CodeAt K (He.fAd K ("Flow", some "take_out")) cdv) (hr : RoomG 1 (A.deeper (envOfC "Flow.take_out" (defScope (inClass (top 39) 3)) s.heap.objs.size (He.fAd K ("Flow", some "take_out")) cdv))) :
    JSs (cxOf (L2N.CX P w) P w K mg base N_Flow_take_out "Flow.take_out" (defScope (inClass (top 39) 3)) (He.fAd K ("Flow", some "take_out")) cdv A outer s H E) (fun cls d _ H => E cls d H) (defBody (inClass (top 39) 3)) b_Flow_take_out := by
  have S := S_Flow_take_out
  exact (jss_cons (js_set (je_var (pe_var (i := 2) rfl (.inl rfl))) (fun h => ps_set (i := 3) S.nd rfl (.inl rfl) h))
  (jss_one (js_while (passes_of rfl) (jt_gt (je_var (pe_var (i := 3) rfl (.inl rfl))) je_int)
  (jss_cons (js_asg (je_ix (je_ix (je_fld D.f_stock (je_var (pe_var (i := 0) rfl (.inl rfl)))) (je_var (pe_var (i := 1) rfl (.inl rfl)))) je_int) (jg_tup rfl (jgs_cons (W := NoW) (jg_name (i := 4) (pg_name S.nd rfl (.inl rfl))) (jgs_cons (W := NoW) (jg_name (i := 5) (pg_name S.nd rfl (.inl rfl))) jgs_nil))))
  (jss_cons (js_asg (je_B (call_max2 rfl) bsMax2 D.u_max rfl (ja_cons (je_ix (je_fld D.f_long (je_var (pe_var (i := 0) rfl (.inl rfl)))) (je_var (pe_var (i := 1) rfl (.inl rfl)))) (ja_cons (je_sub (je_fld D.f_tick (je_var (pe_var (i := 0) rfl (.inl rfl)))) (je_var (pe_var (i := 5) rfl (.inl rfl)))) ja_nil))) (jg_sub (je_fld D.f_long (je_var (pe_var (i := 0) rfl (.inl rfl)))) (je_var (pe_var (i := 1) rfl (.inl rfl)))))
  (jss_cons (js_if (jt_gt (je_var (pe_var (i := 4) rfl (.inl rfl))) (je_var (pe_var (i := 3) rfl (.inl rfl))))
  (jss_one (js_asg (je_tup (ja_cons (je_sub (je_var (pe_var (i := 4) rfl (.inl rfl))) (je_var (pe_var (i := 3) rfl (.inl rfl)))) (ja_cons (je_var (pe_var (i := 5) rfl (.inl rfl))) ja_nil))) (jg_sub (je_ix (je_fld D.f_stock (je_var (pe_var (i := 0) rfl (.inl rfl)))) (je_var (pe_var (i := 1) rfl (.inl rfl)))) je_int)))
  (jss_one (js_del (je_ix (je_fld D.f_stock (je_var (pe_var (i := 0) rfl (.inl rfl)))) (je_var (pe_var (i := 1) rfl (.inl rfl)))) je_int)))
  (jss_one (js_aug (je_B (call_min2 rfl) bsMin2 D.u_min rfl (ja_cons (je_var (pe_var (i := 4) rfl (.inl rfl))) (ja_cons (je_var (pe_var (i := 3) rfl (.inl rfl))) ja_nil))) (fun h => ps_aug (i := 3) S.nd rfl (.inl rfl) h ip_sub)))))))))
theorem S_Flow_send : FnScope N_Flow_send ["self", "side", "amount"] (defScope (inClass (top 39) 4)) := ⟨rfl, rfl, rfl, by decide +kernel, rfl, by decide +kernel, by decide +kernel⟩
theorem J_Flow_send {P : Program} {w : World} {K : Frag} {mg : Str → Option Value} {h base : Heap} (D : Wd w K mg h base) (h_Flow_take_out : Keeps P w K mg base 2 (He.fAd K ("Flow", some "take_out")) 3 G_Flow_take_out) (cdv : Value) (A : Around) (outer : List Env) (s : Shared) (H : Hp) (E : XK) (hc : CodeAt K (He.fAd K ("Flow", some "send")) cdv) (hr : RoomG 2 (A.deeper (envOfC "Flow.send" (defScope (inClass (top 39) 4)) s.heap.objs.size (He.fAd K ("Flow", some "send")) cdv))) :
    JSs (cxOf (L2N.CX P w) P w K mg base N_Flow_send "Flow.send" (defScope (inClass (top 39) 4)) (He.fAd K ("Flow", some "send")) cdv A outer s H E) (fun cls d _ H => E cls d H) (defBody (inClass (top 39) 4)) b_Flow_send := by
  have S := S_Flow_send
  exact (jss_cons (js_expr (je_meth (je_var (pe_var (i := 0) rfl (.inl rfl))) D.c_Flow D.m_Flow_take_out h_Flow_take_out (hr.mono (by decide)) (L2N.takes_of rfl rfl rfl rfl) (ja_cons (je_var (pe_var (i := 1) rfl (.inl rfl))) (ja_cons (je_var (pe_var (i := 2) rfl (.inl rfl))) ja_nil))))
  (jss_cons (js_augS (je_fld D.f_out (je_var (pe_var (i := 0) rfl (.inl rfl)))) (je_var (pe_var (i := 1) rfl (.inl rfl))) (je_var (pe_var (i := 2) rfl (.inl rfl))) ip_add)
  (jss_cons (js_if (jt_chain op_lt op_lt oiLt oiLt je_int (je_var (pe_var (i := 2) rfl (.inl rfl))) (je_fld D.f_size (je_fld D.f_line (je_var (pe_var (i := 0) rfl (.inl rfl))))) (by rfl))
  (jss_one (js_asg (je_ix (je_fld D.f_out (je_var (pe_var (i := 0) rfl (.inl rfl)))) (je_var (pe_var (i := 1) rfl (.inl rfl)))) (jg_sub (je_fld D.f_small (je_var (pe_var (i := 0) rfl (.inl rfl)))) (je_var (pe_var (i := 1) rfl (.inl rfl))))))
  jss_nil)
  (jss_cons (js_expr (je_mt mt_append msAppend PySem.F.slot_list_append PySem.F.type_list_append (je_fld D.f_log (je_var (pe_var (i := 0) rfl (.inl rfl)))) (ja_cons (je_tup (ja_cons (je_fld D.f_tick (je_var (pe_var (i := 0) rfl (.inl rfl)))) (ja_cons (je_var (pe_var (i := 1) rfl (.inl rfl))) (ja_cons (je_var (pe_var (i := 2) rfl (.inl rfl))) (ja_cons (je_ix (je_fld D.f_come (je_var (pe_var (i := 0) rfl (.inl rfl)))) (je_var (pe_var (i := 1) rfl (.inl rfl)))) ja_nil))))) ja_nil) (fun a b => pe_bm PySem.F.plainAttrs_list PySem.F.slot_list_append PySem.F.type_list_append mt_append a b)))
  (jss_cons (js_expr (je_mt mt_append msAppend PySem.F.slot_list_append PySem.F.type_list_append (je_fld D.f_flight (je_var (pe_var (i := 0) rfl (.inl rfl)))) (ja_cons (je_tup (ja_cons (je_plus (je_fld D.f_tick (je_var (pe_var (i := 0) rfl (.inl rfl)))) (je_fld D.f_way (je_fld D.f_line (je_var (pe_var (i := 0) rfl (.inl rfl)))))) (ja_cons (je_var (pe_var (i := 1) rfl (.inl rfl))) (ja_cons (je_var (pe_var (i := 2) rfl (.inl rfl))) (ja_cons (je_ix (je_fld D.f_come (je_var (pe_var (i := 0) rfl (.inl rfl)))) (je_var (pe_var (i := 1) rfl (.inl rfl)))) ja_nil))))) ja_nil) (fun a b => pe_bm PySem.F.plainAttrs_list PySem.F.slot_list_append PySem.F.type_list_append mt_append a b)))
  (jss_cons (js_asg je_int (jg_sub (je_fld D.f_full (je_var (pe_var (i := 0) rfl (.inl rfl)))) (je_var (pe_var (i := 1) rfl (.inl rfl)))))
  (jss_one (js_asg je_non (jg_sub (je_fld D.f_first (je_var (pe_var (i := 0) rfl (.inl rfl)))) (je_var (pe_var (i := 1) rfl (.inl rfl))))))))))))
theorem S_Flow_lets : FnScope N_Flow_lets ["self", "side"] (defScope (inClass (top 39) 5)) := ⟨rfl, rfl, rfl, by decide +kernel, rfl, by decide +kernel, by decide +kernel⟩
theorem J_Flow_lets {P : Program} {w : World} {K : Frag} {mg : Str → Option Value} {h base : Heap} (D : Wd w K mg h base) (cdv : Value) (A : Around) (outer : List Env) (s : Shared) (H : Hp) (E : XK) (hc : CodeAt K (He.fAd K ("Flow", some "lets")) cdv) (hr : RoomG 1 (A.deeper (envOfC "Flow.lets" (defScope (inClass (top 39) 5)) s.heap.objs.size (He.fAd K ("Flow", some "lets")) cdv))) :
    JSs (cxOf (L2N.CX P w) P w K mg base N_Flow_lets "Flow.lets" (defScope (inClass (top 39) 5)) (He.fAd K ("Flow", some "lets")) cdv A outer s H E) (fun cls d _ H => E cls d H) (defBody (inClass (top 39) 5)) b_Flow_lets := by
  have S := S_Flow_lets
  exact (jss_cons (js_set (je_fld D.f_rule (je_ix (je_fld D.f_settings (je_var (pe_var (i := 0) rfl (.inl rfl)))) (je_var (pe_var (i := 1) rfl (.inl rfl))))) (fun h => ps_set (i := 2) S.nd rfl (.inl rfl) h))
  (jss_cons (js_if (jt_eqD hr (je_var (pe_var (i := 2) rfl (.inl rfl))) je_str)
  (jss_one (js_ret (je_eqD hr (je_ix (je_fld D.f_out (je_var (pe_var (i := 0) rfl (.inl rfl)))) (je_var (pe_var (i := 1) rfl (.inl rfl)))) (je_ix (je_fld D.f_known (je_var (pe_var (i := 0) rfl (.inl rfl)))) (je_var (pe_var (i := 1) rfl (.inl rfl)))))))
  jss_nil)
  (jss_one (js_ret (je_or (je_eqD hr (je_var (pe_var (i := 2) rfl (.inl rfl))) je_str) (je_one (je_le (je_ix (je_fld D.f_small (je_var (pe_var (i := 0) rfl (.inl rfl)))) (je_var (pe_var (i := 1) rfl (.inl rfl)))) (je_ix (je_fld D.f_known (je_var (pe_var (i := 0) rfl (.inl rfl)))) (je_var (pe_var (i := 1) rfl (.inl rfl)))))))))))
theorem S_Flow_let_go : FnScope N_Flow_let_go ["self", "side"] (defScope (inClass (top 39) 6)) := ⟨rfl, rfl, rfl, by decide +kernel, rfl, by decide +kernel, by decide +kernel⟩
theorem J_Flow_let_go {P : Program} {w : World} {K : Frag} {mg : Str → Option Value} {h base : Heap} (D : Wd w K mg h base) (h_Flow_kept : Keeps P w K mg base 2 (He.fAd K ("Flow", some "kept")) 2 G_Flow_kept) (h_Flow_send : Keeps P w K mg base 3 (He.fAd K ("Flow", some "send")) 3 G_Flow_send) (h_Flow_lets : Keeps P w K mg base 2 (He.fAd K ("Flow", some "lets")) 2 G_Flow_lets) (cdv : Value) (A : Around) (outer : List Env) (s : Shared) (H : Hp) (E : XK) (hc : CodeAt K (He.fAd K ("Flow", some "let_go")) cdv) (hr : RoomG 3 (A.deeper (envOfC "Flow.let_go" (defScope (inClass (top 39) 6)) s.heap.objs.size (He.fAd K ("Flow", some "let_go")) cdv))) :
    JSs (cxOf (L2N.CX P w) P w K mg base N_Flow_let_go "Flow.let_go" (defScope (inClass (top 39) 6)) (He.fAd K ("Flow", some "let_go")) cdv A outer s H E) (fun cls d _ H => E cls d H) (defBody (inClass (top 39) 6)) b_Flow_let_go := by
  have S := S_Flow_let_go
  exact (jss_cons (js_while (passes_of rfl) (jt_ge (je_meth (je_var (pe_var (i := 0) rfl (.inl rfl))) D.c_Flow D.m_Flow_kept h_Flow_kept (hr.mono (by decide)) (L2N.takes_of rfl rfl rfl rfl) (ja_cons (je_var (pe_var (i := 1) rfl (.inl rfl))) ja_nil)) (je_fld D.f_size (je_fld D.f_line (je_var (pe_var (i := 0) rfl (.inl rfl))))))
  (jss_one (js_expr (je_meth (je_var (pe_var (i := 0) rfl (.inl rfl))) D.c_Flow D.m_Flow_send h_Flow_send (hr.mono (by decide)) (L2N.takes_of rfl rfl rfl rfl) (ja_cons (je_var (pe_var (i := 1) rfl (.inl rfl))) (ja_cons (je_fld D.f_size (je_fld D.f_line (je_var (pe_var (i := 0) rfl (.inl rfl))))) ja_nil))))))
  (jss_cons (js_set (je_meth (je_var (pe_var (i := 0) rfl (.inl rfl))) D.c_Flow D.m_Flow_kept h_Flow_kept (hr.mono (by decide)) (L2N.takes_of rfl rfl rfl rfl) (ja_cons (je_var (pe_var (i := 1) rfl (.inl rfl))) ja_nil)) (fun h => ps_set (i := 2) S.nd rfl (.inl rfl) h))
  (jss_one (js_if (PWPT (jw_and (jt_gt (je_var (pe_var (i := 2) rfl (.inl rfl))) je_int) (jw_and1 (jt_val (je_meth (je_var (pe_var (i := 0) rfl (.inl rfl))) D.c_Flow D.m_Flow_lets h_Flow_lets (hr.mono (by decide)) (L2N.takes_of rfl rfl rfl rfl) (ja_cons (je_var (pe_var (i := 1) rfl (.inl rfl))) ja_nil))))))
  (jss_one (js_expr (je_meth (je_var (pe_var (i := 0) rfl (.inl rfl))) D.c_Flow D.m_Flow_send h_Flow_send (hr.mono (by decide)) (L2N.takes_of rfl rfl rfl rfl) (ja_cons (je_var (pe_var (i := 1) rfl (.inl rfl))) (ja_cons (je_var (pe_var (i := 2) rfl (.inl rfl))) ja_nil)))))
  jss_nil))))
theorem S_Flow_put : FnScope N_Flow_put ["self", "side", "amount"] (defScope (inClass (top 39) 7)) := ⟨rfl, rfl, rfl, by decide +kernel, rfl, by decide +kernel, by decide +kernel⟩
theorem J_Flow_put {P : Program} {w : World} {K : Frag} {mg : Str → Option Value} {h base : Heap} (D : Wd w K mg h base) (h_Flow_let_go : Keeps P w K mg base 4 (He.fAd K ("Flow", some "let_go")) 2 G_Flow_let_go) (cdv : Value) (A : Around) (outer : List Env) (s : Shared) (H : Hp) (E : XK) (hc : CodeAt K (He.fAd K ("Flow", some "put")) cdv) (hr : RoomG 4 (A.deeper (envOfC "Flow.put" (defScope (inClass (top 39) 7)) s.heap.objs.size (He.fAd K ("Flow", some "put")) cdv))) :
    JSs (cxOf (L2N.CX P w) P w K mg base N_Flow_put "Flow.put" (defScope (inClass (top 39) 7)) (He.fAd K ("Flow", some "put")) cdv A outer s H E) (fun cls d _ H => E cls d H) (defBody (inClass (top 39) 7)) b_Flow_put := by
  have S := S_Flow_put
  exact (jss_cons (js_expr (je_mt mt_append msAppend PySem.F.slot_list_append PySem.F.type_list_append (je_ix (je_fld D.f_stock (je_var (pe_var (i := 0) rfl (.inl rfl)))) (je_var (pe_var (i := 1) rfl (.inl rfl)))) (ja_cons (je_tup (ja_cons (je_var (pe_var (i := 2) rfl (.inl rfl))) (ja_cons (je_fld D.f_tick (je_var (pe_var (i := 0) rfl (.inl rfl)))) ja_nil))) ja_nil) (fun a b => pe_bm PySem.F.plainAttrs_list PySem.F.slot_list_append PySem.F.type_list_append mt_append a b)))
  (jss_one (js_expr (je_meth (je_var (pe_var (i := 0) rfl (.inl rfl))) D.c_Flow D.m_Flow_let_go h_Flow_let_go (hr.mono (by decide)) (L2N.takes_of rfl rfl rfl rfl) (ja_cons (je_var (pe_var (i := 1) rfl (.inl rfl))) ja_nil)))))
theorem S_Flow_is_due : FnScope N_Flow_is_due ["self", "side"] (defScope (inClass (top 39) 10)) := ⟨rfl, rfl, rfl, by decide +kernel, rfl, by decide +kernel, by decide +kernel⟩
theorem J_Flow_is_due {P : Program} {w : World} {K : Frag} {mg : Str → Option Value} {h base : Heap} (D : Wd w K mg h base) (cdv : Value) (A : Around) (outer : List Env) (s : Shared) (H : Hp) (E : XK) (hc : CodeAt K (He.fAd K ("Flow", some "is_due")) cdv) (hr : RoomG 1 (A.deeper (envOfC "Flow.is_due" (defScope (inClass (top 39) 10)) s.heap.objs.size (He.fAd K ("Flow", some "is_due")) cdv))) :
    JSs (cxOf (L2N.CX P w) P w K mg base N_Flow_is_due "Flow.is_due" (defScope (inClass (top 39) 10)) (He.fAd K ("Flow", some "is_due")) cdv A outer s H E) (fun cls d _ H => E cls d H) (defBody (inClass (top 39) 10)) b_Flow_is_due := by
  have S := S_Flow_is_due
  exact (jss_cons (js_set (je_ix (je_fld D.f_settings (je_var (pe_var (i := 0) rfl (.inl rfl)))) (je_var (pe_var (i := 1) rfl (.inl rfl)))) (fun h => ps_set (i := 2) S.nd rfl (.inl rfl) h))
  (jss_cons (js_if (jt_ge (je_ix (je_fld D.f_full (je_var (pe_var (i := 0) rfl (.inl rfl)))) (je_var (pe_var (i := 1) rfl (.inl rfl)))) (je_fld D.f_every (je_var (pe_var (i := 2) rfl (.inl rfl)))))
  (jss_one (js_ret je_bl))
  jss_nil)
  (jss_one (js_ret (je_and (je_notN (je_ix (je_fld D.f_first (je_var (pe_var (i := 0) rfl (.inl rfl)))) (je_var (pe_var (i := 1) rfl (.inl rfl)))) je_non) (je_one (je_ge (je_fld D.f_tick (je_var (pe_var (i := 0) rfl (.inl rfl)))) (je_plus (je_ix (je_fld D.f_first (je_var (pe_var (i := 0) rfl (.inl rfl)))) (je_var (pe_var (i := 1) rfl (.inl rfl)))) (je_fld D.f_delay (je_var (pe_var (i := 2) rfl (.inl rfl))))))))))))
theorem S_Flow_leave : FnScope N_Flow_leave ["self"] (defScope (inClass (top 39) 11)) := ⟨rfl, rfl, rfl, by decide +kernel, rfl, by decide +kernel, by decide +kernel⟩
theorem J_Flow_leave {P : Program} {w : World} {K : Frag} {mg : Str → Option Value} {h base : Heap} (D : Wd w K mg h base) (h_Flow_is_due : Keeps P w K mg base 2 (He.fAd K ("Flow", some "is_due")) 2 G_Flow_is_due) (h_Flow_send : Keeps P w K mg base 3 (He.fAd K ("Flow", some "send")) 3 G_Flow_send) (cdv : Value) (A : Around) (outer : List Env) (s : Shared) (H : Hp) (E : XK) (hc : CodeAt K (He.fAd K ("Flow", some "leave")) cdv) (hr : RoomG 3 (A.deeper (envOfC "Flow.leave" (defScope (inClass (top 39) 11)) s.heap.objs.size (He.fAd K ("Flow", some "leave")) cdv))) :
    JSs (cxOf (L2N.CX P w) P w K mg base N_Flow_leave "Flow.leave" (defScope (inClass (top 39) 11)) (He.fAd K ("Flow", some "leave")) cdv A outer s H E) (fun cls d _ H => E cls d H) (defBody (inClass (top 39) 11)) b_Flow_leave := by
  have S := S_Flow_leave
  exact (jss_one (js_for (passes_of rfl) rfl (ji_seq (je_tup (ja_cons je_int (ja_cons je_int ja_nil)))) (jg_name (i := 1) (pg_name S.nd rfl (.inl rfl)))
  (jss_one (js_if (jt_val (je_meth (je_var (pe_var (i := 0) rfl (.inl rfl))) D.c_Flow D.m_Flow_is_due h_Flow_is_due (hr.mono (by decide)) (L2N.takes_of rfl rfl rfl rfl) (ja_cons (je_var (pe_var (i := 1) rfl (.inl rfl))) ja_nil)))
  (jss_one (js_expr (je_meth (je_var (pe_var (i := 0) rfl (.inl rfl))) D.c_Flow D.m_Flow_send h_Flow_send (hr.mono (by decide)) (L2N.takes_of rfl rfl rfl rfl) (ja_cons (je_var (pe_var (i := 1) rfl (.inl rfl))) (ja_cons je_int ja_nil)))))
  jss_nil))))
theorem S_Flow_next_tick : FnScope N_Flow_next_tick ["self"] (defScope (inClass (top 39) 12)) := ⟨rfl, rfl, rfl, by decide +kernel, rfl, by decide +kernel, by decide +kernel⟩
theorem J_Flow_next_tick {P : Program} {w : World} {K : Frag} {mg : Str → Option Value} {h base : Heap} (D : Wd w K mg h base) (cdv : Value) (A : Around) (outer : List Env) (s : Shared) (H : Hp) (E : XK) (hc : CodeAt K (He.fAd K ("Flow", some "next_tick")) cdv) (hr : RoomG 1 (A.deeper (envOfC "Flow.next_tick" (defScope (inClass (top 39) 12)) s.heap.objs.size (He.fAd K ("Flow", some "next_tick")) cdv))) :
    JSs (cxOf (L2N.CX P w) P w K mg base N_Flow_next_tick "Flow.next_tick" (defScope (inClass (top 39) 12)) (He.fAd K ("Flow", some "next_tick")) cdv A outer s H E) (fun cls d _ H => E cls d H) (defBody (inClass (top 39) 12)) b_Flow_next_tick := by
  have S := S_Flow_next_tick
  exact (jss_cons (js_setLcM (own := [("piece", 3)]) (p := (.nm 3)) rfl S.nd rfl rfl (sw_true rfl rfl rfl rfl) (ji_seq (je_fld D.f_flight (je_var (pe_var (i := 0) rfl (.inl rfl))))) (blkOk_by rfl) (by decide) (fun _ _ _ _ _ => pg_name S.nd rfl (.inl rfl)) (fun _ _ _ _ _ => jts_nil) (fun _ _ _ _ _ => (je_ix (je_var (pe_var (i := 3) rfl (.inl rfl))) je_int)))
  (jss_cons (js_for (passes_of rfl) rfl (ji_seq (je_tup (ja_cons je_int (ja_cons je_int ja_nil)))) (jg_name (i := 2) (pg_name S.nd rfl (.inl rfl)))
  (jss_one (js_if (jt_notN (je_ix (je_fld D.f_first (je_var (pe_var (i := 0) rfl (.inl rfl)))) (je_var (pe_var (i := 2) rfl (.inl rfl)))) je_non)
  (jss_one (js_expr (je_mt mt_append msAppend PySem.F.slot_list_append PySem.F.type_list_append (je_var (pe_var (i := 1) rfl (.inl rfl))) (ja_cons (je_plus (je_ix (je_fld D.f_first (je_var (pe_var (i := 0) rfl (.inl rfl)))) (je_var (pe_var (i := 2) rfl (.inl rfl)))) (je_fld D.f_delay (je_ix (je_fld D.f_settings (je_var (pe_var (i := 0) rfl (.inl rfl)))) (je_var (pe_var (i := 2) rfl (.inl rfl)))))) ja_nil) (fun a b => pe_bm PySem.F.plainAttrs_list PySem.F.slot_list_append PySem.F.type_list_append mt_append a b))))
  jss_nil)))
  (jss_one (js_ret (je_if (jt_gt (je_B (CallR.or call_len_seq call_len_str) bsLen D.u_len rfl (ja_cons (je_var (pe_var (i := 1) rfl (.inl rfl))) ja_nil)) je_int) (je_B (cr_min rfl) bsMin D.u_min rfl (ja_cons (je_var (pe_var (i := 1) rfl (.inl rfl))) ja_nil)) je_non)))))
theorem S_Flow_land : FnScope N_Flow_land ["self", "sender", "amount", "answered"] (defScope (inClass (top 39) 8)) := ⟨rfl, rfl, rfl, by decide +kernel, rfl, by decide +kernel, by decide +kernel⟩
theorem J_Flow_land {P : Program} {w : World} {K : Frag} {mg : Str → Option Value} {h base : Heap} (D : Wd w K mg h base) (cdv : Value) (A : Around) (outer : List Env) (s : Shared) (H : Hp) (E : XK) (hc : CodeAt K (He.fAd K ("Flow", some "land")) cdv) (hr : RoomG 1 (A.deeper (envOfC "Flow.land" (defScope (inClass (top 39) 8)) s.heap.objs.size (He.fAd K ("Flow", some "land")) cdv))) :
    JSs (cxOf (L2N.CX P w) P w K mg base N_Flow_land "Flow.land" (defScope (inClass (top 39) 8)) (He.fAd K ("Flow", some "land")) cdv A outer s H E) (fun cls d _ H => E cls d H) (defBody (inClass (top 39) 8)) b_Flow_land := by
  have S := S_Flow_land
  exact (jss_cons (js_set (je_sub je_int (je_var (pe_var (i := 1) rfl (.inl rfl)))) (fun h => ps_set (i := 4) S.nd rfl (.inl rfl) h))
  (jss_cons (js_asg (je_B (call_max2 rfl) bsMax2 D.u_max rfl (ja_cons (je_ix (je_fld D.f_known (je_var (pe_var (i := 0) rfl (.inl rfl)))) (je_var (pe_var (i := 4) rfl (.inl rfl)))) (ja_cons (je_var (pe_var (i := 3) rfl (.inl rfl))) ja_nil))) (jg_sub (je_fld D.f_known (je_var (pe_var (i := 0) rfl (.inl rfl)))) (je_var (pe_var (i := 4) rfl (.inl rfl)))))
  (jss_one (js_if (jt_gt (je_var (pe_var (i := 2) rfl (.inl rfl))) je_int)
  (jss_cons (js_augS (je_fld D.f_come (je_var (pe_var (i := 0) rfl (.inl rfl)))) (je_var (pe_var (i := 4) rfl (.inl rfl))) (je_var (pe_var (i := 2) rfl (.inl rfl))) ip_add)
  (jss_cons (js_if (jt_eqD hr (je_var (pe_var (i := 2) rfl (.inl rfl))) (je_fld D.f_size (je_fld D.f_line (je_var (pe_var (i := 0) rfl (.inl rfl))))))
  (jss_one (js_augS (je_fld D.f_full (je_var (pe_var (i := 0) rfl (.inl rfl)))) (je_var (pe_var (i := 4) rfl (.inl rfl))) je_int ip_add))
  jss_nil)
  (jss_one (js_if (jt_isN (je_ix (je_fld D.f_first (je_var (pe_var (i := 0) rfl (.inl rfl)))) (je_var (pe_var (i := 4) rfl (.inl rfl)))) je_non)
  (jss_one (js_asg (je_fld D.f_tick (je_var (pe_var (i := 0) rfl (.inl rfl)))) (jg_sub (je_fld D.f_first (je_var (pe_var (i := 0) rfl (.inl rfl)))) (je_var (pe_var (i := 4) rfl (.inl rfl))))))
  jss_nil))))
  jss_nil))))
theorem S_Flow_begin : FnScope N_Flow_begin ["self", "tick"] (defScope (inClass (top 39) 9)) := ⟨rfl, rfl, rfl, by decide +kernel, rfl, by decide +kernel, by decide +kernel⟩
theorem J_Flow_begin {P : Program} {w : World} {K : Frag} {mg : Str → Option Value} {h base : Heap} (D : Wd w K mg h base) (h_Flow_land : Keeps P w K mg base 2 (He.fAd K ("Flow", some "land")) 4 G_Flow_land) (h_Flow_let_go : Keeps P w K mg base 4 (He.fAd K ("Flow", some "let_go")) 2 G_Flow_let_go) (cdv : Value) (A : Around) (outer : List Env) (s : Shared) (H : Hp) (E : XK) (hc : CodeAt K (He.fAd K ("Flow", some "begin")) cdv) (hr : RoomG 4 (A.deeper (envOfC "Flow.begin" (defScope (inClass (top 39) 9)) s.heap.objs.size (He.fAd K ("Flow", some "begin")) cdv))) :
    JSs (cxOf (L2N.CX P w) P w K mg base N_Flow_begin "Flow.begin" (defScope (inClass (top 39) 9)) (He.fAd K ("Flow", some "begin")) cdv A outer s H E) (fun cls d _ H => E cls d H) (defBody (inClass (top 39) 9)) b_Flow_begin := by
  have S := S_Flow_begin
  exact (jss_cons (js_fld D.f_tick (je_var (pe_var (i := 1) rfl (.inr (.inl rfl)))) (je_var (pe_var (i := 0) rfl (.inl rfl))))
  (jss_cons (js_setLc (own := [("piece", 8)]) (p := (.nm 8)) rfl S.nd rfl rfl (sw_true rfl rfl rfl rfl) (ji_seq (je_fld D.f_flight (je_var (pe_var (i := 0) rfl (.inl rfl))))) (blkOk_by rfl) (by decide) (fun _ _ _ _ _ => pg_name S.nd rfl (.inl rfl)) (fun _ _ _ _ _ => (jts_one (jt_le (je_ix (je_var (pe_var (i := 8) rfl (.inl rfl))) je_int) (je_var (pe_var (i := 1) rfl (.inr (.inl rfl))))))) (fun _ _ _ _ _ => (je_var (pe_var (i := 8) rfl (.inl rfl)))))
  (jss_cons (js_fld D.f_flight (je_lcM (own := [("piece", 8)]) (p := (.nm 8)) rfl S.nd (ji_seq (je_fld D.f_flight (je_var (pe_var (i := 0) rfl (.inl rfl))))) (blkOk_by rfl) (by decide) (fun _ _ _ _ _ => pg_name S.nd rfl (.inl rfl)) (fun _ _ _ _ _ => (jts_one (jt_gt (je_ix (je_var (pe_var (i := 8) rfl (.inl rfl))) je_int) (je_var (pe_var (i := 1) rfl (.inr (.inl rfl))))))) (fun _ _ _ _ _ => (je_var (pe_var (i := 8) rfl (.inl rfl))))) (je_var (pe_var (i := 0) rfl (.inl rfl))))
  (jss_cons (js_for (passes_of rfl) rfl (ji_seq (je_var (pe_var (i := 2) rfl (.inl rfl)))) (jg_tup rfl (jgs_cons (W := NoW) (jg_name (i := 3) (pg_name S.nd rfl (.inl rfl))) (jgs_cons (W := NoW) (jg_name (i := 4) (pg_name S.nd rfl (.inl rfl))) (jgs_cons (W := NoW) (jg_name (i := 5) (pg_name S.nd rfl (.inl rfl))) (jgs_cons (W := NoW) (jg_name (i := 6) (pg_name S.nd rfl (.inl rfl))) jgs_nil)))))
  (jss_one (js_expr (je_meth (je_var (pe_var (i := 0) rfl (.inl rfl))) D.c_Flow D.m_Flow_land h_Flow_land (hr.mono (by decide)) (L2N.takes_of rfl rfl rfl rfl) (ja_cons (je_var (pe_var (i := 4) rfl (.inl rfl))) (ja_cons (je_var (pe_var (i := 5) rfl (.inl rfl))) (ja_cons (je_var (pe_var (i := 6) rfl (.inl rfl))) ja_nil)))))))
  (jss_one (js_for (passes_of rfl) rfl (ji_seq (je_tup (ja_cons je_int (ja_cons je_int ja_nil)))) (jg_name (i := 7) (pg_name S.nd rfl (.inl rfl)))
  (jss_one (js_expr (je_meth (je_var (pe_var (i := 0) rfl (.inl rfl))) D.c_Flow D.m_Flow_let_go h_Flow_let_go (hr.mono (by decide)) (L2N.takes_of rfl rfl rfl rfl) (ja_cons (je_var (pe_var (i := 7) rfl (.inl rfl))) ja_nil))))))))))
theorem S_pass_ticks : FnScope N_pass_ticks ["flow", "ticks"] (defScope (top 36)) := ⟨rfl, rfl, rfl, by decide +kernel, rfl, by decide +kernel, by decide +kernel⟩
theorem J_pass_ticks {P : Program} {w : World} {K : Frag} {mg : Str → Option Value} {h base : Heap} (D : Wd w K mg h base) (h_Flow_leave : Keeps P w K mg base 4 (He.fAd K ("Flow", some "leave")) 1 G_Flow_leave) (h_Flow_next_tick : Keeps P w K mg base 2 (He.fAd K ("Flow", some "next_tick")) 1 G_Flow_next_tick) (h_Flow_begin : Keeps P w K mg base 5 (He.fAd K ("Flow", some "begin")) 2 G_Flow_begin) (cdv : Value) (A : Around) (outer : List Env) (s : Shared) (H : Hp) (E : XK) (hc : CodeAt K (He.fAd K ("pass_ticks", none)) cdv) (hr : RoomG 5 (A.deeper (envOfC "pass_ticks" (defScope (top 36)) s.heap.objs.size (He.fAd K ("pass_ticks", none)) cdv))) :
    JSs (cxOf (L2N.CX P w) P w K mg base N_pass_ticks "pass_ticks" (defScope (top 36)) (He.fAd K ("pass_ticks", none)) cdv A outer s H E) (fun cls d _ H => E cls d H) (defBody (top 36)) b_pass_ticks := by
  have S := S_pass_ticks
  exact (jss_cons (js_set (je_plus (je_fld D.f_tick (je_var (pe_var (i := 0) rfl (.inl rfl)))) (je_var (pe_var (i := 1) rfl (.inl rfl)))) (fun h => ps_set (i := 2) S.nd rfl (.inl rfl) h))
  (jss_cons (js_expr (je_meth0 (je_var (pe_var (i := 0) rfl (.inl rfl))) D.c_Flow D.m_Flow_leave h_Flow_leave (hr.mono (by decide)) (L2N.takes_of rfl rfl rfl rfl)))
  (jss_cons (js_set (je_meth0 (je_var (pe_var (i := 0) rfl (.inl rfl))) D.c_Flow D.m_Flow_next_tick h_Flow_next_tick (hr.mono (by decide)) (L2N.takes_of rfl rfl rfl rfl)) (fun h => ps_set (i := 3) S.nd rfl (.inl rfl) h))
  (jss_cons (js_while (passes_of rfl) (PWPT (jw_and (jt_notN (je_var (pe_var (i := 3) rfl (.inl rfl))) je_non) (jw_and1 (jt_lt (je_var (pe_var (i := 3) rfl (.inl rfl))) (je_var (pe_var (i := 2) rfl (.inl rfl)))))))
  (jss_cons (js_expr (je_meth (je_var (pe_var (i := 0) rfl (.inl rfl))) D.c_Flow D.m_Flow_begin h_Flow_begin (hr.mono (by decide)) (L2N.takes_of rfl rfl rfl rfl) (ja_cons (je_var (pe_var (i := 3) rfl (.inl rfl))) ja_nil)))
  (jss_cons (js_expr (je_meth0 (je_var (pe_var (i := 0) rfl (.inl rfl))) D.c_Flow D.m_Flow_leave h_Flow_leave (hr.mono (by decide)) (L2N.takes_of rfl rfl rfl rfl)))
  (jss_one (js_set (je_meth0 (je_var (pe_var (i := 0) rfl (.inl rfl))) D.c_Flow D.m_Flow_next_tick h_Flow_next_tick (hr.mono (by decide)) (L2N.takes_of rfl rfl rfl rfl)) (fun h => ps_set (i := 3) S.nd rfl (.inl rfl) h))))))
  (jss_one (js_expr (je_meth (je_var (pe_var (i := 0) rfl (.inl rfl))) D.c_Flow D.m_Flow_begin h_Flow_begin (hr.mono (by decide)) (L2N.takes_of rfl rfl rfl rfl) (ja_cons (je_var (pe_var (i := 2) rfl (.inl rfl))) ja_nil))))))))
theorem S_flow_behind : FnScope N_flow_behind ["flow", "deed"] (defScope (top 37)) := ⟨rfl, rfl, rfl, by decide +kernel, rfl, by decide +kernel, by decide +kernel⟩
theorem J_flow_behind {P : Program} {w : World} {K : Frag} {mg : Str → Option Value} {h base : Heap} (D : Wd w K mg h base) (h_Flow_copied : Keeps P w K mg base 4 (He.fAd K ("Flow", some "copied")) 1 G_Flow_copied) (h_Flow_put : Keeps P w K mg base 5 (He.fAd K ("Flow", some "put")) 3 G_Flow_put) (h_pass_ticks : Keeps P w K mg base 6 (He.fAd K ("pass_ticks", none)) 2 G_pass_ticks) (cdv : Value) (A : Around) (outer : List Env) (s : Shared) (H : Hp) (E : XK) (hc : CodeAt K (He.fAd K ("flow_behind", none)) cdv) (hr : RoomG 6 (A.deeper (envOfC "flow_behind" (defScope (top 37)) s.heap.objs.size (He.fAd K ("flow_behind", none)) cdv))) :
    JSs (cxOf (L2N.CX P w) P w K mg base N_flow_behind "flow_behind" (defScope (top 37)) (He.fAd K ("flow_behind", none)) cdv A outer s H E) (fun cls d _ H => E cls d H) (defBody (top 37)) b_flow_behind := by
  have S := S_flow_behind
  exact (jss_cons (js_set (je_meth0 (je_var (pe_var (i := 0) rfl (.inl rfl))) D.c_Flow D.m_Flow_copied h_Flow_copied (hr.mono (by decide)) (L2N.takes_of rfl rfl rfl rfl)) (fun h => ps_set (i := 2) S.nd rfl (.inl rfl) h))
  (jss_cons (js_if (jt_eqD hr (je_ix (je_var (pe_var (i := 1) rfl (.inl rfl))) je_int) je_str)
  (jss_one (js_expr (je_meth (je_var (pe_var (i := 2) rfl (.inl rfl))) D.c_Flow D.m_Flow_put h_Flow_put (hr.mono (by decide)) (L2N.takes_of rfl rfl rfl rfl) (ja_cons (je_ix (je_var (pe_var (i := 1) rfl (.inl rfl))) je_int) (ja_cons (je_ix (je_var (pe_var (i := 1) rfl (.inl rfl))) je_int) ja_nil)))))
  (jss_one (js_if (jt_eqD hr (je_ix (je_var (pe_var (i := 1) rfl (.inl rfl))) je_int) je_str)
  (jss_one (js_augS (je_fld D.f_taken (je_var (pe_var (i := 2) rfl (.inl rfl)))) (je_ix (je_var (pe_var (i := 1) rfl (.inl rfl))) je_int) (je_ix (je_var (pe_var (i := 1) rfl (.inl rfl))) je_int) ip_add))
  (jss_one (js_expr (je_call h_pass_ticks (hr.mono (by decide)) D.g_pass_ticks D.k_pass_ticks (L2N.takes_of rfl rfl rfl rfl) (ja_cons (je_var (pe_var (i := 2) rfl (.inl rfl))) (ja_cons (je_ix (je_var (pe_var (i := 1) rfl (.inl rfl))) je_int) ja_nil))))))))
  (jss_one (js_ret (je_var (pe_var (i := 2) rfl (.inl rfl)))))))
theorem S_Session_do_deed : FnScope N_Session_do_deed ["self", "deed"] (defScope (inClass (top 42) 3)) := ⟨rfl, rfl, rfl, by decide +kernel, rfl, by decide +kernel, by decide +kernel⟩
theorem J_Session_do_deed {P : Program} {w : World} {K : Frag} {mg : Str → Option Value} {h base : Heap} (D : Wd w K mg h base) (h_check_deed : Keeps P w K mg base 5 (He.fAd K ("check_deed", none)) 2 G_check_deed) (h_TooMany_init : OexAK P w K mg base (He.fAd K ("TooMany", some "__init__")) "limit") (h_Session_show : Keeps P w K mg base 3 (He.fAd K ("Session", some "show")) 3 G_Session_show) (h_flow_behind : Keeps P w K mg base 7 (He.fAd K ("flow_behind", none)) 2 G_flow_behind) (cdv : Value) (A : Around) (outer : List Env) (s : Shared) (H : Hp) (E : XK) (hc : CodeAt K (He.fAd K ("Session", some "do_deed")) cdv) (hr : RoomG 7 (A.deeper (envOfC "Session.do_deed" (defScope (inClass (top 42) 3)) s.heap.objs.size (He.fAd K ("Session", some "do_deed")) cdv))) :
    JSs (cxOf (L2N.CX P w) P w K mg base N_Session_do_deed "Session.do_deed" (defScope (inClass (top 42) 3)) (He.fAd K ("Session", some "do_deed")) cdv A outer s H E) (fun cls d _ H => E cls d H) (defBody (inClass (top 42) 3)) b_Session_do_deed := by
  have S := S_Session_do_deed
  exact (jss_cons (js_expr (je_call h_check_deed (hr.mono (by decide)) D.g_check_deed D.k_check_deed (L2N.takes_of rfl rfl rfl rfl) (ja_cons (je_fld D.f_flow (je_var (pe_var (i := 0) rfl (.inl rfl)))) (ja_cons (je_var (pe_var (i := 1) rfl (.inl rfl))) ja_nil))))
  (jss_cons (js_if (jt_ge (je_B (CallR.or call_len_seq call_len_str) bsLen D.u_len rfl (ja_cons (je_fld D.f_past (je_var (pe_var (i := 0) rfl (.inl rfl)))) ja_nil)) (je_gint D.i_MOST_DEEDS))
  (jss_one (js_raise1A (je_gint D.i_MOST_DEEDS) D.xo_TooMany h_TooMany_init (hr.mono (by decide)) D.g_TooMany (L2N.takes_of rfl rfl rfl rfl)))
  jss_nil)
  (jss_one (js_expr (je_meth (je_var (pe_var (i := 0) rfl (.inl rfl))) D.c_Session D.m_Session_show h_Session_show (hr.mono (by decide)) (L2N.takes_of rfl rfl rfl rfl) (ja_cons (je_call h_flow_behind (hr.mono (by decide)) D.g_flow_behind D.k_flow_behind (L2N.takes_of rfl rfl rfl rfl) (ja_cons (je_fld D.f_flow (je_var (pe_var (i := 0) rfl (.inl rfl)))) (ja_cons (je_var (pe_var (i := 1) rfl (.inl rfl))) ja_nil))) (ja_cons (je_plus (je_fld D.f_past (je_var (pe_var (i := 0) rfl (.inl rfl)))) (je_lst (ja_cons (je_fld D.f_flow (je_var (pe_var (i := 0) rfl (.inl rfl)))) ja_nil))) ja_nil)))))))
theorem S_Session_wait : FnScope N_Session_wait ["self", "n"] (defScope (inClass (top 42) 6)) := ⟨rfl, rfl, rfl, by decide +kernel, rfl, by decide +kernel, by decide +kernel⟩
theorem J_Session_wait {P : Program} {w : World} {K : Frag} {mg : Str → Option Value} {h base : Heap} (D : Wd w K mg h base) (h_Session_check_free : Keeps P w K mg base 2 (He.fAd K ("Session", some "check_free")) 1 G_Session_check_free) (h_Session_do_deed : Keeps P w K mg base 8 (He.fAd K ("Session", some "do_deed")) 2 G_Session_do_deed) (cdv : Value) (A : Around) (outer : List Env) (s : Shared) (H : Hp) (E : XK) (hc : CodeAt K (He.fAd K ("Session", some "wait")) cdv) (hr : RoomG 8 (A.deeper (envOfC "Session.wait" (defScope (inClass (top 42) 6)) s.heap.objs.size (He.fAd K ("Session", some "wait")) cdv))) :
    JSs (cxOf (L2N.CX P w) P w K mg base N_Session_wait "Session.wait" (defScope (inClass (top 42) 6)) (He.fAd K ("Session", some "wait")) cdv A outer s H E) (fun cls d _ H => E cls d H) (defBody (inClass (top 42) 6)) b_Session_wait := by
  have S := S_Session_wait
  exact (jss_cons (js_expr (je_meth0 (je_var (pe_var (i := 0) rfl (.inl rfl))) D.c_Session D.m_Session_check_free h_Session_check_free (hr.mono (by decide)) (L2N.takes_of rfl rfl rfl rfl)))
  (jss_cons (js_expr (je_meth (je_var (pe_var (i := 0) rfl (.inl rfl))) D.c_Session D.m_Session_do_deed h_Session_do_deed (hr.mono (by decide)) (L2N.takes_of rfl rfl rfl rfl) (ja_cons (je_tup (ja_cons je_str (ja_cons (je_var (pe_var (i := 1) rfl (.inl rfl))) ja_nil))) ja_nil)))
  (jss_one (js_ret (je_fld D.f_now (je_var (pe_var (i := 0) rfl (.inl rfl))))))))
theorem S_Session_write : FnScope N_Session_write ["self", "side", "n"] (defScope (inClass (top 42) 4)) := ⟨rfl, rfl, rfl, by decide +kernel, rfl, by decide +kernel, by decide +kernel⟩
theorem J_Session_write {P : Program} {w : World} {K : Frag} {mg : Str → Option Value} {h base : Heap} (D : Wd w K mg h base) (h_Session_check_free : Keeps P w K mg base 2 (He.fAd K ("Session", some "check_free")) 1 G_Session_check_free) (h_Session_do_deed : Keeps P w K mg base 8 (He.fAd K ("Session", some "do_deed")) 2 G_Session_do_deed) (cdv : Value) (A : Around) (outer : List Env) (s : Shared) (H : Hp) (E : XK) (hc : CodeAt K (He.fAd K ("Session", some "write")) cdv) (hr : RoomG 8 (A.deeper (envOfC "Session.write" (defScope (inClass (top 42) 4)) s.heap.objs.size (He.fAd K ("Session", some "write")) cdv))) :
    JSs (cxOf (L2N.CX P w) P w K mg base N_Session_write "Session.write" (defScope (inClass (top 42) 4)) (He.fAd K ("Session", some "write")) cdv A outer s H E) (fun cls d _ H => E cls d H) (defBody (inClass (top 42) 4)) b_Session_write := by
  have S := S_Session_write
  exact (jss_cons (js_expr (je_meth0 (je_var (pe_var (i := 0) rfl (.inl rfl))) D.c_Session D.m_Session_check_free h_Session_check_free (hr.mono (by decide)) (L2N.takes_of rfl rfl rfl rfl)))
  (jss_cons (js_expr (je_meth (je_var (pe_var (i := 0) rfl (.inl rfl))) D.c_Session D.m_Session_do_deed h_Session_do_deed (hr.mono (by decide)) (L2N.takes_of rfl rfl rfl rfl) (ja_cons (je_tup (ja_cons je_str (ja_cons (je_var (pe_var (i := 1) rfl (.inl rfl))) (ja_cons (je_var (pe_var (i := 2) rfl (.inl rfl))) ja_nil)))) ja_nil)))
  (jss_one (js_ret (je_ix (je_fld D.f_holding (je_var (pe_var (i := 0) rfl (.inl rfl)))) (je_var (pe_var (i := 1) rfl (.inl rfl))))))))
theorem S_Session_read : FnScope N_Session_read ["self", "side", "n"] (defScope (inClass (top 42) 5)) := ⟨rfl, rfl, rfl, by decide +kernel, rfl, by decide +kernel, by decide +kernel⟩
theorem J_Session_read {P : Program} {w : World} {K : Frag} {mg : Str → Option Value} {h base : Heap} (D : Wd w K mg h base) (h_Session_check_free : Keeps P w K mg base 2 (He.fAd K ("Session", some "check_free")) 1 G_Session_check_free) (h_Session_do_deed : Keeps P w K mg base 8 (He.fAd K ("Session", some "do_deed")) 2 G_Session_do_deed) (cdv : Value) (A : Around) (outer : List Env) (s : Shared) (H : Hp) (E : XK) (hc : CodeAt K (He.fAd K ("Session", some "read")) cdv) (hr : RoomG 8 (A.deeper (envOfC "Session.read" (defScope (inClass (top 42) 5)) s.heap.objs.size (He.fAd K ("Session", some "read")) cdv))) :
    JSs (cxOf (L2N.CX P w) P w K mg base N_Session_read "Session.read" (defScope (inClass (top 42) 5)) (He.fAd K ("Session", some "read")) cdv A outer s H E) (fun cls d _ H => E cls d H) (defBody (inClass (top 42) 5)) b_Session_read := by
  have S := S_Session_read
  exact (jss_cons (js_expr (je_meth0 (je_var (pe_var (i := 0) rfl (.inl rfl))) D.c_Session D.m_Session_check_free h_Session_check_free (hr.mono (by decide)) (L2N.takes_of rfl rfl rfl rfl)))
  (jss_cons (js_expr (je_meth (je_var (pe_var (i := 0) rfl (.inl rfl))) D.c_Session D.m_Session_do_deed h_Session_do_deed (hr.mono (by decide)) (L2N.takes_of rfl rfl rfl rfl) (ja_cons (je_tup (ja_cons je_str (ja_cons (je_var (pe_var (i := 1) rfl (.inl rfl))) (ja_cons (je_var (pe_var (i := 2) rfl (.inl rfl))) ja_nil)))) ja_nil)))
  (jss_one (js_ret (je_ix (je_fld D.f_unread (je_var (pe_var (i := 0) rfl (.inl rfl)))) (je_var (pe_var (i := 1) rfl (.inl rfl))))))))
theorem S_law_call : FnScope N_law_call ["_law_box", "_law_job_here"] (defScope (top 60)) := ⟨rfl, rfl, rfl, by decide +kernel, rfl, by decide +kernel, by decide +kernel⟩
theorem J_law_call {P : Program} {w : World} {K : Frag} {mg : Str → Option Value} {h base : Heap} (D : Wd w K mg h base) (h_Session_wait : Keeps P w K mg base 9 (He.fAd K ("Session", some "wait")) 2 G_Session_wait) (h_Session_write : Keeps P w K mg base 9 (He.fAd K ("Session", some "write")) 3 G_Session_write) (h_Session_read : Keeps P w K mg base 9 (He.fAd K ("Session", some "read")) 3 G_Session_read) (cdv : Value) (A : Around) (outer : List Env) (s : Shared) (H : Hp) (E : XK) (hc : CodeAt K (He.fAd K ("_law_call", none)) cdv) (hr : RoomG 9 (A.deeper (envOfC "_law_call" (defScope (top 60)) s.heap.objs.size (He.fAd K ("_law_call", none)) cdv))) :
    JSs (cxOf (L2N.CX P w) P w K mg base N_law_call "_law_call" (defScope (top 60)) (He.fAd K ("_law_call", none)) cdv A outer s H E) (fun cls d _ H => E cls d H) (defBody (top 60)) b_law_call := by
  have S := S_law_call
  exact (jss_cons (js_if (jt_eqD hr (je_ix (je_var (pe_var (i := 1) rfl (.inl rfl))) je_int) je_str)
  (jss_one (js_ret (je_meth (je_var (pe_var (i := 0) rfl (.inl rfl))) D.c_Session D.m_Session_wait h_Session_wait (hr.mono (by decide)) (L2N.takes_of rfl rfl rfl rfl) (ja_cons (je_ix (je_var (pe_var (i := 1) rfl (.inl rfl))) je_int) ja_nil))))
  jss_nil)
  (jss_one (js_ret (je_if (jt_eqD hr (je_ix (je_var (pe_var (i := 1) rfl (.inl rfl))) je_int) je_str) (je_meth (je_var (pe_var (i := 0) rfl (.inl rfl))) D.c_Session D.m_Session_write h_Session_write (hr.mono (by decide)) (L2N.takes_of rfl rfl rfl rfl) (ja_cons (je_ix (je_var (pe_var (i := 1) rfl (.inl rfl))) je_int) (ja_cons (je_ix (je_var (pe_var (i := 1) rfl (.inl rfl))) je_int) ja_nil))) (je_meth (je_var (pe_var (i := 0) rfl (.inl rfl))) D.c_Session D.m_Session_read h_Session_read (hr.mono (by decide)) (L2N.takes_of rfl rfl rfl rfl) (ja_cons (je_ix (je_var (pe_var (i := 1) rfl (.inl rfl))) je_int) (ja_cons (je_ix (je_var (pe_var (i := 1) rfl (.inl rfl))) je_int) ja_nil)))))))
theorem S_law_send : FnScope N_law_send ["_law_world", "_law_k", "_law_many"] (defScope (top 51)) := ⟨rfl, rfl, rfl, by decide +kernel, rfl, by decide +kernel, by decide +kernel⟩
theorem J_law_send {P : Program} {w : World} {K : Frag} {mg : Str → Option Value} {h base : Heap} (D : Wd w K mg h base) (cdv : Value) (A : Around) (outer : List Env) (s : Shared) (H : Hp) (E : XK) (hc : CodeAt K (He.fAd K ("_law_send", none)) cdv) (hr : RoomG 1 (A.deeper (envOfC "_law_send" (defScope (top 51)) s.heap.objs.size (He.fAd K ("_law_send", none)) cdv))) :
    JSs (cxOf (L2N.CX P w) P w K mg base N_law_send "_law_send" (defScope (top 51)) (He.fAd K ("_law_send", none)) cdv A outer s H E) (fun cls d _ H => E cls d H) (defBody (top 51)) b_law_send := by
  have S := S_law_send
  exact (jss_cons (js_set (je_ix (je_ix (je_var (pe_var (i := 0) rfl (.inl rfl))) je_int) (je_var (pe_var (i := 1) rfl (.inl rfl)))) (fun h => ps_set (i := 3) S.nd rfl (.inl rfl) h))
  (jss_cons (js_asg (je_sub (je_ix (je_var (pe_var (i := 3) rfl (.inl rfl))) je_int) (je_var (pe_var (i := 2) rfl (.inl rfl)))) (jg_sub (je_var (pe_var (i := 3) rfl (.inl rfl))) je_int))
  (jss_cons (js_asg (je_plus (je_ix (je_var (pe_var (i := 3) rfl (.inl rfl))) je_int) (je_var (pe_var (i := 2) rfl (.inl rfl)))) (jg_sub (je_var (pe_var (i := 3) rfl (.inl rfl))) je_int))
  (jss_cons (js_if (jt_chain op_lt op_lt oiLt oiLt je_int (je_var (pe_var (i := 2) rfl (.inl rfl))) (je_ix (je_ix (je_var (pe_var (i := 0) rfl (.inl rfl))) je_int) je_int) (by rfl))
  (jss_one (js_asg (je_ix (je_var (pe_var (i := 3) rfl (.inl rfl))) je_int) (jg_sub (je_var (pe_var (i := 3) rfl (.inl rfl))) je_int)))
  jss_nil)
  (jss_cons (js_asg je_int (jg_sub (je_var (pe_var (i := 3) rfl (.inl rfl))) je_int))
  (jss_cons (js_asg je_non (jg_sub (je_var (pe_var (i := 3) rfl (.inl rfl))) je_int))
  (jss_cons (js_expr (je_mt mt_append msAppend PySem.F.slot_list_append PySem.F.type_list_append (je_ix (je_var (pe_var (i := 0) rfl (.inl rfl))) je_int) (ja_cons (je_tup (ja_cons (je_ix (je_var (pe_var (i := 0) rfl (.inl rfl))) je_int) (ja_cons (je_var (pe_var (i := 1) rfl (.inl rfl))) (ja_cons (je_var (pe_var (i := 2) rfl (.inl rfl))) (ja_cons (je_ix (je_var (pe_var (i := 3) rfl (.inl rfl))) je_int) ja_nil))))) ja_nil) (fun a b => pe_bm PySem.F.plainAttrs_list PySem.F.slot_list_append PySem.F.type_list_append mt_append a b)))
  (jss_one (js_expr (je_mt mt_append msAppend PySem.F.slot_list_append PySem.F.type_list_append (je_ix (je_var (pe_var (i := 0) rfl (.inl rfl))) je_int) (ja_cons (je_tup (ja_cons (je_ix (je_var (pe_var (i := 0) rfl (.inl rfl))) je_int) (ja_cons (je_var (pe_var (i := 1) rfl (.inl rfl))) (ja_cons (je_var (pe_var (i := 2) rfl (.inl rfl))) (ja_cons (je_ix (je_var (pe_var (i := 3) rfl (.inl rfl))) je_int) ja_nil))))) ja_nil) (fun a b => pe_bm PySem.F.plainAttrs_list PySem.F.slot_list_append PySem.F.type_list_append mt_append a b)))))))))))
theorem S_law_leave : FnScope N_law_leave ["_law_world"] (defScope (top 54)) := ⟨rfl, rfl, rfl, by decide +kernel, rfl, by decide +kernel, by decide +kernel⟩
theorem J_law_leave {P : Program} {w : World} {K : Frag} {mg : Str → Option Value} {h base : Heap} (D : Wd w K mg h base) (h_law_send : Keeps P w K mg base 2 (He.fAd K ("_law_send", none)) 3 G_law_send) (cdv : Value) (A : Around) (outer : List Env) (s : Shared) (H : Hp) (E : XK) (hc : CodeAt K (He.fAd K ("_law_leave", none)) cdv) (hr : RoomG 2 (A.deeper (envOfC "_law_leave" (defScope (top 54)) s.heap.objs.size (He.fAd K ("_law_leave", none)) cdv))) :
    JSs (cxOf (L2N.CX P w) P w K mg base N_law_leave "_law_leave" (defScope (top 54)) (He.fAd K ("_law_leave", none)) cdv A outer s H E) (fun cls d _ H => E cls d H) (defBody (top 54)) b_law_leave := by
  have S := S_law_leave
  exact (jss_one (js_for (passes_of rfl) rfl (ji_seq (je_lst (ja_cons je_int (ja_cons je_int ja_nil)))) (jg_name (i := 1) (pg_name S.nd rfl (.inl rfl)))
  (jss_cons (js_par (ja_cons (je_ix (je_ix (je_var (pe_var (i := 0) rfl (.inl rfl))) je_int) (je_var (pe_var (i := 1) rfl (.inl rfl)))) (ja_cons (je_ix (je_ix (je_var (pe_var (i := 0) rfl (.inl rfl))) je_int) (je_plus je_int (je_var (pe_var (i := 1) rfl (.inl rfl))))) ja_nil)) (fun h => ps_par (i := 2) (j := 3) rfl S.nd rfl rfl (by decide) rfl rfl h rfl))
  (jss_one (js_if (PWPT (jw_or (jt_ge (je_ix (je_var (pe_var (i := 2) rfl (.inl rfl))) je_int) (je_ix (je_var (pe_var (i := 3) rfl (.inl rfl))) je_int)) (jw_or1 (PWPT (jw_and (jt_notN (je_ix (je_var (pe_var (i := 2) rfl (.inl rfl))) je_int) je_non) (jw_and1 (jt_ge (je_ix (je_var (pe_var (i := 0) rfl (.inl rfl))) je_int) (je_plus (je_ix (je_var (pe_var (i := 2) rfl (.inl rfl))) je_int) (je_ix (je_var (pe_var (i := 3) rfl (.inl rfl))) je_int)))))))))
  (jss_one (js_expr (je_call h_law_send (hr.mono (by decide)) D.g__law_send D.k_law_send (L2N.takes_of rfl rfl rfl rfl) (ja_cons (je_var (pe_var (i := 0) rfl (.inl rfl))) (ja_cons (je_var (pe_var (i := 1) rfl (.inl rfl))) (ja_cons je_int ja_nil))))))
  jss_nil)))))
theorem S_law_land : FnScope N_law_land ["_law_world"] (defScope (top 53)) := ⟨rfl, rfl, rfl, by decide +kernel, rfl, by decide +kernel, by decide +kernel⟩
theorem J_law_land {P : Program} {w : World} {K : Frag} {mg : Str → Option Value} {h base : Heap} (D : Wd w K mg h base) (cdv : Value) (A : Around) (outer : List Env) (s : Shared) (H : Hp) (E : XK) (hc : CodeAt K (He.fAd K ("_law_land", none)) cdv) (hr : RoomG 1 (A.deeper (envOfC "_law_land" (defScope (top 53)) s.heap.objs.size (He.fAd K ("_law_land", none)) cdv))) :
    JSs (cxOf (L2N.CX P w) P w K mg base N_law_land "_law_land" (defScope (top 53)) (He.fAd K ("_law_land", none)) cdv A outer s H E) (fun cls d _ H => E cls d H) (defBody (top 53)) b_law_land := by
  have S := S_law_land
  exact (jss_cons (js_set (je_sub (je_ix (je_var (pe_var (i := 0) rfl (.inl rfl))) je_int) (je_ix (je_ix (je_var (pe_var (i := 0) rfl (.inl rfl))) je_int) je_int)) (fun h => ps_set (i := 1) S.nd rfl (.inr rfl) h))
  (jss_cons (js_for (passes_of rfl) rfl (ji_seq (je_lc (own := [("_law_each", 4)]) (p := (.nm 4)) rfl S.nd (ji_seq (je_ix (je_var (pe_var (i := 0) rfl (.inl rfl))) je_int)) (blkOk_by rfl) (by decide) (fun _ _ _ _ _ => pg_name S.nd rfl (.inl rfl)) (fun _ _ _ _ _ => (jts_one (jt_le (je_ix (je_var (pe_var (i := 4) rfl (.inl rfl))) je_int) (je_var (pe_var (i := 1) rfl (.inr (.inl rfl))))))) (fun _ _ _ _ _ => (je_var (pe_var (i := 4) rfl (.inl rfl)))))) (jg_name (i := 2) (pg_name S.nd rfl (.inl rfl)))
  (jss_cons (js_set (je_ix (je_ix (je_var (pe_var (i := 0) rfl (.inl rfl))) je_int) (je_sub je_int (je_ix (je_var (pe_var (i := 2) rfl (.inl rfl))) je_int))) (fun h => ps_set (i := 3) S.nd rfl (.inl rfl) h))
  (jss_cons (js_asg (je_B (call_max2 rfl) bsMax2 D.u_max rfl (ja_cons (je_ix (je_var (pe_var (i := 3) rfl (.inl rfl))) je_int) (ja_cons (je_ix (je_var (pe_var (i := 2) rfl (.inl rfl))) je_int) ja_nil))) (jg_sub (je_var (pe_var (i := 3) rfl (.inl rfl))) je_int))
  (jss_cons (js_asg (je_plus (je_ix (je_var (pe_var (i := 3) rfl (.inl rfl))) je_int) (je_ix (je_var (pe_var (i := 2) rfl (.inl rfl))) je_int)) (jg_sub (je_var (pe_var (i := 3) rfl (.inl rfl))) je_int))
  (jss_cons (js_asg (je_plus (je_ix (je_var (pe_var (i := 3) rfl (.inl rfl))) je_int) (je_BT call_int1 bsInt D.u_int rfl (ja_cons (je_eqD hr (je_ix (je_var (pe_var (i := 2) rfl (.inl rfl))) je_int) (je_ix (je_ix (je_var (pe_var (i := 0) rfl (.inl rfl))) je_int) je_int)) ja_nil))) (jg_sub (je_var (pe_var (i := 3) rfl (.inl rfl))) je_int))
  (jss_one (js_if (PWPT (jw_and (jt_gt (je_ix (je_var (pe_var (i := 2) rfl (.inl rfl))) je_int) je_int) (jw_and1 (jt_isN (je_ix (je_var (pe_var (i := 3) rfl (.inl rfl))) je_int) je_non))))
  (jss_one (js_asg (je_ix (je_var (pe_var (i := 0) rfl (.inl rfl))) je_int) (jg_sub (je_var (pe_var (i := 3) rfl (.inl rfl))) je_int)))
  jss_nil)))))))
  (jss_one (js_asg (je_lcM (own := [("_law_each", 4)]) (p := (.nm 4)) rfl S.nd (ji_seq (je_ix (je_var (pe_var (i := 0) rfl (.inl rfl))) je_int)) (blkOk_by rfl) (by decide) (fun _ _ _ _ _ => pg_name S.nd rfl (.inl rfl)) (fun _ _ _ _ _ => (jts_one (jt_gt (je_ix (je_var (pe_var (i := 4) rfl (.inl rfl))) je_int) (je_var (pe_var (i := 1) rfl (.inr (.inl rfl))))))) (fun _ _ _ _ _ => (je_var (pe_var (i := 4) rfl (.inl rfl))))) (jg_sub (je_var (pe_var (i := 0) rfl (.inl rfl))) je_int)))))
theorem S_law_free : FnScope N_law_free ["_law_world", "_law_k"] (defScope (top 52)) := ⟨rfl, rfl, rfl, by decide +kernel, rfl, by decide +kernel, by decide +kernel⟩
theorem J_law_free {P : Program} {w : World} {K : Frag} {mg : Str → Option Value} {h base : Heap} (D : Wd w K mg h base) (h_law_send : Keeps P w K mg base 2 (He.fAd K ("_law_send", none)) 3 G_law_send) (cdv : Value) (A : Around) (outer : List Env) (s : Shared) (H : Hp) (E : XK) (hc : CodeAt K (He.fAd K ("_law_free", none)) cdv) (hr : RoomG 2 (A.deeper (envOfC "_law_free" (defScope (top 52)) s.heap.objs.size (He.fAd K ("_law_free", none)) cdv))) :
    JSs (cxOf (L2N.CX P w) P w K mg base N_law_free "_law_free" (defScope (top 52)) (He.fAd K ("_law_free", none)) cdv A outer s H E) (fun cls d _ H => E cls d H) (defBody (top 52)) b_law_free := by
  have S := S_law_free
  exact (jss_cons (js_par (ja_cons (je_ix (je_ix (je_var (pe_var (i := 0) rfl (.inl rfl))) je_int) (je_var (pe_var (i := 1) rfl (.inl rfl)))) (ja_cons (je_ix (je_ix (je_ix (je_var (pe_var (i := 0) rfl (.inl rfl))) je_int) (je_plus je_int (je_var (pe_var (i := 1) rfl (.inl rfl))))) je_int) ja_nil)) (fun h => ps_par (i := 2) (j := 3) rfl S.nd rfl rfl (by decide) rfl rfl h rfl))
  (jss_cons (js_for (passes_of rfl) rfl (ji_range1 D.u_range (ja_cons (je_div (je_ix (je_var (pe_var (i := 2) rfl (.inl rfl))) je_int) (je_ix (je_ix (je_var (pe_var (i := 0) rfl (.inl rfl))) je_int) je_int)) ja_nil)) (jg_name (i := 4) (pg_name S.nd rfl (.inl rfl)))
  (jss_one (js_expr (je_call h_law_send (hr.mono (by decide)) D.g__law_send D.k_law_send (L2N.takes_of rfl rfl rfl rfl) (ja_cons (je_var (pe_var (i := 0) rfl (.inl rfl))) (ja_cons (je_var (pe_var (i := 1) rfl (.inl rfl))) (ja_cons (je_ix (je_ix (je_var (pe_var (i := 0) rfl (.inl rfl))) je_int) je_int) ja_nil)))))))
  (jss_cons (js_set (je_lt (je_ix (je_var (pe_var (i := 2) rfl (.inl rfl))) je_int) (je_if (jt_eqD hr (je_var (pe_var (i := 3) rfl (.inl rfl))) je_str) (je_ix (je_var (pe_var (i := 2) rfl (.inl rfl))) je_int) (je_ix (je_var (pe_var (i := 2) rfl (.inl rfl))) je_int))) (fun h => ps_set (i := 5) S.nd rfl (.inl rfl) h))
  (jss_one (js_if (PWPT (jw_and (jt_gt (je_ix (je_var (pe_var (i := 2) rfl (.inl rfl))) je_int) je_int) (jw_and1 (PWPT (jw_or (jt_eqD hr (je_var (pe_var (i := 3) rfl (.inl rfl))) je_str) (jw_or1 (jt_not (jt_tru (je_var (pe_var (i := 5) rfl (.inl rfl)))))))))))
  (jss_one (js_expr (je_call h_law_send (hr.mono (by decide)) D.g__law_send D.k_law_send (L2N.takes_of rfl rfl rfl rfl) (ja_cons (je_var (pe_var (i := 0) rfl (.inl rfl))) (ja_cons (je_var (pe_var (i := 1) rfl (.inl rfl))) (ja_cons (je_ix (je_var (pe_var (i := 2) rfl (.inl rfl))) je_int) ja_nil))))))
  jss_nil)))))
theorem S_law_waited : FnScope N_law_waited ["_law_world", "_law_many"] (defScope (top 55)) := ⟨rfl, rfl, rfl, by decide +kernel, rfl, by decide +kernel, by decide +kernel⟩
theorem J_law_waited {P : Program} {w : World} {K : Frag} {mg : Str → Option Value} {h base : Heap} (D : Wd w K mg h base) (h_law_leave : Keeps P w K mg base 3 (He.fAd K ("_law_leave", none)) 1 G_law_leave) (h_law_land : Keeps P w K mg base 2 (He.fAd K ("_law_land", none)) 1 G_law_land) (h_law_free : Keeps P w K mg base 3 (He.fAd K ("_law_free", none)) 2 G_law_free) (cdv : Value) (A : Around) (outer : List Env) (s : Shared) (H : Hp) (E : XK) (hc : CodeAt K (He.fAd K ("_law_waited", none)) cdv) (hr : RoomG 3 (A.deeper (envOfC "_law_waited" (defScope (top 55)) s.heap.objs.size (He.fAd K ("_law_waited", none)) cdv))) :
    JSs (cxOf (L2N.CX P w) P w K mg base N_law_waited "_law_waited" (defScope (top 55)) (He.fAd K ("_law_waited", none)) cdv A outer s H E) (fun cls d _ H => E cls d H) (defBody (top 55)) b_law_waited := by
  have S := S_law_waited
  exact (jss_one (js_for (passes_of rfl) rfl (ji_range1 D.u_range (ja_cons (je_var (pe_var (i := 1) rfl (.inl rfl))) ja_nil)) (jg_name (i := 2) (pg_name S.nd rfl (.inl rfl)))
  (jss_cons (js_expr (je_call h_law_leave (hr.mono (by decide)) D.g__law_leave D.k_law_leave (L2N.takes_of rfl rfl rfl rfl) (ja_cons (je_var (pe_var (i := 0) rfl (.inl rfl))) ja_nil)))
  (jss_cons (js_asg (je_plus (je_ix (je_var (pe_var (i := 0) rfl (.inl rfl))) je_int) je_int) (jg_sub (je_var (pe_var (i := 0) rfl (.inl rfl))) je_int))
  (jss_cons (js_expr (je_call h_law_land (hr.mono (by decide)) D.g__law_land D.k_law_land (L2N.takes_of rfl rfl rfl rfl) (ja_cons (je_var (pe_var (i := 0) rfl (.inl rfl))) ja_nil)))
  (jss_cons (js_expr (je_call h_law_free (hr.mono (by decide)) D.g__law_free D.k_law_free (L2N.takes_of rfl rfl rfl rfl) (ja_cons (je_var (pe_var (i := 0) rfl (.inl rfl))) (ja_cons je_int ja_nil))))
  (jss_one (js_expr (je_call h_law_free (hr.mono (by decide)) D.g__law_free D.k_law_free (L2N.takes_of rfl rfl rfl rfl) (ja_cons (je_var (pe_var (i := 0) rfl (.inl rfl))) (ja_cons je_int ja_nil)))))))))))
theorem S_law_done : FnScope N_law_done ["_law_world", "_law_job_here"] (defScope (top 56)) := ⟨rfl, rfl, rfl, by decide +kernel, rfl, by decide +kernel, by decide +kernel⟩
theorem J_law_done {P : Program} {w : World} {K : Frag} {mg : Str → Option Value} {h base : Heap} (D : Wd w K mg h base) (h_law_waited : Keeps P w K mg base 4 (He.fAd K ("_law_waited", none)) 2 G_law_waited) (h_law_free : Keeps P w K mg base 3 (He.fAd K ("_law_free", none)) 2 G_law_free) (cdv : Value) (A : Around) (outer : List Env) (s : Shared) (H : Hp) (E : XK) (hc : CodeAt K (He.fAd K ("_law_done", none)) cdv) (hr : RoomG 4 (A.deeper (envOfC "_law_done" (defScope (top 56)) s.heap.objs.size (He.fAd K ("_law_done", none)) cdv))) :
    JSs (cxOf (L2N.CX P w) P w K mg base N_law_done "_law_done" (defScope (top 56)) (He.fAd K ("_law_done", none)) cdv A outer s H E) (fun cls d _ H => E cls d H) (defBody (top 56)) b_law_done := by
  have S := S_law_done
  exact (jss_cons (js_if (jt_eqD hr (je_ix (je_var (pe_var (i := 1) rfl (.inl rfl))) je_int) je_str)
  (jss_cons (js_expr (je_call h_law_waited (hr.mono (by decide)) D.g__law_waited D.k_law_waited (L2N.takes_of rfl rfl rfl rfl) (ja_cons (je_var (pe_var (i := 0) rfl (.inl rfl))) (ja_cons (je_ix (je_var (pe_var (i := 1) rfl (.inl rfl))) je_int) ja_nil))))
  (jss_one (js_ret (je_ix (je_var (pe_var (i := 0) rfl (.inl rfl))) je_int))))
  jss_nil)
  (jss_cons (js_set (je_ix (je_ix (je_var (pe_var (i := 0) rfl (.inl rfl))) je_int) (je_ix (je_var (pe_var (i := 1) rfl (.inl rfl))) je_int)) (fun h => ps_set (i := 2) S.nd rfl (.inl rfl) h))
  (jss_cons (js_if (jt_eqD hr (je_ix (je_var (pe_var (i := 1) rfl (.inl rfl))) je_int) je_str)
  (jss_cons (js_asg (je_plus (je_ix (je_var (pe_var (i := 2) rfl (.inl rfl))) je_int) (je_ix (je_var (pe_var (i := 1) rfl (.inl rfl))) je_int)) (jg_sub (je_var (pe_var (i := 2) rfl (.inl rfl))) je_int))
  (jss_cons (js_expr (je_call h_law_free (hr.mono (by decide)) D.g__law_free D.k_law_free (L2N.takes_of rfl rfl rfl rfl) (ja_cons (je_var (pe_var (i := 0) rfl (.inl rfl))) (ja_cons (je_ix (je_var (pe_var (i := 1) rfl (.inl rfl))) je_int) ja_nil))))
  (jss_one (js_ret (je_ix (je_var (pe_var (i := 2) rfl (.inl rfl))) je_int)))))
  jss_nil)
  (jss_cons (js_asg (je_plus (je_ix (je_var (pe_var (i := 2) rfl (.inl rfl))) je_int) (je_ix (je_var (pe_var (i := 1) rfl (.inl rfl))) je_int)) (jg_sub (je_var (pe_var (i := 2) rfl (.inl rfl))) je_int))
  (jss_one (js_ret (je_sub (je_ix (je_var (pe_var (i := 2) rfl (.inl rfl))) je_int) (je_ix (je_var (pe_var (i := 2) rfl (.inl rfl))) je_int))))))))
theorem S_Session_len : FnScope N_Session_len ["self"] (defScope (inClass (top 42) 10)) := ⟨rfl, rfl, rfl, by decide +kernel, rfl, by decide +kernel, by decide +kernel⟩
theorem J_Session_len {P : Program} {w : World} {K : Frag} {mg : Str → Option Value} {h base : Heap} (D : Wd w K mg h base) (cdv : Value) (A : Around) (outer : List Env) (s : Shared) (H : Hp) (E : XK) (hc : CodeAt K (He.fAd K ("Session", some "__len__")) cdv) (hr : RoomG 1 (A.deeper (envOfC "Session.__len__" (defScope (inClass (top 42) 10)) s.heap.objs.size (He.fAd K ("Session", some "__len__")) cdv))) :
    JSs (cxOf (L2N.CX P w) P w K mg base N_Session_len "Session.__len__" (defScope (inClass (top 42) 10)) (He.fAd K ("Session", some "__len__")) cdv A outer s H E) (fun cls d _ H => E cls d H) (defBody (inClass (top 42) 10)) b_Session_len := by
  have S := S_Session_len
  exact (jss_one (js_ret (je_B (CallR.or call_len_seq call_len_str) bsLen D.u_len rfl (ja_cons (je_fld D.f_pieces (je_var (pe_var (i := 0) rfl (.inl rfl)))) ja_nil))))
theorem S_Session_repr : FnScope N_Session_repr ["self"] (defScope (inClass (top 42) 11)) := ⟨rfl, rfl, rfl, by decide +kernel, rfl, by decide +kernel, by decide +kernel⟩
theorem J_Session_repr {P : Program} {w : World} {K : Frag} {mg : Str → Option Value} {h base : Heap} (D : Wd w K mg h base) (cdv : Value) (A : Around) (outer : List Env) (s : Shared) (H : Hp) (E : XK) (hc : CodeAt K (He.fAd K ("Session", some "__repr__")) cdv) (hr : RoomG 1 (A.deeper (envOfC "Session.__repr__" (defScope (inClass (top 42) 11)) s.heap.objs.size (He.fAd K ("Session", some "__repr__")) cdv))) :
    JSs (cxOf (L2N.CX P w) P w K mg base N_Session_repr "Session.__repr__" (defScope (inClass (top 42) 11)) (He.fAd K ("Session", some "__repr__")) cdv A outer s H E) (fun cls d _ H => E cls d H) (defBody (inClass (top 42) 11)) b_Session_repr := by
  have S := S_Session_repr
  exact (jss_one (js_ret (je_fstr (.cons je_str (.cons (je_fmt (je_fld D.f_now (je_var (pe_var (i := 0) rfl (.inl rfl))))) (.cons je_str (.cons (je_fmt (je_B (CallR.or call_len_seq call_len_str) bsLen D.u_len rfl (ja_cons (je_fld D.f_pieces (je_var (pe_var (i := 0) rfl (.inl rfl)))) ja_nil))) (.cons je_str .nil))))))))
theorem S_law_shown : FnScope N_law_shown ["_law_box"] (defScope (top 59)) := ⟨rfl, rfl, rfl, by decide +kernel, rfl, by decide +kernel, by decide +kernel⟩
theorem J_law_shown {P : Program} {w : World} {K : Frag} {mg : Str → Option Value} {h base : Heap} (D : Wd w K mg h base) (h_Session_len : Keeps P w K mg base 2 (He.fAd K ("Session", some "__len__")) 1 G_Session_len) (h_Session_repr : Keeps P w K mg base 2 (He.fAd K ("Session", some "__repr__")) 1 G_Session_repr) (cdv : Value) (A : Around) (outer : List Env) (s : Shared) (H : Hp) (E : XK) (hc : CodeAt K (He.fAd K ("_law_shown", none)) cdv) (hr : RoomG 5 (A.deeper (envOfC "_law_shown" (defScope (top 59)) s.heap.objs.size (He.fAd K ("_law_shown", none)) cdv))) :
    JSs (cxOf (L2N.CX P w) P w K mg base N_law_shown "_law_shown" (defScope (top 59)) (He.fAd K ("_law_shown", none)) cdv A outer s H E) (fun cls d _ H => E cls d H) (defBody (top 59)) b_law_shown := by
  have S := S_law_shown
  exact (jss_cons (js_set (je_lst (ja_cons (je_fld D.f_now (je_var (pe_var (i := 0) rfl (.inl rfl)))) (ja_cons (je_fld D.f_holding (je_var (pe_var (i := 0) rfl (.inl rfl)))) (ja_cons (je_fld D.f_unread (je_var (pe_var (i := 0) rfl (.inl rfl)))) (ja_cons (je_fld D.f_unanswered (je_var (pe_var (i := 0) rfl (.inl rfl)))) (ja_cons (je_fld D.f_pieces (je_var (pe_var (i := 0) rfl (.inl rfl)))) (ja_cons (je_fld D.f_under_way (je_var (pe_var (i := 0) rfl (.inl rfl)))) (ja_cons (je_fld D.f_busy (je_var (pe_var (i := 0) rfl (.inl rfl)))) (ja_cons (je_B (cro_len h_Session_len (hr.mono (by decide)) D.m_Session_len.at_ D.m_Session_len.fn) (bsLenO h_Session_len.mono) D.u_len rfl (ja_cons (je_var (pe_var (i := 0) rfl (.inl rfl))) ja_nil)) ja_nil))))))))) (fun h => ps_set (i := 1) S.nd rfl (.inl rfl) h))
  (jss_one (js_ret (je_plus (je_var (pe_var (i := 1) rfl (.inl rfl))) (je_lst (ja_cons (je_B (cro_repr h_Session_repr (hr.mono (by decide)) D.m_Session_repr.at_ D.m_Session_repr.fn) (bsReprO h_Session_repr.mono) D.u_repr rfl (ja_cons (je_var (pe_var (i := 0) rfl (.inl rfl))) ja_nil)) (ja_cons (je_BT (cro_bool h_Session_len (hr.mono (by decide)) D.n_Session_bool D.m_Session_len.at_ D.m_Session_len.fn) (bsBoolO h_Session_len.mono) D.u_bool rfl (ja_cons (je_var (pe_var (i := 0) rfl (.inl rfl))) ja_nil)) ja_nil)))))))
theorem S_law_listed : FnScope N_law_listed ["_law_log"] (defScope (top 57)) := ⟨rfl, rfl, rfl, by decide +kernel, rfl, by decide +kernel, by decide +kernel⟩
theorem J_law_listed {P : Program} {w : World} {K : Frag} {mg : Str → Option Value} {h base : Heap} (D : Wd w K mg h base) (cdv : Value) (A : Around) (outer : List Env) (s : Shared) (H : Hp) (E : XK) (hc : CodeAt K (He.fAd K ("_law_listed", none)) cdv) (hr : RoomG 1 (A.deeper (envOfC "_law_listed" (defScope (top 57)) s.heap.objs.size (He.fAd K ("_law_listed", none)) cdv))) :
    JSs (cxOf (L2N.CX P w) P w K mg base N_law_listed "_law_listed" (defScope (top 57)) (He.fAd K ("_law_listed", none)) cdv A outer s H E) (fun cls d _ H => E cls d H) (defBody (top 57)) b_law_listed := by
  have S := S_law_listed
  have LT := lamT_of (X := cxOf (L2N.CX P w) P w K mg base N_law_listed "_law_listed" (defScope (top 57)) (He.fAd K ("_law_listed", none)) cdv A outer s H E) (p := ("_law_listed", none)) (q := "_law_listed.<locals>.<lambda>") lamMem1 D.lt_law_listed D.tabsOk D.tb_law_listed (by rw [hc.eq] <;> rfl) rfl
  exact (jss_one (js_ret (je_BT call_tuple_of bsTuple D.u_tuple rfl (ja_cons (je_sortS (je_var (pe_var (i := 0) rfl (.inl rfl))) (fun h => pe_sortK h hr LT (lam1_by rfl) (key_sum (by decide)) (fun _ _ _ _ _ _ => rfl) D.u_sorted (by decide) rfl rfl rfl rfl rfl rfl rfl rfl)) ja_nil))))
theorem S_law_view : FnScope N_law_view ["_law_world"] (defScope (top 58)) := ⟨rfl, rfl, rfl, by decide +kernel, rfl, by decide +kernel, by decide +kernel⟩
theorem J_law_view {P : Program} {w : World} {K : Frag} {mg : Str → Option Value} {h base : Heap} (D : Wd w K mg h base) (h_law_listed : Keeps P w K mg base 2 (He.fAd K ("_law_listed", none)) 1 G_law_listed) (cdv : Value) (A : Around) (outer : List Env) (s : Shared) (H : Hp) (E : XK) (hc : CodeAt K (He.fAd K ("_law_view", none)) cdv) (hr : RoomG 2 (A.deeper (envOfC "_law_view" (defScope (top 58)) s.heap.objs.size (He.fAd K ("_law_view", none)) cdv))) :
    JSs (cxOf (L2N.CX P w) P w K mg base N_law_view "_law_view" (defScope (top 58)) (He.fAd K ("_law_view", none)) cdv A outer s H E) (fun cls d _ H => E cls d H) (defBody (top 58)) b_law_view := by
  have S := S_law_view
  exact (jss_cons (js_par (ja_cons (je_ix (je_var (pe_var (i := 0) rfl (.inl rfl))) je_int) (ja_cons (je_ix (je_var (pe_var (i := 0) rfl (.inl rfl))) je_int) ja_nil)) (fun h => ps_par (i := 1) (j := 2) rfl S.nd rfl rfl (by decide) rfl rfl h rfl))
  (jss_cons (js_set (je_lst (ja_cons (je_ix (je_var (pe_var (i := 0) rfl (.inl rfl))) je_int) (ja_cons (je_BT call_tuple_of bsTuple D.u_tuple rfl (ja_cons (je_lc (own := [("_law_here", 4)]) (p := (.nm 4)) rfl S.nd (ji_seq (je_var (pe_var (i := 1) rfl (.inl rfl)))) (blkOk_by rfl) (by decide) (fun _ _ _ _ _ => pg_name S.nd rfl (.inl rfl)) (fun _ _ _ _ _ => jts_nil) (fun _ _ _ _ _ => (je_ix (je_var (pe_var (i := 4) rfl (.inl rfl))) je_int))) ja_nil)) (ja_cons (je_BT call_tuple_of bsTuple D.u_tuple rfl (ja_cons (je_lc (own := [("_law_here", 4)]) (p := (.nm 4)) rfl S.nd (ji_seq (je_var (pe_var (i := 1) rfl (.inl rfl)))) (blkOk_by rfl) (by decide) (fun _ _ _ _ _ => pg_name S.nd rfl (.inl rfl)) (fun _ _ _ _ _ => jts_nil) (fun _ _ _ _ _ => (je_sub (je_ix (je_var (pe_var (i := 4) rfl (.inl rfl))) je_int) (je_ix (je_var (pe_var (i := 4) rfl (.inl rfl))) je_int)))) ja_nil)) ja_nil)))) (fun h => ps_set (i := 3) S.nd rfl (.inl rfl) h))
  (jss_cons (js_set (je_plus (je_var (pe_var (i := 3) rfl (.inl rfl))) (je_lst (ja_cons (je_BT call_tuple_of bsTuple D.u_tuple rfl (ja_cons (je_lc (own := [("_law_here", 4)]) (p := (.nm 4)) rfl S.nd (ji_seq (je_var (pe_var (i := 1) rfl (.inl rfl)))) (blkOk_by rfl) (by decide) (fun _ _ _ _ _ => pg_name S.nd rfl (.inl rfl)) (fun _ _ _ _ _ => jts_nil) (fun _ _ _ _ _ => (je_sub (je_ix (je_var (pe_var (i := 4) rfl (.inl rfl))) je_int) (je_ix (je_var (pe_var (i := 4) rfl (.inl rfl))) je_int)))) ja_nil)) (ja_cons (je_call h_law_listed (hr.mono (by decide)) D.g__law_listed D.k_law_listed (L2N.takes_of rfl rfl rfl rfl) (ja_cons (je_var (pe_var (i := 2) rfl (.inl rfl))) ja_nil)) (ja_cons (je_B (CallR.or call_len_seq call_len_str) bsLen D.u_len rfl (ja_cons (je_ix (je_var (pe_var (i := 0) rfl (.inl rfl))) je_int) ja_nil)) (ja_cons je_bl (ja_cons (je_B (CallR.or call_len_seq call_len_str) bsLen D.u_len rfl (ja_cons (je_var (pe_var (i := 2) rfl (.inl rfl))) ja_nil)) ja_nil))))))) (fun h => ps_set (i := 3) S.nd rfl (.inl rfl) h))
  (jss_one (js_ret (je_plus (je_var (pe_var (i := 3) rfl (.inl rfl))) (je_lst (ja_cons (je_fstr (.cons je_str (.cons (je_fmt (je_ix (je_var (pe_var (i := 0) rfl (.inl rfl))) je_int)) (.cons je_str (.cons (je_fmt (je_B (CallR.or call_len_seq call_len_str) bsLen D.u_len rfl (ja_cons (je_var (pe_var (i := 2) rfl (.inl rfl))) ja_nil))) (.cons je_str .nil)))))) (ja_cons (je_neD hr (je_var (pe_var (i := 2) rfl (.inl rfl))) (je_lst ja_nil)) ja_nil)))))))))
theorem S_law_walked : FnScope N_law_walked ["_law_well_here", "_law_box", "_law_worlds", "_law_many"] (defScope (top 64)) := ⟨rfl, rfl, rfl, by decide +kernel, rfl, by decide +kernel, by decide +kernel⟩
theorem J_law_walked {P : Program} {w : World} {K : Frag} {mg : Str → Option Value} {h base : Heap} (D : Wd w K mg h base) (h_law_copied : Keeps P w K mg base 2 (He.fAd K ("_law_copied", none)) 1 G_law_copied) (h_law_job : Keeps P w K mg base 4 (He.fAd K ("_law_job", none)) 2 G_law_job) (h_law_call : Keeps P w K mg base 10 (He.fAd K ("_law_call", none)) 2 G_law_call) (h_law_done : Keeps P w K mg base 5 (He.fAd K ("_law_done", none)) 2 G_law_done) (h_law_shown : Keeps P w K mg base 6 (He.fAd K ("_law_shown", none)) 1 G_law_shown) (h_law_view : Keeps P w K mg base 3 (He.fAd K ("_law_view", none)) 1 G_law_view) (cdv : Value) (A : Around) (outer : List Env) (s : Shared) (H : Hp) (E : XK) (hc : CodeAt K (He.fAd K ("_law_walked", none)) cdv) (hr : RoomG 10 (A.deeper (envOfC "_law_walked" (defScope (top 64)) s.heap.objs.size (He.fAd K ("_law_walked", none)) cdv))) :
    JSs (cxOf (L2N.CX P w) P w K mg base N_law_walked "_law_walked" (defScope (top 64)) (He.fAd K ("_law_walked", none)) cdv A outer s H E) (fun cls d _ H => E cls d H) (defBody (top 64)) b_law_walked := by
  have S := S_law_walked
  exact (jss_cons (js_for (passes_of rfl) rfl (ji_range1 D.u_range (ja_cons (je_var (pe_var (i := 3) rfl (.inl rfl))) ja_nil)) (jg_name (i := 4) (pg_name S.nd rfl (.inl rfl)))
  (jss_cons (js_set (je_call h_law_copied (hr.mono (by decide)) D.g__law_copied D.k_law_copied (L2N.takes_of rfl rfl rfl rfl) (ja_cons (je_ix (je_var (pe_var (i := 2) rfl (.inl rfl))) (je_neg je_int)) ja_nil)) (fun h => ps_set (i := 5) S.nd rfl (.inl rfl) h))
  (jss_cons (js_set (je_call h_law_job (hr.mono (by decide)) D.g__law_job D.k_law_job (L2N.takes_of rfl rfl rfl rfl) (ja_cons (je_var (pe_var (i := 0) rfl (.inl rfl))) (ja_cons (je_var (pe_var (i := 5) rfl (.inl rfl))) ja_nil))) (fun h => ps_set (i := 6) S.nd rfl (.inl rfl) h))
  (jss_cons (js_if (PWPT (jw_or (jt_neD hr (je_B (cr_reprD hr) bsReprD D.u_repr rfl (ja_cons (je_call h_law_call (hr.mono (by decide)) D.g__law_call D.k_law_call (L2N.takes_of rfl rfl rfl rfl) (ja_cons (je_var (pe_var (i := 1) rfl (.inl rfl))) (ja_cons (je_var (pe_var (i := 6) rfl (.inl rfl))) ja_nil))) ja_nil)) (je_B (cr_reprD hr) bsReprD D.u_repr rfl (ja_cons (je_call h_law_done (hr.mono (by decide)) D.g__law_done D.k_law_done (L2N.takes_of rfl rfl rfl rfl) (ja_cons (je_var (pe_var (i := 5) rfl (.inl rfl))) (ja_cons (je_var (pe_var (i := 6) rfl (.inl rfl))) ja_nil))) ja_nil))) (jw_or1 (jt_neD hr (je_B (cr_reprD hr) bsReprD D.u_repr rfl (ja_cons (je_call h_law_shown (hr.mono (by decide)) D.g__law_shown D.k_law_shown (L2N.takes_of rfl rfl rfl rfl) (ja_cons (je_var (pe_var (i := 1) rfl (.inl rfl))) ja_nil)) ja_nil)) (je_B (cr_reprD hr) bsReprD D.u_repr rfl (ja_cons (je_call h_law_view (hr.mono (by decide)) D.g__law_view D.k_law_view (L2N.takes_of rfl rfl rfl rfl) (ja_cons (je_var (pe_var (i := 5) rfl (.inl rfl))) ja_nil)) ja_nil))))))
  (jss_one (js_ret je_bl))
  jss_nil)
  (jss_one (js_expr (je_mt mt_append msAppend PySem.F.slot_list_append PySem.F.type_list_append (je_var (pe_var (i := 2) rfl (.inl rfl))) (ja_cons (je_var (pe_var (i := 5) rfl (.inl rfl))) ja_nil) (fun a b => pe_bm PySem.F.plainAttrs_list PySem.F.slot_list_append PySem.F.type_list_append mt_append a b))))))))
  (jss_one (js_ret je_bl)))
theorem S_law_right : FnScope N_law_right ["_law_well_here"] (defScope (top 65)) := ⟨rfl, rfl, rfl, by decide +kernel, rfl, by decide +kernel, by decide +kernel⟩
theorem J_law_right {P : Program} {w : World} {K : Frag} {mg : Str → Option Value} {h base : Heap} (D : Wd w K mg h base) (h_law_told : Keeps P w K mg base 5 (He.fAd K ("_law_told", none)) 1 G_law_told) (h_law_new : Keeps P w K mg base 2 (He.fAd K ("_law_new", none)) 1 G_law_new) (h_Session_init : Keeps P w K mg base 5 (He.fAd K ("Session", some "__init__")) 2 G_Session_init) (h_law_made : Keeps P w K mg base 7 (He.fAd K ("_law_made", none)) 1 G_law_made) (h_Session_undo : Keeps P w K mg base 4 (He.fAd K ("Session", some "undo")) 1 G_Session_undo) (h_law_walked : Keeps P w K mg base 11 (He.fAd K ("_law_walked", none)) 4 G_law_walked) (h_law_draw : Keeps P w K mg base 2 (He.fAd K ("_law_draw", none)) 2 G_law_draw) (h_law_shown : Keeps P w K mg base 6 (He.fAd K ("_law_shown", none)) 1 G_law_shown) (h_law_view : Keeps P w K mg base 3 (He.fAd K ("_law_view", none)) 1 G_law_view) (cdv : Value) (A : Around) (outer : List Env) (s : Shared) (H : Hp) (E : XK) (hc : CodeAt K (He.fAd K ("_law_right", none)) cdv) (hr : RoomG 11 (A.deeper (envOfC "_law_right" (defScope (top 65)) s.heap.objs.size (He.fAd K ("_law_right", none)) cdv))) :
    JSs (cxOf (L2N.CX P w) P w K mg base N_law_right "_law_right" (defScope (top 65)) (He.fAd K ("_law_right", none)) cdv A outer s H E) (fun cls d _ H => E cls d H) (defBody (top 65)) b_law_right := by
  have S := S_law_right
  obtain ⟨fo_law_outcome, Fo_law_outcome⟩ := D.fd_law_outcome
  have LT := lamT_of (X := cxOf (L2N.CX P w) P w K mg base N_law_right "_law_right" (defScope (top 65)) (He.fAd K ("_law_right", none)) cdv A outer s H E) (p := ("_law_right", none)) (q := "_law_right.<locals>.<lambda>") lamMem2 D.lt_law_right D.tabsOk D.tb_law_right (by rw [hc.eq] <;> rfl) rfl
  exact (jss_cons (js_set (je_call h_law_told (hr.mono (by decide)) D.g__law_told D.k_law_told (L2N.takes_of rfl rfl rfl rfl) (ja_cons (je_var (pe_var (i := 0) rfl (.inl rfl))) ja_nil)) (fun h => ps_set (i := 1) S.nd rfl (.inl rfl) h))
  (jss_cons (js_asg (je_tup (ja_cons (je_make D.mk_Session h_Session_init (hr.mono (by decide)) D.g_Session (L2N.takes_of rfl rfl rfl rfl) (ja_cons (je_call h_law_made (hr.mono (by decide)) D.g__law_made D.k_law_made (L2N.takes_of rfl rfl rfl rfl) (ja_cons (je_var (pe_var (i := 1) rfl (.inl rfl))) ja_nil)) ja_nil)) (ja_cons (je_lstM (ja_cons (je_call h_law_new (hr.mono (by decide)) D.g__law_new D.k_law_new (L2N.takes_of rfl rfl rfl rfl) (ja_cons (je_var (pe_var (i := 1) rfl (.inl rfl))) ja_nil)) ja_nil)) ja_nil))) (jg_tup rfl (jgs_cons (W := NoW) (jg_name (i := 2) (pg_name S.nd rfl (.inr rfl))) (jgs_cons (W := NoW) (jg_name (i := 3) (pg_name S.nd rfl (.inl rfl))) jgs_nil))))
  (jss_cons (js_if (jt_neD hr (je_B (cr_reprD hr) bsReprD D.u_repr rfl (ja_cons (je_lam (k := 9) Fo_law_outcome S_law_outcome (FunD.bindsN Fo_law_outcome fun _ _ _ _ _ _ us hl => match us, hl with | [_], _ => rfl) rfl (.inl rfl) D.g__law_outcome (L2N.takes_of rfl rfl rfl rfl) (hr.mono (by decide)) LT (LamX.lamS_by (sc := defScope (top 65)) (by decide +kernel)) rfl (fun _ _ _ _ _ => rfl) (fun A outer s H E f c hr => (je_meth0 (je_var (pe_var (i := 2) rfl (.inr (.inr rfl)))) D.c_Session D.m_Session_undo h_Session_undo (hr.mono (by decide)) (L2N.takes_of rfl rfl rfl rfl)))
  (fun cdv A outer s H E L ask hc hr mA ha => J_law_outcome D  cdv A outer s H E L ask hc (hr.mono (by decide)) mA ha)) ja_nil)) (je_B (cr_reprD hr) bsReprD D.u_repr rfl (ja_cons (je_lst (ja_cons je_str (ja_cons je_non ja_nil))) ja_nil)))
  (jss_one (js_ret je_bl))
  jss_nil)
  (jss_cons (js_for (passes_of rfl) rfl (ji_range1 D.u_range (ja_cons je_int ja_nil)) (jg_name (i := 4) (pg_name S.nd rfl (.inl rfl)))
  (jss_cons (js_if (jt_not (jt_val (je_call h_law_walked (hr.mono (by decide)) D.g__law_walked D.k_law_walked (L2N.takes_of rfl rfl rfl rfl) (ja_cons (je_var (pe_var (i := 0) rfl (.inl rfl))) (ja_cons (je_var (pe_var (i := 2) rfl (.inr (.inl rfl)))) (ja_cons (je_var (pe_var (i := 3) rfl (.inl rfl))) (ja_cons (je_plus je_int (je_call h_law_draw (hr.mono (by decide)) D.g__law_draw D.k_law_draw (L2N.takes_of rfl rfl rfl rfl) (ja_cons (je_var (pe_var (i := 0) rfl (.inl rfl))) (ja_cons je_int ja_nil)))) ja_nil)))))))
  (jss_one (js_ret je_bl))
  jss_nil)
  (jss_cons (js_for (passes_of rfl) rfl (ji_range1 D.u_range (ja_cons (je_sub (je_B (CallR.or call_len_seq call_len_str) bsLen D.u_len rfl (ja_cons (je_var (pe_var (i := 3) rfl (.inl rfl))) ja_nil)) je_int) ja_nil)) (jg_name (i := 5) (pg_name S.nd rfl (.inl rfl)))
  (jss_cons (js_expr (je_mt0 msPop (je_var (pe_var (i := 3) rfl (.inl rfl))) (fun a => pe_bm0 PySem.F.plainAttrs_list PySem.F.slot_list_pop PySem.F.type_list_pop mt_pop a)))
  (jss_one (js_if (PWPT (jw_or (jt_notN (je_meth0 (je_var (pe_var (i := 2) rfl (.inr (.inl rfl)))) D.c_Session D.m_Session_undo h_Session_undo (hr.mono (by decide)) (L2N.takes_of rfl rfl rfl rfl)) je_non) (jw_or1 (jt_neD hr (je_B (cr_reprD hr) bsReprD D.u_repr rfl (ja_cons (je_call h_law_shown (hr.mono (by decide)) D.g__law_shown D.k_law_shown (L2N.takes_of rfl rfl rfl rfl) (ja_cons (je_var (pe_var (i := 2) rfl (.inr (.inl rfl)))) ja_nil)) ja_nil)) (je_B (cr_reprD hr) bsReprD D.u_repr rfl (ja_cons (je_call h_law_view (hr.mono (by decide)) D.g__law_view D.k_law_view (L2N.takes_of rfl rfl rfl rfl) (ja_cons (je_ix (je_var (pe_var (i := 3) rfl (.inl rfl))) (je_neg je_int)) ja_nil)) ja_nil))))))
  (jss_one (js_ret je_bl))
  jss_nil))))
  (jss_cons (js_if (jt_neD hr (je_B (cr_reprD hr) bsReprD D.u_repr rfl (ja_cons (je_lam (k := 9) Fo_law_outcome S_law_outcome (FunD.bindsN Fo_law_outcome fun _ _ _ _ _ _ us hl => match us, hl with | [_], _ => rfl) rfl (.inl rfl) D.g__law_outcome (L2N.takes_of rfl rfl rfl rfl) (hr.mono (by decide)) LT (LamX.lamS_by (sc := defScope (top 65)) (by decide +kernel)) rfl (fun _ _ _ _ _ => rfl) (fun A outer s H E f c hr => (je_meth0 (je_var (pe_var (i := 2) rfl (.inr (.inr rfl)))) D.c_Session D.m_Session_undo h_Session_undo (hr.mono (by decide)) (L2N.takes_of rfl rfl rfl rfl)))
  (fun cdv A outer s H E L ask hc hr mA ha => J_law_outcome D  cdv A outer s H E L ask hc (hr.mono (by decide)) mA ha)) ja_nil)) (je_B (cr_reprD hr) bsReprD D.u_repr rfl (ja_cons (je_lst (ja_cons je_str (ja_cons je_non ja_nil))) ja_nil)))
  (jss_one (js_ret je_bl))
  jss_nil)
  (jss_one (js_if (jt_neD hr (je_B (cr_reprD hr) bsReprD D.u_repr rfl (ja_cons (je_call h_law_shown (hr.mono (by decide)) D.g__law_shown D.k_law_shown (L2N.takes_of rfl rfl rfl rfl) (ja_cons (je_var (pe_var (i := 2) rfl (.inr (.inl rfl)))) ja_nil)) ja_nil)) (je_B (cr_reprD hr) bsReprD D.u_repr rfl (ja_cons (je_call h_law_view (hr.mono (by decide)) D.g__law_view D.k_law_view (L2N.takes_of rfl rfl rfl rfl) (ja_cons (je_call h_law_new (hr.mono (by decide)) D.g__law_new D.k_law_new (L2N.takes_of rfl rfl rfl rfl) (ja_cons (je_var (pe_var (i := 1) rfl (.inl rfl))) ja_nil)) ja_nil)) ja_nil)))
  (jss_one (js_ret je_bl))
  jss_nil))))))
  (jss_one (js_ret (je_call h_law_walked (hr.mono (by decide)) D.g__law_walked D.k_law_walked (L2N.takes_of rfl rfl rfl rfl) (ja_cons (je_var (pe_var (i := 0) rfl (.inl rfl))) (ja_cons (je_var (pe_var (i := 2) rfl (.inr (.inl rfl)))) (ja_cons (je_var (pe_var (i := 3) rfl (.inl rfl))) (ja_cons je_int ja_nil)))))))))))
theorem S_law_well : FnScope N_law_well ["_law_script", "_law_k"] (defScope (top 44)) := ⟨rfl, rfl, rfl, by decide +kernel, rfl, by decide +kernel, by decide +kernel⟩
theorem J_law_well {P : Program} {w : World} {K : Frag} {mg : Str → Option Value} {h base : Heap} (D : Wd w K mg h base) (cdv : Value) (A : Around) (outer : List Env) (s : Shared) (H : Hp) (E : XK) (hc : CodeAt K (He.fAd K ("_law_well", none)) cdv) (hr : RoomG 1 (A.deeper (envOfC "_law_well" (defScope (top 44)) s.heap.objs.size (He.fAd K ("_law_well", none)) cdv))) :
    JSs (cxOf (L2N.CX P w) P w K mg base N_law_well "_law_well" (defScope (top 44)) (He.fAd K ("_law_well", none)) cdv A outer s H E) (fun cls d _ H => E cls d H) (defBody (top 44)) b_law_well := by
  have S := S_law_well
  exact (jss_cons (js_set (je_if (jt_lt (je_var (pe_var (i := 1) rfl (.inl rfl))) (je_B (CallR.or call_len_seq call_len_str) bsLen D.u_len rfl (ja_cons (je_var (pe_var (i := 0) rfl (.inl rfl))) ja_nil))) (je_BT call_int1 bsInt D.u_int rfl (ja_cons (je_ix (je_var (pe_var (i := 0) rfl (.inl rfl))) (je_var (pe_var (i := 1) rfl (.inl rfl)))) ja_nil)) (je_plus (je_mul je_int (je_var (pe_var (i := 1) rfl (.inl rfl)))) je_int)) (fun h => ps_set (i := 2) S.nd rfl (.inl rfl) h))
  (jss_cons (js_set (je_plus je_int (je_mul je_int (je_var (pe_var (i := 1) rfl (.inl rfl))))) (fun h => ps_set (i := 3) S.nd rfl (.inl rfl) h))
  (jss_cons (js_for (passes_of rfl) rfl (ji_seq (je_sl (je_var (pe_var (i := 0) rfl (.inl rfl))) jo_none (jo_some je_int))) (jg_name (i := 4) (pg_name S.nd rfl (.inl rfl)))
  (jss_one (js_set (je_mod (je_BT call_int1 bsInt D.u_int rfl (ja_cons (je_plus (je_mul (je_var (pe_var (i := 3) rfl (.inl rfl))) je_int) (je_BT call_int1 bsInt D.u_int rfl (ja_cons (je_var (pe_var (i := 4) rfl (.inl rfl))) ja_nil))) ja_nil)) je_int) (fun h => ps_set (i := 3) S.nd rfl (.inl rfl) h))))
  (jss_one (js_ret (je_lstM (ja_cons (je_mod (je_BT call_int1 bsInt D.u_int rfl (ja_cons (je_plus (je_var (pe_var (i := 3) rfl (.inl rfl))) (je_mul (je_var (pe_var (i := 2) rfl (.inl rfl))) je_int)) ja_nil)) je_int) (ja_cons je_int (ja_cons (je_if (PWPT (jw_or (jt_lt (je_var (pe_var (i := 2) rfl (.inl rfl))) je_int) (jw_or1 (jt_ge (je_var (pe_var (i := 2) rfl (.inl rfl))) (je_pow je_int je_int))))) (je_B call_abs bsAbs D.u_abs rfl (ja_cons (je_var (pe_var (i := 2) rfl (.inl rfl))) ja_nil)) je_int) ja_nil)))))))))
theorem S_law : FnScope N_law ["_law_script"] (defScope (top 66)) := ⟨rfl, rfl, rfl, by decide +kernel, rfl, by decide +kernel, by decide +kernel⟩
theorem J_law {P : Program} {w : World} {K : Frag} {mg : Str → Option Value} {h base : Heap} (D : Wd w K mg h base) (h_law_right : Keeps P w K mg base 12 (He.fAd K ("_law_right", none)) 1 G_law_right) (h_law_well : Keeps P w K mg base 2 (He.fAd K ("_law_well", none)) 2 G_law_well) (cdv : Value) (A : Around) (outer : List Env) (s : Shared) (H : Hp) (E : XK) (hc : CodeAt K (He.fAd K ("law", none)) cdv) (hr : RoomG 12 (A.deeper (envOfC "law" (defScope (top 66)) s.heap.objs.size (He.fAd K ("law", none)) cdv))) :
    JSs (cxOf (L2N.CX P w) P w K mg base N_law "law" (defScope (top 66)) (He.fAd K ("law", none)) cdv A outer s H E) (fun cls d _ H => E cls d H) (defBody (top 66)) b_law := by
  have S := S_law
  exact (jss_one (js_ret (je_B (cr_all rfl) bsAll D.u_all rfl (ja_cons (je_lc (own := [("_law_k", 1)]) (p := (.nm 1)) rfl S.nd (ji_range1 D.u_range (ja_cons (je_B (call_max2 rfl) bsMax2 D.u_max rfl (ja_cons je_int (ja_cons (je_B (call_min2 rfl) bsMin2 D.u_min rfl (ja_cons (je_B (CallR.or call_len_seq call_len_str) bsLen D.u_len rfl (ja_cons (je_var (pe_var (i := 0) rfl (.inr (.inl rfl)))) ja_nil)) (ja_cons je_int ja_nil))) ja_nil))) ja_nil)) (blkOk_by rfl) (by decide) (fun _ _ _ _ _ => pg_name S.nd rfl (.inl rfl)) (fun _ _ _ _ _ => jts_nil) (fun _ _ _ _ _ => (je_call h_law_right (hr.mono (by decide)) D.g__law_right D.k_law_right (tk0) (ja_cons (je_call h_law_well (hr.mono (by decide)) D.g__law_well D.k_law_well (tk0) (ja_cons (je_var (pe_var (i := 0) rfl (.inr (.inl rfl)))) (ja_cons (je_var (pe_var (i := 1) rfl (.inl rfl))) ja_nil))) ja_nil)))) ja_nil))))
end LL.K67
end

section
set_option Elab.async false
set_option linter.all false
set_option maxRecDepth 100000
set_option maxHeartbeats 4000000
namespace LL.K67
open PySem PySem.Spec PyProof.Rows L2 LL
theorem K_law_draw {P : Program} {w : World} {K : Frag} {mg : Str → Option Value} {h base : Heap} (D : Wd w K mg h base) : Keeps P w K mg base 2 (He.fAd K ("_law_draw", none)) 2 G_law_draw := by
  obtain ⟨fd, F⟩ := D.fd_law_draw
  exact keeps_of F S_law_draw rfl (FunD.bindsN F fun _ _ _ _ _ _ us hl => match us, hl with | [_, _], _ => rfl) M_law_draw (J_law_draw D ) V_law_draw
theorem K_law_one_of {P : Program} {w : World} {K : Frag} {mg : Str → Option Value} {h base : Heap} (D : Wd w K mg h base) (h_law_draw : Keeps P w K mg base 2 (He.fAd K ("_law_draw", none)) 2 G_law_draw) : Keeps P w K mg base 3 (He.fAd K ("_law_one_of", none)) 2 G_law_one_of := by
  obtain ⟨fd, F⟩ := D.fd_law_one_of
  exact keeps_of F S_law_one_of rfl (FunD.bindsN F fun _ _ _ _ _ _ us hl => match us, hl with | [_, _], _ => rfl) M_law_one_of (J_law_one_of D h_law_draw) V_law_one_of
theorem K_law_ways {P : Program} {w : World} {K : Frag} {mg : Str → Option Value} {h base : Heap} (D : Wd w K mg h base) (h_law_one_of : Keeps P w K mg base 3 (He.fAd K ("_law_one_of", none)) 2 G_law_one_of) (h_law_draw : Keeps P w K mg base 2 (He.fAd K ("_law_draw", none)) 2 G_law_draw) : Keeps P w K mg base 4 (He.fAd K ("_law_ways", none)) 1 G_law_ways := by
  obtain ⟨fd, F⟩ := D.fd_law_ways
  exact keeps_of F S_law_ways rfl (FunD.bindsN F fun _ _ _ _ _ _ us hl => match us, hl with | [_], _ => rfl) M_law_ways (J_law_ways D h_law_one_of h_law_draw) V_law_ways
theorem K_law_told {P : Program} {w : World} {K : Frag} {mg : Str → Option Value} {h base : Heap} (D : Wd w K mg h base) (h_law_one_of : Keeps P w K mg base 3 (He.fAd K ("_law_one_of", none)) 2 G_law_one_of) (h_law_draw : Keeps P w K mg base 2 (He.fAd K ("_law_draw", none)) 2 G_law_draw) (h_law_ways : Keeps P w K mg base 4 (He.fAd K ("_law_ways", none)) 1 G_law_ways) : Keeps P w K mg base 5 (He.fAd K ("_law_told", none)) 1 G_law_told := by
  obtain ⟨fd, F⟩ := D.fd_law_told
  exact keeps_of F S_law_told rfl (FunD.bindsN F fun _ _ _ _ _ _ us hl => match us, hl with | [_], _ => rfl) M_law_told (J_law_told D h_law_one_of h_law_draw h_law_ways) V_law_told
theorem K_law_new {P : Program} {w : World} {K : Frag} {mg : Str → Option Value} {h base : Heap} (D : Wd w K mg h base) : Keeps P w K mg base 2 (He.fAd K ("_law_new", none)) 1 G_law_new := by
  obtain ⟨fd, F⟩ := D.fd_law_new
  exact keeps_of F S_law_new rfl (FunD.bindsN F fun _ _ _ _ _ _ us hl => match us, hl with | [_], _ => rfl) M_law_new (J_law_new D ) V_law_new
theorem K_NotALine_init {P : Program} {w : World} {K : Frag} {mg : Str → Option Value} {h base : Heap} (D : Wd w K mg h base) : OexK P w K mg base (He.fAd K ("NotALine", some "__init__")) "value" := by
  obtain ⟨fd, F⟩ := D.fd_NotALine_init
  exact ⟨fd, _, oex_keeps F S_NotALine_init rfl (fun cdv A outer s H E => pss_one (ps_ost (pe_var (i := 0) rfl (.inl rfl)) (pe_var (i := 1) rfl (.inl rfl)))), FunD.bindsN F fun _ _ _ _ _ _ us hl => match us, hl with | [_, _], _ => rfl⟩
theorem K_check_line {P : Program} {w : World} {K : Frag} {mg : Str → Option Value} {h base : Heap} (D : Wd w K mg h base) (h_NotALine_init : OexK P w K mg base (He.fAd K ("NotALine", some "__init__")) "value") : Keeps P w K mg base 4 (He.fAd K ("check_line", none)) 1 G_check_line := by
  obtain ⟨fd, F⟩ := D.fd_check_line
  exact keeps_of F S_check_line rfl (FunD.bindsN F fun _ _ _ _ _ _ us hl => match us, hl with | [_], _ => rfl) M_check_line (J_check_line D h_NotALine_init) V_check_line
theorem K_Flow_kept {P : Program} {w : World} {K : Frag} {mg : Str → Option Value} {h base : Heap} (D : Wd w K mg h base) : Keeps P w K mg base 2 (He.fAd K ("Flow", some "kept")) 2 G_Flow_kept := by
  obtain ⟨fd, F⟩ := D.fd_Flow_kept
  exact keeps_of F S_Flow_kept rfl (FunD.bindsN F fun _ _ _ _ _ _ us hl => match us, hl with | [_, _], _ => rfl) M_Flow_kept (J_Flow_kept D ) V_Flow_kept
theorem K_Flow_fresh {P : Program} {w : World} {K : Frag} {mg : Str → Option Value} {h base : Heap} (D : Wd w K mg h base) : Keeps P w K mg base 2 (He.fAd K ("Flow", some "fresh")) 2 G_Flow_fresh := by
  obtain ⟨fd, F⟩ := D.fd_Flow_fresh
  exact keeps_of F S_Flow_fresh rfl (FunD.bindsN F fun _ _ _ _ _ _ us hl => match us, hl with | [_, _], _ => rfl) M_Flow_fresh (J_Flow_fresh D ) V_Flow_fresh
theorem K_Session_show {P : Program} {w : World} {K : Frag} {mg : Str → Option Value} {h base : Heap} (D : Wd w K mg h base) (h_Flow_kept : Keeps P w K mg base 2 (He.fAd K ("Flow", some "kept")) 2 G_Flow_kept) (h_Flow_fresh : Keeps P w K mg base 2 (He.fAd K ("Flow", some "fresh")) 2 G_Flow_fresh) : Keeps P w K mg base 3 (He.fAd K ("Session", some "show")) 3 G_Session_show := by
  obtain ⟨fd, F⟩ := D.fd_Session_show
  exact keeps_of F S_Session_show rfl (FunD.bindsN F fun _ _ _ _ _ _ us hl => match us, hl with | [_, _, _], _ => rfl) M_Session_show (J_Session_show D h_Flow_kept h_Flow_fresh) V_Session_show
theorem K_Flow_init {P : Program} {w : World} {K : Frag} {mg : Str → Option Value} {h base : Heap} (D : Wd w K mg h base) : Keeps P w K mg base 2 (He.fAd K ("Flow", some "__init__")) 2 G_Flow_init := by
  obtain ⟨fd, F⟩ := D.fd_Flow_init
  exact keeps_of F S_Flow_init rfl (FunD.bindsN F fun _ _ _ _ _ _ us hl => match us, hl with | [_, _], _ => rfl) M_Flow_init (J_Flow_init D ) V_Flow_init
theorem K_Session_init {P : Program} {w : World} {K : Frag} {mg : Str → Option Value} {h base : Heap} (D : Wd w K mg h base) (h_check_line : Keeps P w K mg base 4 (He.fAd K ("check_line", none)) 1 G_check_line) (h_Session_show : Keeps P w K mg base 3 (He.fAd K ("Session", some "show")) 3 G_Session_show) (h_Flow_init : Keeps P w K mg base 2 (He.fAd K ("Flow", some "__init__")) 2 G_Flow_init) : Keeps P w K mg base 5 (He.fAd K ("Session", some "__init__")) 2 G_Session_init := by
  obtain ⟨fd, F⟩ := D.fd_Session_init
  exact keeps_of F S_Session_init rfl (FunD.bindsN F fun _ _ _ _ _ _ us hl => match us, hl with | [_, _], _ => rfl) M_Session_init (J_Session_init D h_check_line h_Session_show h_Flow_init) V_Session_init
theorem K_is_integer {P : Program} {w : World} {K : Frag} {mg : Str → Option Value} {h base : Heap} (D : Wd w K mg h base) : Keeps P w K mg base 2 (He.fAd K ("is_integer", none)) 1 G_is_integer := by
  obtain ⟨fd, F⟩ := D.fd_is_integer
  exact keeps_of F S_is_integer rfl (FunD.bindsN F fun _ _ _ _ _ _ us hl => match us, hl with | [_], _ => rfl) M_is_integer (J_is_integer D ) V_is_integer
theorem K_is_between {P : Program} {w : World} {K : Frag} {mg : Str → Option Value} {h base : Heap} (D : Wd w K mg h base) (h_is_integer : Keeps P w K mg base 2 (He.fAd K ("is_integer", none)) 1 G_is_integer) : Keeps P w K mg base 3 (He.fAd K ("is_between", none)) 3 G_is_between := by
  obtain ⟨fd, F⟩ := D.fd_is_between
  exact keeps_of F S_is_between rfl (FunD.bindsN F fun _ _ _ _ _ _ us hl => match us, hl with | [_, _, _], _ => rfl) M_is_between (J_is_between D h_is_integer) V_is_between
theorem K_InvalidNumber_init {P : Program} {w : World} {K : Frag} {mg : Str → Option Value} {h base : Heap} (D : Wd w K mg h base) : OexK P w K mg base (He.fAd K ("InvalidNumber", some "__init__")) "value" := by
  obtain ⟨fd, F⟩ := D.fd_InvalidNumber_init
  exact ⟨fd, _, oex_keeps F S_InvalidNumber_init rfl (fun cdv A outer s H E => pss_one (ps_ost (pe_var (i := 0) rfl (.inl rfl)) (pe_var (i := 1) rfl (.inl rfl)))), FunD.bindsN F fun _ _ _ _ _ _ us hl => match us, hl with | [_, _], _ => rfl⟩
theorem K_check_number {P : Program} {w : World} {K : Frag} {mg : Str → Option Value} {h base : Heap} (D : Wd w K mg h base) (h_is_between : Keeps P w K mg base 3 (He.fAd K ("is_between", none)) 3 G_is_between) (h_InvalidNumber_init : OexK P w K mg base (He.fAd K ("InvalidNumber", some "__init__")) "value") : Keeps P w K mg base 4 (He.fAd K ("check_number", none)) 3 G_check_number := by
  obtain ⟨fd, F⟩ := D.fd_check_number
  exact keeps_of F S_check_number rfl (FunD.bindsN F fun _ _ _ _ _ _ us hl => match us, hl with | [_, _, _], _ => rfl) M_check_number (J_check_number D h_is_between h_InvalidNumber_init) V_check_number
theorem K_NotASetting_init {P : Program} {w : World} {K : Frag} {mg : Str → Option Value} {h base : Heap} (D : Wd w K mg h base) : OexK P w K mg base (He.fAd K ("NotASetting", some "__init__")) "value" := by
  obtain ⟨fd, F⟩ := D.fd_NotASetting_init
  exact ⟨fd, _, oex_keeps F S_NotASetting_init rfl (fun cdv A outer s H E => pss_one (ps_ost (pe_var (i := 0) rfl (.inl rfl)) (pe_var (i := 1) rfl (.inl rfl)))), FunD.bindsN F fun _ _ _ _ _ _ us hl => match us, hl with | [_, _], _ => rfl⟩
theorem K_check_setting {P : Program} {w : World} {K : Frag} {mg : Str → Option Value} {h base : Heap} (D : Wd w K mg h base) (h_NotASetting_init : OexK P w K mg base (He.fAd K ("NotASetting", some "__init__")) "value") : Keeps P w K mg base 4 (He.fAd K ("check_setting", none)) 1 G_check_setting := by
  obtain ⟨fd, F⟩ := D.fd_check_setting
  exact keeps_of F S_check_setting rfl (FunD.bindsN F fun _ _ _ _ _ _ us hl => match us, hl with | [_], _ => rfl) M_check_setting (J_check_setting D h_NotASetting_init) V_check_setting
theorem K_Line_init {P : Program} {w : World} {K : Frag} {mg : Str → Option Value} {h base : Heap} (D : Wd w K mg h base) (h_check_number : Keeps P w K mg base 4 (He.fAd K ("check_number", none)) 3 G_check_number) (h_check_setting : Keeps P w K mg base 4 (He.fAd K ("check_setting", none)) 1 G_check_setting) : Keeps P w K mg base 5 (He.fAd K ("Line", some "__init__")) 5 G_Line_init := by
  obtain ⟨fd, F⟩ := D.fd_Line_init
  exact keeps_of F S_Line_init rfl (FunD.bindsN F fun _ _ _ _ _ _ us hl => match us, hl with | [_, _, _, _, _], _ => rfl) M_Line_init (J_Line_init D h_check_number h_check_setting) V_Line_init
theorem K_InvalidRule_init {P : Program} {w : World} {K : Frag} {mg : Str → Option Value} {h base : Heap} (D : Wd w K mg h base) : OexK P w K mg base (He.fAd K ("InvalidRule", some "__init__")) "value" := by
  obtain ⟨fd, F⟩ := D.fd_InvalidRule_init
  exact ⟨fd, _, oex_keeps F S_InvalidRule_init rfl (fun cdv A outer s H E => pss_one (ps_ost (pe_var (i := 0) rfl (.inl rfl)) (pe_var (i := 1) rfl (.inl rfl)))), FunD.bindsN F fun _ _ _ _ _ _ us hl => match us, hl with | [_, _], _ => rfl⟩
theorem K_Setting_init {P : Program} {w : World} {K : Frag} {mg : Str → Option Value} {h base : Heap} (D : Wd w K mg h base) (h_InvalidRule_init : OexK P w K mg base (He.fAd K ("InvalidRule", some "__init__")) "value") (h_check_number : Keeps P w K mg base 4 (He.fAd K ("check_number", none)) 3 G_check_number) : Keeps P w K mg base 5 (He.fAd K ("Setting", some "__init__")) 4 G_Setting_init := by
  obtain ⟨fd, F⟩ := D.fd_Setting_init
  exact keeps_of F S_Setting_init rfl (FunD.bindsN F fun _ _ _ _ _ _ us hl => match us, hl with | [_, _, _, _], _ => rfl) M_Setting_init (J_Setting_init D h_InvalidRule_init h_check_number) V_Setting_init
theorem K_law_made {P : Program} {w : World} {K : Frag} {mg : Str → Option Value} {h base : Heap} (D : Wd w K mg h base) (h_Line_init : Keeps P w K mg base 5 (He.fAd K ("Line", some "__init__")) 5 G_Line_init) (h_Setting_init : Keeps P w K mg base 5 (He.fAd K ("Setting", some "__init__")) 4 G_Setting_init) : Keeps P w K mg base 7 (He.fAd K ("_law_made", none)) 1 G_law_made := by
  obtain ⟨fd, F⟩ := D.fd_law_made
  exact keeps_of F S_law_made rfl (FunD.bindsN F fun _ _ _ _ _ _ us hl => match us, hl with | [_], _ => rfl) M_law_made (J_law_made D h_Line_init h_Setting_init) V_law_made
theorem K_Session_check_free {P : Program} {w : World} {K : Frag} {mg : Str → Option Value} {h base : Heap} (D : Wd w K mg h base) : Keeps P w K mg base 2 (He.fAd K ("Session", some "check_free")) 1 G_Session_check_free := by
  obtain ⟨fd, F⟩ := D.fd_Session_check_free
  exact keeps_of F S_Session_check_free rfl (FunD.bindsN F fun _ _ _ _ _ _ us hl => match us, hl with | [_], _ => rfl) M_Session_check_free (J_Session_check_free D ) V_Session_check_free
theorem K_Session_undo {P : Program} {w : World} {K : Frag} {mg : Str → Option Value} {h base : Heap} (D : Wd w K mg h base) (h_Session_check_free : Keeps P w K mg base 2 (He.fAd K ("Session", some "check_free")) 1 G_Session_check_free) (h_Session_show : Keeps P w K mg base 3 (He.fAd K ("Session", some "show")) 3 G_Session_show) : Keeps P w K mg base 4 (He.fAd K ("Session", some "undo")) 1 G_Session_undo := by
  obtain ⟨fd, F⟩ := D.fd_Session_undo
  exact keeps_of F S_Session_undo rfl (FunD.bindsN F fun _ _ _ _ _ _ us hl => match us, hl with | [_], _ => rfl) M_Session_undo (J_Session_undo D h_Session_check_free h_Session_show) V_Session_undo
theorem K_law_copied {P : Program} {w : World} {K : Frag} {mg : Str → Option Value} {h base : Heap} (D : Wd w K mg h base) : Keeps P w K mg base 2 (He.fAd K ("_law_copied", none)) 1 G_law_copied := by
  obtain ⟨fd, F⟩ := D.fd_law_copied
  exact keeps_of F S_law_copied rfl (FunD.bindsN F fun _ _ _ _ _ _ us hl => match us, hl with | [_], _ => rfl) M_law_copied (J_law_copied D ) V_law_copied
theorem K_law_job {P : Program} {w : World} {K : Frag} {mg : Str → Option Value} {h base : Heap} (D : Wd w K mg h base) (h_law_draw : Keeps P w K mg base 2 (He.fAd K ("_law_draw", none)) 2 G_law_draw) (h_law_one_of : Keeps P w K mg base 3 (He.fAd K ("_law_one_of", none)) 2 G_law_one_of) : Keeps P w K mg base 4 (He.fAd K ("_law_job", none)) 2 G_law_job := by
  obtain ⟨fd, F⟩ := D.fd_law_job
  exact keeps_of F S_law_job rfl (FunD.bindsN F fun _ _ _ _ _ _ us hl => match us, hl with | [_, _], _ => rfl) M_law_job (J_law_job D h_law_draw h_law_one_of) V_law_job
theorem K_InvalidSide_init {P : Program} {w : World} {K : Frag} {mg : Str → Option Value} {h base : Heap} (D : Wd w K mg h base) : OexK P w K mg base (He.fAd K ("InvalidSide", some "__init__")) "value" := by
  obtain ⟨fd, F⟩ := D.fd_InvalidSide_init
  exact ⟨fd, _, oex_keeps F S_InvalidSide_init rfl (fun cdv A outer s H E => pss_one (ps_ost (pe_var (i := 0) rfl (.inl rfl)) (pe_var (i := 1) rfl (.inl rfl)))), FunD.bindsN F fun _ _ _ _ _ _ us hl => match us, hl with | [_, _], _ => rfl⟩
theorem K_check_side {P : Program} {w : World} {K : Frag} {mg : Str → Option Value} {h base : Heap} (D : Wd w K mg h base) (h_is_between : Keeps P w K mg base 3 (He.fAd K ("is_between", none)) 3 G_is_between) (h_InvalidSide_init : OexK P w K mg base (He.fAd K ("InvalidSide", some "__init__")) "value") : Keeps P w K mg base 4 (He.fAd K ("check_side", none)) 1 G_check_side := by
  obtain ⟨fd, F⟩ := D.fd_check_side
  exact keeps_of F S_check_side rfl (FunD.bindsN F fun _ _ _ _ _ _ us hl => match us, hl with | [_], _ => rfl) M_check_side (J_check_side D h_is_between h_InvalidSide_init) V_check_side
theorem K_check_deed {P : Program} {w : World} {K : Frag} {mg : Str → Option Value} {h base : Heap} (D : Wd w K mg h base) (h_check_side : Keeps P w K mg base 4 (He.fAd K ("check_side", none)) 1 G_check_side) (h_check_number : Keeps P w K mg base 4 (He.fAd K ("check_number", none)) 3 G_check_number) (h_Flow_fresh : Keeps P w K mg base 2 (He.fAd K ("Flow", some "fresh")) 2 G_Flow_fresh) : Keeps P w K mg base 5 (He.fAd K ("check_deed", none)) 2 G_check_deed := by
  obtain ⟨fd, F⟩ := D.fd_check_deed
  exact keeps_of F S_check_deed rfl (FunD.bindsN F fun _ _ _ _ _ _ us hl => match us, hl with | [_, _], _ => rfl) M_check_deed (J_check_deed D h_check_side h_check_number h_Flow_fresh) V_check_deed
theorem K_TooMany_init {P : Program} {w : World} {K : Frag} {mg : Str → Option Value} {h base : Heap} (D : Wd w K mg h base) : OexAK P w K mg base (He.fAd K ("TooMany", some "__init__")) "limit" := by
  obtain ⟨fd, F⟩ := D.fd_TooMany_init
  exact ⟨fd, _, oexA_keeps F S_TooMany_init rfl (fun cdv A outer s H E => pss_one (ps_ostA (pe_var (i := 0) rfl (.inl rfl)) (pe_var (i := 1) rfl (.inl rfl)))), FunD.bindsN F fun _ _ _ _ _ _ us hl => match us, hl with | [_, _], _ => rfl⟩
theorem K_Flow_copied {P : Program} {w : World} {K : Frag} {mg : Str → Option Value} {h base : Heap} (D : Wd w K mg h base) (h_Flow_init : Keeps P w K mg base 2 (He.fAd K ("Flow", some "__init__")) 2 G_Flow_init) : Keeps P w K mg base 4 (He.fAd K ("Flow", some "copied")) 1 G_Flow_copied := by
  obtain ⟨fd, F⟩ := D.fd_Flow_copied
  exact keeps_of F S_Flow_copied rfl (FunD.bindsN F fun _ _ _ _ _ _ us hl => match us, hl with | [_], _ => rfl) M_Flow_copied (J_Flow_copied D h_Flow_init) V_Flow_copied
theorem K_Flow_take_out {P : Program} {w : World} {K : Frag} {mg : Str → Option Value} {h base : Heap} (D : Wd w K mg h base) : Keeps P w K mg base 2 (He.fAd K ("Flow", some "take_out")) 3 G_Flow_take_out := by
  obtain ⟨fd, F⟩ := D.fd_Flow_take_out
  exact keeps_of F S_Flow_take_out rfl (FunD.bindsN F fun _ _ _ _ _ _ us hl => match us, hl with | [_, _, _], _ => rfl) M_Flow_take_out (J_Flow_take_out D ) V_Flow_take_out
theorem K_Flow_send {P : Program} {w : World} {K : Frag} {mg : Str → Option Value} {h base : Heap} (D : Wd w K mg h base) (h_Flow_take_out : Keeps P w K mg base 2 (He.fAd K ("Flow", some "take_out")) 3 G_Flow_take_out) : Keeps P w K mg base 3 (He.fAd K ("Flow", some "send")) 3 G_Flow_send := by
  obtain ⟨fd, F⟩ := D.fd_Flow_send
  exact keeps_of F S_Flow_send rfl (FunD.bindsN F fun _ _ _ _ _ _ us hl => match us, hl with | [_, _, _], _ => rfl) M_Flow_send (J_Flow_send D h_Flow_take_out) V_Flow_send
theorem K_Flow_lets {P : Program} {w : World} {K : Frag} {mg : Str → Option Value} {h base : Heap} (D : Wd w K mg h base) : Keeps P w K mg base 2 (He.fAd K ("Flow", some "lets")) 2 G_Flow_lets := by
  obtain ⟨fd, F⟩ := D.fd_Flow_lets
  exact keeps_of F S_Flow_lets rfl (FunD.bindsN F fun _ _ _ _ _ _ us hl => match us, hl with | [_, _], _ => rfl) M_Flow_lets (J_Flow_lets D ) V_Flow_lets
theorem K_Flow_let_go {P : Program} {w : World} {K : Frag} {mg : Str → Option Value} {h base : Heap} (D : Wd w K mg h base) (h_Flow_kept : Keeps P w K mg base 2 (He.fAd K ("Flow", some "kept")) 2 G_Flow_kept) (h_Flow_send : Keeps P w K mg base 3 (He.fAd K ("Flow", some "send")) 3 G_Flow_send) (h_Flow_lets : Keeps P w K mg base 2 (He.fAd K ("Flow", some "lets")) 2 G_Flow_lets) : Keeps P w K mg base 4 (He.fAd K ("Flow", some "let_go")) 2 G_Flow_let_go := by
  obtain ⟨fd, F⟩ := D.fd_Flow_let_go
  exact keeps_of F S_Flow_let_go rfl (FunD.bindsN F fun _ _ _ _ _ _ us hl => match us, hl with | [_, _], _ => rfl) M_Flow_let_go (J_Flow_let_go D h_Flow_kept h_Flow_send h_Flow_lets) V_Flow_let_go
theorem K_Flow_put {P : Program} {w : World} {K : Frag} {mg : Str → Option Value} {h base : Heap} (D : Wd w K mg h base) (h_Flow_let_go : Keeps P w K mg base 4 (He.fAd K ("Flow", some "let_go")) 2 G_Flow_let_go) : Keeps P w K mg base 5 (He.fAd K ("Flow", some "put")) 3 G_Flow_put := by
  obtain ⟨fd, F⟩ := D.fd_Flow_put
  exact keeps_of F S_Flow_put rfl (FunD.bindsN F fun _ _ _ _ _ _ us hl => match us, hl with | [_, _, _], _ => rfl) M_Flow_put (J_Flow_put D h_Flow_let_go) V_Flow_put
theorem K_Flow_is_due {P : Program} {w : World} {K : Frag} {mg : Str → Option Value} {h base : Heap} (D : Wd w K mg h base) : Keeps P w K mg base 2 (He.fAd K ("Flow", some "is_due")) 2 G_Flow_is_due := by
  obtain ⟨fd, F⟩ := D.fd_Flow_is_due
  exact keeps_of F S_Flow_is_due rfl (FunD.bindsN F fun _ _ _ _ _ _ us hl => match us, hl with | [_, _], _ => rfl) M_Flow_is_due (J_Flow_is_due D ) V_Flow_is_due
theorem K_Flow_leave {P : Program} {w : World} {K : Frag} {mg : Str → Option Value} {h base : Heap} (D : Wd w K mg h base) (h_Flow_is_due : Keeps P w K mg base 2 (He.fAd K ("Flow", some "is_due")) 2 G_Flow_is_due) (h_Flow_send : Keeps P w K mg base 3 (He.fAd K ("Flow", some "send")) 3 G_Flow_send) : Keeps P w K mg base 4 (He.fAd K ("Flow", some "leave")) 1 G_Flow_leave := by
  obtain ⟨fd, F⟩ := D.fd_Flow_leave
  exact keeps_of F S_Flow_leave rfl (FunD.bindsN F fun _ _ _ _ _ _ us hl => match us, hl with | [_], _ => rfl) M_Flow_leave (J_Flow_leave D h_Flow_is_due h_Flow_send) V_Flow_leave
theorem K_Flow_next_tick {P : Program} {w : World} {K : Frag} {mg : Str → Option Value} {h base : Heap} (D : Wd w K mg h base) : Keeps P w K mg base 2 (He.fAd K ("Flow", some "next_tick")) 1 G_Flow_next_tick := by
  obtain ⟨fd, F⟩ := D.fd_Flow_next_tick
  exact keeps_of F S_Flow_next_tick rfl (FunD.bindsN F fun _ _ _ _ _ _ us hl => match us, hl with | [_], _ => rfl) M_Flow_next_tick (J_Flow_next_tick D ) V_Flow_next_tick
theorem K_Flow_land {P : Program} {w : World} {K : Frag} {mg : Str → Option Value} {h base : Heap} (D : Wd w K mg h base) : Keeps P w K mg base 2 (He.fAd K ("Flow", some "land")) 4 G_Flow_land := by
  obtain ⟨fd, F⟩ := D.fd_Flow_land
  exact keeps_of F S_Flow_land rfl (FunD.bindsN F fun _ _ _ _ _ _ us hl => match us, hl with | [_, _, _, _], _ => rfl) M_Flow_land (J_Flow_land D ) V_Flow_land
theorem K_Flow_begin {P : Program} {w : World} {K : Frag} {mg : Str → Option Value} {h base : Heap} (D : Wd w K mg h base) (h_Flow_land : Keeps P w K mg base 2 (He.fAd K ("Flow", some "land")) 4 G_Flow_land) (h_Flow_let_go : Keeps P w K mg base 4 (He.fAd K ("Flow", some "let_go")) 2 G_Flow_let_go) : Keeps P w K mg base 5 (He.fAd K ("Flow", some "begin")) 2 G_Flow_begin := by
  obtain ⟨fd, F⟩ := D.fd_Flow_begin
  exact keeps_of F S_Flow_begin rfl (FunD.bindsN F fun _ _ _ _ _ _ us hl => match us, hl with | [_, _], _ => rfl) M_Flow_begin (J_Flow_begin D h_Flow_land h_Flow_let_go) V_Flow_begin
theorem K_pass_ticks {P : Program} {w : World} {K : Frag} {mg : Str → Option Value} {h base : Heap} (D : Wd w K mg h base) (h_Flow_leave : Keeps P w K mg base 4 (He.fAd K ("Flow", some "leave")) 1 G_Flow_leave) (h_Flow_next_tick : Keeps P w K mg base 2 (He.fAd K ("Flow", some "next_tick")) 1 G_Flow_next_tick) (h_Flow_begin : Keeps P w K mg base 5 (He.fAd K ("Flow", some "begin")) 2 G_Flow_begin) : Keeps P w K mg base 6 (He.fAd K ("pass_ticks", none)) 2 G_pass_ticks := by
  obtain ⟨fd, F⟩ := D.fd_pass_ticks
  exact keeps_of F S_pass_ticks rfl (FunD.bindsN F fun _ _ _ _ _ _ us hl => match us, hl with | [_, _], _ => rfl) M_pass_ticks (J_pass_ticks D h_Flow_leave h_Flow_next_tick h_Flow_begin) V_pass_ticks
theorem K_flow_behind {P : Program} {w : World} {K : Frag} {mg : Str → Option Value} {h base : Heap} (D : Wd w K mg h base) (h_Flow_copied : Keeps P w K mg base 4 (He.fAd K ("Flow", some "copied")) 1 G_Flow_copied) (h_Flow_put : Keeps P w K mg base 5 (He.fAd K ("Flow", some "put")) 3 G_Flow_put) (h_pass_ticks : Keeps P w K mg base 6 (He.fAd K ("pass_ticks", none)) 2 G_pass_ticks) : Keeps P w K mg base 7 (He.fAd K ("flow_behind", none)) 2 G_flow_behind := by
  obtain ⟨fd, F⟩ := D.fd_flow_behind
  exact keeps_frz0 F S_flow_behind rfl (FunD.bindsN F fun _ _ _ _ _ _ us hl => match us, hl with | [_, _], _ => rfl) M_flow_behind (J_flow_behind D h_Flow_copied h_Flow_put h_pass_ticks) V_flow_behind
theorem K_Session_do_deed {P : Program} {w : World} {K : Frag} {mg : Str → Option Value} {h base : Heap} (D : Wd w K mg h base) (h_check_deed : Keeps P w K mg base 5 (He.fAd K ("check_deed", none)) 2 G_check_deed) (h_TooMany_init : OexAK P w K mg base (He.fAd K ("TooMany", some "__init__")) "limit") (h_Session_show : Keeps P w K mg base 3 (He.fAd K ("Session", some "show")) 3 G_Session_show) (h_flow_behind : Keeps P w K mg base 7 (He.fAd K ("flow_behind", none)) 2 G_flow_behind) : Keeps P w K mg base 8 (He.fAd K ("Session", some "do_deed")) 2 G_Session_do_deed := by
  obtain ⟨fd, F⟩ := D.fd_Session_do_deed
  exact keeps_of F S_Session_do_deed rfl (FunD.bindsN F fun _ _ _ _ _ _ us hl => match us, hl with | [_, _], _ => rfl) M_Session_do_deed (J_Session_do_deed D h_check_deed h_TooMany_init h_Session_show h_flow_behind) V_Session_do_deed
theorem K_Session_wait {P : Program} {w : World} {K : Frag} {mg : Str → Option Value} {h base : Heap} (D : Wd w K mg h base) (h_Session_check_free : Keeps P w K mg base 2 (He.fAd K ("Session", some "check_free")) 1 G_Session_check_free) (h_Session_do_deed : Keeps P w K mg base 8 (He.fAd K ("Session", some "do_deed")) 2 G_Session_do_deed) : Keeps P w K mg base 9 (He.fAd K ("Session", some "wait")) 2 G_Session_wait := by
  obtain ⟨fd, F⟩ := D.fd_Session_wait
  exact keeps_of F S_Session_wait rfl (FunD.bindsN F fun _ _ _ _ _ _ us hl => match us, hl with | [_, _], _ => rfl) M_Session_wait (J_Session_wait D h_Session_check_free h_Session_do_deed) V_Session_wait
theorem K_Session_write {P : Program} {w : World} {K : Frag} {mg : Str → Option Value} {h base : Heap} (D : Wd w K mg h base) (h_Session_check_free : Keeps P w K mg base 2 (He.fAd K ("Session", some "check_free")) 1 G_Session_check_free) (h_Session_do_deed : Keeps P w K mg base 8 (He.fAd K ("Session", some "do_deed")) 2 G_Session_do_deed) : Keeps P w K mg base 9 (He.fAd K ("Session", some "write")) 3 G_Session_write := by
  obtain ⟨fd, F⟩ := D.fd_Session_write
  exact keeps_of F S_Session_write rfl (FunD.bindsN F fun _ _ _ _ _ _ us hl => match us, hl with | [_, _, _], _ => rfl) M_Session_write (J_Session_write D h_Session_check_free h_Session_do_deed) V_Session_write
theorem K_Session_read {P : Program} {w : World} {K : Frag} {mg : Str → Option Value} {h base : Heap} (D : Wd w K mg h base) (h_Session_check_free : Keeps P w K mg base 2 (He.fAd K ("Session", some "check_free")) 1 G_Session_check_free) (h_Session_do_deed : Keeps P w K mg base 8 (He.fAd K ("Session", some "do_deed")) 2 G_Session_do_deed) : Keeps P w K mg base 9 (He.fAd K ("Session", some "read")) 3 G_Session_read := by
  obtain ⟨fd, F⟩ := D.fd_Session_read
  exact keeps_of F S_Session_read rfl (FunD.bindsN F fun _ _ _ _ _ _ us hl => match us, hl with | [_, _, _], _ => rfl) M_Session_read (J_Session_read D h_Session_check_free h_Session_do_deed) V_Session_read
theorem K_law_call {P : Program} {w : World} {K : Frag} {mg : Str → Option Value} {h base : Heap} (D : Wd w K mg h base) (h_Session_wait : Keeps P w K mg base 9 (He.fAd K ("Session", some "wait")) 2 G_Session_wait) (h_Session_write : Keeps P w K mg base 9 (He.fAd K ("Session", some "write")) 3 G_Session_write) (h_Session_read : Keeps P w K mg base 9 (He.fAd K ("Session", some "read")) 3 G_Session_read) : Keeps P w K mg base 10 (He.fAd K ("_law_call", none)) 2 G_law_call := by
  obtain ⟨fd, F⟩ := D.fd_law_call
  exact keeps_of F S_law_call rfl (FunD.bindsN F fun _ _ _ _ _ _ us hl => match us, hl with | [_, _], _ => rfl) M_law_call (J_law_call D h_Session_wait h_Session_write h_Session_read) V_law_call
theorem K_law_send {P : Program} {w : World} {K : Frag} {mg : Str → Option Value} {h base : Heap} (D : Wd w K mg h base) : Keeps P w K mg base 2 (He.fAd K ("_law_send", none)) 3 G_law_send := by
  obtain ⟨fd, F⟩ := D.fd_law_send
  exact keeps_of F S_law_send rfl (FunD.bindsN F fun _ _ _ _ _ _ us hl => match us, hl with | [_, _, _], _ => rfl) M_law_send (J_law_send D ) V_law_send
theorem K_law_leave {P : Program} {w : World} {K : Frag} {mg : Str → Option Value} {h base : Heap} (D : Wd w K mg h base) (h_law_send : Keeps P w K mg base 2 (He.fAd K ("_law_send", none)) 3 G_law_send) : Keeps P w K mg base 3 (He.fAd K ("_law_leave", none)) 1 G_law_leave := by
  obtain ⟨fd, F⟩ := D.fd_law_leave
  exact keeps_of F S_law_leave rfl (FunD.bindsN F fun _ _ _ _ _ _ us hl => match us, hl with | [_], _ => rfl) M_law_leave (J_law_leave D h_law_send) V_law_leave
theorem K_law_land {P : Program} {w : World} {K : Frag} {mg : Str → Option Value} {h base : Heap} (D : Wd w K mg h base) : Keeps P w K mg base 2 (He.fAd K ("_law_land", none)) 1 G_law_land := by
  obtain ⟨fd, F⟩ := D.fd_law_land
  exact keeps_of F S_law_land rfl (FunD.bindsN F fun _ _ _ _ _ _ us hl => match us, hl with | [_], _ => rfl) M_law_land (J_law_land D ) V_law_land
theorem K_law_free {P : Program} {w : World} {K : Frag} {mg : Str → Option Value} {h base : Heap} (D : Wd w K mg h base) (h_law_send : Keeps P w K mg base 2 (He.fAd K ("_law_send", none)) 3 G_law_send) : Keeps P w K mg base 3 (He.fAd K ("_law_free", none)) 2 G_law_free := by
  obtain ⟨fd, F⟩ := D.fd_law_free
  exact keeps_of F S_law_free rfl (FunD.bindsN F fun _ _ _ _ _ _ us hl => match us, hl with | [_, _], _ => rfl) M_law_free (J_law_free D h_law_send) V_law_free
theorem K_law_waited {P : Program} {w : World} {K : Frag} {mg : Str → Option Value} {h base : Heap} (D : Wd w K mg h base) (h_law_leave : Keeps P w K mg base 3 (He.fAd K ("_law_leave", none)) 1 G_law_leave) (h_law_land : Keeps P w K mg base 2 (He.fAd K ("_law_land", none)) 1 G_law_land) (h_law_free : Keeps P w K mg base 3 (He.fAd K ("_law_free", none)) 2 G_law_free) : Keeps P w K mg base 4 (He.fAd K ("_law_waited", none)) 2 G_law_waited := by
  obtain ⟨fd, F⟩ := D.fd_law_waited
  exact keeps_of F S_law_waited rfl (FunD.bindsN F fun _ _ _ _ _ _ us hl => match us, hl with | [_, _], _ => rfl) M_law_waited (J_law_waited D h_law_leave h_law_land h_law_free) V_law_waited
theorem K_law_done {P : Program} {w : World} {K : Frag} {mg : Str → Option Value} {h base : Heap} (D : Wd w K mg h base) (h_law_waited : Keeps P w K mg base 4 (He.fAd K ("_law_waited", none)) 2 G_law_waited) (h_law_free : Keeps P w K mg base 3 (He.fAd K ("_law_free", none)) 2 G_law_free) : Keeps P w K mg base 5 (He.fAd K ("_law_done", none)) 2 G_law_done := by
  obtain ⟨fd, F⟩ := D.fd_law_done
  exact keeps_of F S_law_done rfl (FunD.bindsN F fun _ _ _ _ _ _ us hl => match us, hl with | [_, _], _ => rfl) M_law_done (J_law_done D h_law_waited h_law_free) V_law_done
theorem K_Session_len {P : Program} {w : World} {K : Frag} {mg : Str → Option Value} {h base : Heap} (D : Wd w K mg h base) : Keeps P w K mg base 2 (He.fAd K ("Session", some "__len__")) 1 G_Session_len := by
  obtain ⟨fd, F⟩ := D.fd_Session_len
  exact keeps_of F S_Session_len rfl (FunD.bindsN F fun _ _ _ _ _ _ us hl => match us, hl with | [_], _ => rfl) M_Session_len (J_Session_len D ) V_Session_len
theorem K_Session_repr {P : Program} {w : World} {K : Frag} {mg : Str → Option Value} {h base : Heap} (D : Wd w K mg h base) : Keeps P w K mg base 2 (He.fAd K ("Session", some "__repr__")) 1 G_Session_repr := by
  obtain ⟨fd, F⟩ := D.fd_Session_repr
  exact keeps_of F S_Session_repr rfl (FunD.bindsN F fun _ _ _ _ _ _ us hl => match us, hl with | [_], _ => rfl) M_Session_repr (J_Session_repr D ) V_Session_repr
theorem K_law_shown {P : Program} {w : World} {K : Frag} {mg : Str → Option Value} {h base : Heap} (D : Wd w K mg h base) (h_Session_len : Keeps P w K mg base 2 (He.fAd K ("Session", some "__len__")) 1 G_Session_len) (h_Session_repr : Keeps P w K mg base 2 (He.fAd K ("Session", some "__repr__")) 1 G_Session_repr) : Keeps P w K mg base 6 (He.fAd K ("_law_shown", none)) 1 G_law_shown := by
  obtain ⟨fd, F⟩ := D.fd_law_shown
  exact keeps_of F S_law_shown rfl (FunD.bindsN F fun _ _ _ _ _ _ us hl => match us, hl with | [_], _ => rfl) M_law_shown (J_law_shown D h_Session_len h_Session_repr) V_law_shown
theorem K_law_listed {P : Program} {w : World} {K : Frag} {mg : Str → Option Value} {h base : Heap} (D : Wd w K mg h base) : Keeps P w K mg base 2 (He.fAd K ("_law_listed", none)) 1 G_law_listed := by
  obtain ⟨fd, F⟩ := D.fd_law_listed
  exact keeps_of F S_law_listed rfl (FunD.bindsN F fun _ _ _ _ _ _ us hl => match us, hl with | [_], _ => rfl) M_law_listed (J_law_listed D ) V_law_listed
theorem K_law_view {P : Program} {w : World} {K : Frag} {mg : Str → Option Value} {h base : Heap} (D : Wd w K mg h base) (h_law_listed : Keeps P w K mg base 2 (He.fAd K ("_law_listed", none)) 1 G_law_listed) : Keeps P w K mg base 3 (He.fAd K ("_law_view", none)) 1 G_law_view := by
  obtain ⟨fd, F⟩ := D.fd_law_view
  exact keeps_of F S_law_view rfl (FunD.bindsN F fun _ _ _ _ _ _ us hl => match us, hl with | [_], _ => rfl) M_law_view (J_law_view D h_law_listed) V_law_view
theorem K_law_walked {P : Program} {w : World} {K : Frag} {mg : Str → Option Value} {h base : Heap} (D : Wd w K mg h base) (h_law_copied : Keeps P w K mg base 2 (He.fAd K ("_law_copied", none)) 1 G_law_copied) (h_law_job : Keeps P w K mg base 4 (He.fAd K ("_law_job", none)) 2 G_law_job) (h_law_call : Keeps P w K mg base 10 (He.fAd K ("_law_call", none)) 2 G_law_call) (h_law_done : Keeps P w K mg base 5 (He.fAd K ("_law_done", none)) 2 G_law_done) (h_law_shown : Keeps P w K mg base 6 (He.fAd K ("_law_shown", none)) 1 G_law_shown) (h_law_view : Keeps P w K mg base 3 (He.fAd K ("_law_view", none)) 1 G_law_view) : Keeps P w K mg base 11 (He.fAd K ("_law_walked", none)) 4 G_law_walked := by
  obtain ⟨fd, F⟩ := D.fd_law_walked
  exact keeps_of F S_law_walked rfl (FunD.bindsN F fun _ _ _ _ _ _ us hl => match us, hl with | [_, _, _, _], _ => rfl) M_law_walked (J_law_walked D h_law_copied h_law_job h_law_call h_law_done h_law_shown h_law_view) V_law_walked
theorem K_law_right {P : Program} {w : World} {K : Frag} {mg : Str → Option Value} {h base : Heap} (D : Wd w K mg h base) (h_law_told : Keeps P w K mg base 5 (He.fAd K ("_law_told", none)) 1 G_law_told) (h_law_new : Keeps P w K mg base 2 (He.fAd K ("_law_new", none)) 1 G_law_new) (h_Session_init : Keeps P w K mg base 5 (He.fAd K ("Session", some "__init__")) 2 G_Session_init) (h_law_made : Keeps P w K mg base 7 (He.fAd K ("_law_made", none)) 1 G_law_made) (h_Session_undo : Keeps P w K mg base 4 (He.fAd K ("Session", some "undo")) 1 G_Session_undo) (h_law_walked : Keeps P w K mg base 11 (He.fAd K ("_law_walked", none)) 4 G_law_walked) (h_law_draw : Keeps P w K mg base 2 (He.fAd K ("_law_draw", none)) 2 G_law_draw) (h_law_shown : Keeps P w K mg base 6 (He.fAd K ("_law_shown", none)) 1 G_law_shown) (h_law_view : Keeps P w K mg base 3 (He.fAd K ("_law_view", none)) 1 G_law_view) : Keeps P w K mg base 12 (He.fAd K ("_law_right", none)) 1 G_law_right := by
  obtain ⟨fd, F⟩ := D.fd_law_right
  exact keeps_of F S_law_right rfl (FunD.bindsN F fun _ _ _ _ _ _ us hl => match us, hl with | [_], _ => rfl) M_law_right (J_law_right D h_law_told h_law_new h_Session_init h_law_made h_Session_undo h_law_walked h_law_draw h_law_shown h_law_view) V_law_right
theorem K_law_well {P : Program} {w : World} {K : Frag} {mg : Str → Option Value} {h base : Heap} (D : Wd w K mg h base) : Keeps P w K mg base 2 (He.fAd K ("_law_well", none)) 2 G_law_well := by
  obtain ⟨fd, F⟩ := D.fd_law_well
  exact keeps_of F S_law_well rfl (FunD.bindsN F fun _ _ _ _ _ _ us hl => match us, hl with | [_, _], _ => rfl) M_law_well (J_law_well D ) V_law_well
theorem K_law {P : Program} {w : World} {K : Frag} {mg : Str → Option Value} {h base : Heap} (D : Wd w K mg h base) (h_law_right : Keeps P w K mg base 12 (He.fAd K ("_law_right", none)) 1 G_law_right) (h_law_well : Keeps P w K mg base 2 (He.fAd K ("_law_well", none)) 2 G_law_well) : Keeps P w K mg base 13 (He.fAd K ("law", none)) 1 G_law := by
  obtain ⟨fd, F⟩ := D.fd_law
  exact keeps_of F S_law rfl (FunD.bindsN F fun _ _ _ _ _ _ us hl => match us, hl with | [_], _ => rfl) M_law (J_law D h_law_right h_law_well) V_law
theorem K_all {P : Program} {w : World} {K : Frag} {mg : Str → Option Value} {h base : Heap} (D : Wd w K mg h base) : Keeps P w K mg base 13 (He.fAd K ("law", none)) 1 G_law := by
  have h_law_draw := K_law_draw (P := P) D 
  have h_law_one_of := K_law_one_of (P := P) D h_law_draw
  have h_law_ways := K_law_ways (P := P) D h_law_one_of h_law_draw
  have h_law_told := K_law_told (P := P) D h_law_one_of h_law_draw h_law_ways
  have h_law_new := K_law_new (P := P) D 
  have h_NotALine_init := K_NotALine_init (P := P) (w := w) D 
  have h_check_line := K_check_line (P := P) D h_NotALine_init
  have h_Flow_kept := K_Flow_kept (P := P) D 
  have h_Flow_fresh := K_Flow_fresh (P := P) D 
  have h_Session_show := K_Session_show (P := P) D h_Flow_kept h_Flow_fresh
  have h_Flow_init := K_Flow_init (P := P) D 
  have h_Session_init := K_Session_init (P := P) D h_check_line h_Session_show h_Flow_init
  have h_is_integer := K_is_integer (P := P) D 
  have h_is_between := K_is_between (P := P) D h_is_integer
  have h_InvalidNumber_init := K_InvalidNumber_init (P := P) (w := w) D 
  have h_check_number := K_check_number (P := P) D h_is_between h_InvalidNumber_init
  have h_NotASetting_init := K_NotASetting_init (P := P) (w := w) D 
  have h_check_setting := K_check_setting (P := P) D h_NotASetting_init
  have h_Line_init := K_Line_init (P := P) D h_check_number h_check_setting
  have h_InvalidRule_init := K_InvalidRule_init (P := P) (w := w) D 
  have h_Setting_init := K_Setting_init (P := P) D h_InvalidRule_init h_check_number
  have h_law_made := K_law_made (P := P) D h_Line_init h_Setting_init
  have h_Session_check_free := K_Session_check_free (P := P) D 
  have h_Session_undo := K_Session_undo (P := P) D h_Session_check_free h_Session_show
  have h_law_copied := K_law_copied (P := P) D 
  have h_law_job := K_law_job (P := P) D h_law_draw h_law_one_of
  have h_InvalidSide_init := K_InvalidSide_init (P := P) (w := w) D 
  have h_check_side := K_check_side (P := P) D h_is_between h_InvalidSide_init
  have h_check_deed := K_check_deed (P := P) D h_check_side h_check_number h_Flow_fresh
  have h_TooMany_init := K_TooMany_init (P := P) (w := w) D 
  have h_Flow_copied := K_Flow_copied (P := P) D h_Flow_init
  have h_Flow_take_out := K_Flow_take_out (P := P) D 
  have h_Flow_send := K_Flow_send (P := P) D h_Flow_take_out
  have h_Flow_lets := K_Flow_lets (P := P) D 
  have h_Flow_let_go := K_Flow_let_go (P := P) D h_Flow_kept h_Flow_send h_Flow_lets
  have h_Flow_put := K_Flow_put (P := P) D h_Flow_let_go
  have h_Flow_is_due := K_Flow_is_due (P := P) D 
  have h_Flow_leave := K_Flow_leave (P := P) D h_Flow_is_due h_Flow_send
  have h_Flow_next_tick := K_Flow_next_tick (P := P) D 
  have h_Flow_land := K_Flow_land (P := P) D 
  have h_Flow_begin := K_Flow_begin (P := P) D h_Flow_land h_Flow_let_go
  have h_pass_ticks := K_pass_ticks (P := P) D h_Flow_leave h_Flow_next_tick h_Flow_begin
  have h_flow_behind := K_flow_behind (P := P) D h_Flow_copied h_Flow_put h_pass_ticks
  have h_Session_do_deed := K_Session_do_deed (P := P) D h_check_deed h_TooMany_init h_Session_show h_flow_behind
  have h_Session_wait := K_Session_wait (P := P) D h_Session_check_free h_Session_do_deed
  have h_Session_write := K_Session_write (P := P) D h_Session_check_free h_Session_do_deed
  have h_Session_read := K_Session_read (P := P) D h_Session_check_free h_Session_do_deed
  have h_law_call := K_law_call (P := P) D h_Session_wait h_Session_write h_Session_read
  have h_law_send := K_law_send (P := P) D 
  have h_law_leave := K_law_leave (P := P) D h_law_send
  have h_law_land := K_law_land (P := P) D 
  have h_law_free := K_law_free (P := P) D h_law_send
  have h_law_waited := K_law_waited (P := P) D h_law_leave h_law_land h_law_free
  have h_law_done := K_law_done (P := P) D h_law_waited h_law_free
  have h_Session_len := K_Session_len (P := P) D 
  have h_Session_repr := K_Session_repr (P := P) D 
  have h_law_shown := K_law_shown (P := P) D h_Session_len h_Session_repr
  have h_law_listed := K_law_listed (P := P) D 
  have h_law_view := K_law_view (P := P) D h_law_listed
  have h_law_walked := K_law_walked (P := P) D h_law_copied h_law_job h_law_call h_law_done h_law_shown h_law_view
  have h_law_right := K_law_right (P := P) D h_law_told h_law_new h_Session_init h_law_made h_Session_undo h_law_walked h_law_draw h_law_shown h_law_view
  have h_law_well := K_law_well (P := P) D 
  have h_law := K_law (P := P) D h_law_right h_law_well
  exact h_law
end LL.K67
end

section
set_option Elab.async false
set_option linter.all false
set_option maxRecDepth 100000
set_option maxHeartbeats 0
namespace LL.K67
open PySem PySem.Spec PyProof.Rows L2 LL
theorem run0 (w : World) : HandSHeadRun.RunEq R (PySem.W.view R.prog [66]) hk ob 10000 loose (w.withFollow "special-get-raises" false) := by
  intro os
  kernel_rfl
theorem run1 (w : World) : HandSHeadRun.RunEq R (PySem.W.view R.prog [66]) hk ob 10000 loose (w.withFollow "special-get-raises" true) := by
  intro os
  kernel_rfl
theorem run (w : World) : HandSHeadRun.RunEq R (PySem.W.view R.prog [66]) hk ob 10000 loose w :=
  PySem.W.byRow2 "special-get-raises" (P := fun w => HandSHeadRun.RunEq R (PySem.W.view R.prog [66]) hk ob 10000 loose w) run0 run1 w
end LL.K67
end

section
set_option Elab.async false
set_option linter.all false
set_option maxRecDepth 100000
set_option maxHeartbeats 0
namespace LL.K67
open PySem PySem.Spec PyProof.Rows L2 LL
theorem keeps_end (w : World) (K : Frag) (mg : Str → Option Value) (h base : Heap) (kin : K.In h) (ns : h.Ns mainGlobals mg) (c : He.SaysX fa fn [] tf ex w h K) (tb : ∀ p ∈ tf, LamX.TabB base mg (He.cT K p).1 (He.cT K p).2) :
    Keeps (PySem.Challenge.rw_smallheld_k67_deeds_taken_back).prog w K mg base 13 (He.ga K "law") 1 (spLaw 63) := K_all ⟨kin, ns, c, tb⟩
end LL.K67
open PySem PySem.W PySem.Calls PyProof.Rows
theorem PySem.Challenge.cw_smallheld_k67_deeds_taken_back_holds : PySem.Challenge.rw_smallheld_k67_deeds_taken_back.Holds := by
  w_on; o_law
  refine HandSHeadRun.head_any (r := OpenLaw.row PySem.Challenge.rw_smallheld_k67_deeds_taken_back) (q := view (OpenLaw.row PySem.Challenge.rw_smallheld_k67_deeds_taken_back).prog [66]) (H := LL.K67.hk) (ob := LL.K67.ob) (M := 10000) (loose := LL.K67.loose) (d := HandSHeadRun.topDef (OpenLaw.row PySem.Challenge.rw_smallheld_k67_deeds_taken_back).prog 66) (kwd := []) LL.K67.ob_eq
    (by kernel_rfl) (fun s => by kernel_rfl) LL.K67.run (by kernel_rfl) (by kernel_rfl) (by kernel_rfl) (by rfl) (by first | assumption | decide +kernel) (by decide +kernel) ⟨rfl, rfl, rfl, rfl, rfl, by decide +kernel⟩ ?hw ?hc
  case hw => w_witness2
  case hc =>
    exact LL.walk_L (l := PySem.Challenge.rw_smallheld_k67_deeds_taken_back) (n := 63) (k := 13) rfl (by decide) (by kernel_rfl) ⟨rfl, by decide, by decide⟩ (by kernel_rfl) (List.mem_of_getElem? (i := 45) rfl) (by decide +kernel) LL.K67.keeps_end
end
