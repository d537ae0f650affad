import PyProof.Rows.All
import Wide.All
import OpenK.AllK
import Wide.FinOn
import HandS.HeadHook4
import HandS.ForMost
import HandS.Exc
import HandS.ExcOwn
import HandS.WordsExc
import HandS.TryOnly
import HandS.Defaults
import HandS.HeadHook1
import HandS.HeadHook2
import HandS.Lambda
import KE.KAssignIn
import HandS.Flow
import HandS.IsInst
import HandS.Zip
import HandS.Deep
import HandS.FStr
import OpenK.KOps
import KE.SortKeyHeap
import PyProof.ReprReads
import PyProof.ReprRoads
import KE.KSortKey
import PyProof.Rows.CallKwBuiltin
import PyProof.Rows.FactsT3
import HandS.Head0
import HandS.Head1
import HandS.Head2
import HandS.EndBits
import HandS.EndTab
import HandS.Style
import KE.DataEq
import PySem.Challenge.RW_smallheld_k80_waits_in_parts
section
set_option Elab.async false
set_option linter.all false
/-! LLPar: what hangs on the law: the defs that make lambdas. -/
namespace LL
open PySem
/-- the defs that make lambdas: where they stand, the lambdas' name -/
def lamNames : List (He.Defn × Str) := [(("Session", some "show"), "Session.show.<locals>.<lambda>")]
end LL
end

section
set_option Elab.async false
set_option linter.all false
set_option maxRecDepth 100000
set_option maxHeartbeats 1000000
/-! LLCore: a logical layer over the hand layer: immutable data inline (D), a small logical heap (LH) of what is changed, and how they lie in the abstract heap. -/
namespace LL
open PySem PySem.Spec PyProof.Rows L2

/-- logical values: what never changes stands inline, what is changed is an index into the logical heap -/
inductive D where
  | non | bl (b : Bool) | int (i : Int) | str (x : Str)
  | tup (ds : List D) | lst (ds : List D) | ob (C : Str) (ns : List Str) (ds : List D)
  | ref (n : Nat)
/-- logical objects -/
inductive O where
  | lst (ds : List D) | ins (C : Str) (fs : List (Str × D)) | gone
abbrev LH := List O
/-- where the logical objects lie, and what is set aside (a list that is being built) -/
structure Ad where
  ix : List (Option Addr)
  res : List Addr
  /-- the tables of code objects (those of lambdas made here) -/
  tab : List (Addr × Str)
def Ad.no (ι : Ad) (a : Addr) : Prop := some a ∉ ι.ix ∧ a ∉ ι.res
abbrev Ad.push (ι : Ad) (p : Addr) : Ad := ⟨ι.ix ++ [some p], ι.res, ι.tab⟩
abbrev Frag := PySem.W.Frag

/-- a list that nobody changes any more -/
def KL (K : Frag) (a : Addr) (vs : List V) : Prop :=
  ∃ (its : List Value) (n : Nat), K.lookup a = some { cls := .type "list", dict := none, data := .seq its.toArray n, slots := #[] } ∧ vs.length ≤ sizeLine ∧ Vals vs its
def FzL (K : Frag) (ι : Ad) (H : Hp) (a : Addr) (vs : List V) : Prop :=
  (H a = some (.lst vs) ∧ ι.no a) ∨ (∃ o, H a = some (.frz o (.lst vs))) ∨ KL K a vs
theorem FzL.sq {K : Frag} {ι : Ad} {H : Hp} {a : Addr} {vs : List V} (h : FzL K ι H a vs) : SqL K H a vs := by
  rcases h with ⟨h, _⟩ | ⟨o, h⟩ | h
  · exact .inl (.inl h)
  · exact .inl (.inr ⟨o, h⟩)
  · obtain ⟨its, n, h1, h2, h3⟩ := h
    exact .inr ⟨_, its.toArray, n, h1, rfl, rfl, rfl, by rw [List.size_toArray, ← h3.length]; exact h2, by simpa using h3⟩

mutual
def RelD (K : Frag) (ι : Ad) (H : Hp) : D → V → Prop
  | .non, v => v = .non
  | .bl b, v => v = .bl b
  | .int i, v => v = .int i
  | .str x, v => v = .str x
  | .tup ds, v => ∃ a vs, v = .ref a ∧ SqT K H a vs ∧ RelDs K ι H ds vs
  | .lst ds, v => ∃ a vs, v = .ref a ∧ FzL K ι H a vs ∧ RelDs K ι H ds vs
  | .ob C ns ds, v => ∃ a dx vs, v = .ref a ∧ ι.no a ∧ H a = some (.ins (He.ga K C) dx (ns.zip vs)) ∧ ns.length = ds.length ∧ RelDs K ι H ds vs
  | .ref n, v => ∃ a, ι.ix[n]? = some (some a) ∧ v = .ref a
def RelDs (K : Frag) (ι : Ad) (H : Hp) : List D → List V → Prop
  | [], vs => vs = []
  | d :: ds, vs => ∃ v r, vs = v :: r ∧ RelD K ι H d v ∧ RelDs K ι H ds r
end
def RelFs (K : Frag) (ι : Ad) (H : Hp) : List (Str × D) → List (Str × V) → Prop
  | [], vs => vs = []
  | d :: ds, vs => ∃ v r, vs = (d.1, v) :: r ∧ RelD K ι H d.2 v ∧ RelFs K ι H ds r
/-- what may be written: a list, an instance -/
def MutO (o : Option HO) : Prop := match o with
  | some (.lst _) => True
  | some (.ins _ _ _) => True
  | _ => False
theorem MutO.tup {o : Option HO} (m : MutO o) : ∀ xs, o ≠ some (.tup xs) := by rintro xs rfl; exact m
theorem MutO.frz {o : Option HO} (m : MutO o) : ∀ b u, o ≠ some (.frz b u) := by rintro b u rfl; exact m
theorem MutO.tbl {o : Option HO} (m : MutO o) : ∀ ps, o ≠ some (.tbl ps) := by rintro ps rfl; exact m
theorem MutO.code {o : Option HO} (m : MutO o) : ∀ c q, o ≠ some (LamX.CodeO c q) := by rintro c q rfl; exact m
theorem tabs_upd {T : List (Addr × Str)} {H : Hp} {a : Addr} {u : HO} (t : LamX.Tabs T H) (h : H a = none ∨ MutO (H a)) : LamX.Tabs T (upd H a u) := by
  intro p hp
  obtain ⟨ps, h1, h2, h3⟩ := t p hp
  refine ⟨ps, ?_, h2, fun pos cv hc => ?_⟩
  · rw [upd_ne]
    · exact h1
    · rintro z
      rw [← z] at h
      rcases h with h | h
      · rw [h1] at h; cases h
      · exact h.tbl _ h1
  · obtain ⟨c, e1, e2⟩ := h3 pos cv hc
    refine ⟨c, e1, ?_⟩
    rw [upd_ne]
    · exact e2
    · rintro z
      rw [← z] at h
      rcases h with h | h
      · rw [e2] at h; cases h
      · exact h.code _ _ e2
/-- the tables of code objects that are known: those of the defs that make lambdas -/
def tabsK (K : Frag) : List (Addr × Str) := (lamNames.filter fun p => PySem.W.codeHdIn K (He.cT K p.1).1 (He.cT K p.1).2).map fun p => ((He.cT K p.1).2, p.2)
def RelO (K : Frag) (ι : Ad) (H : Hp) (a : Addr) : O → Prop
  | .lst ds => ∃ vs, H a = some (.lst vs) ∧ RelDs K ι H ds vs
  | .ins C fs => ∃ dx vs, H a = some (.ins (He.ga K C) dx vs) ∧ RelFs K ι H fs vs
  | .gone => True
/-- something stands there, no table -/
def Lv (H : Hp) (a : Addr) : Prop := ∃ o, H a = some o ∧ ∀ ps, o ≠ .tbl ps
theorem Lv.no {H : Hp} {a : Addr} (h : Lv H a) (n : H a = none) : False := by
  obtain ⟨o, e, _⟩ := h
  rw [n] at e; cases e
theorem Lv.ne {H : Hp} {a b : Addr} (h : Lv H a) (n : H b = none) : a ≠ b := by rintro rfl; exact h.no n
theorem Lv.upd {H : Hp} {a b : Addr} {u : HO} (h : Lv H a) (n : a ≠ b) : Lv (upd H b u) a := by
  obtain ⟨o, e, t⟩ := h
  exact ⟨o, by rw [upd_ne n]; exact e, t⟩
theorem Lv.mu {H : Hp} {a b : Addr} {u : HO} (h : Lv H a) (m : MutO (some u)) : Lv (L2.upd H b u) a := by
  by_cases z : a = b
  · subst z
    exact ⟨u, upd_same, fun ps e => by rw [e] at m; exact m⟩
  · exact h.upd z
structure RelH (K : Frag) (ι : Ad) (H : Hp) (h : LH) : Prop where
  len : ι.ix.length = h.length
  inj : ∀ (n m : Nat) (a : Addr), ι.ix[n]? = some (some a) → ι.ix[m]? = some (some a) → n = m
  live : ∀ a, some a ∈ ι.ix → Lv H a
  liveR : ∀ a, a ∈ ι.res → Lv H a
  disj : ∀ a, some a ∈ ι.ix → a ∉ ι.res
  tabs : LamX.Tabs (tabsK K) H
  obj : ∀ (n : Nat) (o : O), h[n]? = some o → o ≠ .gone → ∃ a, ι.ix[n]? = some (some a) ∧ RelO K ι H a o
def RelS (K : Frag) (ι : Ad) (H : Hp) (σ : List (Option D)) (σV : L2.St) : Prop :=
  σ.length = σV.length ∧ ∀ (i : Nat) (d : D), σ[i]? = some (some d) → ∃ v, σV[i]? = some (some v) ∧ RelD K ι H d v

/-- a later moment -/
structure Ext (ι : Ad) (H : Hp) (ι' : Ad) (H' : Hp) : Prop where
  pre : ∃ l, ι'.ix = ι.ix ++ l ∧ ∀ a, some a ∈ l → ¬ Lv H a
  res1 : ∀ a, a ∈ ι.res → a ∈ ι'.res
  res2 : ∀ a, a ∈ ι'.res → a ∈ ι.res ∨ ¬ Lv H a
  tab : ι'.tab = ι.tab
  keep : ∀ a o, H a = some o → some a ∉ ι.ix → (∀ ps, o ≠ .tbl ps) → H' a = some o
  tups : ∀ a xs, H a = some (.tup xs) → H' a = some (.tup xs)
  frzs : ∀ a o u, H a = some (.frz o u) → H' a = some (.frz o u)
  there : ∀ a, Lv H a → Lv H' a

theorem Ext.refl (ι : Ad) (H : Hp) : Ext ι H ι H := ⟨⟨[], by simp, fun _ h => by cases h⟩, fun _ h => h, fun _ h => .inl h, rfl, fun _ _ h _ _ => h, fun _ _ h => h, fun _ _ _ h => h, fun _ h => h⟩
theorem Ext.nx {ι ι' : Ad} {H H' : Hp} (e : Ext ι H ι' H') {a : Addr} (h : Lv H a) (n : some a ∉ ι.ix) : some a ∉ ι'.ix := by
  obtain ⟨l, q, f⟩ := e.pre
  intro hm
  rw [q] at hm
  rcases List.mem_append.mp hm with hm | hm
  · exact n hm
  · exact f a hm h
theorem Ext.ne {ι ι' : Ad} {H H' : Hp} (e : Ext ι H ι' H') {a : Addr} (h : Lv H a) (n : ι.no a) : ι'.no a := by
  refine ⟨e.nx h n.1, fun z => ?_⟩
  rcases e.res2 a z with z | z
  · exact n.2 z
  · exact z h
theorem Ext.trans {ι ι1 ι2 : Ad} {H H1 H2 : Hp} (a : Ext ι H ι1 H1) (b : Ext ι1 H1 ι2 H2) : Ext ι H ι2 H2 := by
  have back : ∀ c, ¬ Lv H1 c → ¬ Lv H c := fun c n h => n (a.there c h)
  refine ⟨?_, fun c h => b.res1 c (a.res1 c h), fun c h => ?_, b.tab.trans a.tab, fun c o h n t => b.keep c o (a.keep c o h n t) (a.nx ⟨o, h, t⟩ n) t, fun c xs h => b.tups c xs (a.tups c xs h), fun c o u h => b.frzs c o u (a.frzs c o u h), fun c h => b.there c (a.there c h)⟩
  · obtain ⟨l, ql, f⟩ := a.pre
    obtain ⟨m, qm, g⟩ := b.pre
    refine ⟨l ++ m, by rw [qm, ql, List.append_assoc], fun c hc => ?_⟩
    rcases List.mem_append.mp hc with hc | hc
    · exact f c hc
    · exact back c (g c hc)
  · rcases b.res2 c h with h | h
    · exact a.res2 c h
    · exact .inr (back c h)
theorem Ext.at_ {ι ι' : Ad} {H H' : Hp} (e : Ext ι H ι' H') {n : Nat} {a : Addr} (h : ι.ix[n]? = some (some a)) : ι'.ix[n]? = some (some a) := by
  obtain ⟨l, q, _⟩ := e.pre
  rw [q, List.getElem?_append_left ((List.getElem?_eq_some_iff.mp h).1)]
  exact h
theorem Ext.sqT {K : Frag} {ι ι' : Ad} {H H' : Hp} (e : Ext ι H ι' H') {a : Addr} {vs : List V} (h : SqT K H a vs) : SqT K H' a vs := by
  rcases h with (h | ⟨o, h⟩) | h
  · exact .inl (.inl (e.tups a vs h))
  · exact .inl (.inr ⟨o, e.frzs a o _ h⟩)
  · exact .inr h
theorem Ext.fzL {K : Frag} {ι ι' : Ad} {H H' : Hp} (e : Ext ι H ι' H') {a : Addr} {vs : List V} (h : FzL K ι H a vs) : FzL K ι' H' a vs := by
  rcases h with ⟨h, n⟩ | ⟨o, h⟩ | h
  · exact .inl ⟨e.keep a _ h n.1 (fun _ z => by cases z), e.ne ⟨_, h, fun _ z => by cases z⟩ n⟩
  · exact .inr (.inl ⟨o, e.frzs a o _ h⟩)
  · exact .inr (.inr h)
mutual
theorem RelD.ext {K : Frag} {ι ι' : Ad} {H H' : Hp} (e : Ext ι H ι' H') : ∀ {d : D} {v : V}, RelD K ι H d v → RelD K ι' H' d v
  | .non, _, h => h
  | .bl _, _, h => h
  | .int _, _, h => h
  | .str _, _, h => h
  | .tup _, _, ⟨a, vs, h1, h2, h3⟩ => ⟨a, vs, h1, e.sqT h2, RelDs.ext e h3⟩
  | .lst _, _, ⟨a, vs, h1, h2, h3⟩ => ⟨a, vs, h1, e.fzL h2, RelDs.ext e h3⟩
  | .ob _ _ _, _, ⟨a, dx, vs, h1, h2, h3, h4, h5⟩ => ⟨a, dx, vs, h1, e.ne ⟨_, h3, fun _ z => by cases z⟩ h2, e.keep a _ h3 h2.1 (fun _ z => by cases z), h4, RelDs.ext e h5⟩
  | .ref _, _, ⟨a, h1, h2⟩ => ⟨a, e.at_ h1, h2⟩
theorem RelDs.ext {K : Frag} {ι ι' : Ad} {H H' : Hp} (e : Ext ι H ι' H') : ∀ {ds : List D} {vs : List V}, RelDs K ι H ds vs → RelDs K ι' H' ds vs
  | [], _, h => h
  | _ :: _, _, ⟨v, r, h1, h2, h3⟩ => ⟨v, r, h1, RelD.ext e h2, RelDs.ext e h3⟩
end
theorem RelFs.ext {K : Frag} {ι ι' : Ad} {H H' : Hp} (e : Ext ι H ι' H') : ∀ {ds : List (Str × D)} {vs : List (Str × V)}, RelFs K ι H ds vs → RelFs K ι' H' ds vs
  | [], _, h => h
  | _ :: _, _, ⟨v, r, h1, h2, h3⟩ => ⟨v, r, h1, h2.ext e, RelFs.ext e h3⟩
theorem RelS.ext {K : Frag} {ι ι' : Ad} {H H' : Hp} (e : Ext ι H ι' H') {σ : List (Option D)} {σV : L2.St} (h : RelS K ι H σ σV) : RelS K ι' H' σ σV :=
  ⟨h.1, fun i d q => let ⟨v, h1, h2⟩ := h.2 i d q; ⟨v, h1, h2.ext e⟩⟩
theorem RelDs.length {K : Frag} {ι : Ad} {H : Hp} : ∀ {ds : List D} {vs : List V}, RelDs K ι H ds vs → ds.length = vs.length
  | [], _, h => by cases h; rfl
  | _ :: _, _, ⟨v, r, h1, _, h3⟩ => by subst h1; simp [RelDs.length h3]
theorem RelDs.get {K : Frag} {ι : Ad} {H : Hp} : ∀ {ds : List D} {vs : List V} {i : Nat} {d : D}, RelDs K ι H ds vs → ds[i]? = some d → ∃ v, vs[i]? = some v ∧ RelD K ι H d v
  | [], _, _, _, _, e => by simp at e
  | _ :: _, _, 0, _, ⟨v, r, h1, h2, _⟩, e => by
    subst h1; simp at e; subst e; exact ⟨v, rfl, h2⟩
  | _ :: _, _, i + 1, _, ⟨v, r, h1, _, h3⟩, e => by
    subst h1
    obtain ⟨u, q1, q2⟩ := RelDs.get (i := i) h3 (by simpa using e)
    exact ⟨u, by simpa using q1, q2⟩
theorem RelDs.append {K : Frag} {ι : Ad} {H : Hp} : ∀ {ds es : List D} {vs us : List V}, RelDs K ι H ds vs → RelDs K ι H es us → RelDs K ι H (ds ++ es) (vs ++ us)
  | [], _, _, _, h, q => by cases h; exact q
  | _ :: _, _, _, _, ⟨v, r, h1, h2, h3⟩, q => by subst h1; exact ⟨v, _, rfl, h2, RelDs.append h3 q⟩
theorem RelDs.set {K : Frag} {ι : Ad} {H : Hp} {d : D} {v : V} (hd : RelD K ι H d v) : ∀ {ds : List D} {vs : List V} (i : Nat), RelDs K ι H ds vs → RelDs K ι H (ds.set i d) (vs.set i v)
  | [], _, _, h => by cases h; exact rfl
  | _ :: _, _, 0, ⟨u, r, h1, h2, h3⟩ => by subst h1; exact ⟨v, r, rfl, hd, h3⟩
  | _ :: _, _, i + 1, ⟨u, r, h1, h2, h3⟩ => by subst h1; exact ⟨u, _, rfl, h2, RelDs.set hd i h3⟩
theorem RelDs.take {K : Frag} {ι : Ad} {H : Hp} : ∀ {ds : List D} {vs : List V} (n : Nat), RelDs K ι H ds vs → RelDs K ι H (ds.take n) (vs.take n)
  | _, _, 0, _ => by simp [RelDs]
  | [], _, _ + 1, h => by cases h; simp [RelDs]
  | _ :: _, _, n + 1, ⟨u, r, h1, h2, h3⟩ => by subst h1; exact ⟨u, _, rfl, h2, RelDs.take n h3⟩
theorem RelDs.drop {K : Frag} {ι : Ad} {H : Hp} : ∀ {ds : List D} {vs : List V} (n : Nat), RelDs K ι H ds vs → RelDs K ι H (ds.drop n) (vs.drop n)
  | _, _, 0, h => by simpa using h
  | [], _, _ + 1, h => by cases h; simp [RelDs]
  | _ :: _, _, n + 1, ⟨u, r, h1, h2, h3⟩ => by subst h1; simpa using RelDs.drop n h3
theorem RelDs.eraseIdx {K : Frag} {ι : Ad} {H : Hp} : ∀ {ds : List D} {vs : List V} (i : Nat), RelDs K ι H ds vs → RelDs K ι H (ds.eraseIdx i) (vs.eraseIdx i)
  | [], _, _, h => by cases h; simp [RelDs]
  | _ :: _, _, 0, ⟨u, r, h1, h2, h3⟩ => by subst h1; simpa using h3
  | _ :: _, _, n + 1, ⟨u, r, h1, h2, h3⟩ => by subst h1; exact ⟨u, _, rfl, h2, RelDs.eraseIdx n h3⟩

/-! ### logical programs -/
abbrev LV := List (Option D)
/-- an exception: its class, its fields -/
abbrev XL := Str → List (Str × D) → LH → Prop
/-- a computation: slots, heap, wanted end, wanted exception -/
abbrev LX (α : Type) := LV → LH → (α → LH → Prop) → XL → Prop
abbrev LE := LX D
def Mono {α : Type} (m : LX α) : Prop := ∀ (σ : LV) (h : LH) (Q Q' : α → LH → Prop) (E E' : XL), (∀ a h, Q a h → Q' a h) → (∀ c fs h, E c fs h → E' c fs h) → m σ h Q E → m σ h Q' E'
/-- an exception's own dict -/
def RelX (K : Frag) (ι : Ad) (H : Hp) (fs : List (Str × D)) : Option Addr → Prop
  | none => fs = []
  | some d => ∃ vs, H d = some (.xd vs) ∧ RelFs K ι H fs vs ∧ ι.no d
structure LK where
  nx : LV → LH → Prop
  rt : D → LH → Prop
  bk : LV → LH → Prop := fun _ _ => False
  ct : LV → LH → Prop := fun _ _ => False
  ex : Str → List (Str × D) → LV → LH → Prop := fun _ _ _ _ => False
abbrev LS := LV → LH → LK → Prop
structure LK.le (A B : LK) : Prop where
  nx : ∀ σ h, A.nx σ h → B.nx σ h
  rt : ∀ d h, A.rt d h → B.rt d h
  bk : ∀ σ h, A.bk σ h → B.bk σ h
  ct : ∀ σ h, A.ct σ h → B.ct σ h
  ex : ∀ c fs σ h, A.ex c fs σ h → B.ex c fs σ h
def MonoS (m : LS) : Prop := ∀ (σ : LV) (h : LH) (A B : LK), A.le B → m σ h A → m σ h B

section
variable (K : Frag) (W : WX)
/-- what a result relates to -/
abbrev RX (α β : Type) := Ad → Hp → α → β → Prop
def tX {α β : Type} (R : RX α β) (m : LX α) : L2.St → Hp → (β → Hp → Prop) → Prop := fun σV H Q => ∃ ι σ h, RelS K ι H σ σV ∧ RelH K ι H h ∧
  m σ h (fun d h' => ∀ ι' v H', Ext ι H ι' H' → RelH K ι' H' h' → R ι' H' d v → Q v H')
    (fun c fs h' => ∀ ι' dx H', Ext ι H ι' H' → RelH K ι' H' h' → RelX K ι' H' fs dx → W (.ref (He.ga K c)) dx σV H')
abbrev tE (m : LE) : TE := tX K W (RelD K) m
abbrev tA (m : LX (List D)) : TA := tX K W (RelDs K) m
abbrev tT (m : LX Bool) : TT := tX K W (fun _ _ a b => a = b) m
def tS (m : LS) : TS := fun Dn σV H => ∃ ι0 H0 ι σ h, Ext ι0 H0 ι H ∧ RelS K ι H σ σV ∧ RelH K ι H h ∧
  m σ h { nx := fun σ' h' => ∀ ι' σV' H', Ext ι0 H0 ι' H' → RelS K ι' H' σ' σV' → RelH K ι' H' h' → Dn.nx σV' H',
          rt := fun d h' => ∀ ι' v H', Ext ι0 H0 ι' H' → RelH K ι' H' h' → RelD K ι' H' d v → Dn.rt v H',
          bk := fun σ' h' => ∀ ι' σV' H', Ext ι0 H0 ι' H' → RelS K ι' H' σ' σV' → RelH K ι' H' h' → Dn.bk σV' H',
          ct := fun σ' h' => ∀ ι' σV' H', Ext ι0 H0 ι' H' → RelS K ι' H' σ' σV' → RelH K ι' H' h' → Dn.ct σV' H',
          ex := fun c fs σ' h' => ∀ ι' dx σV' H', Ext ι0 H0 ι' H' → RelS K ι' H' σ' σV' → RelH K ι' H' h' → RelX K ι' H' fs dx → W (.ref (He.ga K c)) dx σV' H' }
end
structure JE (X : Cx) (W : WX) (e : Expr) (m : LE) : Prop where
  mono : Mono m
  run : PE X e (tE X.K W m)
structure JT (X : Cx) (W : WX) (e : Expr) (m : LX Bool) : Prop where
  mono : Mono m
  run : PT X e (tT X.K W m)
structure JW (X : Cx) (W : WX) (e : Expr) (m : LX Bool) : Prop where
  mono : Mono m
  run : PW X e (tT X.K W m)
structure JA (X : Cx) (W : WX) (es : List Expr) (m : LX (List D)) : Prop where
  mono : Mono m
  run : PA X es (tA X.K W m)
structure JS (X : Cx) (W : WX) (st : Stmt) (m : LS) : Prop where
  mono : MonoS m
  run : PS X st (tS X.K W m)
structure JSs (X : Cx) (W : WX) (st : List Stmt) (m : LS) : Prop where
  mono : MonoS m
  run : PSs X st (tS X.K W m)

theorem PE.weak {X : Cx} {e : Expr} {t t' : TE} (h : PE X e t) (w : ∀ σ H Q, t' σ H Q → t σ H Q) : PE X e t' := ⟨fun pins s σ H Q I q => h.run pins s σ H Q I (w _ _ _ q)⟩
theorem PT.weak {X : Cx} {e : Expr} {t t' : TT} (h : PT X e t) (w : ∀ σ H Q, t' σ H Q → t σ H Q) : PT X e t' := ⟨fun pins s σ H Q I q => h.run pins s σ H Q I (w _ _ _ q)⟩
theorem PW.weak {X : Cx} {e : Expr} {t t' : TT} (h : PW X e t) (w : ∀ σ H Q, t' σ H Q → t σ H Q) : PW X e t' := ⟨fun wh pins s σ H Q I q => h.run wh pins s σ H Q I (w _ _ _ q)⟩
theorem PA.weak {X : Cx} {es : List Expr} {t t' : TA} (h : PA X es t) (w : ∀ σ H Q, t' σ H Q → t σ H Q) : PA X es t' := ⟨fun pos pins s σ H Q I q => h.run pos pins s σ H Q I (w _ _ _ q)⟩
theorem PS.weak {X : Cx} {e : Stmt} {t t' : TS} (h : PS X e t) (w : ∀ D σ H, t' D σ H → t D σ H) : PS X e t' := ⟨fun pins s σ H Dn I q => h.run pins s σ H Dn I (w _ _ _ q)⟩
theorem PSs.weak {X : Cx} {e : List Stmt} {t t' : TS} (h : PSs X e t) (w : ∀ D σ H, t' D σ H → t D σ H) : PSs X e t' := ⟨fun pins s σ H Dn I q => h.run pins s σ H Dn I (w _ _ _ q)⟩

/-- the way in: from a computation with its own ends -/
theorem tX.into {K : Frag} {W : WX} {α β : Type} {R : RX α β} {m : LX α} (hm : Mono m) {ι : Ad} {σ : LV} {h : LH} {σV : L2.St} {H : Hp} {Q : β → Hp → Prop} (hS : RelS K ι H σ σV) (hH : RelH K ι H h)
    {Q0 : α → LH → Prop} {E0 : XL} (q : m σ h Q0 E0)
    (hQ : ∀ d h1 ι1 v H1, Q0 d h1 → Ext ι H ι1 H1 → RelH K ι1 H1 h1 → R ι1 H1 d v → Q v H1)
    (hE : ∀ c fs h1 ι1 dx H1, E0 c fs h1 → Ext ι H ι1 H1 → RelH K ι1 H1 h1 → RelX K ι1 H1 fs dx → W (.ref (He.ga K c)) dx σV H1) : tX K W R m σV H Q :=
  ⟨ι, σ, h, hS, hH, hm σ h _ _ _ _ (fun d h1 q ι1 v H1 => hQ d h1 ι1 v H1 q) (fun c fs h1 q ι1 dx H1 => hE c fs h1 ι1 dx H1 q) q⟩
end LL
end

section
set_option Elab.async false
set_option linter.all false
set_option maxRecDepth 100000
set_option maxHeartbeats 1000000
/-! LLOps: logical programs and why they are sound: names, constants, operators, tests, displays, subscripts, fields, calls. -/
namespace LL
open PySem PySem.Spec PyProof.Rows L2
variable {X : Cx} {W : WX}

/-! ### heaps -/
section
variable {K : Frag} {ι : Ad} {H : Hp} {h : LH}
theorem RelH.ref {n : Nat} {a : Addr} (hH : RelH K ι H h) (e : ι.ix[n]? = some (some a)) : Lv H a := hH.live a (List.mem_of_getElem? e)
theorem RelH.lst {n : Nat} {a : Addr} {ds : List D} (hH : RelH K ι H h) (e : ι.ix[n]? = some (some a)) (q : h[n]? = some (.lst ds)) : ∃ vs, H a = some (.lst vs) ∧ RelDs K ι H ds vs := by
  obtain ⟨a', e', r⟩ := hH.obj n _ q (by intro z; cases z)
  rw [e] at e'; cases e'
  exact r
theorem RelH.ins {n : Nat} {a : Addr} {C : Str} {fs : List (Str × D)} (hH : RelH K ι H h) (e : ι.ix[n]? = some (some a)) (q : h[n]? = some (.ins C fs)) : ∃ dx vs, H a = some (.ins (He.ga K C) dx vs) ∧ RelFs K ι H fs vs := by
  obtain ⟨a', e', r⟩ := hH.obj n _ q (by intro z; cases z)
  rw [e] at e'; cases e'
  exact r
theorem RelO.ext {ι' : Ad} {H' : Hp} {a : Addr} {o : O} (e : Ext ι H ι' H') (ha : H' a = H a) (r : RelO K ι H a o) : RelO K ι' H' a o := by
  cases o with
  | lst ds => obtain ⟨vs, h1, h2⟩ := r; exact ⟨vs, by rw [ha]; exact h1, h2.ext e⟩
  | ins C fs => obtain ⟨dx, vs, h1, h2⟩ := r; exact ⟨dx, vs, by rw [ha]; exact h1, h2.ext e⟩
  | gone => trivial
/-- a new object that nobody changes any more -/
theorem Ext.new {p : Addr} {u : HO} (hp : H p = none) : Ext ι H ι (upd H p u) := by
  have ne : ∀ a o, H a = some o → a ≠ p := fun a o q => ne_of_none q hp
  refine ⟨⟨[], by simp, fun _ z => by cases z⟩, fun _ h => h, fun _ h => .inl h, rfl, fun a o q _ _ => ?_, fun a xs q => ?_, fun a o w q => ?_, fun a q => q.upd (q.ne hp)⟩ <;> (rw [upd_ne (ne _ _ q)]; exact q)
theorem RelH.new {p : Addr} {u : HO} (hH : RelH K ι H h) (hp : H p = none) : RelH K ι (upd H p u) h := by
  have ne : ∀ a, some a ∈ ι.ix → a ≠ p := fun a m => (hH.live a m).ne hp
  refine ⟨hH.len, hH.inj, fun a m => ?_, fun a m => ?_, hH.disj, tabs_upd hH.tabs (.inl hp), fun n o q g => ?_⟩
  · exact (hH.live a m).upd (ne a m)
  · exact (hH.liveR a m).upd ((hH.liveR a m).ne hp)
  · obtain ⟨a, e, r⟩ := hH.obj n o q g
    exact ⟨a, e, r.ext (Ext.new hp) (upd_ne (ne a (List.mem_of_getElem? e)))⟩
theorem RelH.notNew {p : Addr} (hH : RelH K ι H h) (hp : H p = none) : ι.no p := by
  refine ⟨fun m => ?_, fun m => ?_⟩
  · exact (hH.live p m).no hp
  · exact (hH.liveR p m).no hp
/-- a new object of the logical heap -/
theorem Ext.push {p : Addr} {u : HO} (hp : H p = none) : Ext ι H (ι.push p) (upd H p u) := by
  have ne : ∀ a o, H a = some o → a ≠ p := fun a o q => ne_of_none q hp
  refine ⟨⟨[some p], rfl, fun a z => ?_⟩, fun _ h => h, fun _ h => .inl h, rfl, fun a o q _ _ => ?_, fun a xs q => ?_, fun a o w q => ?_, fun a q => q.upd (q.ne hp)⟩
  · simp only [List.mem_singleton, Option.some.injEq] at z; subst z; exact fun l => l.no hp
  all_goals (rw [upd_ne (ne _ _ q)]; exact q)
theorem RelH.push {p : Addr} {u : HO} {o : O} (hH : RelH K ι H h) (hp : H p = none) (hu : ∀ ps, u ≠ .tbl ps) (r : RelO K (ι.push p) (upd H p u) p o) : RelH K (ι.push p) (upd H p u) (h ++ [o]) := by
  have np := hH.notNew hp
  have ne : ∀ a, some a ∈ ι.ix → a ≠ p := fun a m => (hH.live a m).ne hp
  refine ⟨by simp [hH.len], fun n m a e1 e2 => ?_, fun a m => ?_, fun a m => ?_, fun a m => ?_, tabs_upd hH.tabs (.inl hp), fun n o' q g => ?_⟩
  · simp only [] at e1 e2
    rcases List.getElem?_append (l₁ := ι.ix) (l₂ := [some p]) (i := n) ▸ e1 with e1'
    by_cases hn : n < ι.ix.length
    · rw [List.getElem?_append_left hn] at e1
      by_cases hm : m < ι.ix.length
      · rw [List.getElem?_append_left hm] at e2
        exact hH.inj n m a e1 e2
      · rw [List.getElem?_append_right (Nat.le_of_not_lt hm)] at e2
        have := List.mem_of_getElem? e2
        simp only [List.mem_singleton, Option.some.injEq] at this
        subst this
        exact absurd (List.mem_of_getElem? e1) np.1
    · rw [List.getElem?_append_right (Nat.le_of_not_lt hn)] at e1
      have h1 := List.mem_of_getElem? e1
      simp only [List.mem_singleton, Option.some.injEq] at h1
      subst h1
      by_cases hm : m < ι.ix.length
      · rw [List.getElem?_append_left hm] at e2
        exact absurd (List.mem_of_getElem? e2) np.1
      · have l1 := (List.getElem?_eq_some_iff.mp e1).1
        rw [List.getElem?_append_right (Nat.le_of_not_lt hm)] at e2
        have l2 := (List.getElem?_eq_some_iff.mp e2).1
        simp only [List.length_singleton] at l1 l2
        omega
  · rcases List.mem_append.mp m with m | m
    · exact (hH.live a m).upd (ne a m)
    · simp only [List.mem_singleton, Option.some.injEq] at m
      subst m
      exact ⟨u, upd_same, hu⟩
  · exact (hH.liveR a m).upd ((hH.liveR a m).ne hp)
  · rcases List.mem_append.mp m with m | m
    · exact hH.disj a m
    · simp only [List.mem_singleton, Option.some.injEq] at m
      subst m
      exact np.2
  · by_cases hn : n < h.length
    · rw [List.getElem?_append_left hn] at q
      obtain ⟨a, e, r'⟩ := hH.obj n o' q g
      exact ⟨a, by rw [List.getElem?_append_left (by rw [hH.len]; exact hn)]; exact e, r'.ext (Ext.push hp) (upd_ne (ne a (List.mem_of_getElem? e)))⟩
    · have l := (List.getElem?_eq_some_iff.mp q).1
      have en : n = h.length := by simp only [List.length_append, List.length_singleton] at l; omega
      subst en
      rw [List.getElem?_append_right (Nat.le_refl _), Nat.sub_self] at q
      cases q
      exact ⟨p, by rw [← hH.len, List.getElem?_append_right (Nat.le_refl _), Nat.sub_self]; rfl, r⟩
/-- an object of the logical heap is changed -/
theorem Ext.write {n : Nat} {a : Addr} {u : HO} (hH : RelH K ι H h) (e : ι.ix[n]? = some (some a)) (mu : MutO (H a)) (mv : MutO (some u)) : Ext ι H ι (upd H a u) := by
  have ht := mu.tup
  have hf := mu.frz
  refine ⟨⟨[], by simp, fun _ z => by cases z⟩, fun _ h => h, fun _ h => .inl h, rfl, fun b o q m _ => ?_, fun b xs q => ?_, fun b o w q => ?_, fun b q => q.mu mv⟩
  · rw [upd_ne (by rintro rfl; exact m (List.mem_of_getElem? e))]; exact q
  · rw [upd_ne (by rintro rfl; exact ht xs q)]; exact q
  · rw [upd_ne (by rintro rfl; exact hf o w q)]; exact q
theorem RelH.write {n : Nat} {a : Addr} {u : HO} {o : O} (hH : RelH K ι H h) (e : ι.ix[n]? = some (some a)) (mu : MutO (H a)) (ex : Ext ι H ι (upd H a u)) (r : RelO K ι (upd H a u) a o) : RelH K ι (upd H a u) (h.set n o) := by
  refine ⟨by simpa using hH.len, hH.inj, fun b m => ?_, fun b m => ?_, hH.disj, tabs_upd hH.tabs (.inr mu), fun m o' q g => ?_⟩
  · exact ex.there b (hH.live b m)
  · exact ex.there b (hH.liveR b m)
  · by_cases z : n = m
    · subst z
      have l := (List.getElem?_eq_some_iff.mp q).1
      rw [List.length_set] at l
      rw [List.getElem?_set_self l] at q
      cases q
      exact ⟨a, e, r⟩
    · rw [List.getElem?_set_ne z] at q
      obtain ⟨b, e', r'⟩ := hH.obj m o' q g
      have nb : b ≠ a := fun q => z (hH.inj n m a e (q ▸ e'))
      exact ⟨b, e', r'.ext ex (upd_ne nb)⟩
end

/-! ### names and constants -/
def eVar (i : Nat) : LE := fun σ h Q _ => match σ[i]? with | some (some d) => Q d h | _ => False
def eC (d : D) : LE := fun _ h Q _ => Q d h
theorem je_var {i : Nat} {x : Str} {pos : Pos} (h : PE X (.Name x pos) (tVar i)) : JE X W (.Name x pos) (eVar i) := by
  refine ⟨fun σ h Q Q' E E' hQ _ q => ?_, PE.weak h fun σV H Q ⟨ι, σ, h, hS, hH, q⟩ => ?_⟩
  · unfold eVar at *; split at q <;> first | exact hQ _ _ q | exact q.elim
  · unfold eVar at q
    split at q
    · rename_i d e
      obtain ⟨v, e1, r⟩ := hS.2 i d e
      exact ⟨v, e1, q ι v H (.refl _ _) hH r⟩
    · exact q.elim
theorem mono_c {d : D} : Mono (eC d) := fun _ _ _ _ _ _ hQ _ q => hQ _ _ q
theorem je_c {e : Expr} {d : D} {v : V} (h : PE X e (tC v)) (r : ∀ ι H, RelD X.K ι H d v) : JE X W e (eC d) :=
  ⟨mono_c, PE.weak h fun σV H Q ⟨ι, σ, h, hS, hH, q⟩ => q ι v H (.refl _ _) hH (r ι H)⟩
theorem je_int {i : Int} {j pos} : JE X W (.Constant (.int i) j pos) (eC (.int i)) := je_c pe_int fun _ _ => rfl
theorem je_bl {b : Bool} {j pos} : JE X W (.Constant (.bool b) j pos) (eC (.bl b)) := je_c pe_bl fun _ _ => rfl
theorem je_non {j pos} : JE X W (.Constant .none j pos) (eC .non) := je_c pe_non fun _ _ => rfl
theorem je_str {x : Str} {j pos} : JE X W (.Constant (.str x) j pos) (eC (.str x)) := je_c pe_str fun _ _ => rfl
/-- a module's int -/
theorem je_gint {x : Str} {i : Int} {pos : Pos} (hm : ∃ t, X.mg x = some (.int i t)) (hg : Gl X x := by rfl) (hd : (x == ("__debug__" : Str)) = false := by decide) : JE X W (.Name x pos) (eC (.int i)) := by
  obtain ⟨t, hm⟩ := hm
  exact je_c (pe_glob hg hm (v := .int i) ⟨t, rfl⟩ hd) fun _ _ => rfl
/-- a module's tuple -/
theorem je_gtup {x : Str} {ds : List D} {a : Addr} {vs : List V} {pos : Pos} (hm : X.mg x = some (.ref a)) (ht : ∀ H, SqT X.K H a vs) (r : ∀ ι H, RelDs X.K ι H ds vs) (hg : Gl X x := by rfl) (hd : (x == ("__debug__" : Str)) = false := by decide) : JE X W (.Name x pos) (eC (.tup ds)) :=
  je_c (pe_glob hg hm (v := .ref a) rfl hd) fun ι H => ⟨a, vs, rfl, ht H, r ι H⟩

/-! ### operators -/
abbrev LOp := D → D → LH → (D → LH → Prop) → Prop
structure OpS (K : Frag) (r : R2) (op : LOp) : Prop where
  mono : ∀ x y h Q Q', (∀ d h, Q d h → Q' d h) → op x y h Q → op x y h Q'
  run : ∀ ι H h x y vx vy (Q : D → LH → Prop) (Qv : VK), RelH K ι H h → RelD K ι H x vx → RelD K ι H y vy → op x y h Q →
    (∀ d h' ι' v H', Q d h' → Ext ι H ι' H' → RelH K ι' H' h' → RelD K ι' H' d v → Qv v H') → r vx vy H Qv
def eOp (op : LOp) (a b : LE) : LE := fun σ h Q E => a σ h (fun x h1 => b σ h1 (fun y h2 => op x y h2 Q) E) E
theorem mono_op {op : LOp} {a b : LE} (ho : ∀ x y h Q Q', (∀ d h, Q d h → Q' d h) → op x y h Q → op x y h Q') (ha : Mono a) (hb : Mono b) : Mono (eOp op a b) := fun σ h Q Q' E E' hQ hE q =>
  ha σ h _ _ _ _ (fun x h1 q1 => hb σ h1 _ _ _ _ (fun y h2 q2 => ho _ _ _ _ _ hQ q2) hE q1) hE q
theorem op_run {K : Frag} {r : R2} {op : LOp} {a b : LE} (hs : OpS K r op) (ha : Mono a) (hb : Mono b) {σV : L2.St} {H : Hp} {Q : VK} (q : tE K W (eOp op a b) σV H Q) : tOp r (tE K W a) (tE K W b) σV H Q := by
  obtain ⟨ι, σ, h, hS, hH, q⟩ := q
  refine tX.into ha hS hH q (fun x h1 ι1 vx H1 q1 e1 hH1 rx => ?_) (fun c fs h1 ι1 dx H1 q1 e1 hH1 rx => q1 ι1 dx H1 e1 hH1 rx)
  refine tX.into hb (hS.ext e1) hH1 q1 (fun y h2 ι2 vy H2 q2 e2 hH2 ry => ?_) (fun c fs h2 ι2 dx H2 q2 e2 hH2 rx2 => q2 ι2 dx H2 (e1.trans e2) hH2 rx2)
  exact hs.run ι2 H2 h2 x y vx vy _ Q hH2 (rx.ext e2) ry q2 fun d h' ι' v H' q3 e3 hH3 r3 => q3 ι' v H' (e1.trans (e2.trans e3)) hH3 r3
theorem je_op {op : Operator} {r : R2} {lop : LOp} {a b : Expr} {ea eb : LE} {pos : Pos} (ho : OpR X (binaryOp op) r) (hs : OpS X.K r lop) (ha : JE X W a ea) (hb : JE X W b eb) : JE X W (.BinOp a op b pos) (eOp lop ea eb) :=
  ⟨mono_op hs.mono ha.mono hb.mono, PE.weak (pe_op ho ha.run hb.run) fun _ _ _ q => op_run hs ha.mono hb.mono q⟩
theorem je_cmp {op : CmpOp} {r : R2} {lop : LOp} {a b : Expr} {ea eb : LE} {pos : Pos} (ho : OpR X (compareOp op) r) (hs : OpS X.K r lop) (ha : JE X W a ea) (hb : JE X W b eb) (hm : behindInMarks op b = false) : JE X W (.Compare a [op] [b] pos) (eOp lop ea eb) :=
  ⟨mono_op hs.mono ha.mono hb.mono, PE.weak (pe_cmpR ho ha.run hb.run hm) fun _ _ _ q => op_run hs ha.mono hb.mono q⟩
/-- a value that is a bool, as a test -/
def eTest (m : LE) : LX Bool := fun σ h Q E => m σ h (fun d h1 => ∃ b, d = .bl b ∧ Q b h1) E
theorem mono_test {m : LE} (hm : Mono m) : Mono (eTest m) := fun σ h Q Q' E E' hQ hE q => hm σ h _ _ _ _ (fun d h1 ⟨b, e, q1⟩ => ⟨b, e, hQ _ _ q1⟩) hE q
theorem test_run {K : Frag} {m : LE} (hm : Mono m) {σV : L2.St} {H : Hp} {Q : Bool → Hp → Prop} (q : tT K W (eTest m) σV H Q) : tE K W m σV H fun x H' => ∃ k, x = .bl k ∧ Q k H' := by
  obtain ⟨ι, σ, h, hS, hH, q⟩ := q
  refine tX.into hm hS hH q (fun d h1 ι1 v H1 q1 e1 hH1 r => ?_) (fun c fs h1 ι1 dx H1 q1 => q1 ι1 dx H1)
  obtain ⟨b, rfl, q1⟩ := q1
  exact ⟨b, r, q1 ι1 b H1 e1 hH1 rfl⟩
theorem jt_cmp {op : CmpOp} {r : R2} {lop : LOp} {a b : Expr} {ea eb : LE} {pos : Pos} (ho : OpR X (compareOp op) r) (hs : OpS X.K r lop) (ha : JE X W a ea) (hb : JE X W b eb) (hm : behindInMarks op b = false) : JT X W (.Compare a [op] [b] pos) (eTest (eOp lop ea eb)) :=
  ⟨mono_test (mono_op hs.mono ha.mono hb.mono), PT.weak (pt_cmpR ho ha.run hb.run hm) fun σV H Q q => op_run (W := W) hs ha.mono hb.mono (test_run (mono_op hs.mono ha.mono hb.mono) q)⟩
/-- any expression whose value is a bool, as a test -/
theorem jt_val {e : Expr} {m : LE} (h : JE X W e m) (he : ∀ whole, isTrue e X.env whole = (do let v ← whole; standAt e.pos; holding [v] (truthy v)) := by intro _; rfl) : JT X W e (eTest m) :=
  ⟨mono_test h.mono, PT.weak (pt_val h.run he) fun σV H Q q => test_run h.mono q⟩
theorem PWPT {e : Expr} {m : LX Bool} (h : JW X W e m) : JT X W e m := ⟨h.mono, h.run.pt⟩
def eAnd (a b : LX Bool) : LX Bool := fun σ h Q E => a σ h (fun c h1 => if c = true then b σ h1 Q E else Q false h1) E
def eOr (a b : LX Bool) : LX Bool := fun σ h Q E => a σ h (fun c h1 => if c = true then Q true h1 else b σ h1 Q E) E
def eNot (a : LX Bool) : LX Bool := fun σ h Q E => a σ h (fun c h1 => Q (!c) h1) E
theorem mono_and {a b : LX Bool} (ha : Mono a) (hb : Mono b) : Mono (eAnd a b) := fun σ h Q Q' E E' hQ hE q => ha σ h _ _ _ _ (fun c h1 q1 => by
  cases c with
  | true => rw [if_pos rfl] at q1 ⊢; exact hb σ h1 _ _ _ _ hQ hE q1
  | false => rw [if_neg Bool.false_ne_true] at q1 ⊢; exact hQ _ _ q1) hE q
theorem mono_or {a b : LX Bool} (ha : Mono a) (hb : Mono b) : Mono (eOr a b) := fun σ h Q Q' E E' hQ hE q => ha σ h _ _ _ _ (fun c h1 q1 => by
  cases c with
  | true => rw [if_pos rfl] at q1 ⊢; exact hQ _ _ q1
  | false => rw [if_neg Bool.false_ne_true] at q1 ⊢; exact hb σ h1 _ _ _ _ hQ hE q1) hE q
theorem mono_not {a : LX Bool} (ha : Mono a) : Mono (eNot a) := fun σ h Q Q' E E' hQ hE q => ha σ h _ _ _ _ (fun c h1 q1 => hQ _ _ q1) hE q
/-- through a test into what follows -/
theorem tT.into {K : Frag} {m : LX Bool} (hm : Mono m) {ι : Ad} {σ : LV} {h : LH} {σV : L2.St} {H : Hp} {Q : Bool → Hp → Prop} (hS : RelS K ι H σ σV) (hH : RelH K ι H h)
    {Q0 : Bool → LH → Prop} {E0 : XL} (q : m σ h Q0 E0) (hQ : ∀ b h1 ι1 H1, Q0 b h1 → Ext ι H ι1 H1 → RelH K ι1 H1 h1 → Q b H1)
    (hE : ∀ c fs h1 ι1 dx H1, E0 c fs h1 → Ext ι H ι1 H1 → RelH K ι1 H1 h1 → RelX K ι1 H1 fs dx → W (.ref (He.ga K c)) dx σV H1) : tT K W m σV H Q :=
  tX.into hm hS hH q (fun d h1 ι1 v H1 q1 e1 hH1 r => by subst r; exact hQ d h1 ι1 H1 q1 e1 hH1) hE
theorem and_run {K : Frag} {a b : LX Bool} (ha : Mono a) (hb : Mono b) {σV : L2.St} {H : Hp} {Q : Bool → Hp → Prop} (q : tT K W (eAnd a b) σV H Q) : tAnd (tT K W a) (tT K W b) σV H Q := by
  obtain ⟨ι, σ, h, hS, hH, q⟩ := q
  refine tT.into ha hS hH q (fun c h1 ι1 H1 q1 e1 hH1 => ?_) (fun c fs h1 ι1 dx H1 q1 => q1 ι1 dx H1)
  cases c with
  | true =>
    rw [if_pos rfl] at q1 ⊢
    exact tT.into hb (hS.ext e1) hH1 q1 (fun c h2 ι2 H2 q2 e2 hH2 => q2 ι2 c H2 (e1.trans e2) hH2 rfl) fun c fs h2 ι2 dx H2 q2 e2 => q2 ι2 dx H2 (e1.trans e2)
  | false => rw [if_neg Bool.false_ne_true] at q1 ⊢; exact q1 ι1 false H1 e1 hH1 rfl
theorem or_run {K : Frag} {a b : LX Bool} (ha : Mono a) (hb : Mono b) {σV : L2.St} {H : Hp} {Q : Bool → Hp → Prop} (q : tT K W (eOr a b) σV H Q) : tOr (tT K W a) (tT K W b) σV H Q := by
  obtain ⟨ι, σ, h, hS, hH, q⟩ := q
  refine tT.into ha hS hH q (fun c h1 ι1 H1 q1 e1 hH1 => ?_) (fun c fs h1 ι1 dx H1 q1 => q1 ι1 dx H1)
  cases c with
  | true => rw [if_pos rfl] at q1 ⊢; exact q1 ι1 true H1 e1 hH1 rfl
  | false =>
    rw [if_neg Bool.false_ne_true] at q1 ⊢
    exact tT.into hb (hS.ext e1) hH1 q1 (fun c h2 ι2 H2 q2 e2 hH2 => q2 ι2 c H2 (e1.trans e2) hH2 rfl) fun c fs h2 ι2 dx H2 q2 e2 => q2 ι2 dx H2 (e1.trans e2)
section
variable {a b : Expr} {rest : List Expr} {pos : Pos} {A B : LX Bool}
theorem jw_and1 (ha : JT X W a A) : JW X W (.BoolOp .And [a] pos) A := ⟨ha.mono, pw_and1 ha.run⟩
theorem jw_or1 (ha : JT X W a A) : JW X W (.BoolOp .Or [a] pos) A := ⟨ha.mono, pw_or1 ha.run⟩
theorem jw_and (ha : JT X W a A) (hb : JW X W (.BoolOp .And (b :: rest) pos) B) : JW X W (.BoolOp .And (a :: b :: rest) pos) (eAnd A B) :=
  ⟨mono_and ha.mono hb.mono, PW.weak (pw_and ha.run hb.run) fun _ _ _ q => and_run ha.mono hb.mono q⟩
theorem jw_or (ha : JT X W a A) (hb : JW X W (.BoolOp .Or (b :: rest) pos) B) : JW X W (.BoolOp .Or (a :: b :: rest) pos) (eOr A B) :=
  ⟨mono_or ha.mono hb.mono, PW.weak (pw_or ha.run hb.run) fun _ _ _ q => or_run ha.mono hb.mono q⟩
theorem jt_not (ha : JT X W a A) : JT X W (.UnaryOp .Not a pos) (eNot A) :=
  ⟨mono_not ha.mono, PT.weak (pt_not ha.run) fun σV H Q ⟨ι, σ, h, hS, hH, q⟩ => tT.into ha.mono hS hH q (fun c h1 ι1 H1 q1 e1 hH1 => q1 ι1 _ H1 e1 hH1 rfl) fun c fs h1 ι1 dx H1 q1 => q1 ι1 dx H1⟩
end

/-! ### and, or, not, if as values -/
def eAndV (a b : LE) : LE := fun σ h Q E => a σ h (fun d h1 => ∃ c, d = .bl c ∧ if c = true then b σ h1 Q E else Q (.bl false) h1) E
def eOrV (a b : LE) : LE := fun σ h Q E => a σ h (fun d h1 => ∃ c, d = .bl c ∧ if c = true then Q (.bl true) h1 else b σ h1 Q E) E
def eNotV (a : LE) : LE := fun σ h Q E => a σ h (fun d h1 => ∃ c, d = .bl c ∧ Q (.bl (!c)) h1) E
def eIf (t : LX Bool) (a b : LE) : LE := fun σ h Q E => t σ h (fun c h1 => if c = true then a σ h1 Q E else b σ h1 Q E) E
section
variable {a b c : Expr} {rest : List Expr} {pos : Pos} {A B : LE} {T : LX Bool}
theorem je_one {op} (ha : JE X W a A) : JE X W (.BoolOp op [a] pos) A := ⟨ha.mono, pe_one ha.run⟩
theorem je_and (ha : JE X W a A) (hb : JE X W (.BoolOp .And (b :: rest) pos) B) : JE X W (.BoolOp .And (a :: b :: rest) pos) (eAndV A B) := by
  refine ⟨fun σ h Q Q' E E' hQ hE q => ha.mono σ h _ _ _ _ ?_ hE q, PE.weak (pe_and ha.run hb.run) fun σV H Q ⟨ι, σ, h, hS, hH, q⟩ => ?_⟩
  · rintro d h1 ⟨c, e, q1⟩
    refine ⟨c, e, ?_⟩
    cases c with
    | true => rw [if_pos rfl] at q1 ⊢; exact hb.mono σ h1 _ _ _ _ hQ hE q1
    | false => rw [if_neg Bool.false_ne_true] at q1 ⊢; exact hQ _ _ q1
  · refine tX.into ha.mono hS hH q (fun d h1 ι1 v H1 q1 e1 hH1 r => ?_) (fun c fs h1 ι1 dx H1 q1 => q1 ι1 dx H1)
    obtain ⟨c, rfl, q1⟩ := q1
    refine ⟨c, r, ?_⟩
    cases c with
    | true =>
      rw [if_pos rfl] at q1 ⊢
      exact tX.into hb.mono (hS.ext e1) hH1 q1 (fun c h2 ι2 v H2 q2 e2 hH2 => q2 ι2 v H2 (e1.trans e2) hH2) fun c fs h2 ι2 dx H2 q2 e2 => q2 ι2 dx H2 (e1.trans e2)
    | false => rw [if_neg Bool.false_ne_true] at q1 ⊢; exact q1 ι1 _ H1 e1 hH1 rfl
theorem je_or (ha : JE X W a A) (hb : JE X W (.BoolOp .Or (b :: rest) pos) B) : JE X W (.BoolOp .Or (a :: b :: rest) pos) (eOrV A B) := by
  refine ⟨fun σ h Q Q' E E' hQ hE q => ha.mono σ h _ _ _ _ ?_ hE q, PE.weak (pe_or ha.run hb.run) fun σV H Q ⟨ι, σ, h, hS, hH, q⟩ => ?_⟩
  · rintro d h1 ⟨c, e, q1⟩
    refine ⟨c, e, ?_⟩
    cases c with
    | true => rw [if_pos rfl] at q1 ⊢; exact hQ _ _ q1
    | false => rw [if_neg Bool.false_ne_true] at q1 ⊢; exact hb.mono σ h1 _ _ _ _ hQ hE q1
  · refine tX.into ha.mono hS hH q (fun d h1 ι1 v H1 q1 e1 hH1 r => ?_) (fun c fs h1 ι1 dx H1 q1 => q1 ι1 dx H1)
    obtain ⟨c, rfl, q1⟩ := q1
    refine ⟨c, r, ?_⟩
    cases c with
    | true => rw [if_pos rfl] at q1 ⊢; exact q1 ι1 _ H1 e1 hH1 rfl
    | false =>
      rw [if_neg Bool.false_ne_true] at q1 ⊢
      exact tX.into hb.mono (hS.ext e1) hH1 q1 (fun c h2 ι2 v H2 q2 e2 hH2 => q2 ι2 v H2 (e1.trans e2) hH2) fun c fs h2 ι2 dx H2 q2 e2 => q2 ι2 dx H2 (e1.trans e2)
theorem je_not (ha : JE X W a A) : JE X W (.UnaryOp .Not a pos) (eNotV A) := by
  refine ⟨fun σ h Q Q' E E' hQ hE q => ha.mono σ h _ _ _ _ (fun d h1 ⟨c, e, q1⟩ => ⟨c, e, hQ _ _ q1⟩) hE q, PE.weak (pe_not ha.run) fun σV H Q ⟨ι, σ, h, hS, hH, q⟩ => ?_⟩
  refine tX.into ha.mono hS hH q (fun d h1 ι1 v H1 q1 e1 hH1 r => ?_) (fun c fs h1 ι1 dx H1 q1 => q1 ι1 dx H1)
  obtain ⟨c, rfl, q1⟩ := q1
  exact ⟨c, r, q1 ι1 _ H1 e1 hH1 rfl⟩
theorem je_if (ht : JT X W c T) (ha : JE X W a A) (hb : JE X W b B) : JE X W (.IfExp c a b pos) (eIf T A B) := by
  refine ⟨fun σ h Q Q' E E' hQ hE q => ht.mono σ h _ _ _ _ (fun c h1 q1 => ?_) hE q, PE.weak (pe_ifExp ht.run ha.run hb.run) fun σV H Q ⟨ι, σ, h, hS, hH, q⟩ => ?_⟩
  · cases c with
    | true => rw [if_pos rfl] at q1 ⊢; exact ha.mono σ h1 _ _ _ _ hQ hE q1
    | false => rw [if_neg Bool.false_ne_true] at q1 ⊢; exact hb.mono σ h1 _ _ _ _ hQ hE q1
  · refine tT.into ht.mono hS hH q (fun c h1 ι1 H1 q1 e1 hH1 => ?_) (fun c fs h1 ι1 dx H1 q1 => q1 ι1 dx H1)
    cases c with
    | true =>
      rw [if_pos rfl] at q1 ⊢
      exact tX.into ha.mono (hS.ext e1) hH1 q1 (fun c h2 ι2 v H2 q2 e2 hH2 => q2 ι2 v H2 (e1.trans e2) hH2) fun c fs h2 ι2 dx H2 q2 e2 => q2 ι2 dx H2 (e1.trans e2)
    | false =>
      rw [if_neg Bool.false_ne_true] at q1 ⊢
      exact tX.into hb.mono (hS.ext e1) hH1 q1 (fun c h2 ι2 v H2 q2 e2 hH2 => q2 ι2 v H2 (e1.trans e2) hH2) fun c fs h2 ι2 dx H2 q2 e2 => q2 ι2 dx H2 (e1.trans e2)
end

/-! ### arguments and displays -/
def eNil : LX (List D) := fun _ h Q _ => Q [] h
def eCons (a : LE) (r : LX (List D)) : LX (List D) := fun σ h Q E => a σ h (fun x h1 => r σ h1 (fun xs h2 => Q (x :: xs) h2) E) E
def eTup (r : LX (List D)) : LE := fun σ h Q E => r σ h (fun xs h1 => xs.length ≤ sizeLine ∧ Q (.tup xs) h1) E
/-- a list that nobody changes -/
def eLst (r : LX (List D)) : LE := fun σ h Q E => r σ h (fun xs h1 => xs.length ≤ sizeLine ∧ Q (.lst xs) h1) E
/-- a list that will be changed -/
def eLstM (r : LX (List D)) : LE := fun σ h Q E => r σ h (fun xs h1 => xs.length ≤ sizeLine ∧ Q (.ref h1.length) (h1 ++ [.lst xs])) E
section
variable {e : Expr} {es : List Expr} {A : LE} {R : LX (List D)} {pos : Pos}
theorem ja_nil : JA X W [] eNil := ⟨fun _ _ _ _ _ _ hQ _ q => hQ _ _ q, PA.weak pa_nil fun σV H Q ⟨ι, σ, h, hS, hH, q⟩ => q ι [] H (.refl _ _) hH rfl⟩
theorem ja_cons (ha : JE X W e A) (hr : JA X W es R) (hs : starEach (e :: es) X.env = (false, eval e X.env) :: starEach es X.env := by rfl) : JA X W (e :: es) (eCons A R) := by
  refine ⟨fun σ h Q Q' E E' hQ hE q => ha.mono σ h _ _ _ _ (fun d h1 q1 => hr.mono σ h1 _ _ _ _ (fun _ _ q2 => hQ _ _ q2) hE q1) hE q, PA.weak (pa_cons ha.run hr.run hs) fun σV H Q ⟨ι, σ, h, hS, hH, q⟩ => ?_⟩
  refine tX.into ha.mono hS hH q (fun x h1 ι1 vx H1 q1 e1 hH1 rx => ?_) (fun c fs h1 ι1 dx H1 q1 => q1 ι1 dx H1)
  refine tX.into hr.mono (hS.ext e1) hH1 q1 (fun xs h2 ι2 vs H2 q2 e2 hH2 rs => ?_) fun c fs h2 ι2 dx H2 q2 e2 => q2 ι2 dx H2 (e1.trans e2)
  exact q2 ι2 (vx :: vs) H2 (e1.trans e2) hH2 ⟨vx, vs, rfl, rx.ext e2, rs⟩
theorem je_tup {x1} (hr : JA X W es R) : JE X W (.Tuple es x1 pos) (eTup R) := by
  refine ⟨fun σ h Q Q' E E' hQ hE q => hr.mono σ h _ _ _ _ (fun xs h1 ⟨l, q1⟩ => ⟨l, hQ _ _ q1⟩) hE q, PE.weak (pe_tup hr.run) fun σV H Q ⟨ι, σ, h, hS, hH, q⟩ => ?_⟩
  refine tX.into hr.mono hS hH q (fun xs h1 ι1 vs H1 q1 e1 hH1 rs => ?_) (fun c fs h1 ι1 dx H1 q1 => q1 ι1 dx H1)
  obtain ⟨l, q1⟩ := q1
  refine ⟨by rw [← rs.length]; exact l, fun p hp => ?_⟩
  have ex : Ext ι1 H1 ι1 (upd H1 p (.tup vs)) := Ext.new hp
  exact q1 ι1 _ _ (e1.trans ex) (hH1.new hp) ⟨p, vs, rfl, SqT.of upd_same, rs.ext ex⟩
theorem je_lst (hr : JA X W es R) : JE X W (.List es pos) (eLst R) := by
  refine ⟨fun σ h Q Q' E E' hQ hE q => hr.mono σ h _ _ _ _ (fun xs h1 ⟨l, q1⟩ => ⟨l, hQ _ _ q1⟩) hE q, PE.weak (pe_lst hr.run) fun σV H Q ⟨ι, σ, h, hS, hH, q⟩ => ?_⟩
  refine tX.into hr.mono hS hH q (fun xs h1 ι1 vs H1 q1 e1 hH1 rs => ?_) (fun c fs h1 ι1 dx H1 q1 => q1 ι1 dx H1)
  obtain ⟨l, q1⟩ := q1
  refine ⟨by rw [← rs.length]; exact l, fun p hp => ?_⟩
  have ex : Ext ι1 H1 ι1 (upd H1 p (.lst vs)) := Ext.new hp
  exact q1 ι1 _ _ (e1.trans ex) (hH1.new hp) ⟨p, vs, rfl, .inl ⟨upd_same, hH1.notNew hp⟩, rs.ext ex⟩
theorem je_lstM (hr : JA X W es R) : JE X W (.List es pos) (eLstM R) := by
  refine ⟨fun σ h Q Q' E E' hQ hE q => hr.mono σ h _ _ _ _ (fun xs h1 ⟨l, q1⟩ => ⟨l, hQ _ _ q1⟩) hE q, PE.weak (pe_lst hr.run) fun σV H Q ⟨ι, σ, h, hS, hH, q⟩ => ?_⟩
  refine tX.into hr.mono hS hH q (fun xs h1 ι1 vs H1 q1 e1 hH1 rs => ?_) (fun c fs h1 ι1 dx H1 q1 => q1 ι1 dx H1)
  obtain ⟨l, q1⟩ := q1
  refine ⟨by rw [← rs.length]; exact l, fun p hp => ?_⟩
  have ex : Ext ι1 H1 (ι1.push p) (upd H1 p (.lst vs)) := Ext.push hp
  refine q1 _ _ _ (e1.trans ex) (hH1.push hp (fun _ z => by cases z) ⟨vs, upd_same, rs.ext ex⟩) ⟨p, ?_, rfl⟩
  rw [← hH1.len, List.getElem?_append_right (Nat.le_refl _), Nat.sub_self]
  rfl
end

/-! ### integers -/
section
variable {K : Frag}
def opI (C : Int → Int → Prop) (g : Int → Int → D) : LOp := fun x y h Q => match x, y with | .int i, .int j => C i j ∧ Q (g i j) h | _, _ => False
def opI0 (g : Int → Int → D) : LOp := fun x y h Q => match x, y with | .int i, .int j => Q (g i j) h | _, _ => False
theorem opsI {C : Int → Int → Prop} {g : Int → Int → V} {g' : Int → Int → D} (hg : ∀ i j ι H, RelD K ι H (g' i j) (g i j)) : OpS K (rI C g) (opI C g') := by
  refine ⟨fun x y h Q Q' hQ q => ?_, fun ι H h x y vx vy Q Qv hH rx ry q k => ?_⟩
  · unfold opI at *
    split at q
    · exact ⟨q.1, hQ _ _ q.2⟩
    · exact q.elim
  · unfold opI at q
    split at q
    · rename_i i j
      exact ⟨i, j, rx, ry, q.1, k _ h ι _ H q.2 (.refl _ _) hH (hg i j ι H)⟩
    · exact q.elim
theorem opsI0 {g : Int → Int → V} {g' : Int → Int → D} (hg : ∀ i j ι H, RelD K ι H (g' i j) (g i j)) : OpS K (rI0 g) (opI0 g') := by
  refine ⟨fun x y h Q Q' hQ q => ?_, fun ι H h x y vx vy Q Qv hH rx ry q k => ?_⟩
  · unfold opI0 at *
    split at q
    · exact hQ _ _ q
    · exact q.elim
  · unfold opI0 at q
    split at q
    · rename_i i j
      exact ⟨i, j, rx, ry, k _ h ι _ H q (.refl _ _) hH (hg i j ι H)⟩
    · exact q.elim
/-- either of two -/
def opOr (a b : LOp) : LOp := fun x y h Q => a x y h Q ∨ b x y h Q
theorem opsOr {r r' : R2} {a b : LOp} (ha : OpS K r a) (hb : OpS K r' b) : OpS K (fun x y H Q => r x y H Q ∨ r' x y H Q) (opOr a b) :=
  ⟨fun x y h Q Q' hQ q => q.elim (fun q => .inl (ha.mono x y h Q Q' hQ q)) fun q => .inr (hb.mono x y h Q Q' hQ q),
   fun ι H h x y vx vy Q Qv hH rx ry q k => q.elim (fun q => .inl (ha.run ι H h x y vx vy Q Qv hH rx ry q k)) fun q => .inr (hb.run ι H h x y vx vy Q Qv hH rx ry q k)⟩
abbrev oAdd : LOp := opI0 fun i j => .int (i + j)
abbrev oSub : LOp := opI0 fun i j => .int (i - j)
abbrev oMul : LOp := opI CMul fun i j => .int (i * j)
abbrev oMod : LOp := opI (fun _ j => 0 < j) fun i j => .int (i % j)
abbrev oDiv : LOp := opI CDiv fun i j => .int (i / j)
abbrev oPow : LOp := opI CPow fun i j => .int (i ^ j.toNat)
abbrev oLt : LOp := opI0 fun i j => .bl (decide (i < j))
abbrev oLe : LOp := opI0 fun i j => .bl (decide (i ≤ j))
abbrev oGt : LOp := opI0 fun i j => .bl (decide (j < i))
abbrev oGe : LOp := opI0 fun i j => .bl (decide (j ≤ i))
/-- == and != of flat values -/
def flatD : D → D → Option Bool
  | .non, .non => some true
  | .bl a, .bl b => some (a == b)
  | .int a, .int b => some (a == b)
  | .str a, .str b => some (a == b)
  | _, _ => none
def oEq : LOp := fun x y h Q => match x, y with
  | .int i, .int j => Q (.bl (decide (i = j))) h
  | .str i, .str j => Q (.bl (decide (i = j))) h
  | .bl i, .bl j => Q (.bl (decide (i = j))) h
  | _, _ => False
def oNe : LOp := fun x y h Q => match x, y with
  | .int i, .int j => Q (.bl (!decide (i = j))) h
  | .str i, .str j => Q (.bl (!decide (i = j))) h
  | .bl i, .bl j => Q (.bl (!decide (i = j))) h
  | _, _ => False
theorem opsEq : OpS K rEq oEq := by
  refine ⟨fun x y h Q Q' hQ q => ?_, fun ι H h x y vx vy Q Qv hH rx ry q k => ?_⟩
  · unfold oEq at *
    split at q <;> first | exact hQ _ _ q | exact q.elim
  · unfold oEq at q
    split at q
    · rename_i i j
      obtain rfl : vx = .int i := rx
      obtain rfl : vy = .int j := ry
      refine ⟨rfl, k _ h ι _ H q (.refl _ _) hH ?_⟩
      show V.bl _ = V.bl _
      exact congrArg V.bl (decide_eq_decide.mpr ⟨fun e => by injection e, fun e => by rw [e]⟩)
    · rename_i i j
      obtain rfl : vx = .str i := rx
      obtain rfl : vy = .str j := ry
      refine ⟨rfl, k _ h ι _ H q (.refl _ _) hH ?_⟩
      show V.bl _ = V.bl _
      exact congrArg V.bl (decide_eq_decide.mpr ⟨fun e => by injection e, fun e => by rw [e]⟩)
    · rename_i i j
      obtain rfl : vx = .bl i := rx
      obtain rfl : vy = .bl j := ry
      refine ⟨rfl, k _ h ι _ H q (.refl _ _) hH ?_⟩
      show V.bl _ = V.bl _
      exact congrArg V.bl (decide_eq_decide.mpr ⟨fun e => by injection e, fun e => by rw [e]⟩)
    · exact q.elim
theorem opsNe : OpS K rNe oNe := by
  refine ⟨fun x y h Q Q' hQ q => ?_, fun ι H h x y vx vy Q Qv hH rx ry q k => ?_⟩
  · unfold oNe at *
    split at q <;> first | exact hQ _ _ q | exact q.elim
  · unfold oNe at q
    split at q
    · rename_i i j
      obtain rfl : vx = .int i := rx
      obtain rfl : vy = .int j := ry
      refine ⟨rfl, k _ h ι _ H q (.refl _ _) hH ?_⟩
      show V.bl _ = V.bl _
      exact congrArg (fun z => V.bl (!z)) (decide_eq_decide.mpr ⟨fun e => by injection e, fun e => by rw [e]⟩)
    · rename_i i j
      obtain rfl : vx = .str i := rx
      obtain rfl : vy = .str j := ry
      refine ⟨rfl, k _ h ι _ H q (.refl _ _) hH ?_⟩
      show V.bl _ = V.bl _
      exact congrArg (fun z => V.bl (!z)) (decide_eq_decide.mpr ⟨fun e => by injection e, fun e => by rw [e]⟩)
    · rename_i i j
      obtain rfl : vx = .bl i := rx
      obtain rfl : vy = .bl j := ry
      refine ⟨rfl, k _ h ι _ H q (.refl _ _) hH ?_⟩
      show V.bl _ = V.bl _
      exact congrArg (fun z => V.bl (!z)) (decide_eq_decide.mpr ⟨fun e => by injection e, fun e => by rw [e]⟩)
    · exact q.elim
end
section
variable {a b : Expr} {A B : LE} {pos : Pos}
theorem je_add (ha : JE X W a A) (hb : JE X W b B) : JE X W (.BinOp a .Add b pos) (eOp oAdd A B) := je_op op_add (opsI0 fun _ _ _ _ => rfl) ha hb
theorem je_sub (ha : JE X W a A) (hb : JE X W b B) : JE X W (.BinOp a .Sub b pos) (eOp oSub A B) := je_op op_sub (opsI0 fun _ _ _ _ => rfl) ha hb
theorem je_mul (ha : JE X W a A) (hb : JE X W b B) : JE X W (.BinOp a .Mult b pos) (eOp oMul A B) := je_op op_mul (opsI fun _ _ _ _ => rfl) ha hb
theorem je_mod (ha : JE X W a A) (hb : JE X W b B) : JE X W (.BinOp a .Mod b pos) (eOp oMod A B) := je_op op_mod (opsI fun _ _ _ _ => rfl) ha hb
theorem je_div (ha : JE X W a A) (hb : JE X W b B) : JE X W (.BinOp a .FloorDiv b pos) (eOp oDiv A B) := je_op op_fdiv (opsI fun _ _ _ _ => rfl) ha hb
theorem je_pow (ha : JE X W a A) (hb : JE X W b B) : JE X W (.BinOp a .Pow b pos) (eOp oPow A B) := je_op op_pow (opsI fun _ _ _ _ => rfl) ha hb
theorem jt_lt (ha : JE X W a A) (hb : JE X W b B) : JT X W (.Compare a [.Lt] [b] pos) (eTest (eOp oLt A B)) := jt_cmp op_lt (opsI0 fun _ _ _ _ => rfl) ha hb (nomark _)
theorem jt_le (ha : JE X W a A) (hb : JE X W b B) : JT X W (.Compare a [.LtE] [b] pos) (eTest (eOp oLe A B)) := jt_cmp op_le (opsI0 fun _ _ _ _ => rfl) ha hb (nomark _)
theorem jt_gt (ha : JE X W a A) (hb : JE X W b B) : JT X W (.Compare a [.Gt] [b] pos) (eTest (eOp oGt A B)) := jt_cmp op_gt (opsI0 fun _ _ _ _ => rfl) ha hb (nomark _)
theorem jt_ge (ha : JE X W a A) (hb : JE X W b B) : JT X W (.Compare a [.GtE] [b] pos) (eTest (eOp oGe A B)) := jt_cmp op_ge (opsI0 fun _ _ _ _ => rfl) ha hb (nomark _)
theorem jt_eq (ha : JE X W a A) (hb : JE X W b B) : JT X W (.Compare a [.Eq] [b] pos) (eTest (eOp oEq A B)) := jt_cmp op_eq opsEq ha hb (nomark _)
theorem jt_ne (ha : JE X W a A) (hb : JE X W b B) : JT X W (.Compare a [.NotEq] [b] pos) (eTest (eOp oNe A B)) := jt_cmp op_ne opsNe ha hb (nomark _)
theorem je_lt (ha : JE X W a A) (hb : JE X W b B) : JE X W (.Compare a [.Lt] [b] pos) (eOp oLt A B) := je_cmp op_lt (opsI0 fun _ _ _ _ => rfl) ha hb (nomark _)
theorem je_le (ha : JE X W a A) (hb : JE X W b B) : JE X W (.Compare a [.LtE] [b] pos) (eOp oLe A B) := je_cmp op_le (opsI0 fun _ _ _ _ => rfl) ha hb (nomark _)
theorem je_gt (ha : JE X W a A) (hb : JE X W b B) : JE X W (.Compare a [.Gt] [b] pos) (eOp oGt A B) := je_cmp op_gt (opsI0 fun _ _ _ _ => rfl) ha hb (nomark _)
theorem je_ge (ha : JE X W a A) (hb : JE X W b B) : JE X W (.Compare a [.GtE] [b] pos) (eOp oGe A B) := je_cmp op_ge (opsI0 fun _ _ _ _ => rfl) ha hb (nomark _)
theorem je_eq (ha : JE X W a A) (hb : JE X W b B) : JE X W (.Compare a [.Eq] [b] pos) (eOp oEq A B) := je_cmp op_eq opsEq ha hb (nomark _)
theorem je_ne (ha : JE X W a A) (hb : JE X W b B) : JE X W (.Compare a [.NotEq] [b] pos) (eOp oNe A B) := je_cmp op_ne opsNe ha hb (nomark _)
end
end LL
end

section
set_option Elab.async false
set_option linter.all false
set_option maxRecDepth 100000
set_option maxHeartbeats 1000000
/-! LLStm: statements: blocks, assignments, if, while, for, return; targets. -/
namespace LL
open PySem PySem.Spec PyProof.Rows L2
variable {X : Cx} {W : WX}

def exOf (K : LK) (σ : LV) : XL := fun c fs h => K.ex c fs σ h
/-- the ends of a statement, in the abstract heap's words -/
abbrev up (K : Frag) (W : WX) (ι0 : Ad) (H0 : Hp) (Dn : Ends) : LK :=
  { nx := fun σ' h' => ∀ ι' σV' H', Ext ι0 H0 ι' H' → RelS K ι' H' σ' σV' → RelH K ι' H' h' → Dn.nx σV' H',
    rt := fun d h' => ∀ ι' v H', Ext ι0 H0 ι' H' → RelH K ι' H' h' → RelD K ι' H' d v → Dn.rt v H',
    bk := fun σ' h' => ∀ ι' σV' H', Ext ι0 H0 ι' H' → RelS K ι' H' σ' σV' → RelH K ι' H' h' → Dn.bk σV' H',
    ct := fun σ' h' => ∀ ι' σV' H', Ext ι0 H0 ι' H' → RelS K ι' H' σ' σV' → RelH K ι' H' h' → Dn.ct σV' H',
    ex := fun c fs σ' h' => ∀ ι' dx σV' H', Ext ι0 H0 ι' H' → RelS K ι' H' σ' σV' → RelH K ι' H' h' → RelX K ι' H' fs dx → W (.ref (He.ga K c)) dx σV' H' }
theorem tS_eq {K : Frag} {m : LS} {Dn : Ends} {σV : L2.St} {H : Hp} : tS K W m Dn σV H = ∃ ι0 H0 ι σ h, Ext ι0 H0 ι H ∧ RelS K ι H σ σV ∧ RelH K ι H h ∧ m σ h (up K W ι0 H0 Dn) := rfl
theorem LK.le.rfl' (A : LK) : A.le A := ⟨fun _ _ h => h, fun _ _ h => h, fun _ _ h => h, fun _ _ h => h, fun _ _ _ _ h => h⟩

/-! ### blocks -/
def sNil : LS := fun σ h K => K.nx σ h
def sSeq (a b : LS) : LS := fun σ h K => a σ h { K with nx := fun σ' h' => b σ' h' K }
theorem jss_nil : JSs X W [] sNil := ⟨fun σ h A B l q => l.nx _ _ q, PSs.weak pss_nil fun Dn σV H ⟨ι0, H0, ι, σ, h, e, hS, hH, q⟩ => q ι σV H e hS hH⟩
theorem jss_cons {st : Stmt} {rest : List Stmt} {a b : LS} (ha : JS X W st a) (hb : JSs X W rest b) : JSs X W (st :: rest) (sSeq a b) := by
  refine ⟨fun σ h A B l q => ha.mono σ h { A with nx := fun σ' h' => _ } { B with nx := fun σ' h' => _ } ⟨fun σ' h' q' => hb.mono σ' h' A B l q', l.rt, l.bk, l.ct, l.ex⟩ q, PSs.weak (pss_cons ha.run hb.run) fun Dn σV H ⟨ι0, H0, ι, σ, h, e, hS, hH, q⟩ => ?_⟩
  refine ⟨ι0, H0, ι, σ, h, e, hS, hH, ha.mono σ h _ _ ?_ q⟩
  exact ⟨fun σ' h' q' ι' σV' H' e' hS' hH' => ⟨ι0, H0, ι', σ', h', e', hS', hH', q'⟩, fun _ _ q => q, fun _ _ q => q, fun _ _ q => q, fun _ _ _ _ q => q⟩
theorem jss_one {st : Stmt} {a : LS} (ha : JS X W st a) : JSs X W [st] a := ⟨ha.mono, pss_one ha.run⟩
theorem js_pass {pos} : JS X W (.Pass pos) sNil := ⟨fun σ h A B l q => l.nx _ _ q, PS.weak ps_pass fun Dn σV H ⟨ι0, H0, ι, σ, h, e, hS, hH, q⟩ => q ι σV H e hS hH⟩
def sBrk : LS := fun σ h K => K.bk σ h
def sCnt : LS := fun σ h K => K.ct σ h
theorem js_brk {pos} : JS X W (.Break pos) sBrk := ⟨fun σ h A B l q => l.bk _ _ q, PS.weak ps_break fun Dn σV H ⟨ι0, H0, ι, σ, h, e, hS, hH, q⟩ => q ι σV H e hS hH⟩
theorem js_cnt {pos} : JS X W (.Continue pos) sCnt := ⟨fun σ h A B l q => l.ct _ _ q, PS.weak ps_continue fun Dn σV H ⟨ι0, H0, ι, σ, h, e, hS, hH, q⟩ => q ι σV H e hS hH⟩
def sNever : LS := fun _ _ _ => False
theorem js_never {st : Stmt} : JS X W st sNever := ⟨fun σ h A B l q => q.elim, PS.weak ps_never fun Dn σV H ⟨ι0, H0, ι, σ, h, e, hS, hH, q⟩ => q.elim⟩

/-- into an expression within a statement -/
theorem tE.stm {K : Frag} {m : LE} (hm : Mono m) {ι0 ι : Ad} {H0 H : Hp} {σ : LV} {h : LH} {σV : L2.St} {Dn : Ends} {Q : VK} (e : Ext ι0 H0 ι H) (hS : RelS K ι H σ σV) (hH : RelH K ι H h) {Q0 : D → LH → Prop}
    (q : m σ h Q0 (exOf (up K W ι0 H0 Dn) σ)) (hQ : ∀ d h1 ι1 v H1, Q0 d h1 → Ext ι H ι1 H1 → Ext ι0 H0 ι1 H1 → RelS K ι1 H1 σ σV → RelH K ι1 H1 h1 → RelD K ι1 H1 d v → Q v H1) : tE K W m σV H Q :=
  tX.into hm hS hH q (fun d h1 ι1 v H1 q1 e1 hH1 r => hQ d h1 ι1 v H1 q1 e1 (e.trans e1) (hS.ext e1) hH1 r) fun c fs h1 ι1 dx H1 q1 e1 hH1 r => q1 ι1 dx σV H1 (e.trans e1) (hS.ext e1) hH1 r
theorem tT.stm {K : Frag} {m : LX Bool} (hm : Mono m) {ι0 ι : Ad} {H0 H : Hp} {σ : LV} {h : LH} {σV : L2.St} {Dn : Ends} {Q : Bool → Hp → Prop} (e : Ext ι0 H0 ι H) (hS : RelS K ι H σ σV) (hH : RelH K ι H h) {Q0 : Bool → LH → Prop}
    (q : m σ h Q0 (exOf (up K W ι0 H0 Dn) σ)) (hQ : ∀ b h1 ι1 H1, Q0 b h1 → Ext ι H ι1 H1 → Ext ι0 H0 ι1 H1 → RelS K ι1 H1 σ σV → RelH K ι1 H1 h1 → Q b H1) : tT K W m σV H Q :=
  tT.into hm hS hH q (fun b h1 ι1 H1 q1 e1 hH1 => hQ b h1 ι1 H1 q1 e1 (e.trans e1) (hS.ext e1) hH1) fun c fs h1 ι1 dx H1 q1 e1 hH1 r => q1 ι1 dx σV H1 (e.trans e1) (hS.ext e1) hH1 r
theorem exOf.le {A B : LK} (l : A.le B) (σ : LV) : ∀ c fs h, exOf A σ c fs h → exOf B σ c fs h := fun c fs h q => l.ex c fs σ h q

def sExpr (m : LE) : LS := fun σ h K => m σ h (fun _ h1 => K.nx σ h1) (exOf K σ)
theorem js_expr {e : Expr} {m : LE} {pos : Pos} (he : JE X W e m) (hs : swapsWith e none pos.line X.env = pure false := by rfl) : JS X W (.Expr e pos) (sExpr m) :=
  ⟨fun σ h A B l q => he.mono σ h _ _ _ _ (fun _ h1 q1 => l.nx _ _ q1) (exOf.le l σ) q, PS.weak (ps_expr he.run hs) fun Dn σV H ⟨ι0, H0, ι, σ, h, e, hS, hH, q⟩ =>
    tE.stm he.mono e hS hH q fun d h1 ι1 v H1 q1 _ e1 hS1 hH1 _ => q1 ι1 σV H1 e1 hS1 hH1⟩
theorem js_doc {x j pos pos'} : JS X W (.Expr (.Constant (.str x) j pos) pos') sNil := ⟨fun σ h A B l q => l.nx _ _ q, PS.weak ps_doc fun Dn σV H ⟨ι0, H0, ι, σ, h, e, hS, hH, q⟩ => q ι σV H e hS hH⟩
def sRet (m : LE) : LS := fun σ h K => m σ h K.rt (exOf K σ)
theorem js_ret {e : Expr} {m : LE} {pos : Pos} (he : JE X W e m) : JS X W (.Return (some e) pos) (sRet m) :=
  ⟨fun σ h A B l q => he.mono σ h _ _ _ _ l.rt (exOf.le l σ) q, PS.weak (ps_ret he.run) fun Dn σV H ⟨ι0, H0, ι, σ, h, e, hS, hH, q⟩ =>
    tE.stm he.mono e hS hH q fun d h1 ι1 v H1 q1 _ e1 hS1 hH1 r => q1 ι1 v H1 e1 hH1 r⟩
def sRetN : LS := fun _ h K => K.rt .non h
theorem js_retN {pos} : JS X W (.Return none pos) sRetN := ⟨fun σ h A B l q => l.rt _ _ q, PS.weak ps_retN fun Dn σV H ⟨ι0, H0, ι, σ, h, e, hS, hH, q⟩ => q ι .non H e hH rfl⟩
def sIf (t : LX Bool) (a b : LS) : LS := fun σ h K => t σ h (fun c h1 => if c = true then a σ h1 K else b σ h1 K) (exOf K σ)
theorem js_if {c : Expr} {a b : List Stmt} {T : LX Bool} {A B : LS} {pos : Pos} (ht : JT X W c T) (ha : JSs X W a A) (hb : JSs X W b B) : JS X W (.If c a b pos) (sIf T A B) := by
  refine ⟨fun σ h A' B' l q => ht.mono σ h _ _ _ _ ?_ (exOf.le l σ) q, PS.weak (ps_if ht.run ha.run hb.run) fun Dn σV H ⟨ι0, H0, ι, σ, h, e, hS, hH, q⟩ => ?_⟩
  · intro c h1 q1
    cases c with
    | true => rw [if_pos rfl] at q1 ⊢; exact ha.mono σ h1 _ _ l q1
    | false => rw [if_neg Bool.false_ne_true] at q1 ⊢; exact hb.mono σ h1 _ _ l q1
  · refine tT.stm ht.mono e hS hH q fun c h1 ι1 H1 q1 _ e1 hS1 hH1 => ?_
    cases c with
    | true => rw [if_pos rfl] at q1 ⊢; exact ⟨ι0, H0, ι1, σ, h1, e1, hS1, hH1, q1⟩
    | false => rw [if_neg Bool.false_ne_true] at q1 ⊢; exact ⟨ι0, H0, ι1, σ, h1, e1, hS1, hH1, q1⟩

/-! ### targets -/
abbrev LG := D → LV → LH → (LV → LH → Prop) → XL → Prop
def MonoG (g : LG) : Prop := ∀ d σ h (Q Q' : LV → LH → Prop) (E E' : XL), (∀ σ h, Q σ h → Q' σ h) → (∀ c fs h, E c fs h → E' c fs h) → g d σ h Q E → g d σ h Q' E'
/-- the exception's slots are those ahead of the store: a target that may raise stores nothing before -/
def tG (K : Frag) (W : WX) (g : LG) : TG := fun v σV H Qv => ∃ ι σ h d, RelS K ι H σ σV ∧ RelH K ι H h ∧ RelD K ι H d v ∧
  g d σ h (fun σ' h' => ∀ ι' σV' H', Ext ι H ι' H' → RelS K ι' H' σ' σV' → RelH K ι' H' h' → Qv σV' H') (fun c fs h' => ∀ ι' dx σV' H', Ext ι H ι' H' → RelS K ι' H' σ σV' → RelH K ι' H' h' → RelX K ι' H' fs dx → W (.ref (He.ga K c)) dx σV' H')
structure JG (X : Cx) (W : WX) (tg : Expr) (g : LG) : Prop where
  mono : MonoG g
  run : PG X tg (tG X.K W g)
theorem PG.weak {tg : Expr} {t t' : TG} (h : PG X tg t) (w : ∀ v σ H Q, t' v σ H Q → t v σ H Q) : PG X tg t' := ⟨fun pins s σ H v u Q I r q => h.run pins s σ H v u Q I r (w _ _ _ _ q)⟩
theorem RelS.set {K : Frag} {ι : Ad} {H : Hp} {σ : LV} {σV : L2.St} (hS : RelS K ι H σ σV) (i : Nat) {d : D} {v : V} (r : RelD K ι H d v) : RelS K ι H (σ.set i (some d)) (σV.set i (some v)) := by
  refine ⟨by simpa using hS.1, fun j d' q => ?_⟩
  by_cases z : i = j
  · subst z
    have l := (List.getElem?_eq_some_iff.mp q).1
    rw [List.length_set] at l
    rw [List.getElem?_set_self l] at q
    cases q
    exact ⟨v, by rw [List.getElem?_set_self (by rw [← hS.1]; exact l)], r⟩
  · rw [List.getElem?_set_ne z] at q
    obtain ⟨v', e, r'⟩ := hS.2 j d' q
    exact ⟨v', by rw [List.getElem?_set_ne z]; exact e, r'⟩
def gNm (i : Nat) : LG := fun d σ h Q _ => Q (σ.set i (some d)) h
theorem jg_name {i : Nat} {x : Str} {pos : Pos} (h : PG X (.Name x pos) (gName i)) : JG X W (.Name x pos) (gNm i) :=
  ⟨fun d σ h Q Q' E E' hQ _ q => hQ _ _ q, PG.weak h fun v σV H Q ⟨ι, σ, h, d, hS, hH, r, q⟩ => q ι _ H (.refl _ _) (hS.set i r) hH⟩
def sAsg (m : LE) (g : LG) : LS := fun σ h K => m σ h (fun d h1 => g d σ h1 K.nx (exOf K σ)) (exOf K σ)
theorem js_asg {tg e : Expr} {m : LE} {g : LG} {pos : Pos} (he : JE X W e m) (hg : JG X W tg g) (hs : swapsWithSole [tg] e pos.line X.env = pure false := by rfl) (hw : swappedStores [tg] e X.env = pure none := by rfl) (h1 : (assignEach [tg] X.env).map (·.2) = [assign tg X.env] := by rfl) : JS X W (.Assign [tg] e pos) (sAsg m g) := by
  refine ⟨fun σ h A B l q => he.mono σ h _ _ _ _ (fun d h1 q1 => hg.mono d σ h1 _ _ _ _ l.nx (exOf.le l σ) q1) (exOf.le l σ) q, PS.weak (ps_asg he.run hg.run hs hw h1) fun Dn σV H ⟨ι0, H0, ι, σ, h, e, hS, hH, q⟩ => ?_⟩
  refine tE.stm he.mono e hS hH q fun d h1 ι1 v H1 q1 _ e1 hS1 hH1 r => ⟨ι1, σ, h1, d, hS1, hH1, r, ?_⟩
  exact hg.mono d σ h1 _ _ _ _ (fun σ' h' q' ι' σV' H' e' hS' hH' => q' ι' σV' H' (e1.trans e') hS' hH') (fun c fs h' q' ι' dx σV' H' e' hS' hH' r' => q' ι' dx σV' H' (e1.trans e') hS' hH' r') q1
theorem js_set {i : Nat} {x : Str} {e : Expr} {m : LE} {pos pos' : Pos} (he : JE X W e m) (h : ∀ {te : TE}, PE X e te → PS X (.Assign [.Name x pos'] e pos) (tAsg te (gName i))) : JS X W (.Assign [.Name x pos'] e pos) (sAsg m (gNm i)) := by
  refine ⟨fun σ h A B l q => he.mono σ h _ _ _ _ (fun d h1 q1 => l.nx _ _ q1) (exOf.le l σ) q, PS.weak (h he.run) fun Dn σV H ⟨ι0, H0, ι, σ, h, e, hS, hH, q⟩ => ?_⟩
  exact tE.stm he.mono e hS hH q fun d h1 ι1 v H1 q1 _ e1 hS1 hH1 r => q1 ι1 _ H1 e1 (hS1.set i r) hH1

/-! ### while -/
def sWhile (t : LX Bool) (b : LS) : LS := fun σ h K => ∃ I : Nat → LV → LH → Prop, (∃ m, I m σ h) ∧ ∀ m σ h, I m σ h → t σ h (fun c h1 => if c = true then
    b σ h1 { nx := fun σ' h' => ∃ m', m' < m ∧ I m' σ' h', ct := fun σ' h' => ∃ m', m' < m ∧ I m' σ' h', bk := K.nx, rt := K.rt, ex := K.ex } else K.nx σ h1) (exOf K σ)
theorem js_while {c : Expr} {body : List Stmt} {T : LX Bool} {B : LS} {pos : Pos} (hp : PassesOwn (model X.prog X.w) X.A X.env X.xe) (ht : JT X W c T) (hb : JSs X W body B) : JS X W (.While c body [] pos) (sWhile T B) := by
  refine ⟨fun σ h A B' l ⟨I, h0, hI⟩ => ⟨I, h0, fun m σ h q => ht.mono σ h _ _ _ _ ?_ (exOf.le l σ) (hI m σ h q)⟩, PS.weak (ps_while hp ht.run hb.run) fun Dn σV H ⟨ι0, H0, ι, σ, h, e, hS, hH, q⟩ => ?_⟩
  · intro c h1 q1
    cases c with
    | true => rw [if_pos rfl] at q1 ⊢; exact hb.mono σ h1 { A with nx := _, ct := _, bk := A.nx } { B' with nx := _, ct := _, bk := B'.nx } ⟨fun _ _ q => q, l.rt, l.nx, fun _ _ q => q, l.ex⟩ q1
    | false => rw [if_neg Bool.false_ne_true] at q1 ⊢; exact l.nx _ _ q1
  · obtain ⟨I, ⟨m0, h0⟩, hI⟩ := q
    refine ⟨fun m σV H => ∃ ι σ h, Ext ι0 H0 ι H ∧ RelS X.K ι H σ σV ∧ RelH X.K ι H h ∧ I m σ h, ⟨m0, ι, σ, h, e, hS, hH, h0⟩, ?_⟩
    rintro m σV1 H1 ⟨ι1, σ1, h1, e1, hS1, hH1, q1⟩
    refine tT.stm ht.mono e1 hS1 hH1 (hI m σ1 h1 q1) fun c h2 ι2 H2 q2 _ e2 hS2 hH2 => ?_
    cases c with
    | true =>
      rw [if_pos rfl] at q2 ⊢
      refine ⟨fun σV' H' => ∃ ι' σ' h', Ext ι0 H0 ι' H' ∧ RelS X.K ι' H' σ' σV' ∧ RelH X.K ι' H' h' ∧ ∃ m', m' < m ∧ I m' σ' h', fun σV' H' ⟨ι', σ', h', e', hS', hH', m', hm, q'⟩ => ⟨m', hm, ι', σ', h', e', hS', hH', q'⟩, ?_⟩
      refine ⟨ι0, H0, ι2, σ1, h2, e2, hS2, hH2, hb.mono σ1 h2 _ _ ?_ q2⟩
      exact ⟨fun σ' h' q' ι' σV' H' e' hS' hH' => ⟨ι', σ', h', e', hS', hH', q'⟩, fun _ _ q => q, fun _ _ q => q, fun σ' h' q' ι' σV' H' e' hS' hH' => ⟨ι', σ', h', e', hS', hH', q'⟩, fun _ _ _ _ q => q⟩
    | false => rw [if_neg Bool.false_ne_true] at q2 ⊢; exact q2 ι2 σV1 H2 e2 hS2 hH2

/-! ### for -/
/-- what is walked: the items, and what must stay true of the heap meanwhile -/
structure LIt where
  items : List D
  ok : LH → Prop
structure ItRel (K : Frag) (ι1 : Ad) (H1 : Hp) (J : LIt) (Jv : It) : Prop where
  stop : ∀ ι H h, Ext ι1 H1 ι H → RelH K ι H h → J.ok h → Jv.stop J.items.length H
  go : ∀ i x ι H h, J.items[i]? = some x → Ext ι1 H1 ι H → RelH K ι H h → J.ok h → Jv.go i H ∧ ∀ v H', Jv.yld i H v H' → Ext ι H ι H' ∧ RelH K ι H' h ∧ RelD K ι H' x v
abbrev LI := LX LIt
def tI (K : Frag) (W : WX) (m : LI) : TI := tX K W (fun ι H J Jv => ItRel K ι H J Jv) m
structure JI (X : Cx) (W : WX) (tg iter : Expr) (m : LI) : Prop where
  mono : Mono m
  run : PI X tg iter (tI X.K W m)
/-- later moments of the iteration -/
def sFor (m : LI) (g : LG) (b : LS) : LS := fun σ h K => m σ h (fun J h1 => ∃ I : Nat → LV → LH → Prop, I 0 σ h1 ∧ (∀ i σ h, i ≤ J.items.length → I i σ h → J.ok h) ∧
    (∀ i x σ h, J.items[i]? = some x → I i σ h → g x σ h (fun σ2 h2 => b σ2 h2 { nx := I (i + 1), ct := I (i + 1), bk := K.nx, rt := K.rt, ex := K.ex }) (exOf K σ)) ∧
    ∀ σ h, I J.items.length σ h → K.nx σ h) (exOf K σ)
theorem PI.weak {tg iter : Expr} {t t' : TI} (h : PI X tg iter t) (w : ∀ σ H Q, t' σ H Q → t σ H Q) : PI X tg iter t' := ⟨fun pins s σ H R I q => h.run pins s σ H R I (w _ _ _ q)⟩
theorem js_for {tg iter : Expr} {body : List Stmt} {m : LI} {g : LG} {B : LS} {pos : Pos} (hp : PassesOwn (model X.prog X.w) X.A X.env X.xe) (hc : X.calm = true) (hi : JI X W tg iter m) (hg : JG X W tg g) (hb : JSs X W body B)
    (hs : ∀ x, foldedSetIterable iter X.env x = pure x := by intro _; rfl) : JS X W (.For tg iter body [] pos) (sFor m g B) := by
  refine ⟨fun σ h A B' l q => hi.mono σ h _ _ _ _ ?_ (exOf.le l σ) q, PS.weak (ps_for hp hc hi.run hg.run hb.run hs) fun Dn σV H ⟨ι0, H0, ι, σ, h, e, hS, hH, q⟩ => ?_⟩
  · rintro J h1 ⟨I, h0, hok, hstep, hend⟩
    refine ⟨I, h0, hok, fun i x σ h e q => hg.mono x σ h _ _ _ _ (fun σ2 h2 q2 => hb.mono σ2 h2 { A with nx := _, ct := _, bk := A.nx } { B' with nx := _, ct := _, bk := B'.nx } ⟨fun _ _ q => q, l.rt, l.nx, fun _ _ q => q, l.ex⟩ q2) (exOf.le l σ) (hstep i x σ h e q), fun σ h q => l.nx _ _ (hend σ h q)⟩
  · refine tX.into hi.mono hS hH q (fun J h1 ι1 Jv H1 q1 e1 hH1 r => ?_) (fun c fs h1 ι1 dx H1 q1 e1 hH1 r => q1 ι1 dx σV H1 (e.trans e1) (hS.ext e1) hH1 r)
    obtain ⟨I, h0, hok, hstep, hend⟩ := q1
    refine ⟨fun i k σV' H' => k = J.items.length - i ∧ i ≤ J.items.length ∧ ∃ ι' σ' h', Ext ι0 H0 ι' H' ∧ Ext ι1 H1 ι' H' ∧ RelS X.K ι' H' σ' σV' ∧ RelH X.K ι' H' h' ∧ I i σ' h', ⟨_, rfl, Nat.zero_le _, ι1, σ, h1, e.trans e1, .refl _ _, hS.ext e1, hH1, h0⟩, ?_⟩
    rintro i k σV2 H2 ⟨rfl, hi2, ι2, σ2, h2, e2, f2, hS2, hH2, q2⟩
    have ok2 := hok i σ2 h2 hi2 q2
    by_cases hlt : i < J.items.length
    · obtain ⟨x, hx⟩ : ∃ x, J.items[i]? = some x := ⟨_, List.getElem?_eq_getElem hlt⟩
      obtain ⟨go, yl⟩ := r.go i x ι2 H2 h2 hx f2 hH2 ok2
      refine .inr ⟨go, fun σV' H' => ∃ ι' σ' h', Ext ι0 H0 ι' H' ∧ Ext ι1 H1 ι' H' ∧ RelS X.K ι' H' σ' σV' ∧ RelH X.K ι' H' h' ∧ I (i + 1) σ' h', fun σV' H' q' => ⟨_, by omega, rfl, hlt, q'⟩, fun v H3 y => ?_⟩
      obtain ⟨e3, hH3, r3⟩ := yl v H3 y
      have e03 := e2.trans e3
      refine ⟨ι2, σ2, h2, x, hS2.ext e3, hH3, r3, ?_⟩
      refine hg.mono x σ2 h2 _ _ _ _ (fun σ3 h3 q3 ι3 σV3 H4 e4 hS4 hH4 => ?_) (fun c fs h3 q3 ι3 dx σV3 H4 e4 hS4 hH4 r4 => q3 ι3 dx σV3 H4 (e03.trans e4) hS4 hH4 r4) (hstep i x σ2 h2 hx q2)
      refine ⟨ι1, H1, ι3, σ3, h3, f2.trans (e3.trans e4), hS4, hH4, hb.mono σ3 h3 _ _ ?_ q3⟩
      have e01 := e.trans e1
      exact ⟨fun σ' h' q' ι' σV' H' e' hS' hH' => ⟨ι', σ', h', e01.trans e', e', hS', hH', q'⟩, fun d h' q' ι' v' H' e' hH' r' => q' ι' v' H' (e01.trans e') hH' r', fun σ' h' q' ι' σV' H' e' hS' hH' => q' ι' σV' H' (e01.trans e') hS' hH',
        fun σ' h' q' ι' σV' H' e' hS' hH' => ⟨ι', σ', h', e01.trans e', e', hS', hH', q'⟩, fun c fs σ' h' q' ι' dx σV' H' e' hS' hH' r' => q' ι' dx σV' H' (e01.trans e') hS' hH' r'⟩
    · have ei : i = J.items.length := by omega
      subst ei
      exact .inl ⟨r.stop ι2 H2 h2 f2 hH2 ok2, hend σ2 h2 q2 ι2 σV2 H2 e2 hS2 hH2⟩
end LL
end

section
set_option Elab.async false
set_option linter.all false
set_option maxRecDepth 100000
set_option maxHeartbeats 1000000
/-! LLMore: None, chains, fields, subscripts, slices, stores, augmented stores, list methods. -/
namespace LL
open PySem PySem.Spec PyProof.Rows L2
variable {X : Cx} {W : WX}

/-! ### is None -/
def D.isNon : D → Bool | .non => true | _ => false
theorem RelD.isNon {K : Frag} {ι : Ad} {H : Hp} {d : D} {v : V} (r : RelD K ι H d v) : decide (v = V.non) = d.isNon := by
  cases d with
  | non => cases r; rfl
  | bl _ => cases r; rfl
  | int _ => cases r; rfl
  | str _ => cases r; rfl
  | tup _ => obtain ⟨a, vs, rfl, _⟩ := r; rfl
  | lst _ => obtain ⟨a, vs, rfl, _⟩ := r; rfl
  | ob _ _ _ => obtain ⟨a, dx, vs, rfl, _⟩ := r; rfl
  | ref _ => obtain ⟨a, _, rfl⟩ := r; rfl
def oIsN : LOp := fun x y h Q => match y with | .non => Q (.bl x.isNon) h | _ => False
def oNotN : LOp := fun x y h Q => match y with | .non => Q (.bl (!x.isNon)) h | _ => False
theorem opsIsN {K : Frag} : OpS K (fun x y H Q => y = .non ∧ Q (.bl (decide (x = .non))) H) oIsN := by
  refine ⟨fun x y h Q Q' hQ q => ?_, fun ι H h x y vx vy Q Qv hH rx ry q k => ?_⟩
  · unfold oIsN at *; split at q <;> first | exact hQ _ _ q | exact q.elim
  · unfold oIsN at q
    split at q
    · exact ⟨ry, by rw [rx.isNon]; exact k _ h ι _ H q (.refl _ _) hH rfl⟩
    · exact q.elim
theorem opsNotN {K : Frag} : OpS K (fun x y H Q => y = .non ∧ Q (.bl (!decide (x = .non))) H) oNotN := by
  refine ⟨fun x y h Q Q' hQ q => ?_, fun ι H h x y vx vy Q Qv hH rx ry q k => ?_⟩
  · unfold oNotN at *; split at q <;> first | exact hQ _ _ q | exact q.elim
  · unfold oNotN at q
    split at q
    · exact ⟨ry, by rw [rx.isNon]; exact k _ h ι _ H q (.refl _ _) hH rfl⟩
    · exact q.elim
section
variable {a b : Expr} {A B : LE} {pos : Pos}
theorem je_isN (ha : JE X W a A) (hb : JE X W b B) : JE X W (.Compare a [.Is] [b] pos) (eOp oIsN A B) := je_cmp op_isN opsIsN ha hb (nomark _)
theorem je_notN (ha : JE X W a A) (hb : JE X W b B) : JE X W (.Compare a [.IsNot] [b] pos) (eOp oNotN A B) := je_cmp op_notN opsNotN ha hb (nomark _)
theorem jt_isN (ha : JE X W a A) (hb : JE X W b B) : JT X W (.Compare a [.Is] [b] pos) (eTest (eOp oIsN A B)) := jt_cmp op_isN opsIsN ha hb (nomark _)
theorem jt_notN (ha : JE X W a A) (hb : JE X W b B) : JT X W (.Compare a [.IsNot] [b] pos) (eTest (eOp oNotN A B)) := jt_cmp op_notN opsNotN ha hb (nomark _)
end

/-! ### chains a op b op c -/
def eChain (o o' : LOp) (a b c : LE) : LE := fun σ h Q E => a σ h (fun x h1 => b σ h1 (fun y h2 => o x y h2 (fun z h3 => ∃ k, z = .bl k ∧
  if k = true then c σ h3 (fun w h4 => o' y w h4 Q) E else Q (.bl false) h3)) E) E
section
variable {op op' : CmpOp} {r r' : R2} {o o' : LOp} {a b c : Expr} {A B C : LE} {pos : Pos}
theorem mono_chain (hs : OpS X.K r o) (hs' : OpS X.K r' o') (ha : Mono A) (hb : Mono B) (hc : Mono C) : Mono (eChain o o' A B C) := fun σ h Q Q' E E' hQ hE q =>
  ha σ h _ _ _ _ (fun x h1 q1 => hb σ h1 _ _ _ _ (fun y h2 q2 => hs.mono _ _ _ _ _ (fun z h3 ⟨k, e, q3⟩ => ⟨k, e, by
    cases k with
    | true => rw [if_pos rfl] at q3 ⊢; exact hc σ h3 _ _ _ _ (fun w h4 q4 => hs'.mono _ _ _ _ _ hQ q4) hE q3
    | false => rw [if_neg Bool.false_ne_true] at q3 ⊢; exact hQ _ _ q3⟩) q2) hE q1) hE q
theorem chain_run (hs : OpS X.K r o) (hs' : OpS X.K r' o') (ha : Mono A) (hb : Mono B) (hc : Mono C) {σV : L2.St} {H : Hp} {Q : VK} (q : tE X.K W (eChain o o' A B C) σV H Q) : tChain r r' (tE X.K W A) (tE X.K W B) (tE X.K W C) σV H Q := by
  obtain ⟨ι, σ, h, hS, hH, q⟩ := q
  refine tX.into ha hS hH q (fun x h1 ι1 vx H1 q1 e1 hH1 rx => ?_) (fun c fs h1 ι1 dx H1 q1 => q1 ι1 dx H1)
  refine tX.into hb (hS.ext e1) hH1 q1 (fun y h2 ι2 vy H2 q2 e2 hH2 ry => ?_) (fun c fs h2 ι2 dx H2 q2 e2 => q2 ι2 dx H2 (e1.trans e2))
  refine hs.run ι2 H2 h2 x y vx vy _ _ hH2 (rx.ext e2) ry q2 fun z h3 ι3 v3 H3 ⟨k, e, q3⟩ e3 hH3 r3 => ?_
  subst e
  have e03 := e1.trans (e2.trans e3)
  refine ⟨k, r3, ?_⟩
  cases k with
  | true =>
    rw [if_pos rfl] at q3 ⊢
    refine tX.into hc (hS.ext e03) hH3 q3 (fun w h4 ι4 vw H4 q4 e4 hH4 rw' => ?_) (fun c fs h4 ι4 dx H4 q4 e4 => q4 ι4 dx H4 (e03.trans e4))
    exact hs'.run ι4 H4 h4 y w vy vw _ _ hH4 (ry.ext (e3.trans e4)) rw' q4 fun d h' ι' v H' q5 e5 => q5 ι' v H' (e03.trans (e4.trans e5))
  | false => rw [if_neg Bool.false_ne_true] at q3 ⊢; exact q3 ι3 _ H3 e03 hH3 rfl
theorem je_chain (ho : OpR X (compareOp op) r) (ho' : OpR X (compareOp op') r') (hs : OpS X.K r o) (hs' : OpS X.K r' o') (ha : JE X W a A) (hb : JE X W b B) (hc : JE X W c C) (hm : lastMarks [op, op'] [b, c] = false := by with_unfolding_all rfl) :
    JE X W (.Compare a [op, op'] [b, c] pos) (eChain o o' A B C) :=
  ⟨mono_chain hs hs' ha.mono hb.mono hc.mono, PE.weak (pe_chain ho ho' ha.run hb.run hc.run hm) fun _ _ _ q => chain_run hs hs' ha.mono hb.mono hc.mono q⟩
theorem jt_chain (ho : OpR X (compareOp op) r) (ho' : OpR X (compareOp op') r') (hs : OpS X.K r o) (hs' : OpS X.K r' o') (ha : JE X W a A) (hb : JE X W b B) (hc : JE X W c C) (hm : lastMarks [op, op'] [b, c] = false := by with_unfolding_all rfl) :
    JT X W (.Compare a [op, op'] [b, c] pos) (eTest (eChain o o' A B C)) :=
  ⟨mono_test (mono_chain hs hs' ha.mono hb.mono hc.mono), PT.weak (pt_chain ho ho' ha.run hb.run hc.run hm) fun _ _ _ q => chain_run (W := W) hs hs' ha.mono hb.mono hc.mono (test_run (mono_chain hs hs' ha.mono hb.mono hc.mono) q)⟩
abbrev oiLt : ∀ {K : Frag}, OpS K (rI0 fun i j => .bl (decide (i < j))) oLt := opsI0 fun _ _ _ _ => rfl
abbrev oiLe : ∀ {K : Frag}, OpS K (rI0 fun i j => .bl (decide (i ≤ j))) oLe := opsI0 fun _ _ _ _ => rfl
end

/-! ### fields -/
theorem RelFs.look {K : Frag} {ι : Ad} {H : Hp} {f : Str} {d : D} : ∀ {fs : List (Str × D)} {vs : List (Str × V)}, RelFs K ι H fs vs → fs.lookup f = some d → ∃ v, vs.lookup f = some v ∧ RelD K ι H d v
  | [], _, _, e => by cases e
  | (g, d') :: fs, _, ⟨v, r, h1, h2, h3⟩, e => by
    subst h1
    rw [List.lookup_cons] at e ⊢
    cases q : (f == g) with
    | true => rw [q] at e; cases e; exact ⟨v, rfl, h2⟩
    | false => rw [q] at e; exact RelFs.look h3 e
theorem RelFs.zip {K : Frag} {ι : Ad} {H : Hp} : ∀ {ns : List Str} {ds : List D} {vs : List V}, ns.length = ds.length → RelDs K ι H ds vs → RelFs K ι H (ns.zip ds) (ns.zip vs)
  | [], [], _, _, h => by cases h; exact rfl
  | n :: ns, d :: ds, _, l, ⟨v, r, h1, h2, h3⟩ => by subst h1; exact ⟨v, _, rfl, h2, RelFs.zip (by simpa using l) h3⟩
def putD (f : Str) (d : D) : List (Str × D) → List (Str × D)
  | [] => [(f, d)]
  | (g, e) :: r => if g = f then (g, d) :: r else (g, e) :: putD f d r
theorem RelFs.put {K : Frag} {ι : Ad} {H : Hp} {f : Str} {d : D} {v : V} (r : RelD K ι H d v) : ∀ {fs : List (Str × D)} {vs : List (Str × V)}, RelFs K ι H fs vs → RelFs K ι H (putD f d fs) (putF f v vs)
  | [], _, h => by cases h; exact ⟨v, [], rfl, r, rfl⟩
  | (g, d') :: fs, _, ⟨u, us, h1, h2, h3⟩ => by
    subst h1
    unfold putD putF
    split
    · exact ⟨v, us, rfl, r, h3⟩
    · exact ⟨u, _, rfl, h2, RelFs.put r h3⟩
theorem RelFs.length {K : Frag} {ι : Ad} {H : Hp} : ∀ {fs : List (Str × D)} {vs : List (Str × V)}, RelFs K ι H fs vs → fs.length = vs.length
  | [], _, h => by cases h; rfl
  | _ :: _, _, ⟨v, r, h1, _, h3⟩ => by subst h1; simp [RelFs.length h3]
/-- what a class is known to have -/
structure CF (K : Frag) (C f : Str) : Prop where
  c : Cls K (He.ga K C)
  n : NoAttr K (He.ga K C) f
/-- the field f of an instance of one of the classes Cs -/
def getF (Cs : List Str) (f : Str) (d : D) (h : LH) (Q : D → LH → Prop) : Prop := match d with
  | .ob C ns ds => C ∈ Cs ∧ ∃ v, (ns.zip ds).lookup f = some v ∧ Q v h
  | .ref n => match h[n]? with
    | some (.ins C fs) => C ∈ Cs ∧ ∃ v, fs.lookup f = some v ∧ Q v h
    | _ => False
  | _ => False
theorem getF_mono {Cs : List Str} {f : Str} {d : D} {h : LH} {Q Q' : D → LH → Prop} (hQ : ∀ d h, Q d h → Q' d h) (q : getF Cs f d h Q) : getF Cs f d h Q' := by
  unfold getF at *
  split at q
  · obtain ⟨c, v, e, q⟩ := q; exact ⟨c, v, e, hQ _ _ q⟩
  · split at q
    · obtain ⟨c, v, e, q⟩ := q; exact ⟨c, v, e, hQ _ _ q⟩
    · exact q.elim
  · exact q.elim
theorem getF_run {K : Frag} {Cs : List Str} {f : Str} (hc : ∀ C ∈ Cs, CF K C f) {ι : Ad} {H : Hp} {h : LH} {d : D} {v : V} {Q : D → LH → Prop} (hH : RelH K ι H h) (r : RelD K ι H d v) (q : getF Cs f d h Q) :
    ∃ a C dx fs d' v', v = .ref a ∧ H a = some (.ins C dx fs) ∧ Cls K C ∧ NoAttr K C f ∧ fs.lookup f = some v' ∧ RelD K ι H d' v' ∧ Q d' h := by
  unfold getF at q
  split at q
  · rename_i C ns ds
    obtain ⟨c, d', e, q⟩ := q
    obtain ⟨a, dx, vs, rfl, _, h2, h3, h4⟩ := r
    obtain ⟨v', e', r'⟩ := (RelFs.zip h3 h4).look e
    exact ⟨a, _, dx, _, d', v', rfl, h2, (hc C c).c, (hc C c).n, e', r', q⟩
  · rename_i n
    split at q
    · rename_i C fs ho
      obtain ⟨c, d', e, q⟩ := q
      obtain ⟨a, ha, rfl⟩ := r
      obtain ⟨dx, vs, h1, h2⟩ := hH.ins ha ho
      obtain ⟨v', e', r'⟩ := h2.look e
      exact ⟨a, _, dx, _, d', v', rfl, h1, (hc C c).c, (hc C c).n, e', r', q⟩
    · exact q.elim
  · exact q.elim
def eFld (Cs : List Str) (f : Str) (m : LE) : LE := fun σ h Q E => m σ h (fun d h1 => getF Cs f d h1 Q) E
theorem je_fld {Cs : List Str} {f : Str} {e : Expr} {m : LE} {pos : Pos} (hc : ∀ C ∈ Cs, CF X.K C f) (he : JE X W e m) (hb : attributeBase e f X.env (eval e X.env) = eval e X.env := by rfl) : JE X W (.Attribute e f pos) (eFld Cs f m) := by
  refine ⟨fun σ h Q Q' E E' hQ hE q => he.mono σ h _ _ _ _ (fun d h1 q1 => getF_mono hQ q1) hE q, PE.weak (pe_fld he.run hb) fun σV H Q ⟨ι, σ, h, hS, hH, q⟩ => ?_⟩
  refine tX.into he.mono hS hH q (fun d h1 ι1 v H1 q1 e1 hH1 r => ?_) (fun c fs h1 ι1 dx H1 q1 => q1 ι1 dx H1)
  obtain ⟨a, C, dx, fs, d', v', h1, h2, h3, h4, h5, h6, h7⟩ := getF_run hc hH1 r q1
  exact ⟨a, C, dx, fs, v', h1, h2, h3, h4, h5, h7 ι1 v' H1 e1 hH1 h6⟩
/-- the field f of the instance d is stored -/
def setF (Cs : List Str) (f : Str) (d v : D) (h : LH) (Q : LH → Prop) : Prop := match d with
  | .ref n => match h[n]? with
    | some (.ins C fs) => C ∈ Cs ∧ fs.length < 1000 ∧ Q (h.set n (.ins C (putD f v fs)))
    | _ => False
  | _ => False
theorem setF_mono {Cs : List Str} {f : Str} {d v : D} {h : LH} {Q Q' : LH → Prop} (hQ : ∀ h, Q h → Q' h) (q : setF Cs f d v h Q) : setF Cs f d v h Q' := by
  unfold setF at *
  split at q
  · split at q
    · exact ⟨q.1, q.2.1, hQ _ q.2.2⟩
    · exact q.elim
  · exact q.elim
theorem setF_run {K : Frag} {Cs : List Str} {f : Str} (hc : ∀ C ∈ Cs, CF K C f) {ι : Ad} {H : Hp} {h : LH} {d y : D} {v vy : V} {Q : LH → Prop} (hH : RelH K ι H h) (r : RelD K ι H d v) (ry : RelD K ι H y vy) (q : setF Cs f d y h Q) :
    ∃ a C dx fs h', v = .ref a ∧ H a = some (.ins C dx fs) ∧ Cls K C ∧ NoAttr K C f ∧ fs.length < 1000 ∧ Ext ι H ι (upd H a (.ins C dx (putF f vy fs))) ∧ RelH K ι (upd H a (.ins C dx (putF f vy fs))) h' ∧ Q h' := by
  unfold setF at q
  split at q
  · rename_i n
    split at q
    · rename_i C fs ho
      obtain ⟨c, l, q⟩ := q
      obtain ⟨a, ha, rfl⟩ := r
      obtain ⟨dx, vs, h1, h2⟩ := hH.ins ha ho
      have ex : Ext ι H ι (upd H a (.ins (He.ga K C) dx (putF f vy vs))) := Ext.write hH ha (by rw [h1]; trivial) trivial
      exact ⟨a, _, dx, _, _, rfl, h1, (hc C c).c, (hc C c).n, by rw [← h2.length]; exact l, ex, hH.write (o := .ins C (putD f y fs)) ha (by rw [h1]; trivial) ex ⟨dx, _, upd_same, (h2.ext ex).put (ry.ext ex)⟩, q⟩
    · exact q.elim
  · exact q.elim
def sFldA (Cs : List Str) (f : Str) (m o : LE) : LS := fun σ h K => m σ h (fun y h1 => o σ h1 (fun d h2 => setF Cs f d y h2 (K.nx σ)) (exOf K σ)) (exOf K σ)
theorem js_fld {Cs : List Str} {f : Str} {o value : Expr} {A V' : LE} {pos pos' : Pos} (hc : ∀ C ∈ Cs, CF X.K C f) (hv : JE X W value V') (ho : JE X W o A) (hs : swapsWith value (some (.Attribute o f pos')) pos.line X.env = pure false := by rfl) :
    JS X W (.Assign [.Attribute o f pos'] value pos) (sFldA Cs f V' A) := by
  refine ⟨fun σ h A' B l q => hv.mono σ h _ _ _ _ (fun y h1 q1 => ho.mono σ h1 _ _ _ _ (fun d h2 q2 => setF_mono (fun _ q3 => l.nx _ _ q3) q2) (exOf.le l σ) q1) (exOf.le l σ) q, PS.weak (ps_fld ho.run hv.run hs) fun Dn σV H ⟨ι0, H0, ι, σ, h, e, hS, hH, q⟩ => ?_⟩
  refine tE.stm hv.mono e hS hH q fun y h1 ι1 vy H1 q1 _ e1 hS1 hH1 ry => tE.stm ho.mono e1 hS1 hH1 q1 fun d h2 ι2 v H2 q2 f2 e2 hS2 hH2 r => ?_
  obtain ⟨a, C, dx, fs, h', z1, z2, z3, z4, z5, ex, hH3, q3⟩ := setF_run hc hH2 r (ry.ext f2) q2
  exact ⟨a, C, dx, fs, z1, z2, z3, z4, z5, q3 ι2 σV _ (e2.trans ex) (hS2.ext ex) hH3⟩
/-- e.f as a target -/
def gFld (K : Frag) (to : TE) (f : Str) : TG := fun v σ H Q => to σ H fun o H1 => ∃ a C dx fs, o = .ref a ∧ H1 a = some (.ins C dx fs) ∧ Cls K C ∧ NoAttr K C f ∧ fs.length < 1000 ∧ Q σ (upd H1 a (.ins C dx (putF f v fs)))
theorem pg_fld {o : Expr} {f : Str} {pos : Pos} {to : TE} (ho : PE X o to) : PG X (.Attribute o f pos) (gFld X.K to f) := by
  refine ⟨fun pins s σ H v u Q I r h => ?_⟩
  refine PySem.W.kas_attr (thn (ho.run pins s σ H _ I h) fun ov s1 ⟨x, H1, I1, r1, a, C, dx, fs, ex, ea, c, n, l, q⟩ => ?_)
  subst ex
  obtain rfl : ov = Value.ref a := r1
  exact setattr_ok I1 ea c n l r fun s2 I2 => ⟨σ, _, I2, q⟩
def gFd (Cs : List Str) (f : Str) (o : LE) : LG := fun d σ h Q E => o σ h (fun x h1 => setF Cs f x d h1 (Q σ)) E
theorem jg_fld {Cs : List Str} {f : Str} {o : Expr} {A : LE} {pos : Pos} (hc : ∀ C ∈ Cs, CF X.K C f) (ho : JE X W o A) : JG X W (.Attribute o f pos) (gFd Cs f A) := by
  refine ⟨fun d σ h Q Q' E E' hQ hE q => ho.mono σ h _ _ _ _ (fun x h1 q1 => setF_mono (fun _ q2 => hQ _ _ q2) q1) hE q, PG.weak (pg_fld ho.run) fun v σV H Q ⟨ι, σ, h, d, hS, hH, r, q⟩ => ?_⟩
  refine tX.into ho.mono hS hH q (fun x h1 ι1 vx H1 q1 e1 hH1 rx => ?_) (fun c fs h1 ι1 dx H1 q1 e1 => q1 ι1 dx σV H1 e1 (hS.ext e1))
  obtain ⟨a, C, dx, fs, h', z1, z2, z3, z4, z5, ex, hH3, q3⟩ := setF_run hc hH1 rx (r.ext e1) q1
  exact ⟨a, C, dx, fs, z1, z2, z3, z4, z5, q3 ι1 σV _ (e1.trans ex) (hS.ext (e1.trans ex)) hH3⟩
/-- (a, b, ..) as a target -/
def gNl : List D → LV → LH → (LV → LH → Prop) → XL → Prop := fun ds σ h Q _ => ds = [] ∧ Q σ h
def gCs (g : LG) (r : List D → LV → LH → (LV → LH → Prop) → XL → Prop) : List D → LV → LH → (LV → LH → Prop) → XL → Prop := fun ds σ h Q E => match ds with
  | d :: ds' => g d σ h (fun σ' h' => r ds' σ' h' Q E) E
  | [] => False
abbrev LGs := List D → LV → LH → (LV → LH → Prop) → XL → Prop
def MonoGs (g : LGs) : Prop := ∀ d σ h (Q Q' : LV → LH → Prop) (E E' : XL), (∀ σ h, Q σ h → Q' σ h) → (∀ c fs h, E c fs h → E' c fs h) → g d σ h Q E → g d σ h Q' E'
def NoW : WX := fun _ _ _ _ => False
/-- several targets: none of them may raise -/
def tGs (K : Frag) (g : LGs) : TGs := fun vs σV H Qv => ∃ ι σ h ds, RelS K ι H σ σV ∧ RelH K ι H h ∧ RelDs K ι H ds vs ∧
  g ds σ h (fun σ' h' => ∀ ι' σV' H', Ext ι H ι' H' → RelS K ι' H' σ' σV' → RelH K ι' H' h' → Qv σV' H') (fun _ _ _ => False)
structure JGs (X : Cx) (es : List Expr) (g : LGs) : Prop where
  mono : MonoGs g
  run : PGs X es (tGs X.K g)
theorem PGs.weak {es : List Expr} {t t' : TGs} (h : PGs X es t) (w : ∀ v σ H Q, t' v σ H Q → t v σ H Q) : PGs X es t' := ⟨fun pins s σ H v u Q I r q => h.run pins s σ H v u Q I r (w _ _ _ _ q)⟩
theorem jgs_nil : JGs X [] gNl := ⟨fun d σ h Q Q' E E' hQ hE q => ⟨q.1, hQ _ _ q.2⟩, PGs.weak pgs_nil fun vs σV H Q ⟨ι, σ, h, ds, hS, hH, r, e, q⟩ => by subst e; exact ⟨r, q ι σV H (.refl _ _) hS hH⟩⟩
theorem jgs_cons {e : Expr} {es : List Expr} {g : LG} {r : LGs} (hg : JG X W e g) (hr : JGs X es r) (hs : (assignEach (e :: es) X.env).map (·.2) = assign e X.env :: (assignEach es X.env).map (·.2) := by rfl) : JGs X (e :: es) (gCs g r) := by
  refine ⟨fun d σ h Q Q' E E' hQ hE q => ?_, PGs.weak (pgs_cons hg.run hr.run hs) fun vs σV H Q ⟨ι, σ, h, ds, hS, hH, rs, q⟩ => ?_⟩
  · unfold gCs at *
    split at q
    · exact hg.mono _ _ _ _ _ _ _ (fun σ' h' q' => hr.mono _ _ _ _ _ _ _ hQ hE q') hE q
    · exact q.elim
  · unfold gCs at q
    split at q
    · rename_i d ds'
      obtain ⟨v, vr, rfl, r1, r2⟩ := rs
      refine ⟨v, vr, rfl, ι, σ, h, d, hS, hH, r1, hg.mono _ _ _ _ _ _ _ (fun σ' h' q' ι' σV' H' e' hS' hH' => ?_) (fun c fs h q => q.elim) q⟩
      exact ⟨ι', σ', h', ds', hS', hH', r2.ext e', hr.mono _ _ _ _ _ _ _ (fun σ2 h2 q2 ι2 σV2 H2 e2 => q2 ι2 σV2 H2 (e'.trans e2)) (fun _ _ _ q => q) q'⟩
    · exact q.elim
def gTp (n : Nat) (r : LGs) : LG := fun d σ h Q _ => match d with
  | .tup ds => ds.length = n ∧ r ds σ h Q (fun _ _ _ => False)
  | _ => False
theorem jg_tup {es : List Expr} {k n : Nat} {r : LGs} {pos : Pos} (hc : X.calm = true) (h : JGs X es r) (hn : (assignEach es X.env).length = n := by rfl) (hst : (assignEach es X.env).findIdx? (·.1) = none := by rfl) :
    JG X W (.Tuple es k pos) (gTp n r) := by
  refine ⟨fun d σ h' Q Q' E E' hQ hE q => ?_, PG.weak (pg_tup hc h.run hn hst) fun v σV H Q ⟨ι, σ, h', d, hS, hH, rd, q⟩ => ?_⟩
  · unfold gTp at *
    split at q
    · exact ⟨q.1, h.mono _ _ _ _ _ _ _ hQ (fun _ _ _ q => q) q.2⟩
    · exact q.elim
  · unfold gTp at q
    split at q
    · rename_i ds
      obtain ⟨a, vs, rfl, ht, rs⟩ := rd
      exact ⟨a, vs, rfl, ht, by rw [← rs.length]; exact q.1, ι, σ, h', ds, hS, hH, rs, q.2⟩
    · exact q.elim

/-! ### subscripts -/
def atD (ds : List D) (i : Int) : Option D := atI ds i
theorem RelDs.atI {K : Frag} {ι : Ad} {H : Hp} {ds : List D} {vs : List V} {i : Int} {d : D} (r : RelDs K ι H ds vs) (e : atI ds i = some d) : ∃ v, L2.atI vs i = some v ∧ RelD K ι H d v := by
  unfold L2.atI at *
  rw [← r.length]
  cases q : ixN ds.length i with
  | none => rw [q] at e; cases e
  | some j => rw [q] at e; exact r.get e
/-- a list that is read: a frozen one, or an object -/
def seqL (d : D) (h : LH) (Q : List D → Prop) : Prop := match d with
  | .lst ds => Q ds
  | .ref n => match h[n]? with
    | some (.lst ds) => Q ds
    | _ => False
  | _ => False
theorem seqL_mono {d : D} {h : LH} {Q Q' : List D → Prop} (hQ : ∀ ds, Q ds → Q' ds) (q : seqL d h Q) : seqL d h Q' := by
  unfold seqL at *
  split at q
  · exact hQ _ q
  · split at q
    · exact hQ _ q
    · exact q.elim
  · exact q.elim
theorem seqL_run {K : Frag} {ι : Ad} {H : Hp} {h : LH} {d : D} {v : V} {Q : List D → Prop} (hH : RelH K ι H h) (r : RelD K ι H d v) (q : seqL d h Q) :
    ∃ a ds vs, v = .ref a ∧ SqL K H a vs ∧ RelDs K ι H ds vs ∧ Q ds := by
  unfold seqL at q
  split at q
  · obtain ⟨a, vs, rfl, h1, h2⟩ := r
    exact ⟨a, _, vs, rfl, h1.sq, h2, q⟩
  · split at q
    · rename_i ho
      obtain ⟨a, ha, rfl⟩ := r
      obtain ⟨vs, h1, h2⟩ := hH.lst ha ho
      exact ⟨a, _, vs, rfl, SqL.of h1, h2, q⟩
    · exact q.elim
  · exact q.elim
def seqA (d : D) (h : LH) (Q : List D → Prop) : Prop := match d with
  | .tup ds => Q ds
  | d => seqL d h Q
theorem seqA_mono {d : D} {h : LH} {Q Q' : List D → Prop} (hQ : ∀ ds, Q ds → Q' ds) (q : seqA d h Q) : seqA d h Q' := by
  unfold seqA at *
  split at q
  · exact hQ _ q
  · exact seqL_mono hQ q
theorem seqA_run {K : Frag} {ι : Ad} {H : Hp} {h : LH} {d : D} {v : V} {Q : List D → Prop} (hH : RelH K ι H h) (r : RelD K ι H d v) (q : seqA d h Q) :
    ∃ a ds vs, v = .ref a ∧ (SqL K H a vs ∨ SqT K H a vs) ∧ RelDs K ι H ds vs ∧ Q ds := by
  unfold seqA at q
  split at q
  · obtain ⟨a, vs, rfl, h1, h2⟩ := r
    exact ⟨a, _, vs, rfl, .inr h1, h2, q⟩
  · obtain ⟨a, ds, vs, h1, h2, h3, h4⟩ := seqL_run hH r q
    exact ⟨a, ds, vs, h1, .inl h2, h3, h4⟩
def oIx : LOp := fun x y h Q => match y with
  | .int i => seqA x h fun ds => ∃ d, atI ds i = some d ∧ Q d h
  | _ => False
theorem opsIx {K : Frag} : OpS K (rIx K) oIx := by
  refine ⟨fun x y h Q Q' hQ q => ?_, fun ι H h x y vx vy Q Qv hH rx ry q k => ?_⟩
  · unfold oIx at *
    split at q
    · exact seqA_mono (fun ds ⟨d, e, q⟩ => ⟨d, e, hQ _ _ q⟩) q
    · exact q.elim
  · unfold oIx at q
    split at q
    · rename_i i
      obtain rfl : vy = .int i := ry
      obtain ⟨a, ds, vs, rfl, h1, h2, d, e, q⟩ := seqA_run hH rx q
      obtain ⟨v, e', r'⟩ := h2.atI e
      have fin := k d h ι v H q (.refl _ _) hH r'
      rcases h1 with h1 | h1
      · exact .inl ⟨a, vs, i, v, rfl, rfl, h1, e', fin⟩
      · exact .inr (.inl ⟨a, vs, i, v, rfl, rfl, h1, e', fin⟩)
    · exact q.elim
theorem je_ix {a b : Expr} {A B : LE} {pos : Pos} (ha : JE X W a A) (hb : JE X W b B) (hs : PlainIx b := by intro _ _; rfl) : JE X W (.Subscript a b pos) (eOp oIx A B) :=
  ⟨mono_op (opsIx (K := X.K)).mono ha.mono hb.mono, PE.weak (pe_ix ix_seq ha.run hb.run hs) fun _ _ _ q => op_run opsIx ha.mono hb.mono q⟩

/-! ### slices -/
abbrev LO := LX (Option Int)
structure JO (X : Cx) (W : WX) (e : Option Expr) (m : LO) : Prop where
  mono : Mono m
  run : PO X e (tX X.K W (fun _ _ a b => a = b) m)
def eNoPart : LO := fun _ h Q _ => Q none h
def eSomePart (m : LE) : LO := fun σ h Q E => m σ h (fun d h1 => match d with | .int i => Q (some i) h1 | _ => False) E
theorem PO.weak {e : Option Expr} {t t' : TO} (h : PO X e t) (w : ∀ σ H Q, t' σ H Q → t σ H Q) : PO X e t' := ⟨fun pins s σ H Q I q => h.run pins s σ H Q I (w _ _ _ q)⟩
theorem jo_none : JO X W none eNoPart := ⟨fun _ _ _ _ _ _ hQ _ q => hQ _ _ q, PO.weak po_none fun σV H Q ⟨ι, σ, h, hS, hH, q⟩ => q ι none H (.refl _ _) hH rfl⟩
theorem jo_some {e : Expr} {m : LE} (he : JE X W e m) : JO X W (some e) (eSomePart m) := by
  refine ⟨fun σ h Q Q' E E' hQ hE q => he.mono σ h _ _ _ _ (fun d h1 q1 => ?_) hE q, PO.weak (po_some he.run) fun σV H Q ⟨ι, σ, h, hS, hH, q⟩ => ?_⟩
  · split at q1
    · exact hQ _ _ q1
    · exact q1.elim
  · refine tX.into he.mono hS hH q (fun d h1 ι1 v H1 q1 e1 hH1 r => ?_) (fun c fs h1 ι1 dx H1 q1 => q1 ι1 dx H1)
    split at q1
    · rename_i i
      exact ⟨i, r, q1 ι1 _ H1 e1 hH1 rfl⟩
    · exact q1.elim
def cutD (ds : List D) (lo hi : Option Int) : List D := (ds.drop (HT.sIx ds.length 0 lo)).take (HT.sIx ds.length ds.length hi - HT.sIx ds.length 0 lo)
theorem RelDs.cut {K : Frag} {ι : Ad} {H : Hp} {ds : List D} {vs : List V} (r : RelDs K ι H ds vs) (lo hi : Option Int) : RelDs K ι H (cutD ds lo hi) (cutV vs lo hi) := by
  unfold cutD cutV
  rw [r.length]
  exact (r.drop _).take _
/-- a slice of a list (a new one that nobody changes) or of a tuple -/
def eSl (m : LE) (lo hi : LO) : LE := fun σ h Q E => m σ h (fun x h1 => lo σ h1 (fun l h2 => hi σ h2 (fun u h3 => match x with
  | .tup ds => ¬ (HT.sIx ds.length 0 l = 0 ∧ HT.sIx ds.length ds.length u = ds.length) ∧ Q (.tup (cutD ds l u)) h3
  | d => seqL d h3 fun ds => Q (.lst (cutD ds l u)) h3) E) E) E
theorem je_sl {e : Expr} {lo hi : Option Expr} {m : LE} {l u : LO} {p2 pos : Pos} (he : JE X W e m) (hl : JO X W lo l) (hu : JO X W hi u) (h : ∀ {r : V → Option Int → Option Int → Hp → VK → Prop} {te : TE} {tl th : TO}, SlR X r → PE X e te → PO X lo tl → PO X hi th → PE X (.Subscript e (.Slice lo hi none p2) pos) (tSl r te tl th) := by exact fun a b c d => pe_slice a b c d) :
    JE X W (.Subscript e (.Slice lo hi none p2) pos) (eSl m l u) := by
  refine ⟨fun σ h Q Q' E E' hQ hE q => he.mono σ h _ _ _ _ (fun x h1 q1 => hl.mono σ h1 _ _ _ _ (fun l h2 q2 => hu.mono σ h2 _ _ _ _ (fun u h3 q3 => ?_) hE q2) hE q1) hE q, PE.weak (h (SlR.or sl_tup sl_list) he.run hl.run hu.run) fun σV H Q ⟨ι, σ, h, hS, hH, q⟩ => ?_⟩
  · split at q3
    · exact ⟨q3.1, hQ _ _ q3.2⟩
    · exact seqL_mono (fun ds q => hQ _ _ q) q3
  · refine tX.into he.mono hS hH q (fun x h1 ι1 vx H1 q1 e1 hH1 rx => ?_) (fun c fs h1 ι1 dx H1 q1 => q1 ι1 dx H1)
    refine tX.into hl.mono (hS.ext e1) hH1 q1 (fun l h2 ι2 lv H2 q2 e2 hH2 rl => ?_) (fun c fs h2 ι2 dx H2 q2 e2 => q2 ι2 dx H2 (e1.trans e2))
    refine tX.into hu.mono (hS.ext (e1.trans e2)) hH2 q2 (fun u h3 ι3 uv H3 q3 e3 hH3 ru => ?_) (fun c fs h3 ι3 dx H3 q3 e3 => q3 ι3 dx H3 (e1.trans (e2.trans e3)))
    subst rl ru
    have e03 := e1.trans (e2.trans e3)
    have rx3 := rx.ext (e2.trans e3)
    split at q3
    · rename_i ds
      obtain ⟨a, vs, rfl, ht, rs⟩ := rx3
      refine .inl ⟨a, vs, rfl, ht, by rw [← rs.length]; exact q3.1, fun p hp => ?_⟩
      have ex : Ext ι3 H3 ι3 (upd H3 p (.tup (cutV vs l u))) := Ext.new hp
      exact q3.2 ι3 _ _ (e03.trans ex) (hH3.new hp) ⟨p, _, rfl, SqT.of upd_same, (rs.cut l u).ext ex⟩
    · obtain ⟨a, ds, vs, rfl, hs, rs, q4⟩ := seqL_run hH3 rx3 q3
      refine .inr ⟨a, vs, rfl, hs, fun p hp => ?_⟩
      have ex : Ext ι3 H3 ι3 (upd H3 p (.lst (cutV vs l u))) := Ext.new hp
      exact q4 ι3 _ _ (e03.trans ex) (hH3.new hp) ⟨p, _, rfl, .inl ⟨upd_same, hH3.notNew hp⟩, (rs.cut l u).ext ex⟩

/-! ### stores into lists -/
def setL (o i v : D) (h : LH) (Q : LH → Prop) : Prop := match o, i with
  | .ref n, .int k => match h[n]? with
    | some (.lst ds) => ∃ j, ixN ds.length k = some j ∧ Q (h.set n (.lst (ds.set j v)))
    | _ => False
  | _, _ => False
theorem setL_mono {o i v : D} {h : LH} {Q Q' : LH → Prop} (hQ : ∀ h, Q h → Q' h) (q : setL o i v h Q) : setL o i v h Q' := by
  unfold setL at *
  split at q
  · split at q
    · obtain ⟨j, e, q⟩ := q; exact ⟨j, e, hQ _ q⟩
    · exact q.elim
  · exact q.elim
theorem setL_run {K : Frag} {ι : Ad} {H : Hp} {h : LH} {o i v : D} {vo vi vv : V} {Q : LH → Prop} {Qv : Hp → Prop} (hH : RelH K ι H h) (ro : RelD K ι H o vo) (ri : RelD K ι H i vi) (rv : RelD K ι H v vv) (q : setL o i v h Q)
    (k : ∀ h' H', Q h' → Ext ι H ι H' → RelH K ι H' h' → Qv H') : rSetL vo vi vv H Qv := by
  unfold setL at q
  split at q
  · rename_i n k'
    split at q
    · rename_i ds ho
      obtain ⟨j, e, q⟩ := q
      obtain ⟨a, ha, rfl⟩ := ro
      obtain rfl : vi = .int k' := ri
      obtain ⟨vs, h1, h2⟩ := hH.lst ha ho
      have ex : Ext ι H ι (upd H a (.lst (vs.set j vv))) := Ext.write hH ha (by rw [h1]; trivial) trivial
      exact ⟨a, vs, k', j, rfl, rfl, h1, by rw [← h2.length]; exact e, k _ _ q ex (hH.write (o := .lst (ds.set j v)) ha (by rw [h1]; trivial) ex ⟨_, upd_same, (h2.ext ex).set (rv.ext ex) j⟩)⟩
    · exact q.elim
  · exact q.elim
def gSb (o i : LE) : LG := fun d σ h Q E => o σ h (fun x h1 => i σ h1 (fun y h2 => setL x y d h2 (Q σ)) E) E
theorem jg_sub {o i : Expr} {A B : LE} {pos : Pos} (ho : JE X W o A) (hi : JE X W i B) (h : ∀ {to ti : TE}, PE X o to → PE X i ti → PG X (.Subscript o i pos) (gSub to ti rSetL) := by exact fun a b => pg_sub a b set_list) : JG X W (.Subscript o i pos) (gSb A B) := by
  refine ⟨fun d σ h Q Q' E E' hQ hE q => ho.mono σ h _ _ _ _ (fun x h1 q1 => hi.mono σ h1 _ _ _ _ (fun y h2 q2 => setL_mono (fun _ q3 => hQ _ _ q3) q2) hE q1) hE q, PG.weak (h ho.run hi.run) fun v σV H Q ⟨ι, σ, h, d, hS, hH, r, q⟩ => ?_⟩
  refine tX.into ho.mono hS hH q (fun x h1 ι1 vx H1 q1 e1 hH1 rx => ?_) (fun c fs h1 ι1 dx H1 q1 e1 => q1 ι1 dx σV H1 e1 (hS.ext e1))
  refine tX.into hi.mono (hS.ext e1) hH1 q1 (fun y h2 ι2 vy H2 q2 e2 hH2 ry => ?_) (fun c fs h2 ι2 dx H2 q2 e2 => q2 ι2 dx σV H2 (e1.trans e2) (hS.ext (e1.trans e2)))
  have e02 := e1.trans e2
  exact setL_run hH2 (rx.ext e2) ry (r.ext e02) q2 fun h' H' q3 e3 hH3 => q3 ι2 σV H' (e02.trans e3) (hS.ext (e02.trans e3)) hH3

/-! ### augmented stores -/
def rGetL (K : Frag) : V → V → Hp → VK → Prop := rIxL K
theorem get_list : PGet X (rGetL X.K) := by
  intro pins s σ H o i ov iv Q I ro ri h
  obtain ⟨p, xs, k, z, rfl, rfl, hq, he, q⟩ := h
  cases ro
  obtain ⟨t, rfl⟩ := ri
  obtain ⟨its, r, pl, hz⟩ := I.list hq
  obtain ⟨j, h1, h2, h3, h4, h5⟩ := atI_get he
  obtain ⟨w, ew, rw'⟩ := r.get h2
  have hl := r.length
  have hn := line63
  have fin : EP X pins σ Q w s := ⟨z, H, I, rw', q⟩
  by_cases h0 : 0 ≤ k
  · have hj : k.toNat = j := by
      rw [seqIndex_of h0 h5] at h1
      exact Option.some.inj h1
    exact PySem.wpAny_getItem_list pl.isList h0 (by omega) (by rw [hj]; simpa using ew) fin
  · have hj : (k + (its.toArray.size : Int)).toNat = j := by
      rw [seqIndex_neg (by omega) h4] at h1
      rw [List.size_toArray, ← hl]
      exact Option.some.inj h1
    exact PySem.wpAny_getItem_list_neg pl.isList (by omega) (by rw [List.size_toArray] <;> omega) (by omega) (by rw [hj]; simpa using ew) fin
def getI (x y : D) (h : LH) (p : Int) : Prop := match y with | .int k => seqL x h fun ds => atI ds k = some (.int p) | _ => False
/-- o[i] op= e for lists of ints -/
def sAugS (o i e : LE) (f : Int → Int → Int) : LS := fun σ h K => o σ h (fun x h1 => i σ h1 (fun y h2 => ∃ p, getI x y h2 p ∧
  e σ h2 (fun z h3 => match z with | .int q => setL x y (.int (f p q)) h3 (K.nx σ) | _ => False) (exOf K σ)) (exOf K σ)) (exOf K σ)
theorem js_augS {o i e : Expr} {A B C : LE} {op : Operator} {f : Int → Int → Int} {tpos pos : Pos} (ho : JE X W o A) (hi : JE X W i B) (he : JE X W e C) (hp : PIp X op (ipI f))
    (h : ∀ {to ti te : TE} {tget : V → V → Hp → VK → Prop} {tip : TIp} {tset : TSet}, PE X o to → PE X i ti → PGet X tget → PE X e te → PIp X op tip → PSet X tset → PS X (.AugAssign (.Subscript o i tpos) op e pos) (tAugS to ti te tget tip tset) := by exact fun a b c d e f => ps_augS a b c d e f) :
    JS X W (.AugAssign (.Subscript o i tpos) op e pos) (sAugS A B C f) := by
  refine ⟨?_, PS.weak (h ho.run hi.run get_list he.run hp set_list) fun Dn σV H ⟨ι0, H0, ι, σ, h, e, hS, hH, q⟩ => ?_⟩
  · intro σ h A' B' l q
    refine ho.mono σ h _ _ _ _ (fun x h1 q1 => ?_) (exOf.le l σ) q
    refine hi.mono σ h1 _ _ _ _ (fun y h2 q2 => ?_) (exOf.le l σ) q1
    obtain ⟨p, e, q2⟩ := q2
    refine ⟨p, e, he.mono σ h2 _ _ _ _ (fun z h3 q3 => ?_) (exOf.le l σ) q2⟩
    split at q3
    · exact setL_mono (fun _ q => l.nx _ _ q) q3
    · exact q3.elim
  · refine tE.stm ho.mono e hS hH q fun x h1 ι1 vx H1 q1 f1 e1 hS1 hH1 rx => tE.stm hi.mono e1 hS1 hH1 q1 fun y h2 ι2 vy H2 qq f2 e2 hS2 hH2 ry => ?_
    obtain ⟨p, g, q2⟩ := qq
    unfold getI at g
    split at g
    · rename_i k
      obtain rfl : vy = .int k := ry
      obtain ⟨a, ds, vs, rfl, h3, h4, h5⟩ := seqL_run hH2 (rx.ext f2) g
      obtain ⟨v', h6, h7⟩ := h4.atI h5
      obtain rfl : v' = .int p := h7
      refine ⟨a, vs, k, .int p, rfl, rfl, h3, h6, ?_⟩
      refine tE.stm he.mono e2 hS2 hH2 q2 fun z h3 ι3 vz H3 q3 f3 e3 hS3 hH3 rz => ?_
      split at q3
      · rename_i q0
        obtain rfl : vz = .int q0 := rz
        refine ⟨p, q0, rfl, rfl, ?_⟩
        exact setL_run (v := .int (f p q0)) (vv := .int (f p q0)) (i := .int k) (vi := .int k) hH3 ((rx.ext f2).ext f3) rfl rfl q3 fun h' H' q4 e4 hH4 => q4 ι3 σV H' (e3.trans e4) (hS3.ext e4) hH4
      · exact q3.elim
    · exact g.elim
/-- a local name op= e -/
def sAug (i : Nat) (e : LE) (f : Int → Int → Int) : LS := fun σ h K => ∃ p, σ[i]? = some (some (.int p)) ∧ e σ h (fun z h1 => match z with | .int q => K.nx (σ.set i (some (.int (f p q)))) h1 | _ => False) (exOf K σ)
theorem js_aug {i : Nat} {x : Str} {e : Expr} {C : LE} {op : Operator} {f : Int → Int → Int} {pos pos' : Pos} (he : JE X W e C) (h : ∀ {te : TE}, PE X e te → PS X (.AugAssign (.Name x pos') op e pos) (tAug i te (ipI f))) : JS X W (.AugAssign (.Name x pos') op e pos) (sAug i C f) := by
  refine ⟨fun σ h A' B' l ⟨p, e, q⟩ => ⟨p, e, he.mono σ h _ _ _ _ (fun z h1 q1 => ?_) (exOf.le l σ) q⟩, PS.weak (h he.run) fun Dn σV H ⟨ι0, H0, ι, σ, h, e, hS, hH, p, g, q⟩ => ?_⟩
  · split at q1
    · exact l.nx _ _ q1
    · exact q1.elim
  · obtain ⟨v, h1, h2⟩ := hS.2 i _ g
    obtain rfl : v = .int p := h2
    refine ⟨.int p, h1, tE.stm he.mono e hS hH q fun z h1 ι1 vz H1 q1 f1 e1 hS1 hH1 rz => ?_⟩
    split at q1
    · rename_i q0
      obtain rfl : vz = .int q0 := rz
      exact ⟨p, q0, rfl, rfl, q1 ι1 _ H1 e1 (hS1.set i rfl) hH1⟩
    · exact q1.elim
/-- o.f op= e, an int field -/
def sAugF (Cs : List Str) (f : Str) (o e : LE) (g : Int → Int → Int) : LS := fun σ h K => o σ h (fun x h1 => ∃ n C fs p, x = .ref n ∧ h1[n]? = some (.ins C fs) ∧ C ∈ Cs ∧ fs.lookup f = some (.int p) ∧
  e σ h1 (fun z h2 => match z with | .int q => ∃ fs', h2[n]? = some (.ins C fs') ∧ fs'.length < 1000 ∧ K.nx σ (h2.set n (.ins C (putD f (.int (g p q)) fs'))) | _ => False) (exOf K σ)) (exOf K σ)
theorem js_augF {Cs : List Str} {fl : Str} {o e : Expr} {A C : LE} {op : Operator} {rd : V → V → Hp → VK → Prop} {f : Int → Int → Int} {tpos pos : Pos} (hc : ∀ C ∈ Cs, CF X.K C fl) (ho : JE X W o A) (he : JE X W e C) (hop : InOp X op rd) (hrd : ∀ p q H (Q : VK), Q (.int (f p q)) H → rd (.int p) (.int q) H Q) :
    JS X W (.AugAssign (.Attribute o fl tpos) op e pos) (sAugF Cs fl A C f) := by
  refine ⟨?_, PS.weak (ps_fldaug ho.run he.run hop) fun Dn σV H ⟨ι0, H0, ι, σ, h, e, hS, hH, q⟩ => ?_⟩
  · intro σ h A' B' l q
    refine ho.mono σ h _ _ _ _ (fun x h1 q1 => ?_) (exOf.le l σ) q
    obtain ⟨n, C', fs, p, z1, z2, z3, z4, q1⟩ := q1
    refine ⟨n, C', fs, p, z1, z2, z3, z4, he.mono σ h1 _ _ _ _ (fun z h2 q2 => ?_) (exOf.le l σ) q1⟩
    split at q2
    · obtain ⟨fs', y1, y2, q⟩ := q2; exact ⟨fs', y1, y2, l.nx _ _ q⟩
    · exact q2.elim
  · refine tE.stm ho.mono e hS hH q fun x h1 ι1 vx H1 ⟨n, C', fs, p, z1, z2, z3, z4, q1⟩ f1 e1 hS1 hH1 rx => ?_
    subst z1
    obtain ⟨a, ha, rfl⟩ := rx
    obtain ⟨dx, vs, y1, y2⟩ := hH1.ins ha z2
    obtain ⟨v', y3, y4⟩ := y2.look z4
    obtain rfl : v' = .int p := y4
    refine ⟨a, _, dx, vs, .int p, rfl, y1, (hc C' z3).c, (hc C' z3).n, y3, tE.stm he.mono e1 hS1 hH1 q1 fun z h2 ι2 vz H2 q2 f2 e2 hS2 hH2 rz => ?_⟩
    split at q2
    · rename_i q0
      obtain rfl : vz = .int q0 := rz
      refine hrd p q0 H2 _ ?_
      obtain ⟨fs', x1, x2, q3⟩ := q2
      have ha2 := f2.at_ ha
      obtain ⟨dx', vs', w1, w2⟩ := hH2.ins ha2 x1
      have ex : Ext ι2 H2 ι2 (upd H2 a (.ins (He.ga X.K C') dx' (putF fl (.int (f p q0)) vs'))) := Ext.write hH2 ha2 (by rw [w1]; trivial) trivial
      exact ⟨dx', vs', w1, by rw [← w2.length]; exact x2, q3 ι2 σV _ (e2.trans ex) (hS2.ext ex) (hH2.write (o := .ins C' (putD fl (.int (f p q0)) fs')) ha2 (by rw [w1]; trivial) ex ⟨dx', _, upd_same, (w2.ext ex).put (d := .int (f p q0)) (v := .int (f p q0)) rfl⟩)⟩
    · exact q2.elim
theorem in_add' {p q : Int} {H : Hp} {Q : VK} (h : Q (.int (p + q)) H) : L2.rAdd (.int p) (.int q) H Q := ⟨p, q, rfl, rfl, h⟩
theorem in_sub' {p q : Int} {H : Hp} {Q : VK} (h : Q (.int (p - q)) H) : L2.rSub (.int p) (.int q) H Q := ⟨p, q, rfl, rfl, h⟩
/-- del o[i] -/
def sDel (o i : LE) : LS := fun σ h K => o σ h (fun x h1 => i σ h1 (fun y h2 => match x, y with
  | .ref n, .int k => match h2[n]? with
    | some (.lst ds) => -(2 ^ 63) ≤ k ∧ k < 2 ^ 63 ∧ ∃ j, seqIndex? k ds.length = some j ∧ K.nx σ (h2.set n (.lst (ds.eraseIdx j)))
    | _ => False
  | _, _ => False) (exOf K σ)) (exOf K σ)
theorem js_del {o i : Expr} {A B : LE} {tpos pos : Pos} (ho : JE X W o A) (hi : JE X W i B) : JS X W (.Delete [.Subscript o i tpos] pos) (sDel A B) := by
  refine ⟨fun σ h A' B' l q => ho.mono σ h _ _ _ _ (fun x h1 q1 => hi.mono σ h1 _ _ _ _ (fun y h2 q2 => ?_) (exOf.le l σ) q1) (exOf.le l σ) q, PS.weak (ps_delL ho.run hi.run) fun Dn σV H ⟨ι0, H0, ι, σ, h, e, hS, hH, q⟩ => ?_⟩
  · split at q2
    · split at q2
      · obtain ⟨a, b, j, e, q⟩ := q2; exact ⟨a, b, j, e, l.nx _ _ q⟩
      · exact q2.elim
    · exact q2.elim
  · refine tE.stm ho.mono e hS hH q fun x h1 ι1 vx H1 q1 f1 e1 hS1 hH1 rx => tE.stm hi.mono e1 hS1 hH1 q1 fun y h2 ι2 vy H2 q2 f2 e2 hS2 hH2 ry => ?_
    have rx2 := rx.ext f2
    split at q2
    · rename_i n k
      split at q2
      · rename_i ds hd
        obtain ⟨z1, z2, j, z3, q3⟩ := q2
        obtain ⟨a, ha, rfl⟩ := rx2
        obtain rfl : vy = .int k := ry
        obtain ⟨vs, h3, h4⟩ := hH2.lst ha hd
        have ex : Ext ι2 H2 ι2 (upd H2 a (.lst (vs.eraseIdx j))) := Ext.write hH2 ha (by rw [h3]; trivial) trivial
        exact ⟨a, vs, k, j, rfl, rfl, h3, z1, z2, by rw [← h4.length]; exact z3, q3 ι2 σV _ (e2.trans ex) (hS2.ext ex) (hH2.write (o := .lst (ds.eraseIdx j)) ha (by rw [h3]; trivial) ex ⟨_, upd_same, (h4.ext ex).eraseIdx j⟩)⟩
      · exact q2.elim
    · exact q2.elim
end LL
end

section
set_option Elab.async false
set_option linter.all false
set_option maxRecDepth 100000
set_option maxHeartbeats 1000000
/-! LLCall: calls of defs, methods, classes; of built-ins; methods of lists; isinstance. -/
namespace LL
open PySem PySem.Spec PyProof.Rows L2
variable {X : Cx} {W : WX}

/-! ### what a def promises, in logical words -/
abbrev LSp := List D → LH → (D → LH → Prop) → XL → Prop
def MonoP (G : LSp) : Prop := ∀ ds h (Q Q' : D → LH → Prop) (E E' : XL), (∀ d h, Q d h → Q' d h) → (∀ c fs h, E c fs h → E' c fs h) → G ds h Q E → G ds h Q' E'
def spV (K : Frag) (n : Nat) (G : LSp) : Sp := fun vs H Q E => ∃ ι ds h, RelH K ι H h ∧ RelDs K ι H ds vs ∧ ds.length = n ∧
  G ds h (fun d h' => ∀ ι' v H', Ext ι H ι' H' → RelH K ι' H' h' → RelD K ι' H' d v → Q v H')
    (fun c fs h' => ∀ ι' dx H', Ext ι H ι' H' → RelH K ι' H' h' → RelX K ι' H' fs dx → E (.ref (He.ga K c)) dx H')
/-- room, and no repr of a list under way -/
structure RoomG (k : Nat) (A : Around) : Prop where
  r : Room k A
  g : A.guards = some []
theorem RoomG.mono {j k : Nat} {A : Around} (r : RoomG k A) (h : j ≤ k) : RoomG j A := ⟨r.r.mono h, r.g⟩
theorem RoomG.deeper {k : Nat} {A : Around} (r : RoomG (k + 1) A) (env : Env) : RoomG k (A.deeper env) := ⟨r.r.deeper env, r.g⟩
theorem RoomG.in1 {k : Nat} {A : Around} (r : RoomG (k + 1) A) : RoomG k A.in1 := ⟨r.r.in1, r.g⟩
theorem make_guards {A : Around} {C : Addr} {us : List Value} {kw : List (Str × Value)} : (A.under (.builtin "type.__call__" ⟨.ref C :: us, kw⟩)).guards = A.guards := by
  cases h : A.guards <;> simp [Around.under, Code.guards, Code.isGuard, guardIds, pushGuards, h]
theorem RoomG.make {k : Nat} {A : Around} (r : RoomG (k + 1) A) (C : Addr) (us : List Value) (kw : List (Str × Value)) : RoomG k (A.under (.builtin "type.__call__" ⟨.ref C :: us, kw⟩)) := ⟨r.r.make C us kw, by rw [make_guards]; exact r.g⟩
/-- what a def does when it is called where no repr of a list is under way -/
structure FnG (P : Program) (w : World) (K : Frag) (mg : Str → Option Value) (base : Heap) (k : Nat) (f : Addr) (fd : FuncData) (ps : List Str) (sp : Sp) : Prop where
  len : ∀ vs H Q E, sp vs H Q E → vs.length = ps.length
  run : ∀ (A : Around) (outer : List Env) (s : Shared) (H : Hp) (args : Args) (us : List Value) (vs : List V) (Q : VK) (E : XK), RoomG k A → Env0 P w K mg base A outer s H → BindsTo s fd args (ps.zip us) → Vals vs us → sp vs H Q E →
    codeAny (model P w) A (.call (.ref f) args) (CR (L2.CX P w) outer P w H s Q E) s
theorem FnG.mono {P : Program} {w : World} {K : Frag} {mg : Str → Option Value} {base : Heap} {j k : Nat} {f : Addr} {fd : FuncData} {ps : List Str} {sp : Sp} (F : FnG P w K mg base j f fd ps sp) (h : j ≤ k) : FnG P w K mg base k f fd ps sp :=
  ⟨F.len, fun A outer s H args us vs Q E hr => F.run A outer s H args us vs Q E (hr.mono h)⟩
/-- a def that stands at f keeps the promise G (by at most level k) -/
structure Keeps (P : Program) (w : World) (K : Frag) (mg : Str → Option Value) (base : Heap) (k : Nat) (f : Addr) (n : Nat) (G : LSp) : Prop where
  mono : MonoP G
  ok : ∃ (fd : FuncData) (ps : List Str), ps.length = n ∧ FnG P w K mg base k f fd ps (spV K n G) ∧ Binds K fd ps []
theorem Keeps.up {P : Program} {w : World} {K : Frag} {mg : Str → Option Value} {base : Heap} {j k : Nat} {f : Addr} {n : Nat} {G : LSp} (h : Keeps P w K mg base j f n G) (l : j ≤ k) : Keeps P w K mg base k f n G :=
  ⟨h.mono, let ⟨fd, ps, e, F, b⟩ := h.ok; ⟨fd, ps, e, F.mono l, b⟩⟩
def startD (N : List Str) (ds : List D) : LV := ds.map some ++ List.replicate (N.length - ds.length) none
theorem rel_start {K : Frag} {ι : Ad} {H : Hp} {N : List Str} {ds : List D} {vs : List V} (r : RelDs K ι H ds vs) : RelS K ι H (startD N ds) (L2.start N vs) := by
  have l := r.length
  refine ⟨by simp [startD, L2.start, l], fun i d e => ?_⟩
  unfold startD at e
  by_cases hi : i < ds.length
  · rw [List.getElem?_append_left (by simpa using hi), List.getElem?_map] at e
    cases q : ds[i]? with
    | none => rw [q] at e; cases e
    | some d' =>
      rw [q] at e
      have e2 : d' = d := by simpa using e
      subst e2
      obtain ⟨v, h1, h2⟩ := r.get q
      refine ⟨v, ?_, h2⟩
      unfold L2.start
      rw [List.getElem?_append_left (by simpa using (l ▸ hi)), List.getElem?_map, h1]
      rfl
  · rw [List.getElem?_append_right (by simpa using hi)] at e
    have m := List.mem_of_getElem? e
    have := List.eq_of_mem_replicate m
    cases this
/-- the ends of a def's body -/
abbrev bodyK (Q : D → LH → Prop) (E : XL) : LK := { nx := fun _ h => Q .non h, rt := Q, ex := fun c fs _ h => E c fs h }
/-- the code object of the function at f -/
def CodeAt (K : Frag) (f : Addr) (cdv : Value) : Prop := ∃ (oc : Value) (od : Option Addr) (fd : FuncData) (osl : Array (Option Value)), K.lookup f = some ⟨oc, od, .func fd, osl⟩ ∧ fd.code = cdv ∧ ∃ q, PySem.W.codeIn K cdv q = true
theorem CodeAt.eq {K : Frag} {p : He.Defn} {cdv : Value} (h : CodeAt K (He.fAd K p) cdv) : cdv = .ref (He.cT K p).1 := by
  obtain ⟨oc, od, fd, osl, lk, e, q, hq⟩ := h
  obtain ⟨c, rfl⟩ := He.codeIn_ref hq
  exact congrArg Value.ref (He.codeOf_eq lk e).symm
/-- a def keeps its promise: its body, derived; the promise, shown of the body -/
theorem keeps_of {P : Program} {w : World} {K : Frag} {mg : Str → Option Value} {base : Heap} {x qual : Str} {params : Arguments} {body : List Stmt} {scope : Scope} {dvs : List V} {kws : List (Str × V)} {f : Addr} {fd : FuncData} {N ps : List Str} {k n : Nat} {G : LSp} {b : LS}
    (F : FunD K x qual params body scope dvs kws f fd) (S : FnScope N ps scope) (hn : ps.length = n) (hb : Binds K fd ps []) (hG : MonoP G)
    (hbody : ∀ (cdv : Value) (A : Around) (outer : List Env) (s : Shared) (H : Hp) (E : XK), CodeAt K f cdv → RoomG k (A.deeper (envOfC qual scope s.heap.objs.size f cdv)) →
      JSs (cxOf (L2.CX P w) P w K mg base N qual scope f cdv A outer s H E) (fun cls d _ H => E cls d H) body b)
    (hv : ∀ ds h Q E, ds.length = n → G ds h Q E → b (startD N ds) h (bodyK Q E)) : Keeps P w K mg base (k + 1) f n G := by
  obtain ⟨oc, od, dV, kV, doc, pm, an, cdv, ct, osl, rfl, lk, hcd, _, _⟩ := F.ex
  have len : ∀ vs H Q E, spV K n G vs H Q E → vs.length = ps.length := fun vs H Q E ⟨ι, ds, h, _, r, l, _⟩ => by rw [← r.length, l, hn]
  refine ⟨hG, _, ps, hn, ⟨len, fun A outer s H args us vs Q E hr e0 hbt hv' hsp => ?_⟩, hb⟩
  refine LamX.run_ofS (k := k) lk hcd S hr.r e0 hbt hv' (len vs H Q E hsp) fun hr' => ?_
  obtain ⟨ι, ds, h, hH, r, l, q⟩ := hsp
  have j := hbody cdv A outer s H E ⟨_, _, _, _, lk, rfl, _, hcd⟩ ⟨hr', hr.g⟩
  refine ⟨_, j.run, ι, H, ι, startD N ds, h, .refl _ _, rel_start r, hH, ?_⟩
  refine j.mono _ _ _ _ ?_ (hv ds h _ _ l q)
  exact ⟨fun σ' h' q' ι' σV' H' e' _ hH' => q' ι' .non H' e' hH' rfl, fun d h' q' ι' v H' e' hH' r' => q' ι' v H' e' hH' r', fun _ _ z => z.elim, fun _ _ z => z.elim, fun c fs σ' h' q' ι' dx σV' H' e' _ hH' r' => q' ι' dx H' e' hH' r'⟩

/-! ### a call is made -/
section
variable {k : Nat} {f : Addr} {fd : FuncData} {ps : List Str} {sp : Sp} {E : L2.St → XK} {x : Str} {p pos : Pos} {e : Expr} {es : List Expr} {t : TA}
theorem ret_of {pins : List (Addr × Obj)} {σ : L2.St} {H : Hp} {s s' : Shared} {Q : VK} {E' : XK} {r : Result} (hx : PassesAt (L2.CX X.prog X.w) X σ E') (I : Inv X pins σ H s) (hq : CR (L2.CX X.prog X.w) X.stack X.prog X.w H s Q E' r s') :
    wants (EP X pins σ Q) X.xe r s' := by
  cases r with
  | error e => exact hx pins H s e s' I hq
  | ok fl => cases fl with
    | ret u => exact I.after hq
    | next => exact hq.elim
    | brk => exact hq.elim
    | cont => exact hq.elim
theorem run_fnG {pins : List (Addr × Obj)} {σ : L2.St} {H : Hp} {s : Shared} {Q : VK} {us : List Value} {vs : List V} {A : Around} (F : FnG X.prog X.w X.K X.mg X.base k f fd ps sp) (hr : RoomG k A) (hA : A.frames = some X.stack) (hb : Binds X.K fd ps []) (hx : PassesAt (L2.CX X.prog X.w) X σ (E σ))
    (I : Inv X pins σ H s) (r : Vals vs us) (h : sp vs H Q (E σ)) : wpAny (model X.prog X.w) A (call (.ref f) us) (EP X pins σ Q) X.xe s := by
  have hl : us.length = ps.length := by rw [← r.length]; exact F.len _ _ _ _ h
  have b := hb s us I.kIn (by rw [List.append_nil]; exact hl)
  rw [List.append_nil] at b
  have e0 := I.env0
  exact wpAny_call (codeAny_mono (F.run A X.stack s H ⟨us, []⟩ us vs Q (E σ) hr ⟨hA, e0.mod, e0.bs, e0.bsz, e0.funs, e0.frf, e0.hok, e0.bare⟩ b r h) fun r s' hq => ret_of hx I hq)
theorem pe_callG (F : FnG X.prog X.w X.K X.mg X.base k f fd ps sp) (hr : RoomG k X.A) (hg : Gl X x) (hm : X.mg x = some (.ref f)) (hk : PySem.W.keepIn X.K (.ref f) = true) (hb : Binds X.K fd ps []) (hx : ∀ σ, PassesAt (L2.CX X.prog X.w) X σ (E σ))
    (ha : PA X (e :: es) t) (hdb : (x == ("__debug__" : Str)) = false) (he : starEach (e :: es) X.env = (false, eval e X.env) :: starEach es X.env) (hpl : (backTo pos (starEach es X.env)).any (·.1) = false) :
    PE X (.Call (.Name x p) (e :: es) [] pos) (tCallS sp E t) := ⟨fun pins s σ H Q I h =>
  wpAny_Call_Name_kw (ld_glob I hg hm (PySem.W.callWith_K (h₀ := X.base) I.ok.mod.kin hk (thn (ha.run pos pins s σ H _ I h) fun us s1 ⟨vs, H1, I1, r, q⟩ => ⟨I1.kIn, run_fnG F hr I1.env0.frames hb (hx σ) I1 r q⟩) he hpl) hdb)⟩
end

/-! ### calls -/
def eCall (G : LSp) (n : Nat) (A : LX (List D)) : LE := fun σ h Q E => A σ h (fun ds h1 => ds.length = n ∧ G ds h1 Q E) E
theorem mono_call {G : LSp} {n : Nat} {A : LX (List D)} (hG : MonoP G) (hA : Mono A) : Mono (eCall G n A) := fun σ h Q Q' E E' hQ hE q => hA σ h _ _ _ _ (fun ds h1 ⟨l, q1⟩ => ⟨l, hG _ _ _ _ _ _ hQ hE q1⟩) hE q
theorem call_run {K : Frag} {G : LSp} {n : Nat} {A : LX (List D)} (hG : MonoP G) (hA : Mono A) {σV : L2.St} {H : Hp} {Q : VK} (q : tE K W (eCall G n A) σV H Q) : tCallS (spV K n G) (WE W) (tA K W A) σV H Q := by
  obtain ⟨ι, σ, h, hS, hH, q⟩ := q
  refine tX.into hA hS hH q (fun ds h1 ι1 vs H1 q1 e1 hH1 r => ?_) (fun c fs h1 ι1 dx H1 q1 => q1 ι1 dx H1)
  exact ⟨ι1, ds, h1, hH1, r, q1.1, hG _ _ _ _ _ _ (fun d h' q' ι' v H' e' => q' ι' v H' (e1.trans e')) (fun c fs h' q' ι' dx H' e' => q' ι' dx H' (e1.trans e')) q1.2⟩
section
variable {k n : Nat} {f : Addr} {G : LSp} {x : Str} {e : Expr} {es : List Expr} {A : LX (List D)} {p pos : Pos}
theorem je_call (F : Keeps X.prog X.w X.K X.mg X.base k f n G) (hr : RoomG k X.A) (hm : X.mg x = some (.ref f)) (hk : PySem.W.keepIn X.K (.ref f) = true) (tk : Takes X W) (ha : JA X W (e :: es) A) (hg : Gl X x := by rfl)
    (hdb : (x == ("__debug__" : Str)) = false := by decide) (he : starEach (e :: es) X.env = (false, eval e X.env) :: starEach es X.env := by rfl) (hpl : (backTo pos (starEach es X.env)).any (·.1) = false := by rfl) : JE X W (.Call (.Name x p) (e :: es) [] pos) (eCall G n A) := by
  obtain ⟨hG, fd, ps, hn, F, b⟩ := F
  exact ⟨mono_call hG ha.mono, PE.weak (pe_callG F hr hg hm hk b (fun σ => passAt tk σ) ha.run hdb he hpl) fun _ _ _ q => call_run hG ha.mono q⟩
theorem je_call0 (F : Keeps X.prog X.w X.K X.mg X.base k f 0 G) (hr : RoomG k X.A) (hm : X.mg x = some (.ref f)) (hk : PySem.W.keepIn X.K (.ref f) = true) (tk : Takes X W) (hg : Gl X x := by rfl)
    (hdb : (x == ("__debug__" : Str)) = false := by decide) : JE X W (.Call (.Name x p) [] [] pos) (eCall G 0 eNil) := by
  obtain ⟨hG, fd, ps, hn, F, b⟩ := F
  refine ⟨mono_call hG (ja_nil (X := X) (W := W)).mono, ⟨fun pins s σ H Q I h => ?_⟩⟩
  have h := call_run hG (ja_nil (X := X) (W := W)).mono h
  have h0 : tCallS (spV X.K 0 G) (WE W) tNil σ H Q := by
    obtain ⟨ι, σ', h', hS, hH, q⟩ := h
    exact q ι [] H (.refl _ _) hH rfl
  refine wpAny_Call_Name_kw (ld_glob I hg hm ?_ hdb)
  exact PySem.W.callWith_K0 I.kIn hk (run_fnG (E := fun σ => WE W σ) (us := []) F hr I.env0.frames b (passAt tk σ) I .nil h0)
end
/-- o.m(..): the receiver is an instance of one of C's -/
def isIns (C m : Str) (d : D) (h : LH) : Prop := match d with
  | .ob C' ns ds => C' = C ∧ (ns.zip ds).lookup m = none
  | .ref n => match h[n]? with
    | some (.ins C' fs) => C' = C ∧ fs.lookup m = none
    | _ => False
  | _ => False
theorem RelFs.none {K : Frag} {ι : Ad} {H : Hp} {f : Str} : ∀ {fs : List (Str × D)} {vs : List (Str × V)}, RelFs K ι H fs vs → fs.lookup f = none → vs.lookup f = none
  | [], _, h, _ => by cases h; rfl
  | (g, d') :: fs, _, ⟨v, r, h1, h2, h3⟩, e => by
    subst h1
    rw [List.lookup_cons] at e ⊢
    cases q : (f == g) with
    | true => rw [q] at e; cases e
    | false => rw [q] at e; exact RelFs.none h3 e
theorem isIns_run {K : Frag} {C m : Str} {ι : Ad} {H : Hp} {h : LH} {d : D} {v : V} (hH : RelH K ι H h) (r : RelD K ι H d v) (q : isIns C m d h) : ∃ a dx fs, v = .ref a ∧ H a = some (.ins (He.ga K C) dx fs) ∧ fs.lookup m = none := by
  unfold isIns at q
  split at q
  · obtain ⟨a, dx, vs, rfl, _, h2, h3, h4⟩ := r
    obtain ⟨rfl, q⟩ := q
    exact ⟨a, dx, _, rfl, h2, (RelFs.zip h3 h4).none q⟩
  · split at q
    · rename_i ho
      obtain ⟨a, ha, rfl⟩ := r
      obtain ⟨dx, vs, h1, h2⟩ := hH.ins ha ho
      obtain ⟨rfl, q⟩ := q
      exact ⟨a, dx, vs, rfl, h1, h2.none q⟩
    · exact q.elim
  · exact q.elim
def eMeth (C m : Str) (G : LSp) (n : Nat) (o : LE) (A : LX (List D)) : LE := fun σ h Q E => o σ h (fun x h1 => isIns C m x h1 ∧ A σ h1 (fun ds h2 => ds.length + 1 = n ∧ G (x :: ds) h2 Q E) E) E
/-- o.m(e, ..), what is raised passed on at the slots -/
def tMethS (C : Addr) (m : Str) (sp : Sp) (E : L2.St → XK) (ta : TE) (t : TA) : TE := fun σ H Q => ta σ H fun x H1 => ∃ a dx fs, x = .ref a ∧ H1 a = some (.ins C dx fs) ∧ fs.lookup m = none ∧
  t σ H1 fun vs H2 => sp (x :: vs) H2 Q (E σ)
section
variable {k : Nat} {f C : Addr} {fd : FuncData} {ps : List Str} {sp : Sp} {E : L2.St → XK} {x m : Str} {p pos apos : Pos} {e o : Expr} {es : List Expr} {ta : TE} {t : TA}
theorem pe_methS {pl : Sem Bool} (he : PE X o ta) (c : Cls X.K C) (hm : Meth X.K C m f) (F : FnG X.prog X.w X.K X.mg X.base k f fd ps sp) (hr : RoomG k X.A) (hb : Binds X.K fd ps []) (hx : ∀ σ, PassesAt (L2.CX X.prog X.w) X σ (E σ)) (ha : PA X (e :: es) t)
    (hst : starEach (e :: es) X.env = (false, eval e X.env) :: starEach es X.env := by rfl) (hpl : (backTo pos (starEach es X.env)).any (·.1) = false := by rfl)
    (ht : eval (.Call (.Attribute o m apos) (e :: es) [] pos) X.env = (do
      let ov ← eval o X.env
      standAt apos.atName
      let (f, first) ← holding [ov] (getMethod ov m pl)
      callWith pos f first (backTo pos (starEach (e :: es) X.env)) (backToKw pos (keywordEach [] X.env))) := by rfl) :
    PE X (.Call (.Attribute o m apos) (e :: es) [] pos) (tMethS C m sp E ta t) := by
  refine ⟨fun pins s σ H Q I h => ?_⟩
  refine PySem.W.methodCall_KW (pl := pl) (thn (he.run pins s σ H _ I h) fun u s1 ⟨x, H1, I1, rx, a, dx, fs, ex, ea, l, q⟩ => ?_) ht
  subst ex
  obtain rfl : u = Value.ref a := rx
  refine getmeth_ok I1 ea c hm l ?_
  refine PySem.W.callWith_K (first := [.ref a]) (h₀ := X.base) I.ok.mod.kin hm.kp (thn (ha.run pos pins s1 σ H1 _ I1 q) fun us s2 ⟨vs, H2, I2, r, q2⟩ => ⟨I2.kIn, ?_⟩) hst hpl
  exact run_fnG (us := .ref a :: us) (vs := .ref a :: vs) F hr I2.env0.frames hb (hx σ) I2 (.cons rfl r) q2
theorem pe_methS0 {pl : Sem Bool} (he : PE X o ta) (c : Cls X.K C) (hm : Meth X.K C m f) (F : FnG X.prog X.w X.K X.mg X.base k f fd ps sp) (hr : RoomG k X.A) (hb : Binds X.K fd ps []) (hx : ∀ σ, PassesAt (L2.CX X.prog X.w) X σ (E σ))
    (ht : eval (.Call (.Attribute o m apos) [] [] pos) X.env = (do
      let ov ← eval o X.env
      standAt apos.atName
      let (f, first) ← holding [ov] (getMethod ov m pl)
      callWith pos f first (backTo pos (starEach [] X.env)) (backToKw pos (keywordEach [] X.env))) := by rfl) :
    PE X (.Call (.Attribute o m apos) [] [] pos) (tMethS C m sp E ta tNil) := by
  refine ⟨fun pins s σ H Q I h => ?_⟩
  refine PySem.W.methodCall_KW (pl := pl) (thn (he.run pins s σ H _ I h) fun u s1 ⟨x, H1, I1, rx, a, dx, fs, ex, ea, l, q⟩ => ?_) ht
  subst ex
  obtain rfl : u = Value.ref a := rx
  refine getmeth_ok I1 ea c hm l ?_
  exact PySem.W.callWith_K0 (first := [.ref a]) I1.kIn hm.kp (run_fnG (us := [.ref a]) (vs := [.ref a]) F hr I1.env0.frames hb (hx σ) I1 (.cons rfl .nil) q)
end
theorem mono_meth {C m : Str} {G : LSp} {n : Nat} {o : LE} {A : LX (List D)} (hG : MonoP G) (ho : Mono o) (hA : Mono A) : Mono (eMeth C m G n o A) := fun σ h Q Q' E E' hQ hE q =>
  ho σ h _ _ _ _ (fun x h1 ⟨i, q1⟩ => ⟨i, hA σ h1 _ _ _ _ (fun ds h2 ⟨l, q2⟩ => ⟨l, hG _ _ _ _ _ _ hQ hE q2⟩) hE q1⟩) hE q
theorem meth_run {K : Frag} {C m : Str} {G : LSp} {n : Nat} {o : LE} {A : LX (List D)} (hG : MonoP G) (ho : Mono o) (hA : Mono A) {σV : L2.St} {H : Hp} {Q : VK} (q : tE K W (eMeth C m G n o A) σV H Q) : tMethS (He.ga K C) m (spV K n G) (WE W) (tE K W o) (tA K W A) σV H Q := by
  obtain ⟨ι, σ, h, hS, hH, q⟩ := q
  refine tX.into ho hS hH q (fun x h1 ι1 vx H1 q1 e1 hH1 rx => ?_) (fun c fs h1 ι1 dx H1 q1 => q1 ι1 dx H1)
  obtain ⟨a, dx, fs, z1, z2, z3⟩ := isIns_run hH1 rx q1.1
  refine ⟨a, dx, fs, z1, z2, z3, ?_⟩
  refine tX.into hA (hS.ext e1) hH1 q1.2 (fun ds h2 ι2 vs H2 q2 e2 hH2 r => ?_) (fun c fs h2 ι2 dx H2 q2 e2 => q2 ι2 dx H2 (e1.trans e2))
  exact ⟨ι2, x :: ds, h2, hH2, ⟨vx, vs, rfl, rx.ext e2, r⟩, q2.1, hG _ _ _ _ _ _ (fun d h' q' ι' v H' e' => q' ι' v H' (e1.trans (e2.trans e'))) (fun c fs h' q' ι' dx H' e' => q' ι' dx H' (e1.trans (e2.trans e'))) q2.2⟩
section
variable {k n : Nat} {f : Addr} {G : LSp} {C m : Str} {o e : Expr} {es : List Expr} {O : LE} {A : LX (List D)} {apos pos : Pos}
theorem je_meth {pl : Sem Bool} (ho : JE X W o O) (c : Cls X.K (He.ga X.K C)) (hm : Meth X.K (He.ga X.K C) m f) (F : Keeps X.prog X.w X.K X.mg X.base k f n G) (hr : RoomG k X.A) (tk : Takes X W) (ha : JA X W (e :: es) A)
    (hst : starEach (e :: es) X.env = (false, eval e X.env) :: starEach es X.env := by rfl) (hpl : (backTo pos (starEach es X.env)).any (·.1) = false := by rfl)
    (ht : eval (.Call (.Attribute o m apos) (e :: es) [] pos) X.env = (do
      let ov ← eval o X.env
      standAt apos.atName
      let (f, first) ← holding [ov] (getMethod ov m pl)
      callWith pos f first (backTo pos (starEach (e :: es) X.env)) (backToKw pos (keywordEach [] X.env))) := by rfl) : JE X W (.Call (.Attribute o m apos) (e :: es) [] pos) (eMeth C m G n O A) := by
  obtain ⟨hG, fd, ps, hn, F, b⟩ := F
  exact ⟨mono_meth hG ho.mono ha.mono, PE.weak (pe_methS (pl := pl) ho.run c hm F hr b (fun σ => passAt tk σ) ha.run hst hpl ht) fun _ _ _ q => meth_run hG ho.mono ha.mono q⟩
theorem je_meth0 {pl : Sem Bool} (ho : JE X W o O) (c : Cls X.K (He.ga X.K C)) (hm : Meth X.K (He.ga X.K C) m f) (F : Keeps X.prog X.w X.K X.mg X.base k f n G) (hr : RoomG k X.A) (tk : Takes X W)
    (ht : eval (.Call (.Attribute o m apos) [] [] pos) X.env = (do
      let ov ← eval o X.env
      standAt apos.atName
      let (f, first) ← holding [ov] (getMethod ov m pl)
      callWith pos f first (backTo pos (starEach [] X.env)) (backToKw pos (keywordEach [] X.env))) := by rfl) : JE X W (.Call (.Attribute o m apos) [] [] pos) (eMeth C m G n O eNil) := by
  obtain ⟨hG, fd, ps, hn, F, b⟩ := F
  refine ⟨mono_meth hG ho.mono (ja_nil (X := X) (W := W)).mono, PE.weak (pe_methS0 (pl := pl) ho.run c hm F hr b (fun σ => passAt tk σ) ht) fun σ H Q q => ?_⟩
  obtain ⟨ι, σ', h, hS, hH, q⟩ := q
  refine tX.into ho.mono hS hH q (fun x h1 ι1 vx H1 q1 e1 hH1 rx => ?_) (fun c fs h1 ι1 dx H1 q1 => q1 ι1 dx H1)
  obtain ⟨a, dx, fs, z1, z2, z3⟩ := isIns_run hH1 rx q1.1
  exact ⟨a, dx, fs, z1, z2, z3, ι1, [x], h1, hH1, ⟨vx, [], rfl, rx, rfl⟩, q1.2.1, hG _ _ _ _ _ _ (fun d h' q' ι' v H' e' => q' ι' v H' (e1.trans e')) (fun c fs h' q' ι' dx H' e' => q' ι' dx H' (e1.trans e')) q1.2.2⟩
end

/-! ### C(..) -/
/-- a new instance that will be changed -/
def eMake (C : Str) (G : LSp) (n : Nat) (A : LX (List D)) : LE := fun σ h Q E => A σ h (fun ds h1 => ds.length + 1 = n ∧ G (.ref h1.length :: ds) (h1 ++ [.ins C []]) (fun d h2 => d = .non ∧ Q (.ref h1.length) h2) E) E
def tMakeS (C : Addr) (sp : Sp) (E : L2.St → XK) (t : TA) : TE := fun σ H Q => t σ H fun vs H1 => ∀ x dx, H1 x = none → H1 dx = none → dx ≠ x →
  sp (.ref x :: vs) (upd (upd H1 dx (.own x)) x (.ins C dx [])) (fun v H2 => v = .non ∧ Q (.ref x) H2) (E σ)
section
variable {k : Nat} {f C : Addr} {fd : FuncData} {ps : List Str} {sp : Sp} {E : L2.St → XK} {x m : Str} {p pos apos : Pos} {e o : Expr} {es : List Expr} {ta : TE} {t : TA}
theorem run_makeS {pins : List (Addr × Obj)} {σ : L2.St} {H : Hp} {s : Shared} {Q : VK} {us : List Value} {vs : List V} (M : Mk X.K C f) (F : FnG X.prog X.w X.K X.mg X.base k f fd ps sp) (hr : RoomG (k + 1) X.A) (hb : Binds X.K fd ps [])
    (hx : PassesAt (L2.CX X.prog X.w) X σ (E σ)) (I : Inv X pins σ H s) (r : Vals vs us)
    (h : ∀ x dx, H x = none → H dx = none → dx ≠ x → sp (.ref x :: vs) (upd (upd H dx (.own x)) x (.ins C dx [])) (fun v H2 => v = .non ∧ Q (.ref x) H2) (E σ)) :
    wpAny (model X.prog X.w) X.A (call (.ref C) us) (EP X pins σ Q) X.xe s := by
  have hq := h (s.heap.objs.size + 1) s.heap.objs.size (I.hok.fresh (Nat.le_succ _)) (I.hok.fresh (Nat.le_refl _)) (Nat.ne_of_lt (Nat.lt_succ_self _))
  have I2 := Inv.made (C := C) I
  have r2 : Vals (V.ref (s.heap.objs.size + 1) :: vs) (Value.ref (s.heap.objs.size + 1) :: us) := .cons rfl r
  have hl : (Value.ref (s.heap.objs.size + 1) :: us).length = ps.length := by
    have e := r2.length
    rw [F.len _ _ _ _ hq] at e
    exact e.symm
  have b := hb _ (Value.ref (s.heap.objs.size + 1) :: us) I2.kIn (by rw [List.append_nil]; exact hl)
  rw [List.append_nil] at b
  refine wpAny_call (make_map (f := f) I.kIn M.makes M.init (beq_iff_eq.mp M.fn) (codeAny_mono (F.run _ X.stack _ _ ⟨Value.ref (s.heap.objs.size + 1) :: us, []⟩ (Value.ref (s.heap.objs.size + 1) :: us) _ _ (E σ) (hr.make C us [])
    (I2.env0.make C us []) b r2 hq) fun r s' hq' => ?_))
  cases r with
  | error e => exact hx pins _ _ e s' I2 hq'
  | ok fl =>
    cases fl with
    | ret u =>
      obtain ⟨v, H', I3, rv, ev, q3⟩ := I2.after hq'
      subst ev
      exact ⟨rv, ⟨V.ref (s.heap.objs.size + 1), H', I3, rfl, q3⟩⟩
    | next => exact False.elim hq'
    | brk => exact False.elim hq'
    | cont => exact False.elim hq'
theorem pe_makeS (M : Mk X.K C f) (F : FnG X.prog X.w X.K X.mg X.base k f fd ps sp) (hr : RoomG (k + 1) X.A) (hg : Gl X x) (hm : X.mg x = some (.ref C)) (hb : Binds X.K fd ps []) (hx : ∀ σ, PassesAt (L2.CX X.prog X.w) X σ (E σ))
    (ha : PA X (e :: es) t) (hdb : (x == ("__debug__" : Str)) = false := by decide) (he : starEach (e :: es) X.env = (false, eval e X.env) :: starEach es X.env := by rfl) (hpl : (backTo pos (starEach es X.env)).any (·.1) = false := by rfl) :
    PE X (.Call (.Name x p) (e :: es) [] pos) (tMakeS C sp E t) := by
  refine ⟨fun pins s σ H Q I h => ?_⟩
  refine wpAny_Call_Name_kw (ld_glob I hg hm ?_ hdb)
  refine PySem.W.callWith_K (h₀ := X.base) I.ok.mod.kin M.kp (thn (ha.run pos pins s σ H _ I h) fun us s1 ⟨vs, H1, I1, r, q⟩ => ⟨I1.kIn, ?_⟩) he hpl
  exact run_makeS M F hr hb (hx σ) I1 r q
end
/-- the new instance in the heap -/
theorem made_ext {ι : Ad} {H : Hp} {x dx C : Addr} (nx : H x = none) (nd : H dx = none) (ne : dx ≠ x) : Ext ι H (ι.push x) (upd (upd H dx (.own x)) x (.ins C dx [])) := by
  have e1 : Ext ι H ι (upd H dx (.own x)) := Ext.new nd
  have n2 : upd H dx (.own x) x = none := by rw [upd_ne (Ne.symm ne)]; exact nx
  exact e1.trans (Ext.push n2)
theorem made_rel {K : Frag} {ι : Ad} {H : Hp} {h : LH} {x dx : Addr} {C : Str} (hH : RelH K ι H h) (nx : H x = none) (nd : H dx = none) (ne : dx ≠ x) : RelH K (ι.push x) (upd (upd H dx (.own x)) x (.ins (He.ga K C) dx [])) (h ++ [.ins C []]) := by
  have n2 : upd H dx (.own x) x = none := by rw [upd_ne (Ne.symm ne)]; exact nx
  exact (hH.new nd).push n2 (fun _ z => by cases z) ⟨dx, [], upd_same, rfl⟩
section
variable {k n : Nat} {f : Addr} {G : LSp} {C : Str} {e : Expr} {es : List Expr} {A : LX (List D)} {p pos : Pos}
theorem mono_make {C : Str} {G : LSp} {n : Nat} {A : LX (List D)} (hG : MonoP G) (hA : Mono A) : Mono (eMake C G n A) := fun σ h Q Q' E E' hQ hE q =>
  hA σ h _ _ _ _ (fun ds h1 ⟨l, q1⟩ => ⟨l, hG _ _ _ _ _ _ (fun d h2 ⟨z, q2⟩ => ⟨z, hQ _ _ q2⟩) hE q1⟩) hE q
theorem je_make (M : Mk X.K (He.ga X.K C) f) (F : Keeps X.prog X.w X.K X.mg X.base k f n G) (hr : RoomG (k + 1) X.A) (hm : X.mg C = some (.ref (He.ga X.K C))) (tk : Takes X W) (ha : JA X W (e :: es) A) (hg : Gl X C := by rfl)
    (hdb : (C == ("__debug__" : Str)) = false := by decide) (he : starEach (e :: es) X.env = (false, eval e X.env) :: starEach es X.env := by rfl) (hpl : (backTo pos (starEach es X.env)).any (·.1) = false := by rfl) :
    JE X W (.Call (.Name C p) (e :: es) [] pos) (eMake C G n A) := by
  obtain ⟨hG, fd, ps, hn, F, b⟩ := F
  refine ⟨mono_make hG ha.mono, PE.weak (pe_makeS M F hr hg hm b (fun σ => passAt tk σ) ha.run hdb he hpl) fun σV H Q ⟨ι, σ, h, hS, hH, q⟩ => ?_⟩
  refine tX.into ha.mono hS hH q (fun ds h1 ι1 vs H1 q1 e1 hH1 r x dx nx nd ne => ?_) (fun c fs h1 ι1 dx H1 q1 => q1 ι1 dx H1)
  have ex : Ext ι1 H1 (ι1.push x) (upd (upd H1 dx (.own x)) x (.ins (He.ga X.K C) dx [])) := made_ext nx nd ne
  have hx : (ι1.push x).ix[h1.length]? = some (some x) := by rw [← hH1.len, List.getElem?_append_right (Nat.le_refl _), Nat.sub_self]; rfl
  refine ⟨_, .ref h1.length :: ds, _, made_rel hH1 nx nd ne, ⟨.ref x, vs, rfl, ⟨x, hx, rfl⟩, r.ext ex⟩, q1.1, hG _ _ _ _ _ _ ?_ ?_ q1.2⟩
  · intro d h' ⟨z, q'⟩ ι' v H' e' hH' rd
    subst z
    exact ⟨rd, q' ι' (.ref x) H' (e1.trans (ex.trans e')) hH' ⟨x, e'.at_ hx, rfl⟩⟩
  · intro c fs h' q' ι' dx' H' e'
    exact q' ι' dx' H' (e1.trans (ex.trans e'))
end

/-! ### built-ins, by values -/
abbrev LB := List D → LH → (D → LH → Prop) → Prop
structure CallS (K : Frag) (r : List V → Hp → VK → Prop) (op : LB) : Prop where
  mono : ∀ ds h (Q Q' : D → LH → Prop), (∀ d h, Q d h → Q' d h) → op ds h Q → op ds h Q'
  run : ∀ ι H h ds vs (Q : D → LH → Prop) (Qv : VK), RelH K ι H h → RelDs K ι H ds vs → op ds h Q →
    (∀ d h' ι' v H', Q d h' → Ext ι H ι' H' → RelH K ι' H' h' → RelD K ι' H' d v → Qv v H') → r vs H Qv
def eB (op : LB) (A : LX (List D)) : LE := fun σ h Q E => A σ h (fun ds h1 => op ds h1 Q) E
section
variable {r : List V → Hp → VK → Prop} {op : LB} {A : LX (List D)} {x : Str} {id T : String} {e : Expr} {es : List Expr} {p pos : Pos}
theorem mono_B (hs : ∀ ds h (Q Q' : D → LH → Prop), (∀ d h, Q d h → Q' d h) → op ds h Q → op ds h Q') (hA : Mono A) : Mono (eB op A) := fun σ h Q Q' E E' hQ hE q => hA σ h _ _ _ _ (fun ds h1 q1 => hs _ _ _ _ hQ q1) hE q
theorem B_run {K : Frag} (hs : CallS K r op) (hA : Mono A) {σV : L2.St} {H : Hp} {Q : VK} (q : tE K W (eB op A) σV H Q) : tCB r (tA K W A) σV H Q := by
  obtain ⟨ι, σ, h, hS, hH, q⟩ := q
  refine tX.into hA hS hH q (fun ds h1 ι1 vs H1 q1 e1 hH1 rs => ?_) (fun c fs h1 ι1 dx H1 q1 => q1 ι1 dx H1)
  exact hs.run ι1 H1 h1 ds vs _ _ hH1 rs q1 fun d h' ι' v H' q' e' => q' ι' v H' (e1.trans e')
theorem je_B (hc : CallR X (.builtin id) r) (hs : CallS X.K r op) (hm : X.mg x = none) (hv : bootBuiltins x = some (.builtin id)) (ha : JA X W (e :: es) A) (hg : Gl X x := by rfl) (hn : x ≠ "__name__" := by decide) (hdb : (x == ("__debug__" : Str)) = false := by decide)
    (h : ∀ {t : TA}, CallR X (.builtin id) r → Gl X x → X.mg x = none → bootBuiltins x = some (.builtin id) → PA X (e :: es) t → PE X (.Call (.Name x p) (e :: es) [] pos) (tCB r t) := by exact fun a b c d e => pe_callB a b c d e) : JE X W (.Call (.Name x p) (e :: es) [] pos) (eB op A) :=
  ⟨mono_B hs.mono ha.mono, PE.weak (h hc hg hm hv ha.run) fun _ _ _ q => B_run hs ha.mono q⟩
theorem je_BT (hc : CallR X (.type T) r) (hs : CallS X.K r op) (hm : X.mg x = none) (hv : bootBuiltins x = some (.type T)) (ha : JA X W (e :: es) A) (hg : Gl X x := by rfl)
    (h : ∀ {t : TA}, CallR X (.type T) r → Gl X x → X.mg x = none → bootBuiltins x = some (.type T) → PA X (e :: es) t → PE X (.Call (.Name x p) (e :: es) [] pos) (tCB r t) := by exact fun a b c d e => pe_callTy a b c d e) : JE X W (.Call (.Name x p) (e :: es) [] pos) (eB op A) :=
  ⟨mono_B hs.mono ha.mono, PE.weak (h hc hg hm hv ha.run) fun _ _ _ q => B_run hs ha.mono q⟩
end
theorem RelDs.one {K : Frag} {ι : Ad} {H : Hp} {d : D} {vs : List V} (r : RelDs K ι H [d] vs) : ∃ v, vs = [v] ∧ RelD K ι H d v := by
  obtain ⟨v, r', e, h1, h2⟩ := r
  cases h2
  exact ⟨v, e, h1⟩
theorem RelDs.two {K : Frag} {ι : Ad} {H : Hp} {d d2 : D} {vs : List V} (r : RelDs K ι H [d, d2] vs) : ∃ v v2, vs = [v, v2] ∧ RelD K ι H d v ∧ RelD K ι H d2 v2 := by
  obtain ⟨v, r', e, h1, v2, r2, e2, h2, h3⟩ := r
  cases h3
  subst e2
  exact ⟨v, v2, e, h1, h2⟩
/-- lists of ints -/
def intsD : List D → Option (List Int)
  | [] => some []
  | .int i :: r => (intsD r).map (i :: ·)
  | _ :: _ => none
theorem intsD_map (ns : List Int) : intsD (ns.map D.int) = some ns := by
  induction ns with
  | nil => rfl
  | cons n ns ih => simp [intsD, ih]
theorem rel_ints {K : Frag} {ι : Ad} {H : Hp} : ∀ {ns : List Int} {vs : List V}, RelDs K ι H (ns.map D.int) vs → vs = ns.map V.int
  | [], _, h => h
  | n :: ns, _, ⟨v, r, e, h1, h2⟩ => by subst e; cases h1; rw [rel_ints h2]; rfl
section
variable {K : Frag}
def bLen : LB := fun ds h Q => match ds with
  | [.str s] => s.length ≤ sizeLine ∧ Q (.int s.length) h
  | [d] => seqA d h fun xs => Q (.int xs.length) h
  | _ => False
theorem bsLen : CallS K (fun xs H Q => (∃ p ys, xs = [.ref p] ∧ (SqL K H p ys ∨ SqT K H p ys) ∧ Q (.int ys.length) H) ∨ (∃ z, xs = [.str z] ∧ z.length ≤ sizeLine ∧ Q (.int z.length) H)) bLen := by
  refine ⟨fun ds h Q Q' hQ q => ?_, fun ι H h ds vs Q Qv hH r q k => ?_⟩
  · unfold bLen at *
    split at q
    · exact ⟨q.1, hQ _ _ q.2⟩
    · exact seqA_mono (fun xs q => hQ _ _ q) q
    · exact q.elim
  · unfold bLen at q
    split at q
    · obtain ⟨v, rfl, rv⟩ := r.one
      exact .inr ⟨_, congrArg (fun z => [z]) rv, q.1, k _ h ι _ H q.2 (.refl _ _) hH rfl⟩
    · obtain ⟨v, rfl, rv⟩ := r.one
      obtain ⟨a, xs, ys, rfl, h1, h2, q⟩ := seqA_run hH rv q
      exact .inl ⟨a, ys, rfl, h1, by rw [← h2.length]; exact k _ h ι _ H q (.refl _ _) hH rfl⟩
    · exact q.elim
def bAbs : LB := fun ds h Q => match ds with | [.int i] => Q (.int (if i < 0 then -i else i)) h | _ => False
theorem bsAbs : CallS K (fun xs H Q => ∃ i, xs = [.int i] ∧ Q (.int (if i < 0 then -i else i)) H) bAbs := by
  refine ⟨fun ds h Q Q' hQ q => ?_, fun ι H h ds vs Q Qv hH r q k => ?_⟩
  · unfold bAbs at *; split at q <;> first | exact hQ _ _ q | exact q.elim
  · unfold bAbs at q
    split at q
    · obtain ⟨v, rfl, rv⟩ := r.one
      exact ⟨_, congrArg (fun z => [z]) rv, k _ h ι _ H q (.refl _ _) hH rfl⟩
    · exact q.elim
def bInt : LB := fun ds h Q => match ds with | [.int i] => Q (.int i) h | [.bl b] => Q (.int (if b then 1 else 0)) h | _ => False
theorem bsInt : CallS K (fun xs H Q => (∃ i, xs = [.int i] ∧ Q (.int i) H) ∨ ∃ k, xs = [.bl k] ∧ Q (.int (if k then 1 else 0)) H) bInt := by
  refine ⟨fun ds h Q Q' hQ q => ?_, fun ι H h ds vs Q Qv hH r q k => ?_⟩
  · unfold bInt at *; split at q <;> first | exact hQ _ _ q | exact q.elim
  · unfold bInt at q
    split at q
    · obtain ⟨v, rfl, rv⟩ := r.one
      exact .inl ⟨_, congrArg (fun z => [z]) rv, k _ h ι _ H q (.refl _ _) hH rfl⟩
    · obtain ⟨v, rfl, rv⟩ := r.one
      exact .inr ⟨_, congrArg (fun z => [z]) rv, k _ h ι _ H q (.refl _ _) hH rfl⟩
    · exact q.elim
def bMax2 : LB := fun ds h Q => match ds with | [.int i, .int j] => Q (.int (if j > i then j else i)) h | _ => False
def bMin2 : LB := fun ds h Q => match ds with | [.int i, .int j] => Q (.int (if j < i then j else i)) h | _ => False
theorem bsMax2 : CallS K (fun xs H Q => ∃ i j, xs = [.int i, .int j] ∧ Q (.int (if j > i then j else i)) H) bMax2 := by
  refine ⟨fun ds h Q Q' hQ q => ?_, fun ι H h ds vs Q Qv hH r q k => ?_⟩
  · unfold bMax2 at *; split at q <;> first | exact hQ _ _ q | exact q.elim
  · unfold bMax2 at q
    split at q
    · obtain ⟨v, v2, rfl, rv, rv2⟩ := r.two
      cases rv; cases rv2
      exact ⟨_, _, rfl, k _ h ι _ H q (.refl _ _) hH rfl⟩
    · exact q.elim
theorem bsMin2 : CallS K (fun xs H Q => ∃ i j, xs = [.int i, .int j] ∧ Q (.int (if j < i then j else i)) H) bMin2 := by
  refine ⟨fun ds h Q Q' hQ q => ?_, fun ι H h ds vs Q Qv hH r q k => ?_⟩
  · unfold bMin2 at *; split at q <;> first | exact hQ _ _ q | exact q.elim
  · unfold bMin2 at q
    split at q
    · obtain ⟨v, v2, rfl, rv, rv2⟩ := r.two
      cases rv; cases rv2
      exact ⟨_, _, rfl, k _ h ι _ H q (.refl _ _) hH rfl⟩
    · exact q.elim
def bDivmod : LB := fun ds h Q => match ds with | [.int i, .int j] => CDiv i j ∧ Q (.tup [.int (i / j), .int (i % j)]) h | _ => False
theorem bsDivmod : CallS K (fun xs H Q => ∃ i j, xs = [.int i, .int j] ∧ CDiv i j ∧ ∀ p, H p = none → Q (.ref p) (upd H p (.tup [.int (i / j), .int (i % j)]))) bDivmod := by
  refine ⟨fun ds h Q Q' hQ q => ?_, fun ι H h ds vs Q Qv hH r q k => ?_⟩
  · unfold bDivmod at *; split at q <;> first | exact ⟨q.1, hQ _ _ q.2⟩ | exact q.elim
  · unfold bDivmod at q
    split at q
    · obtain ⟨v, v2, rfl, rv, rv2⟩ := r.two
      cases rv; cases rv2
      refine ⟨_, _, rfl, q.1, fun p hp => k _ h ι _ _ q.2 (Ext.new hp) (hH.new hp) ⟨p, _, rfl, SqT.of upd_same, _, _, rfl, rfl, _, _, rfl, rfl, rfl⟩⟩
    · exact q.elim
/-- tuple(list), list(list or tuple): new, and nobody changes it -/
def bTuple : LB := fun ds h Q => match ds with | [.tup xs] => Q (.tup xs) h | [d] => seqL d h fun xs => Q (.tup xs) h | _ => False
theorem bsTuple : CallS K (fun xs H Q => ∃ p ys, xs = [.ref p] ∧ ((SqL K H p ys ∧ ∀ l, H l = none → Q (.ref l) (upd H l (.tup ys))) ∨ (SqT K H p ys ∧ Q (.ref p) H))) bTuple := by
  refine ⟨fun ds h Q Q' hQ q => ?_, fun ι H h ds vs Q Qv hH r q k => ?_⟩
  · unfold bTuple at *
    split at q
    · exact hQ _ _ q
    · exact seqL_mono (fun xs q => hQ _ _ q) q
    · exact q.elim
  · unfold bTuple at q
    split at q
    · obtain ⟨v, rfl, rv⟩ := r.one
      obtain ⟨a, ys, rfl, h1, h2⟩ := rv
      exact ⟨a, ys, rfl, .inr ⟨h1, k _ h ι _ H q (.refl _ _) hH ⟨a, ys, rfl, h1, h2⟩⟩⟩
    · obtain ⟨v, rfl, rv⟩ := r.one
      obtain ⟨a, xs, ys, rfl, h1, h2, q⟩ := seqL_run hH rv q
      refine ⟨a, ys, rfl, .inl ⟨h1, fun l hl => k _ h ι _ _ q (Ext.new hl) (hH.new hl) ⟨l, ys, rfl, SqT.of upd_same, h2.ext (Ext.new hl)⟩⟩⟩
    · exact q.elim
def bListF : LB := fun ds h Q => match ds with | [d] => seqA d h fun xs => Q (.lst xs) h | _ => False
/-- list(..) that will be changed -/
def bListM : LB := fun ds h Q => match ds with | [d] => seqA d h fun xs => Q (.ref h.length) (h ++ [.lst xs]) | _ => False
theorem bsListF : CallS K (fun xs H Q => ∃ p ys, xs = [.ref p] ∧ (SqL K H p ys ∨ SqT K H p ys) ∧ ∀ l, H l = none → Q (.ref l) (upd H l (.lst ys))) bListF := by
  refine ⟨fun ds h Q Q' hQ q => ?_, fun ι H h ds vs Q Qv hH r q k => ?_⟩
  · unfold bListF at *
    split at q
    · exact seqA_mono (fun xs q => hQ _ _ q) q
    · exact q.elim
  · unfold bListF at q
    split at q
    · obtain ⟨v, rfl, rv⟩ := r.one
      obtain ⟨a, xs, ys, rfl, h1, h2, q⟩ := seqA_run hH rv q
      exact ⟨a, ys, rfl, h1, fun l hl => k _ h ι _ _ q (Ext.new hl) (hH.new hl) ⟨l, ys, rfl, .inl ⟨upd_same, hH.notNew hl⟩, h2.ext (Ext.new hl)⟩⟩
    · exact q.elim
theorem bsListM : CallS K (fun xs H Q => ∃ p ys, xs = [.ref p] ∧ (SqL K H p ys ∨ SqT K H p ys) ∧ ∀ l, H l = none → Q (.ref l) (upd H l (.lst ys))) bListM := by
  refine ⟨fun ds h Q Q' hQ q => ?_, fun ι H h ds vs Q Qv hH r q k => ?_⟩
  · unfold bListM at *
    split at q
    · exact seqA_mono (fun xs q => hQ _ _ q) q
    · exact q.elim
  · unfold bListM at q
    split at q
    · obtain ⟨v, rfl, rv⟩ := r.one
      obtain ⟨a, xs, ys, rfl, h1, h2, q⟩ := seqA_run hH rv q
      refine ⟨a, ys, rfl, h1, fun l hl => k _ _ _ _ _ q (Ext.push hl) (hH.push hl (fun _ z => by cases z) ⟨ys, upd_same, h2.ext (Ext.push hl)⟩) ⟨l, ?_, rfl⟩⟩
      rw [← hH.len, List.getElem?_append_right (Nat.le_refl _), Nat.sub_self]
      rfl
    · exact q.elim
/-- sum, max, min of a list of ints -/
def bSum : LB := fun ds h Q => match ds with | [d] => seqL d h fun xs => ∃ ns : List Int, xs = ns.map D.int ∧ Q (.int ns.sum) h | _ => False
theorem bsSum : CallS K (rSum K) bSum := by
  refine ⟨fun ds h Q Q' hQ q => ?_, fun ι H h ds vs Q Qv hH r q k => ?_⟩
  · unfold bSum at *
    split at q
    · exact seqL_mono (fun xs ⟨ns, e, q⟩ => ⟨ns, e, hQ _ _ q⟩) q
    · exact q.elim
  · unfold bSum at q
    split at q
    · obtain ⟨v, rfl, rv⟩ := r.one
      obtain ⟨a, xs, ys, rfl, h1, h2, ns, rfl, q⟩ := seqL_run hH rv q
      cases rel_ints h2
      exact ⟨a, ns, rfl, h1, k _ h ι _ H q (.refl _ _) hH rfl⟩
    · exact q.elim
def bMin : LB := fun ds h Q => match ds with | [d] => seqL d h fun xs => ∃ ns : List Int, xs = ns.map D.int ∧ 0 < ns.length ∧ ∀ m, m ∈ ns → (∀ y, y ∈ ns → m ≤ y) → Q (.int m) h | _ => False
def bMax : LB := fun ds h Q => match ds with | [d] => seqL d h fun xs => ∃ ns : List Int, xs = ns.map D.int ∧ 0 < ns.length ∧ ∀ m, m ∈ ns → (∀ y, y ∈ ns → y ≤ m) → Q (.int m) h | _ => False
theorem bsMin : CallS K (rMin K) bMin := by
  refine ⟨fun ds h Q Q' hQ q => ?_, fun ι H h ds vs Q Qv hH r q k => ?_⟩
  · unfold bMin at *
    split at q
    · exact seqL_mono (fun xs ⟨ns, e, l, q⟩ => ⟨ns, e, l, fun m a b => hQ _ _ (q m a b)⟩) q
    · exact q.elim
  · unfold bMin at q
    split at q
    · obtain ⟨v, rfl, rv⟩ := r.one
      obtain ⟨a, xs, ys, rfl, h1, h2, ns, rfl, l, q⟩ := seqL_run hH rv q
      cases rel_ints h2
      exact ⟨a, ns, rfl, h1, l, fun m y z => k _ h ι _ H (q m y z) (.refl _ _) hH rfl⟩
    · exact q.elim
theorem bsMax : CallS K (rMax K) bMax := by
  refine ⟨fun ds h Q Q' hQ q => ?_, fun ι H h ds vs Q Qv hH r q k => ?_⟩
  · unfold bMax at *
    split at q
    · exact seqL_mono (fun xs ⟨ns, e, l, q⟩ => ⟨ns, e, l, fun m a b => hQ _ _ (q m a b)⟩) q
    · exact q.elim
  · unfold bMax at q
    split at q
    · obtain ⟨v, rfl, rv⟩ := r.one
      obtain ⟨a, xs, ys, rfl, h1, h2, ns, rfl, l, q⟩ := seqL_run hH rv q
      cases rel_ints h2
      exact ⟨a, ns, rfl, h1, l, fun m y z => k _ h ι _ H (q m y z) (.refl _ _) hH rfl⟩
    · exact q.elim
theorem rel_bls {ι : Ad} {H : Hp} : ∀ {bs : List Bool} {vs : List V}, RelDs K ι H (bs.map D.bl) vs → vs = bs.map V.bl
  | [], _, h => h
  | n :: ns, _, ⟨v, r, e, h1, h2⟩ => by subst e; cases h1; rw [rel_bls h2]; rfl
def bAll : LB := fun ds h Q => match ds with | [d] => seqL d h fun xs => ∃ bs : List Bool, xs = bs.map D.bl ∧ Q (.bl (bs.all id)) h | _ => False
def bAny : LB := fun ds h Q => match ds with | [d] => seqL d h fun xs => ∃ bs : List Bool, xs = bs.map D.bl ∧ Q (.bl (bs.any id)) h | _ => False
theorem bsAll : CallS K (rAll K) bAll := by
  refine ⟨fun ds h Q Q' hQ q => ?_, fun ι H h ds vs Q Qv hH r q k => ?_⟩
  · unfold bAll at *
    split at q
    · exact seqL_mono (fun xs ⟨ns, e, q⟩ => ⟨ns, e, hQ _ _ q⟩) q
    · exact q.elim
  · unfold bAll at q
    split at q
    · obtain ⟨v, rfl, rv⟩ := r.one
      obtain ⟨a, xs, ys, rfl, h1, h2, bs, rfl, q⟩ := seqL_run hH rv q
      cases rel_bls h2
      exact ⟨a, bs, rfl, h1, k _ h ι _ H q (.refl _ _) hH rfl⟩
    · exact q.elim
theorem bsAny : CallS K (rAny K) bAny := by
  refine ⟨fun ds h Q Q' hQ q => ?_, fun ι H h ds vs Q Qv hH r q k => ?_⟩
  · unfold bAny at *
    split at q
    · exact seqL_mono (fun xs ⟨ns, e, q⟩ => ⟨ns, e, hQ _ _ q⟩) q
    · exact q.elim
  · unfold bAny at q
    split at q
    · obtain ⟨v, rfl, rv⟩ := r.one
      obtain ⟨a, xs, ys, rfl, h1, h2, bs, rfl, q⟩ := seqL_run hH rv q
      cases rel_bls h2
      exact ⟨a, bs, rfl, h1, k _ h ι _ H q (.refl _ _) hH rfl⟩
    · exact q.elim
def bStr : LB := fun ds h Q => match ds with | [.int i] => i.natAbs.log2 < 1920 ∧ Q (.str (toString i)) h | _ => False
theorem bsStr : CallS K (fun xs H Q => ∃ i, xs = [.int i] ∧ i.natAbs.log2 < 1920 ∧ Q (.str (toString i)) H) bStr := by
  refine ⟨fun ds h Q Q' hQ q => ?_, fun ι H h ds vs Q Qv hH r q k => ?_⟩
  · unfold bStr at *; split at q <;> first | exact ⟨q.1, hQ _ _ q.2⟩ | exact q.elim
  · unfold bStr at q
    split at q
    · obtain ⟨v, rfl, rv⟩ := r.one
      exact ⟨_, congrArg (fun z => [z]) rv, q.1, k _ h ι _ H q.2 (.refl _ _) hH rfl⟩
    · exact q.elim
end
end LL
end

section
set_option Elab.async false
set_option linter.all false
set_option maxRecDepth 100000
set_option maxHeartbeats 1000000
/-! LLIter: what is walked, and list comprehensions. -/
namespace LL
open PySem PySem.Spec PyProof.Rows L2
variable {X : Cx} {W : WX}

/-! ### walking a list, a tuple -/
/-- a list or a tuple, by what stands there when the walk begins -/
def iSq (K : Frag) (tl : TE) : TI := fun σ H R => tl σ H fun x H1 => ∃ a, x = .ref a ∧ (((∃ xs, SqL K H1 a xs) ∧ R (Itl K a) H1) ∨ ((∃ xs, SqT K H1 a xs) ∧ R (Itt K a) H1))
theorem pi_sq {tg l : Expr} {tl : TE} (hl : PE X l tl) : PI X tg l (iSq X.K tl) := by
  refine ⟨fun pins s σ H R I h => ?_⟩
  refine thn (hl.run pins s σ H _ I h) fun v s1 ⟨x, H1, I1, r1, q1⟩ => ?_
  obtain ⟨a, e, q⟩ := q1
  subst e
  cases r1
  rcases q with ⟨⟨xs, hq⟩, q⟩ | ⟨⟨xs, hq⟩, q⟩
  · obtain ⟨its, rv, p, hz⟩ := I1.list hq
    refine wpAny_pyIter_list p.isList ?_
    exact pi_one (tk := s1.toks) I1 _ (turn_list a _) ⟨_, Heap.get?_push_size _ rfl, rfl, rfl⟩ q
  · obtain ⟨its, rv, p, hz⟩ := I1.tuple hq
    refine wpAny_pyIter_tuple (show s1.heap.IsTuple a its.toArray from p) ?_
    exact pi_one (tk := s1.toks) I1 _ (turn_tuple a _) ⟨_, Heap.get?_push_size _ rfl, rfl, rfl⟩ q
/-- the items, and that a list which may change stays as it is -/
def walkD (d : D) (h : LH) (Q : LIt → Prop) : Prop := match d with
  | .lst ds => Q ⟨ds, fun _ => True⟩
  | .tup ds => Q ⟨ds, fun _ => True⟩
  | .ref n => match h[n]? with
    | some (.lst ds) => Q ⟨ds, fun h' => h'[n]? = some (.lst ds)⟩
    | _ => False
  | _ => False
def iSeq (m : LE) : LI := fun σ h Q E => m σ h (fun d h1 => walkD d h1 fun J => Q J h1) E
theorem walkD_mono {d : D} {h : LH} {Q Q' : LIt → Prop} (hQ : ∀ J, Q J → Q' J) (q : walkD d h Q) : walkD d h Q' := by
  unfold walkD at *
  split at q
  · exact hQ _ q
  · exact hQ _ q
  · split at q
    · exact hQ _ q
    · exact q.elim
  · exact q.elim
theorem itl_frz {K : Frag} {ι1 : Ad} {H1 : Hp} {a : Addr} {ds : List D} {vs : List V} (hf : FzL K ι1 H1 a vs) (rs : RelDs K ι1 H1 ds vs) : ItRel K ι1 H1 ⟨ds, fun _ => True⟩ (Itl K a) := by
  refine ⟨fun ι H h e hH _ => ⟨vs, (e.fzL hf).sq, by rw [← rs.length]; exact Nat.le_refl _⟩, fun i x ι H h hx e hH _ => ?_⟩
  obtain ⟨v, hv, r⟩ := rs.get hx
  refine ⟨⟨vs, v, (e.fzL hf).sq, hv⟩, fun u H' y => ?_⟩
  obtain ⟨rfl, y⟩ := y
  have := y vs (e.fzL hf).sq
  rw [hv] at this
  cases this
  exact ⟨.refl _ _, hH, r.ext e⟩
theorem itt_rel {K : Frag} {ι1 : Ad} {H1 : Hp} {a : Addr} {ds : List D} {vs : List V} (hf : SqT K H1 a vs) (rs : RelDs K ι1 H1 ds vs) : ItRel K ι1 H1 ⟨ds, fun _ => True⟩ (Itt K a) := by
  refine ⟨fun ι H h e hH _ => ⟨vs, e.sqT hf, by rw [← rs.length]; exact Nat.le_refl _⟩, fun i x ι H h hx e hH _ => ?_⟩
  obtain ⟨v, hv, r⟩ := rs.get hx
  refine ⟨⟨vs, v, e.sqT hf, hv⟩, fun u H' y => ?_⟩
  obtain ⟨rfl, y⟩ := y
  have := y vs (e.sqT hf)
  rw [hv] at this
  cases this
  exact ⟨.refl _ _, hH, r.ext e⟩
theorem itl_mut {K : Frag} {ι1 : Ad} {H1 : Hp} {a : Addr} {n : Nat} {ds : List D} (ha : ι1.ix[n]? = some (some a)) : ItRel K ι1 H1 ⟨ds, fun h' => h'[n]? = some (.lst ds)⟩ (Itl K a) := by
  refine ⟨fun ι H h e hH ok => ?_, fun i x ι H h hx e hH ok => ?_⟩
  · obtain ⟨vs, h1, rs⟩ := hH.lst (e.at_ ha) ok
    exact ⟨vs, .inl (.inl h1), by rw [← rs.length]; exact Nat.le_refl _⟩
  · obtain ⟨vs, h1, rs⟩ := hH.lst (e.at_ ha) ok
    obtain ⟨v, hv, r⟩ := rs.get hx
    refine ⟨⟨vs, v, .inl (.inl h1), hv⟩, fun u H' y => ?_⟩
    obtain ⟨rfl, y⟩ := y
    have := y vs (.inl (.inl h1))
    rw [hv] at this
    cases this
    exact ⟨.refl _ _, hH, r⟩
/-- through a computation into an iteration -/
theorem ji_seq {tg l : Expr} {m : LE} (hl : JE X W l m) : JI X W tg l (iSeq m) := by
  refine ⟨fun σ h Q Q' E E' hQ hE q => hl.mono σ h _ _ _ _ (fun d h1 q1 => walkD_mono (fun J => hQ J h1) q1) hE q, PI.weak (pi_sq hl.run) fun σV H Q ⟨ι, σ, h, hS, hH, q⟩ => ?_⟩
  refine tX.into hl.mono hS hH q (fun d h1 ι1 v H1 q1 e1 hH1 r => ?_) (fun c fs h1 ι1 dx H1 q1 => q1 ι1 dx H1)
  unfold walkD at q1
  split at q1
  · obtain ⟨a, vs, rfl, hf, rs⟩ := r
    exact ⟨a, rfl, .inl ⟨⟨vs, hf.sq⟩, q1 ι1 _ H1 e1 hH1 (itl_frz hf rs)⟩⟩
  · obtain ⟨a, vs, rfl, hf, rs⟩ := r
    exact ⟨a, rfl, .inr ⟨⟨vs, hf⟩, q1 ι1 _ H1 e1 hH1 (itt_rel hf rs)⟩⟩
  · obtain ⟨a, ha, rfl⟩ := r
    split at q1
    · rename_i ho
      obtain ⟨vs, h2, rs⟩ := hH1.lst ha ho
      exact ⟨a, rfl, .inl ⟨⟨vs, .inl (.inl h2)⟩, q1 ι1 _ H1 e1 hH1 (itl_mut ha)⟩⟩
    · exact q1.elim
  · exact q1.elim

/-! ### range -/
def rngD (lo : Int) (n : Nat) : List D := (List.range n).map fun (i : Nat) => D.int (lo + i)
theorem rngD_len (lo : Int) (n : Nat) : (rngD lo n).length = n := by simp [rngD]
theorem rngD_get {lo : Int} {n i : Nat} {x : D} (h : (rngD lo n)[i]? = some x) : i < n ∧ x = .int (lo + i) := by
  have l := (List.getElem?_eq_some_iff.mp h).1
  rw [rngD_len] at l
  refine ⟨l, ?_⟩
  simp [rngD, l] at h
  exact h.symm
theorem it_rng {K : Frag} {ι1 : Ad} {H1 : Hp} {lo : Int} {n : Nat} : ItRel K ι1 H1 ⟨rngD lo n, fun _ => True⟩ (Itr lo n) := by
  refine ⟨fun ι H h e hH _ => Nat.le_of_eq (rngD_len lo n).symm, fun i x ι H h hx e hH _ => ?_⟩
  obtain ⟨l, rfl⟩ := rngD_get hx
  exact ⟨l, fun v H' y => by obtain ⟨rfl, rfl⟩ := y; exact ⟨.refl _ _, hH, rfl⟩⟩
def iRange (A : LX (List D)) : LI := fun σ h Q E => A σ h (fun ds h1 => match ds with
  | [.int j] => -(2 ^ 62) ≤ j ∧ j < 2 ^ 62 ∧ Q ⟨rngD 0 j.toNat, fun _ => True⟩ h1
  | [.int i, .int j] => -(2 ^ 62) ≤ i ∧ i < 2 ^ 62 ∧ -(2 ^ 62) ≤ j ∧ j < 2 ^ 62 ∧ Q ⟨rngD i (j - i).toNat, fun _ => True⟩ h1
  | _ => False) E
theorem mono_range {A : LX (List D)} (hA : Mono A) : Mono (iRange A) := fun σ h Q Q' E E' hQ hE q => hA σ h _ _ _ _ (fun ds h1 q1 => by
  split at q1
  · exact ⟨q1.1, q1.2.1, hQ _ _ q1.2.2⟩
  · exact ⟨q1.1, q1.2.1, q1.2.2.1, q1.2.2.2.1, hQ _ _ q1.2.2.2.2⟩
  · exact q1.elim) hE q
/-- the answer at one argument, at two -/
def iRangeN (k : Nat) (A : LX (List D)) : LI := fun σ h Q E => iRange (fun σ h Q E => A σ h (fun ds h1 => ds.length = k ∧ Q ds h1) E) σ h Q E
theorem ji_range1 {tg a : Expr} {A : LX (List D)} {p pos : Pos} (hm : X.mg "range" = none) (ha : JA X W [a] A) (hg : Gl X "range" := by rfl) (hs : starEach [a] X.env = [(false, eval a X.env)] := by rfl) : JI X W tg (.Call (.Name "range" p) [a] [] pos) (iRangeN 1 A) := by
  have mA : Mono (fun σ h Q E => A σ h (fun ds h1 => ds.length = 1 ∧ Q ds h1) E) := fun σ h Q Q' E E' hQ hE q => ha.mono σ h _ _ _ _ (fun d h1 q => ⟨q.1, hQ _ _ q.2⟩) hE q
  refine ⟨mono_range mA, PI.weak (pi_range1 hg hm ha.run hs) fun σV H Q ⟨ι, σ, h, hS, hH, q⟩ => ?_⟩
  refine tX.into ha.mono hS hH q (fun d h1 ι1 v H1 q1 e1 hH1 r => ?_) (fun c fs h1 ι1 dx H1 q1 => q1 ι1 dx H1)
  obtain ⟨l, q1⟩ := q1
  split at q1
  · obtain ⟨v, rfl, r'⟩ := r.one
    exact ⟨_, by rw [r'], q1.1, q1.2.1, q1.2.2 ι1 _ H1 e1 hH1 it_rng⟩
  · cases l
  · exact q1.elim
theorem ji_range2 {tg a b : Expr} {A : LX (List D)} {p pos : Pos} (hm : X.mg "range" = none) (ha : JA X W [a, b] A) (hg : Gl X "range" := by rfl) (hs : starEach [a, b] X.env = [(false, eval a X.env), (false, eval b X.env)] := by rfl) (hs2 : starEach [b] X.env = [(false, eval b X.env)] := by rfl) :
    JI X W tg (.Call (.Name "range" p) [a, b] [] pos) (iRangeN 2 A) := by
  have mA : Mono (fun σ h Q E => A σ h (fun ds h1 => ds.length = 2 ∧ Q ds h1) E) := fun σ h Q Q' E E' hQ hE q => ha.mono σ h _ _ _ _ (fun d h1 q => ⟨q.1, hQ _ _ q.2⟩) hE q
  refine ⟨mono_range mA, PI.weak (pi_range2 hg hm ha.run hs hs2) fun σV H Q ⟨ι, σ, h, hS, hH, q⟩ => ?_⟩
  refine tX.into ha.mono hS hH q (fun d h1 ι1 v H1 q1 e1 hH1 r => ?_) (fun c fs h1 ι1 dx H1 q1 => q1 ι1 dx H1)
  obtain ⟨l, q1⟩ := q1
  split at q1
  · cases l
  · obtain ⟨v, v2, rfl, r', r2⟩ := r.two
    exact ⟨_, _, by rw [r', r2], ⟨q1.1, q1.2.1, q1.2.2.1, q1.2.2.2.1⟩, q1.2.2.2.2 ι1 _ H1 e1 hH1 it_rng⟩
  · exact q1.elim

/-! ### enumerate -/
def enumD (ds : List D) : List D := ds.zipIdx.map fun p => D.tup [.int (p.2 : Nat), p.1]
theorem enumD_len (ds : List D) : (enumD ds).length = ds.length := by simp [enumD]
theorem enumD_get {ds : List D} {i : Nat} {x : D} (h : (enumD ds)[i]? = some x) : ∃ d, ds[i]? = some d ∧ x = .tup [.int (i : Nat), d] := by
  simp only [enumD, List.getElem?_map, List.getElem?_zipIdx, Nat.zero_add, Option.map_map, Option.map_eq_some_iff] at h
  obtain ⟨d, e, h⟩ := h
  exact ⟨d, e, h.symm⟩
def enumOf (J : LIt) : LIt := ⟨enumD J.items, J.ok⟩
/-- the list that is walked, at any later moment -/
def LstAt (K : Frag) (ι1 : Ad) (H1 : Hp) (J : LIt) (a : Addr) : Prop := ∀ ι H h, Ext ι1 H1 ι H → RelH K ι H h → J.ok h → ∃ vs, SqL K H a vs ∧ RelDs K ι H J.items vs
theorem it_enum {K : Frag} {ι1 : Ad} {H1 : Hp} {J : LIt} {a : Addr} (hl : LstAt K ι1 H1 J a) : ItRel K ι1 H1 (enumOf J) (Ite K a) := by
  refine ⟨fun ι H h e hH ok => ?_, fun i x ι H h hx e hH ok => ?_⟩
  · obtain ⟨vs, h1, rs⟩ := hl ι H h e hH ok
    exact ⟨vs, h1, by rw [← rs.length]; exact Nat.le_of_eq (enumD_len J.items).symm⟩
  · obtain ⟨vs, h1, rs⟩ := hl ι H h e hH ok
    obtain ⟨d, hd, rfl⟩ := enumD_get hx
    obtain ⟨v, hv, r⟩ := rs.get hd
    refine ⟨⟨vs, v, h1, hv⟩, fun u H' y => ?_⟩
    obtain ⟨T, z, rfl, hT, rfl, y⟩ := y
    have := y vs h1
    rw [hv] at this
    cases this
    have ex : Ext ι H ι (upd H T (.tup [.int (i : Nat), v])) := Ext.new hT
    exact ⟨ex, hH.new hT, T, _, rfl, SqT.of upd_same, ⟨_, _, rfl, rfl, _, _, rfl, r.ext ex, rfl⟩⟩
def walkL (d : D) (h : LH) (Q : LIt → Prop) : Prop := match d with
  | .lst ds => Q ⟨ds, fun _ => True⟩
  | .ref n => match h[n]? with
    | some (.lst ds) => Q ⟨ds, fun h' => h'[n]? = some (.lst ds)⟩
    | _ => False
  | _ => False
theorem walkL_mono {d : D} {h : LH} {Q Q' : LIt → Prop} (hQ : ∀ J, Q J → Q' J) (q : walkL d h Q) : walkL d h Q' := by
  unfold walkL at *
  split at q
  · exact hQ _ q
  · split at q
    · exact hQ _ q
    · exact q.elim
  · exact q.elim
theorem walkL_run {K : Frag} {ι : Ad} {H : Hp} {h : LH} {d : D} {v : V} {Q : LIt → Prop} (hH : RelH K ι H h) (r : RelD K ι H d v) (q : walkL d h Q) : ∃ a xs J, v = .ref a ∧ SqL K H a xs ∧ Q J ∧ LstAt K ι H J a := by
  unfold walkL at q
  split at q
  · obtain ⟨a, vs, rfl, hf, rs⟩ := r
    exact ⟨a, vs, _, rfl, hf.sq, q, fun ι' H' h' e _ _ => ⟨vs, (e.fzL hf).sq, rs.ext e⟩⟩
  · obtain ⟨a, ha, rfl⟩ := r
    split at q
    · rename_i ho
      obtain ⟨vs, h2, rs⟩ := hH.lst ha ho
      refine ⟨a, vs, _, rfl, .inl (.inl h2), q, fun ι' H' h' e hH' ok => ?_⟩
      obtain ⟨vs', h3, rs'⟩ := hH'.lst (e.at_ ha) ok
      exact ⟨vs', .inl (.inl h3), rs'⟩
    · exact q.elim
  · exact q.elim
def iEnumL (A : LX (List D)) : LI := fun σ h Q E => A σ h (fun ds h1 => match ds with | [d] => walkL d h1 fun J => Q (enumOf J) h1 | _ => False) E
theorem ji_enum {a : Expr} {A : LX (List D)} {p pos tpos : Pos} {elts : List Expr} {kk : Nat} (hm : X.mg "enumerate" = none) (ha : JA X W [a] A) (hg : Gl X "enumerate" := by rfl) (hs : starEach [a] X.env = [(false, eval a X.env)] := by rfl) :
    JI X W (.Tuple elts kk tpos) (.Call (.Name "enumerate" p) [a] [] pos) (iEnumL A) := by
  refine ⟨fun σ h Q Q' E E' hQ hE q => ha.mono σ h _ _ _ _ (fun ds h1 q1 => ?_) hE q, PI.weak (pi_enum hg hm ha.run hs) fun σV H Q ⟨ι, σ, h, hS, hH, q⟩ => ?_⟩
  · split at q1
    · exact walkL_mono (fun J => hQ _ h1) q1
    · exact q1.elim
  · refine tX.into ha.mono hS hH q (fun d h1 ι1 v H1 q1 e1 hH1 r => ?_) (fun c fs h1 ι1 dx H1 q1 => q1 ι1 dx H1)
    split at q1
    · obtain ⟨v, rfl, r'⟩ := r.one
      obtain ⟨a, xs, J, rfl, h2, q2, hl⟩ := walkL_run hH1 r' q1
      exact ⟨a, xs, rfl, h2, q2 ι1 _ H1 e1 hH1 (it_enum hl)⟩
    · exact q1.elim

/-! ### zip of two lists -/
def zipD (xs ys : List D) : List D := (xs.zip ys).map fun p => D.tup [p.1, p.2]
def zipOf (J J' : LIt) : LIt := ⟨zipD J.items J'.items, fun h => J.ok h ∧ J'.ok h⟩
theorem zipD_get {xs ys : List D} {i : Nat} {x : D} (h : (zipD xs ys)[i]? = some x) : ∃ d e, xs[i]? = some d ∧ ys[i]? = some e ∧ x = .tup [d, e] := by
  simp only [zipD, List.getElem?_map, Option.map_eq_some_iff] at h
  obtain ⟨⟨d, e⟩, q, h⟩ := h
  rw [List.getElem?_zip_eq_some] at q
  exact ⟨d, e, q.1, q.2, h.symm⟩
theorem it_zip {K : Frag} {ι1 : Ad} {H1 : Hp} {J J' : LIt} {a b : Addr} (hl : LstAt K ι1 H1 J a) (hl' : LstAt K ι1 H1 J' b) : ItRel K ι1 H1 (zipOf J J') (Itz K a b) := by
  refine ⟨fun ι H h e hH ok => ?_, fun i x ι H h hx e hH ok => ?_⟩
  · obtain ⟨vs, h1, rs⟩ := hl ι H h e hH ok.1
    obtain ⟨us, h2, ru⟩ := hl' ι H h e hH ok.2
    refine ⟨vs, us, h1, h2, ?_⟩
    rw [← rs.length, ← ru.length]
    show J.items.length ≤ (zipD J.items J'.items).length ∨ J'.items.length ≤ (zipD J.items J'.items).length
    simp only [zipD, List.length_map, List.length_zip]
    omega
  · obtain ⟨vs, h1, rs⟩ := hl ι H h e hH ok.1
    obtain ⟨us, h2, ru⟩ := hl' ι H h e hH ok.2
    obtain ⟨d, d2, hd, hd2, rfl⟩ := zipD_get hx
    obtain ⟨v, hv, r⟩ := rs.get hd
    obtain ⟨v2, hv2, r2⟩ := ru.get hd2
    refine ⟨⟨vs, us, v, v2, h1, h2, hv, hv2⟩, fun u H' y => ?_⟩
    obtain ⟨T, z, z2, rfl, hT, rfl, y, y2⟩ := y
    have := y vs h1
    rw [hv] at this
    cases this
    have := y2 us h2
    rw [hv2] at this
    cases this
    have ex : Ext ι H ι (upd H T (.tup [v, v2])) := Ext.new hT
    exact ⟨ex, hH.new hT, T, _, rfl, SqT.of upd_same, ⟨_, _, rfl, r.ext ex, _, _, rfl, r2.ext ex, rfl⟩⟩
def iZipL (A : LX (List D)) : LI := fun σ h Q E => A σ h (fun ds h1 => match ds with | [d, e] => walkL d h1 fun J => walkL e h1 fun J' => Q (zipOf J J') h1 | _ => False) E
theorem ji_zip {a b : Expr} {A : LX (List D)} {p pos tpos : Pos} {elts : List Expr} {kk : Nat} (hm : X.mg "zip" = none) (ha : JA X W [a, b] A) (hg : Gl X "zip" := by rfl)
    (hs : starEach [a, b] X.env = (false, eval a X.env) :: starEach [b] X.env := by rfl) (hpl : (backTo pos (starEach [b] X.env)).any (·.1) = false := by rfl) :
    JI X W (.Tuple elts kk tpos) (.Call (.Name "zip" p) [a, b] [] pos) (iZipL A) := by
  refine ⟨fun σ h Q Q' E E' hQ hE q => ha.mono σ h _ _ _ _ (fun ds h1 q1 => ?_) hE q, PI.weak (pi_zip hg hm ha.run hs hpl) fun σV H Q ⟨ι, σ, h, hS, hH, q⟩ => ?_⟩
  · split at q1
    · exact walkL_mono (fun J q2 => walkL_mono (fun J' => hQ _ h1) q2) q1
    · exact q1.elim
  · refine tX.into ha.mono hS hH q (fun d h1 ι1 v H1 q1 e1 hH1 r => ?_) (fun c fs h1 ι1 dx H1 q1 => q1 ι1 dx H1)
    split at q1
    · obtain ⟨v, v2, rfl, r', r2⟩ := r.two
      obtain ⟨a, xs, J, rfl, h2, q2, hl⟩ := walkL_run hH1 r' q1
      obtain ⟨b, ys, J', rfl, h3, q3, hl'⟩ := walkL_run hH1 r2 q2
      exact ⟨a, b, xs, ys, rfl, h2, h3, q3 ι1 _ H1 e1 hH1 (it_zip hl hl')⟩
    · exact q1.elim

/-! ### list comprehensions -/
/-- the targets of a comprehension: a name, a tuple of names -/
inductive Pt where
  | nm (i : Nat)
  | tp (is : List Nat)
def setDs : List Nat → List D → LV → LV
  | i :: is, d :: ds, σ => setDs is ds (σ.set i (some d))
  | _, _, σ => σ
def Pt.st (p : Pt) (d : D) (σ : LV) (Q : LV → Prop) : Prop := match p with
  | .nm i => Q (σ.set i (some d))
  | .tp is => match d with
    | .tup ds => ds.length = is.length ∧ Q (setDs is ds σ)
    | _ => False
def gNs : List Nat → TGs
  | [] => gNil
  | i :: is => gCons (gName i) (gNs is)
def Pt.g (K : Frag) : Pt → TG
  | .nm i => gName i
  | .tp is => gTup K is.length (gNs is)
def Pt.own : Pt → List Nat
  | .nm i => [i]
  | .tp is => is
theorem wipe_in {σ : L2.St} {i : Nat} {v : Option V} : ∀ {vs : List Nat}, i ∈ vs → wipe (σ.set i v) vs = wipe σ vs
  | u :: vs, h => by
    unfold wipe
    rcases List.mem_cons.mp h with rfl | h
    · by_cases hi : i ∈ vs
      · rw [wipe_in hi]
      · clear h
        have : ∀ vs : List Nat, wipe (σ.set i v) vs = if i ∈ vs then wipe σ vs else (wipe σ vs).set i v := by
          intro vs
          induction vs with
          | nil => simp [wipe]
          | cons u vs ih =>
            unfold wipe
            rw [ih]
            by_cases h1 : i = u
            · subst h1
              by_cases h2 : i ∈ vs
              · simp [h2]
              · simp [h2, List.set_set]
            · by_cases h2 : i ∈ vs
              · simp [h2]
              · simp only [h2, if_false, List.mem_cons, h1, or_self]
                rw [List.set_comm _ _ h1]
        rw [this, if_neg hi, List.set_set]
    · rw [wipe_in h]
theorem gNs_run {K : Frag} {ι : Ad} {H : Hp} {vs : List Nat} {Q : L2.St → Hp → Prop} : ∀ {is : List Nat} {ds : List D} {us : List V} {σ : LV} {σV : L2.St}, ds.length = is.length → (∀ i ∈ is, i ∈ vs) → RelS K ι H σ σV → RelDs K ι H ds us →
    (∀ σV', RelS K ι H (setDs is ds σ) σV' → wipe σV' vs = wipe σV vs → Q σV' H) → gNs is us σV H Q
  | [], [], us, σ, σV, _, _, hS, rs, k => by cases rs; exact ⟨rfl, k σV hS rfl⟩
  | i :: is, d :: ds, us, σ, σV, l, m, hS, rs, k => by
    obtain ⟨v, r, rfl, r1, r2⟩ := rs
    refine ⟨v, r, rfl, ?_⟩
    refine gNs_run (is := is) (ds := ds) (σ := σ.set i (some d)) (by simpa using l) (fun j hj => m j (by simp [hj])) (hS.set i r1) r2 fun σV' h' w => ?_
    refine k σV' h' ?_
    rw [w]
    exact wipe_in (m i (by simp))
theorem Pt.run {K : Frag} {ι : Ad} {H : Hp} {vs : List Nat} {p : Pt} {d : D} {v : V} {σ : LV} {σV : L2.St} {Q0 : LV → Prop} {Q : L2.St → Hp → Prop} (ho : ∀ i ∈ p.own, i ∈ vs) (hS : RelS K ι H σ σV) (r : RelD K ι H d v) (q : p.st d σ Q0)
    (k : ∀ σ' σV', Q0 σ' → RelS K ι H σ' σV' → wipe σV' vs = wipe σV vs → Q σV' H) : p.g K v σV H Q := by
  cases p with
  | nm i => exact k _ _ q (hS.set i r) (wipe_in (ho i (by simp [Pt.own])))
  | tp is =>
    unfold Pt.st at q
    split at q
    · cases ‹_ = _›
    · rename_i is' e
      cases e
      split at q
      · rename_i ds
        obtain ⟨a, us, rfl, ht, rs⟩ := r
        refine ⟨a, us, rfl, ht, by rw [← rs.length]; exact q.1, ?_⟩
        exact gNs_run q.1 ho hS rs fun σV' h' w => k _ σV' q.2 h' w
      · exact q.elim
def lwipe (σ : LV) : List Nat → LV
  | [] => σ
  | v :: vs => (lwipe σ vs).set v none
theorem RelS.wipe {K : Frag} {ι : Ad} {H : Hp} {σ : LV} {σV : L2.St} (hS : RelS K ι H σ σV) : ∀ vs, RelS K ι H (lwipe σ vs) (L2.wipe σV vs)
  | [] => hS
  | v :: vs => by
    have ih := RelS.wipe hS vs
    refine ⟨by simp [lwipe, L2.wipe, ih.1], fun j d q => ?_⟩
    unfold lwipe at q
    unfold L2.wipe
    by_cases z : v = j
    · subst z
      have l := (List.getElem?_eq_some_iff.mp q).1
      rw [List.length_set] at l
      rw [List.getElem?_set_self l] at q
      cases q
    · rw [List.getElem?_set_ne z] at q ⊢
      exact ih.2 j d q
structure JTs (X : Cx) (W : WX) (es : List Expr) (m : LX Bool) : Prop where
  mono : Mono m
  run : PTs X es (tT X.K W m)
theorem PTs.weak {es : List Expr} {t t' : TT} (h : PTs X es t) (w : ∀ σ H Q, t' σ H Q → t σ H Q) : PTs X es t' := ⟨fun pins s σ H Q I q => h.run pins s σ H Q I (w _ _ _ q)⟩
def eYes : LX Bool := fun _ h Q _ => Q true h
theorem jts_nil : JTs X W [] eYes := ⟨fun _ _ _ _ _ _ hQ _ q => hQ _ _ q, PTs.weak pts_nil fun σV H Q ⟨ι, σ, h, hS, hH, q⟩ => q ι true H (.refl _ _) hH rfl⟩
theorem jts_one {c : Expr} {m : LX Bool} (h : JT X W c m) : JTs X W [c] m := ⟨h.mono, pts_one h.run⟩
abbrev eFor (mi : LI) (p : Pt) (t : LX Bool) (e : LE) (vs : List Nat) (σ : LV) (h : LH) (Q : List D → LH → Prop) (E : XL) : Prop := mi σ h (fun J h1 => ∃ I : Nat → List D → LH → Prop, I 0 [] h1 ∧ (∀ i acc h, i ≤ J.items.length → I i acc h → J.ok h) ∧
  (∀ i x acc h, J.items[i]? = some x → I i acc h → p.st x (lwipe σ vs) fun σ2 => t σ2 h (fun b h2 => if b = true then e σ2 h2 (fun y h3 => acc.length < sizeLine ∧ I (i + 1) (acc ++ [y]) h3) (fun _ _ _ => False) else I (i + 1) acc h2) (fun _ _ _ => False)) ∧
  ∀ acc h, I J.items.length acc h → Q acc h) E
/-- a list that nobody changes -/
def eLC (mi : LI) (p : Pt) (t : LX Bool) (e : LE) (vs : List Nat) : LE := fun σ h Q E => eFor mi p t e vs σ h (fun acc h1 => Q (.lst acc) h1) E
/-- a list that will be changed -/
def eLCM (mi : LI) (p : Pt) (t : LX Bool) (e : LE) (vs : List Nat) : LE := fun σ h Q E => eFor mi p t e vs σ h (fun acc h1 => Q (.ref h1.length) (h1 ++ [.lst acc])) E

/-! setting an address aside -/
def Ad.aside (ι : Ad) (a : Addr) : Ad := ⟨ι.ix, a :: ι.res, ι.tab⟩
/-- with less set aside -/
def Ad.cut (ι : Ad) (r : List Addr) : Ad := ⟨ι.ix, r, ι.tab⟩
section
variable {K : Frag} {ι ι' : Ad} {H H' : Hp} {h : LH} {a : Addr} {r : List Addr}
theorem FzL.back (hr : ∀ b, b ∈ r → b ∈ ι.res) {vs : List V} {b : Addr} (q : FzL K ι H b vs) : FzL K (ι.cut r) H b vs := by
  rcases q with ⟨q, n⟩ | q
  · exact .inl ⟨q, n.1, fun z => n.2 (hr b z)⟩
  · exact .inr q
mutual
theorem RelD.back (hr : ∀ b, b ∈ r → b ∈ ι.res) : ∀ {d : D} {v : V}, RelD K ι H d v → RelD K (ι.cut r) H d v
  | .non, _, h => h
  | .bl _, _, h => h
  | .int _, _, h => h
  | .str _, _, h => h
  | .tup _, _, ⟨a, vs, h1, h2, h3⟩ => ⟨a, vs, h1, h2, RelDs.back hr h3⟩
  | .lst _, _, ⟨a, vs, h1, h2, h3⟩ => ⟨a, vs, h1, h2.back hr, RelDs.back hr h3⟩
  | .ob _ _ _, _, ⟨b, dx, vs, h1, h2, h3, h4, h5⟩ => ⟨b, dx, vs, h1, ⟨h2.1, fun z => h2.2 (hr b z)⟩, h3, h4, RelDs.back hr h5⟩
  | .ref _, _, ⟨a, h1, h2⟩ => ⟨a, h1, h2⟩
theorem RelDs.back (hr : ∀ b, b ∈ r → b ∈ ι.res) : ∀ {ds : List D} {vs : List V}, RelDs K ι H ds vs → RelDs K (ι.cut r) H ds vs
  | [], _, h => h
  | _ :: _, _, ⟨v, r, h1, h2, h3⟩ => ⟨v, r, h1, RelD.back hr h2, RelDs.back hr h3⟩
end
theorem RelFs.back (hr : ∀ b, b ∈ r → b ∈ ι.res) : ∀ {ds : List (Str × D)} {vs : List (Str × V)}, RelFs K ι H ds vs → RelFs K (ι.cut r) H ds vs
  | [], _, h => h
  | _ :: _, _, ⟨v, r, h1, h2, h3⟩ => ⟨v, r, h1, h2.back hr, RelFs.back hr h3⟩
theorem RelO.back (hr : ∀ b, b ∈ r → b ∈ ι.res) {b : Addr} {o : O} (q : RelO K ι H b o) : RelO K (ι.cut r) H b o := by
  cases o with
  | lst ds => obtain ⟨vs, h1, h2⟩ := q; exact ⟨vs, h1, h2.back hr⟩
  | ins C fs => obtain ⟨dx, vs, h1, h2⟩ := q; exact ⟨dx, vs, h1, h2.back hr⟩
  | gone => trivial
theorem RelH.back (hr : ∀ b, b ∈ r → b ∈ ι.res) (q : RelH K ι H h) : RelH K (ι.cut r) H h :=
  ⟨q.len, q.inj, q.live, fun b m => q.liveR b (hr b m), fun b m z => q.disj b m (hr b z), q.tabs, fun n o e g => let ⟨b, e, x⟩ := q.obj n o e g; ⟨b, e, x.back hr⟩⟩
/-- what came since goes again -/
theorem Ext.back (hr : ∀ b, b ∈ ι.res → b ∈ r) (hr' : ∀ b, b ∈ r → b ∈ ι'.res) (e : Ext ι H ι' H') : Ext ι H (ι'.cut r) H' :=
  ⟨e.pre, hr, fun b m => e.res2 b (hr' b m), e.tab, e.keep, e.tups, e.frzs, e.there⟩
/-- a new object is laid and set aside -/
theorem Ext.lay {u : HO} (hn : H a = Option.none) : Ext ι H (ι.aside a) (upd H a u) := by
  have ne : ∀ b o, H b = some o → b ≠ a := fun b o q => ne_of_none q hn
  refine ⟨⟨[], by simp [Ad.aside], fun _ z => by cases z⟩, fun b m => List.mem_cons_of_mem _ m, fun b m => ?_, rfl, fun b o q _ _ => ?_, fun b xs q => ?_, fun b o w q => ?_, fun b q => q.upd (q.ne hn)⟩
  · rcases List.mem_cons.mp m with rfl | m
    · exact .inr fun l => l.no hn
    · exact .inl m
  all_goals (rw [upd_ne (ne _ _ q)]; exact q)
theorem RelH.lay {u : HO} (hH : RelH K ι H h) (hn : H a = Option.none) (hu : ∀ ps, u ≠ .tbl ps) : RelH K (ι.aside a) (upd H a u) h := by
  have ex : Ext ι H (ι.aside a) (upd H a u) := Ext.lay hn
  have ne : ∀ b, some b ∈ ι.ix → b ≠ a := fun b m => (hH.live b m).ne hn
  refine ⟨hH.len, hH.inj, fun b m => ?_, fun b m => ?_, fun b m z => ?_, tabs_upd hH.tabs (.inl hn), fun n o q g => ?_⟩
  · exact (hH.live b m).upd (ne b m)
  · rcases List.mem_cons.mp m with rfl | m
    · exact ⟨u, upd_same, hu⟩
    · exact (hH.liveR b m).upd ((hH.liveR b m).ne hn)
  · rcases List.mem_cons.mp z with z | z
    · exact ne b m z
    · exact hH.disj b m z
  · obtain ⟨b, e, r⟩ := hH.obj n o q g
    exact ⟨b, e, r.ext ex (upd_ne (ne b (List.mem_of_getElem? e)))⟩
/-! what is set aside is written -/
mutual
theorem RelD.put {u : HO} (m : a ∈ ι.res) (ht : ∀ xs, H a ≠ some (.tup xs)) (hf : ∀ o w, H a ≠ some (.frz o w)) : ∀ {d : D} {v : V}, RelD K ι H d v → RelD K ι (upd H a u) d v
  | .non, _, h => h
  | .bl _, _, h => h
  | .int _, _, h => h
  | .str _, _, h => h
  | .tup _, _, ⟨b, vs, h1, h2, h3⟩ => ⟨b, vs, h1, by
      rcases h2 with (h2 | ⟨o, h2⟩) | h2
      · exact .inl (.inl (by rw [upd_ne (by rintro rfl; exact ht _ h2)]; exact h2))
      · exact .inl (.inr ⟨o, by rw [upd_ne (by rintro rfl; exact hf _ _ h2)]; exact h2⟩)
      · exact .inr h2, RelDs.put m ht hf h3⟩
  | .lst _, _, ⟨b, vs, h1, h2, h3⟩ => ⟨b, vs, h1, by
      rcases h2 with ⟨h2, n⟩ | ⟨o, h2⟩ | h2
      · exact .inl ⟨by rw [upd_ne (by rintro rfl; exact n.2 m)]; exact h2, n⟩
      · exact .inr (.inl ⟨o, by rw [upd_ne (by rintro rfl; exact hf _ _ h2)]; exact h2⟩)
      · exact .inr (.inr h2), RelDs.put m ht hf h3⟩
  | .ob _ _ _, _, ⟨b, dx, vs, h1, h2, h3, h4, h5⟩ => ⟨b, dx, vs, h1, h2, by rw [upd_ne (by rintro rfl; exact h2.2 m)]; exact h3, h4, RelDs.put m ht hf h5⟩
  | .ref _, _, h => h
theorem RelDs.put {u : HO} (m : a ∈ ι.res) (ht : ∀ xs, H a ≠ some (.tup xs)) (hf : ∀ o w, H a ≠ some (.frz o w)) : ∀ {ds : List D} {vs : List V}, RelDs K ι H ds vs → RelDs K ι (upd H a u) ds vs
  | [], _, h => h
  | _ :: _, _, ⟨v, r, h1, h2, h3⟩ => ⟨v, r, h1, RelD.put m ht hf h2, RelDs.put m ht hf h3⟩
end
theorem RelFs.put' {u : HO} (m : a ∈ ι.res) (ht : ∀ xs, H a ≠ some (.tup xs)) (hf : ∀ o w, H a ≠ some (.frz o w)) : ∀ {ds : List (Str × D)} {vs : List (Str × V)}, RelFs K ι H ds vs → RelFs K ι (upd H a u) ds vs
  | [], _, h => h
  | _ :: _, _, ⟨v, r, h1, h2, h3⟩ => ⟨v, r, h1, h2.put m ht hf, RelFs.put' m ht hf h3⟩
theorem RelH.put {u : HO} (hH : RelH K ι H h) (m : a ∈ ι.res) (nx : some a ∉ ι.ix) (mu : MutO (H a)) (mv : MutO (some u)) : RelH K ι (upd H a u) h := by
  have ht := mu.tup
  have hf := mu.frz
  refine ⟨hH.len, hH.inj, fun b q => ?_, fun b q => ?_, hH.disj, tabs_upd hH.tabs (.inr mu), fun n o q g => ?_⟩
  · exact (hH.live b q).mu mv
  · exact (hH.liveR b q).mu mv
  · obtain ⟨b, e, r⟩ := hH.obj n o q g
    have nb : b ≠ a := by rintro rfl; exact nx (List.mem_of_getElem? e)
    refine ⟨b, e, ?_⟩
    cases o with
    | lst ds => obtain ⟨vs, h1, h2⟩ := r; exact ⟨vs, by rw [upd_ne nb]; exact h1, h2.put m ht hf⟩
    | ins C fs => obtain ⟨dx, vs, h1, h2⟩ := r; exact ⟨dx, vs, by rw [upd_ne nb]; exact h1, h2.put' m ht hf⟩
    | gone => trivial
/-- a later moment, what was not there at the start is written -/
theorem Ext.put {u : HO} (e : Ext ι H ι' H') (hn : H a = Option.none) : Ext ι H ι' (upd H' a u) := by
  have ne : ∀ b o, H b = some o → b ≠ a := fun b o q => ne_of_none q hn
  refine ⟨e.pre, e.res1, e.res2, e.tab, fun b o q n t => ?_, fun b xs q => ?_, fun b o w q => ?_, fun b q => (e.there b q).upd (q.ne hn)⟩
  · rw [upd_ne (ne _ _ q)]; exact e.keep b o q n t
  · rw [upd_ne (ne _ _ q)]; exact e.tups b xs q
  · rw [upd_ne (ne _ _ q)]; exact e.frzs b o w q
theorem RelDs.snoc {ι : Ad} {H : Hp} {d : D} {v : V} {ds : List D} {vs : List V} (rs : RelDs K ι H ds vs) (r : RelD K ι H d v) : RelDs K ι H (ds ++ [d]) (vs ++ [v]) := rs.append ⟨v, [], rfl, r, rfl⟩
end
theorem lc_run {K : Frag} {W' : WX} {mi : LI} {p : Pt} {t : LX Bool} {e : LE} {vs : List Nat} {Q : List D → LH → Prop} {E : XL} {σ : LV} {h : LH} {ι : Ad} {H : Hp} {σV : L2.St} {Qv : VK} (hi : Mono mi) (ht : Mono t) (he : Mono e) (ho : ∀ i ∈ p.own, i ∈ vs)
    (hS : RelS K ι H σ σV) (hH : RelH K ι H h) (q : eFor mi p t e vs σ h Q E)
    (hE : ∀ c fs h1 ι1 dx H1, E c fs h1 → Ext ι H ι1 H1 → RelH K ι1 H1 h1 → RelX K ι1 H1 fs dx → W' (.ref (He.ga K c)) dx σV H1)
    (k : ∀ acc h1 D vsV ι1 H1, Q acc h1 → Ext ι H ι1 H1 → RelH K ι1 H1 h1 → ¬ Lv H D → H1 D = some (.lst vsV) → D ∈ ι1.res → some D ∉ ι1.ix → RelDs K ι1 H1 acc vsV → Qv (.ref D) H1) :
    tLc (tI K W' mi) (p.g K) (tT K NoW t) (tE K NoW e) vs σV H Qv := by
  refine tX.into hi hS hH q (fun J h1 ι1 Jv H1 q1 e1 hH1 r D hD => ?_) hE
  obtain ⟨I, i0, hok, step, done⟩ := q1
  have hS1 := hS.ext e1
  have hD0 : ¬ Lv H D := fun l => (e1.there D l).no hD
  let St : Nat → Hp → Prop := fun i H' => ∃ ι' acc vsV h', Ext ι1 H1 ι' H' ∧ RelH K ι' H' h' ∧ D ∈ ι'.res ∧ some D ∉ ι'.ix ∧ H' D = some (.lst vsV) ∧ RelDs K ι' H' acc vsV ∧ I i acc h'
  refine ⟨fun i m H' => i ≤ J.items.length ∧ m = J.items.length - i ∧ St i H', ⟨_, Nat.zero_le _, rfl, ι1.aside D, [], [], h1, Ext.lay hD, hH1.lay hD (fun _ z => by cases z), List.mem_cons_self, fun z => ?_, upd_same, rfl, i0⟩, ?_⟩
  · exact (hH1.live D z).no hD
  rintro i m H' ⟨hi', rfl, ι', acc, vsV, h', e', hH', hm, nD, hDv, rs, hI⟩
  have ok := hok i acc h' hi' hI
  by_cases hlt : i < J.items.length
  · obtain ⟨x, hx⟩ : ∃ x, J.items[i]? = some x := ⟨_, List.getElem?_eq_getElem hlt⟩
    obtain ⟨go, yl⟩ := r.go i x ι' H' h' hx e' hH' ok
    refine .inr ⟨go, fun H'' => St (i + 1) H'', fun H'' q' => ⟨_, by omega, hlt, rfl, q'⟩, fun v H2 y => ?_⟩
    obtain ⟨e2, hH2, rx⟩ := yl v H2 y
    have e12 := e'.trans e2
    have m2 := e2.res1 D hm
    have n2 := e2.nx ⟨_, hDv, fun _ z => by cases z⟩ nD
    have D2 := e2.keep D _ hDv nD (fun _ z => by cases z)
    refine Pt.run (vs := vs) ho ((hS1.ext e12).wipe vs) rx (step i x acc h' hx hI) fun σ3 σV3 q3 hS3 hw => ⟨?_, ?_⟩
    · rw [hw]
      have : ∀ (σ : L2.St) (l l' : List Nat), wipe (wipe σ l) (l' ++ l) = wipe σ (l' ++ l) := by
        intro σ l l'
        induction l' with
        | nil =>
          simp only [List.nil_append]
          have h0 : ∀ (l : List Nat) (i : Nat), (wipe σ l)[i]? = if i ∈ l then (if i < σ.length then some none else none) else σ[i]? := by
            intro l
            induction l with
            | nil => intro i; simp [wipe]
            | cons u l ih =>
              intro i
              unfold wipe
              by_cases hu : u = i
              · subst hu
                rw [List.getElem?_set_self']
                rw [ih u]
                by_cases h1 : u ∈ l <;> by_cases h2 : u < σ.length <;> simp [h1, h2, List.getElem?_eq_none, Nat.le_of_not_lt]
              · rw [List.getElem?_set_ne hu, ih i]
                have : i ≠ u := fun z => hu z.symm
                simp [this]
          have h1 : ∀ (τ : L2.St) (l : List Nat) (i : Nat), (wipe τ l)[i]? = if i ∈ l then (if i < τ.length then some none else none) else τ[i]? := by
            intro τ l
            induction l with
            | nil => intro i; simp [wipe]
            | cons u l ih =>
              intro i
              unfold wipe
              by_cases hu : u = i
              · subst hu
                rw [List.getElem?_set_self']
                rw [ih u]
                by_cases h1 : u ∈ l <;> by_cases h2 : u < τ.length <;> simp [h1, h2, List.getElem?_eq_none, Nat.le_of_not_lt]
              · rw [List.getElem?_set_ne hu, ih i]
                have : i ≠ u := fun z => hu z.symm
                simp [this]
          apply List.ext_getElem?
          intro i
          rw [h1, h0, wipe_length]
          by_cases hi : i ∈ l <;> simp [hi]
        | cons u l' ih => simp only [List.cons_append]; unfold wipe; rw [ih]
      have w := this σV vs []
      simpa using w
    refine tT.into ht hS3 hH2 q3 (fun b h3 ι3 H3 q4 e3 hH3 => ?_) (fun _ _ _ _ _ _ z => z.elim)
    have e13 := e12.trans e3
    have m3 := e3.res1 D m2
    have n3 := e3.nx ⟨_, D2, fun _ z => by cases z⟩ n2
    have D3 := e3.keep D _ D2 n2 (fun _ z => by cases z)
    cases b with
    | false =>
      rw [if_neg Bool.false_ne_true] at q4 ⊢
      exact ⟨ι3, acc, vsV, h3, e13, hH3, m3, n3, D3, rs.ext (e2.trans e3), q4⟩
    | true =>
      rw [if_pos rfl] at q4 ⊢
      refine tX.into he (hS3.ext e3) hH3 q4 (fun y h4 ι4 vy H4 q5 e4 hH4 ry => ?_) (fun _ _ _ _ _ _ z => z.elim)
      have D4 := e4.keep D _ D3 n3 (fun _ z => by cases z)
      have n4 := e4.nx ⟨_, D3, fun _ z => by cases z⟩ n3
      have m4 := e4.res1 D m3
      have rs4 := rs.ext ((e2.trans e3).trans e4)
      have tt : ∀ xs, H4 D ≠ some (.tup xs) := fun xs z => by rw [D4] at z; cases z
      have ff : ∀ o w, H4 D ≠ some (.frz o w) := fun o w z => by rw [D4] at z; cases z
      refine ⟨vsV, D4, by rw [← rs.length]; exact q5.1, ι4, acc ++ [y], vsV ++ [vy], h4, (e13.trans e4).put hD, hH4.put m4 n4 (by rw [D4]; trivial) trivial, m4, n4, upd_same, (rs4.snoc ry).put m4 tt ff, q5.2⟩
  · have ei : i = J.items.length := by omega
    subst ei
    exact .inl ⟨r.stop ι' H' h' e' hH' ok, k acc h' D vsV ι' H' (done acc h' hI) (e1.trans e') hH' hD0 hDv hm nD rs⟩
theorem mono_eFor {mi : LI} {p : Pt} {t : LX Bool} {e : LE} {vs : List Nat} {σ : LV} {h : LH} {Q Q' : List D → LH → Prop} {E E' : XL} (hi : Mono mi) (hQ : ∀ d h, Q d h → Q' d h) (hE : ∀ c fs h, E c fs h → E' c fs h) (q : eFor mi p t e vs σ h Q E) : eFor mi p t e vs σ h Q' E' :=
  hi σ h _ _ _ _ (fun J h1 ⟨I, h0, hok, hs, hd⟩ => ⟨I, h0, hok, hs, fun acc h q => hQ _ _ (hd acc h q)⟩) hE q
section
variable {K : Frag} {ι ι' : Ad} {H H' : Hp} {h : LH} {a : Addr} {r : List Addr}
mutual
theorem RelD.pro (hr : ∀ b, b ∈ r → b ∈ ι.res) (m : a ∈ ι.res) : ∀ {d : D} {v : V}, RelD K ι H d v → RelD K ((ι.cut r).push a) H d v
  | .non, _, h => h
  | .bl _, _, h => h
  | .int _, _, h => h
  | .str _, _, h => h
  | .tup _, _, ⟨a, vs, h1, h2, h3⟩ => ⟨a, vs, h1, h2, RelDs.pro hr m h3⟩
  | .lst _, _, ⟨b, vs, h1, h2, h3⟩ => ⟨b, vs, h1, by
      rcases h2 with ⟨h2, n⟩ | h2
      · refine .inl ⟨h2, fun z => ?_, fun z => n.2 (hr b z)⟩
        rcases List.mem_append.mp z with z | z
        · exact n.1 z
        · simp only [List.mem_singleton, Option.some.injEq] at z
          subst z; exact n.2 m
      · exact .inr h2, RelDs.pro hr m h3⟩
  | .ob _ _ _, _, ⟨b, dx, vs, h1, n, h3, h4, h5⟩ => ⟨b, dx, vs, h1, ⟨fun z => by
      rcases List.mem_append.mp z with z | z
      · exact n.1 z
      · simp only [List.mem_singleton, Option.some.injEq] at z
        subst z; exact n.2 m, fun z => n.2 (hr b z)⟩, h3, h4, RelDs.pro hr m h5⟩
  | .ref n, _, ⟨b, h1, h2⟩ => ⟨b, by
      show (ι.ix ++ [some a])[n]? = _
      rw [List.getElem?_append_left (List.getElem?_eq_some_iff.mp h1).1]; exact h1, h2⟩
theorem RelDs.pro (hr : ∀ b, b ∈ r → b ∈ ι.res) (m : a ∈ ι.res) : ∀ {ds : List D} {vs : List V}, RelDs K ι H ds vs → RelDs K ((ι.cut r).push a) H ds vs
  | [], _, h => h
  | _ :: _, _, ⟨v, r, h1, h2, h3⟩ => ⟨v, r, h1, RelD.pro hr m h2, RelDs.pro hr m h3⟩
end
theorem RelFs.pro (hr : ∀ b, b ∈ r → b ∈ ι.res) (m : a ∈ ι.res) : ∀ {ds : List (Str × D)} {vs : List (Str × V)}, RelFs K ι H ds vs → RelFs K ((ι.cut r).push a) H ds vs
  | [], _, h => h
  | _ :: _, _, ⟨v, r, h1, h2, h3⟩ => ⟨v, r, h1, h2.pro hr m, RelFs.pro hr m h3⟩
/-- what was set aside becomes an object of the logical heap -/
theorem RelH.pro (hr : ∀ b, b ∈ r → b ∈ ι.res) (nr : a ∉ r) (m : a ∈ ι.res) (nx : some a ∉ ι.ix) {ds : List D} {vs : List V} (ha : H a = some (.lst vs)) (rs : RelDs K ι H ds vs) (hH : RelH K ι H h) : RelH K ((ι.cut r).push a) H (h ++ [.lst ds]) := by
  refine ⟨by simp [Ad.cut, hH.len], fun i j b e1 e2 => ?_, fun b q => ?_, fun b q => hH.liveR b (hr b q), fun b q z => ?_, hH.tabs, fun i o' q g => ?_⟩
  · simp only [Ad.cut] at e1 e2
    rcases Nat.lt_or_ge i ι.ix.length with hi | hi
    · rw [List.getElem?_append_left hi] at e1
      rcases Nat.lt_or_ge j ι.ix.length with hj | hj
      · rw [List.getElem?_append_left hj] at e2
        exact hH.inj i j b e1 e2
      · rw [List.getElem?_append_right hj] at e2
        have := List.mem_of_getElem? e2
        simp only [List.mem_singleton, Option.some.injEq] at this
        subst this
        exact absurd (List.mem_of_getElem? e1) nx
    · rw [List.getElem?_append_right hi] at e1
      have z1 := List.mem_of_getElem? e1
      simp only [List.mem_singleton, Option.some.injEq] at z1
      subst z1
      rcases Nat.lt_or_ge j ι.ix.length with hj | hj
      · rw [List.getElem?_append_left hj] at e2
        exact absurd (List.mem_of_getElem? e2) nx
      · have l1 := (List.getElem?_eq_some_iff.mp e1).1
        rw [List.getElem?_append_right hj] at e2
        have l2 := (List.getElem?_eq_some_iff.mp e2).1
        simp only [List.length_singleton] at l1 l2
        omega
  · rcases List.mem_append.mp q with q | q
    · exact hH.live b q
    · simp only [List.mem_singleton, Option.some.injEq] at q
      subst q
      exact ⟨_, ha, fun _ z => by cases z⟩
  · rcases List.mem_append.mp q with q | q
    · exact hH.disj b q (hr b z)
    · simp only [List.mem_singleton, Option.some.injEq] at q
      subst q
      exact nr z
  · rcases Nat.lt_or_ge i h.length with hi | hi
    · rw [List.getElem?_append_left hi] at q
      obtain ⟨b, e, r'⟩ := hH.obj i o' q g
      refine ⟨b, by simp only [Ad.cut]; rw [List.getElem?_append_left (by rw [hH.len]; exact hi)]; exact e, ?_⟩
      cases o' with
      | lst ds => obtain ⟨vs, h1, h2⟩ := r'; exact ⟨vs, h1, h2.pro hr m⟩
      | ins C fs => obtain ⟨dx, vs, h1, h2⟩ := r'; exact ⟨dx, vs, h1, h2.pro hr m⟩
      | gone => trivial
    · have l := (List.getElem?_eq_some_iff.mp q).1
      have en : i = h.length := by simp only [List.length_append, List.length_singleton] at l; omega
      subst en
      rw [List.getElem?_append_right (Nat.le_refl _), Nat.sub_self] at q
      cases q
      refine ⟨a, by simp only [Ad.cut]; rw [← hH.len, List.getElem?_append_right (Nat.le_refl _), Nat.sub_self]; rfl, vs, ha, rs.pro hr m⟩
theorem Ext.pro (e : Ext ι H ι' H') (hn : ¬ Lv H a) : Ext ι H ((ι'.cut ι.res).push a) H' := by
  obtain ⟨l, ql, f⟩ := e.pre
  refine ⟨⟨l ++ [some a], by simp [Ad.cut, ql], fun b z => ?_⟩, fun _ z => z, fun _ z => .inl z, e.tab, e.keep, e.tups, e.frzs, e.there⟩
  rcases List.mem_append.mp z with z | z
  · exact f b z
  · simp only [List.mem_singleton, Option.some.injEq] at z
    subst z; exact hn
end
section
variable {elt tg iter : Expr} {ifs : List Expr} {scope : Scope} {own : List (Str × Nat)} {pos : Pos} {mi : LI} {p : Pt} {t : LX Bool} {m : LE}
theorem je_lc (hc : X.calm = true) (hN : X.N.Nodup) (hi : JI X W tg iter mi) (ok : BlkOk X.N X.env.scope scope own) (ho : ∀ i ∈ p.own, i ∈ own.map (·.2))
    (hg : ∀ (s : Shared) (H : Hp) (C : Addr) (cl : List (Str × Addr)) (fp : List Addr), PG (X.blk s H scope (compEnvC scope cl C X.env) fp) tg (p.g X.K))
    (ht : ∀ (s : Shared) (H : Hp) (C : Addr) (cl : List (Str × Addr)) (fp : List Addr), JTs (X.blk s H scope (compEnvC scope cl C X.env) fp) NoW ifs t)
    (he : ∀ (s : Shared) (H : Hp) (C : Addr) (cl : List (Str × Addr)) (fp : List Addr), JE (X.blk s H scope (compEnvC scope cl C X.env) fp) NoW elt m)
    (hs : ∀ x, foldedSetIterable iter X.env x = pure x := by intro _; rfl) : JE X W (.ListComp elt [⟨tg, iter, ifs, 0⟩] scope pos) (eLC mi p t m (own.map (·.2))) := by
  have dummy : Shared := X.s_0
  refine ⟨fun σ h Q Q' E E' hQ hE q => mono_eFor hi.mono (fun acc h q => hQ _ _ q) hE q, PE.weak (pe_lc (tt := tT X.K NoW t) (te := tE X.K NoW m) hc hN hi.run ok hg (fun s H C cl fp => (ht s H C cl fp).run) (fun s H C cl fp => (he s H C cl fp).run) hs) fun σV H Q ⟨ι, σ, h, hS, hH, q⟩ => ?_⟩
  refine lc_run hi.mono (ht dummy H 0 [] []).mono (he dummy H 0 [] []).mono ho hS hH q (fun c fs h1 ι1 dx H1 q1 => q1 ι1 dx H1) fun acc h1 D vsV ι1 H1 q1 e1 hH1 hD hD1 hm nD rs => ?_
  have hr : ∀ b, b ∈ ι.res → b ∈ ι1.res := e1.res1
  refine q1 (ι1.cut ι.res) _ H1 (e1.back (fun _ h => h) hr) (hH1.back hr) ⟨D, vsV, rfl, .inl ⟨hD1, nD, fun z => ?_⟩, rs.back hr⟩
  exact hD (hH.liveR D z)
theorem je_lcM (hc : X.calm = true) (hN : X.N.Nodup) (hi : JI X W tg iter mi) (ok : BlkOk X.N X.env.scope scope own) (ho : ∀ i ∈ p.own, i ∈ own.map (·.2))
    (hg : ∀ (s : Shared) (H : Hp) (C : Addr) (cl : List (Str × Addr)) (fp : List Addr), PG (X.blk s H scope (compEnvC scope cl C X.env) fp) tg (p.g X.K))
    (ht : ∀ (s : Shared) (H : Hp) (C : Addr) (cl : List (Str × Addr)) (fp : List Addr), JTs (X.blk s H scope (compEnvC scope cl C X.env) fp) NoW ifs t)
    (he : ∀ (s : Shared) (H : Hp) (C : Addr) (cl : List (Str × Addr)) (fp : List Addr), JE (X.blk s H scope (compEnvC scope cl C X.env) fp) NoW elt m)
    (hs : ∀ x, foldedSetIterable iter X.env x = pure x := by intro _; rfl) : JE X W (.ListComp elt [⟨tg, iter, ifs, 0⟩] scope pos) (eLCM mi p t m (own.map (·.2))) := by
  have dummy : Shared := X.s_0
  refine ⟨fun σ h Q Q' E E' hQ hE q => mono_eFor hi.mono (fun acc h q => hQ _ _ q) hE q, PE.weak (pe_lc (tt := tT X.K NoW t) (te := tE X.K NoW m) hc hN hi.run ok hg (fun s H C cl fp => (ht s H C cl fp).run) (fun s H C cl fp => (he s H C cl fp).run) hs) fun σV H Q ⟨ι, σ, h, hS, hH, q⟩ => ?_⟩
  refine lc_run hi.mono (ht dummy H 0 [] []).mono (he dummy H 0 [] []).mono ho hS hH q (fun c fs h1 ι1 dx H1 q1 => q1 ι1 dx H1) fun acc h1 D vsV ι1 H1 q1 e1 hH1 hD hD1 hm nD rs => ?_
  have hr : ∀ b, b ∈ ι.res → b ∈ ι1.res := e1.res1
  have nr : D ∉ ι.res := fun z => by
    exact hD (hH.liveR D z)
  refine q1 ((ι1.cut ι.res).push D) _ H1 (e1.pro hD) (hH1.pro hr nr hm nD hD1 rs) ⟨D, ?_, rfl⟩
  simp only [Ad.cut]
  rw [← hH1.len, List.getElem?_append_right (Nat.le_refl _), Nat.sub_self]
  rfl
end
section
variable {elt tg iter : Expr} {ifs : List Expr} {scope : Scope} {own : List (Str × Nat)} {pos spos py : Pos} {mi : LI} {p : Pt} {t : LX Bool} {m : LE} {i : Nat} {y : Str}
/-- the form name = [..] on one line -/
theorem js_setLc (hc : X.calm = true) (hN : X.N.Nodup) (hy : X.N[i]? = some y) (hyl : X.env.scope.names.lookup y = some .local) (hsw : swapsWith (.ListComp elt [⟨tg, iter, ifs, 0⟩] scope pos) (some (.Name y py)) spos.line X.env = pure true)
    (hi : JI X W tg iter mi) (ok : BlkOk X.N X.env.scope scope own) (ho : ∀ i ∈ p.own, i ∈ own.map (·.2))
    (hg : ∀ (s : Shared) (H : Hp) (C : Addr) (cl : List (Str × Addr)) (fp : List Addr), PG (X.blk s H scope (compEnvC scope cl C X.env) fp) tg (p.g X.K))
    (ht : ∀ (s : Shared) (H : Hp) (C : Addr) (cl : List (Str × Addr)) (fp : List Addr), JTs (X.blk s H scope (compEnvC scope cl C X.env) fp) NoW ifs t)
    (he : ∀ (s : Shared) (H : Hp) (C : Addr) (cl : List (Str × Addr)) (fp : List Addr), JE (X.blk s H scope (compEnvC scope cl C X.env) fp) NoW elt m)
    (hs : ∀ x, foldedSetIterable iter X.env x = pure x := by intro _; rfl) : JS X W (.Assign [.Name y py] (.ListComp elt [⟨tg, iter, ifs, 0⟩] scope pos) spos) (sAsg (eLC mi p t m (own.map (·.2))) (gNm i)) := by
  have je := je_lc (W := W) (pos := pos) hc hN hi ok ho hg ht he hs
  have dummy : Shared := X.s_0
  refine ⟨fun σ h A B l q => je.mono σ h _ _ _ _ (fun d h1 q1 => l.nx _ _ q1) (exOf.le l σ) q, PS.weak (ps_setLc (tt := tT X.K NoW t) (te := tE X.K NoW m) hc hN hy hyl hsw hi.run ok hg (fun s H C cl fp => (ht s H C cl fp).run) (fun s H C cl fp => (he s H C cl fp).run) hs) fun Dn σV H ⟨ι0, H0, ι, σ, h, e, hS, hH, q⟩ => ?_⟩
  refine lc_run (Qv := fun v H1 => gName i v σV H1 Dn.nx) hi.mono (ht dummy H 0 [] []).mono (he dummy H 0 [] []).mono ho hS hH q (fun c fs h1 ι1 dx H1 q1 e1 hH1 r => q1 ι1 dx σV H1 (e.trans e1) (hS.ext e1) hH1 r) fun acc h1 D vsV ι1 H1 q1 e1 hH1 hD hD1 hm nD rs => ?_
  have hr : ∀ b, b ∈ ι.res → b ∈ ι1.res := e1.res1
  have e2 := e1.back (fun _ h => h) hr
  refine q1 (ι1.cut ι.res) _ H1 (e.trans e2) ((hS.ext e2).set i ⟨D, vsV, rfl, .inl ⟨hD1, nD, fun z => ?_⟩, rs.back hr⟩) (hH1.back hr)
  exact hD (hH.liveR D z)
theorem js_setLcM (hc : X.calm = true) (hN : X.N.Nodup) (hy : X.N[i]? = some y) (hyl : X.env.scope.names.lookup y = some .local) (hsw : swapsWith (.ListComp elt [⟨tg, iter, ifs, 0⟩] scope pos) (some (.Name y py)) spos.line X.env = pure true)
    (hi : JI X W tg iter mi) (ok : BlkOk X.N X.env.scope scope own) (ho : ∀ i ∈ p.own, i ∈ own.map (·.2))
    (hg : ∀ (s : Shared) (H : Hp) (C : Addr) (cl : List (Str × Addr)) (fp : List Addr), PG (X.blk s H scope (compEnvC scope cl C X.env) fp) tg (p.g X.K))
    (ht : ∀ (s : Shared) (H : Hp) (C : Addr) (cl : List (Str × Addr)) (fp : List Addr), JTs (X.blk s H scope (compEnvC scope cl C X.env) fp) NoW ifs t)
    (he : ∀ (s : Shared) (H : Hp) (C : Addr) (cl : List (Str × Addr)) (fp : List Addr), JE (X.blk s H scope (compEnvC scope cl C X.env) fp) NoW elt m)
    (hs : ∀ x, foldedSetIterable iter X.env x = pure x := by intro _; rfl) : JS X W (.Assign [.Name y py] (.ListComp elt [⟨tg, iter, ifs, 0⟩] scope pos) spos) (sAsg (eLCM mi p t m (own.map (·.2))) (gNm i)) := by
  have je := je_lcM (W := W) (pos := pos) hc hN hi ok ho hg ht he hs
  have dummy : Shared := X.s_0
  refine ⟨fun σ h A B l q => je.mono σ h _ _ _ _ (fun d h1 q1 => l.nx _ _ q1) (exOf.le l σ) q, PS.weak (ps_setLc (tt := tT X.K NoW t) (te := tE X.K NoW m) hc hN hy hyl hsw hi.run ok hg (fun s H C cl fp => (ht s H C cl fp).run) (fun s H C cl fp => (he s H C cl fp).run) hs) fun Dn σV H ⟨ι0, H0, ι, σ, h, e, hS, hH, q⟩ => ?_⟩
  refine lc_run (Qv := fun v H1 => gName i v σV H1 Dn.nx) hi.mono (ht dummy H 0 [] []).mono (he dummy H 0 [] []).mono ho hS hH q (fun c fs h1 ι1 dx H1 q1 e1 hH1 r => q1 ι1 dx σV H1 (e.trans e1) (hS.ext e1) hH1 r) fun acc h1 D vsV ι1 H1 q1 e1 hH1 hD hD1 hm nD rs => ?_
  have hr : ∀ b, b ∈ ι.res → b ∈ ι1.res := e1.res1
  have e2 := e1.pro hD
  have nr : D ∉ ι.res := fun z => by
    exact hD (hH.liveR D z)
  refine q1 ((ι1.cut ι.res).push D) _ H1 (e.trans e2) ((hS.ext e2).set i ⟨D, ?_, rfl⟩) (hH1.pro hr nr hm nD hD1 rs)
  simp only [Ad.cut]
  rw [← hH1.len, List.getElem?_append_right (Nat.le_refl _), Nat.sub_self]
  rfl
end
end LL
end

section
set_option Elab.async false
set_option linter.all false
set_option maxRecDepth 100000
set_option maxHeartbeats 1000000
/-! LLData: operators on data of any kind; truth; texts; repr; methods of lists. -/
namespace LL
open PySem PySem.Spec PyProof.Rows L2
variable {X : Cx} {W : WX}

/-! ### a list in its exact form -/
def LstX (K : Frag) (H : Hp) (a : Addr) (xs : List V) : Prop := H a = some (.lst xs) ∨ (∃ o, H a = some (.frz o (.lst xs))) ∨ KL K a xs
theorem FzL.x {K : Frag} {ι : Ad} {H : Hp} {a : Addr} {vs : List V} (h : FzL K ι H a vs) : LstX K H a vs := by
  rcases h with ⟨h, _⟩ | h | h
  · exact .inl h
  · exact .inr (.inl h)
  · exact .inr (.inr h)
theorem LstX.get {pins : List (Addr × Obj)} {σ : L2.St} {H : Hp} {s : Shared} {a : Addr} {xs : List V} (I : Inv X pins σ H s) (h : LstX X.K H a xs) : xs.length ≤ sizeLine ∧ ∃ (its : List Value) (n : Nat), Vals xs its ∧ xs.length = its.length ∧ IsL s.heap a its.toArray n := by
  rcases h with h | ⟨o, h⟩ | ⟨its, n, h1, h2, h3⟩
  · exact I.lstM h
  · obtain ⟨_, z, its, n, r, e⟩ := I.hok a _ h
    exact ⟨z, its, n, r, r.length, e⟩
  · exact ⟨h2, its, n, h3, h3.length, I.kIn a _ h1⟩
theorem seqX_run {K : Frag} {ι : Ad} {H : Hp} {h : LH} {d : D} {v : V} {Q : List D → Prop} (hH : RelH K ι H h) (r : RelD K ι H d v) (q : seqL d h Q) : ∃ a xs ds, v = .ref a ∧ LstX K H a xs ∧ RelDs K ι H ds xs ∧ Q ds := by
  unfold seqL at q
  split at q
  · obtain ⟨a, vs, rfl, hf, rs⟩ := r
    exact ⟨a, vs, _, rfl, hf.x, rs, q⟩
  · obtain ⟨a, ha, rfl⟩ := r
    split at q
    · rename_i ho
      obtain ⟨vs, h1, rs⟩ := hH.lst ha ho
      exact ⟨a, vs, _, rfl, .inl h1, rs, q⟩
    · exact q.elim
  · exact q.elim

/-! ### + -/
def rCatL (K : Frag) : R2 := fun x y H Q => ∃ l b xs zs, x = .ref l ∧ y = .ref b ∧ LstX K H l xs ∧ LstX K H b zs ∧ xs.length + zs.length ≤ sizeLine ∧ ∀ p, H p = none → Q (.ref p) (upd H p (.lst (xs ++ zs)))
theorem op_catL : OpR X (binaryOp .Add) (rCatL X.K) := by
  rintro pins s σ H x y v u Q I rx ry ⟨l, b, xs, zs, rfl, rfl, hx, hz, hl, q⟩
  cases rx
  cases ry
  obtain ⟨_, its, n, r, e1, h1⟩ := hx.get I
  obtain ⟨_, its2, n2, r2, e2, h2⟩ := hz.get I
  refine PySem.P.add_list h1 h2 ?_ (by simp only [List.size_toArray]; omega)
  rw [List.append_toArray]
  exact ⟨.ref _, _, I.lnew (t' := s.toks) (r.append r2) (by rw [List.length_append]; exact hl), rfl, q _ I.fresh⟩
theorem OpR.or {op : Value → Value → Sem Value} {r r' : R2} (h : OpR X op r) (h' : OpR X op r') : OpR X op (fun x y H Q => r x y H Q ∨ r' x y H Q) := fun pins s σ H x y v u Q I rx ry q =>
  q.elim (fun q => h pins s σ H x y v u Q I rx ry q) fun q => h' pins s σ H x y v u Q I rx ry q
/-- +: ints, texts, tuples, lists (a new list that nobody changes) -/
def oPlus : LOp := fun x y h Q => match x, y with
  | .int i, .int j => Q (.int (i + j)) h
  | .str i, .str j => i.length + j.length ≤ sizeLine ∧ Q (.str (i ++ j)) h
  | .tup xs, .tup ys => xs ≠ [] ∧ xs.length + ys.length ≤ sizeLine ∧ Q (.tup (xs ++ ys)) h
  | x, y => seqL x h fun xs => seqL y h fun ys => xs.length + ys.length ≤ sizeLine ∧ Q (.lst (xs ++ ys)) h
abbrev rPlus (K : Frag) : R2 := fun x y H Q => (∃ i j : Int, x = .int i ∧ y = .int j ∧ Q (.int (i + j)) H) ∨ ((∃ i j, x = .str i ∧ y = .str j ∧ i.length + j.length ≤ sizeLine ∧ Q (.str (i ++ j)) H) ∨ (rCatT K x y H Q ∨ rCatL K x y H Q))
theorem opsPlus {K : Frag} : OpS K (rPlus K) oPlus := by
  refine ⟨fun x y h Q Q' hQ q => ?_, fun ι H h x y vx vy Q Qv hH rx ry q k => ?_⟩
  · unfold oPlus at *
    split at q
    · exact hQ _ _ q
    · exact ⟨q.1, hQ _ _ q.2⟩
    · exact ⟨q.1, q.2.1, hQ _ _ q.2.2⟩
    · exact seqL_mono (fun xs q => seqL_mono (fun ys q => ⟨q.1, hQ _ _ q.2⟩) q) q
  · unfold oPlus at q
    split at q
    · exact .inl ⟨_, _, rx, ry, k _ h ι _ H q (.refl _ _) hH rfl⟩
    · exact .inr (.inl ⟨_, _, rx, ry, q.1, k _ h ι _ H q.2 (.refl _ _) hH rfl⟩)
    · rename_i xs ys
      obtain ⟨a, us, rfl, ht, rs⟩ := rx
      obtain ⟨b, ws, rfl, ht2, rs2⟩ := ry
      have l1 := rs.length
      have l2 := rs2.length
      refine .inr (.inr (.inl ⟨a, b, us, ws, rfl, rfl, ht, ht2, ?_, by omega, fun e => ?_, fun _ p hp => ?_⟩))
      · rintro rfl
        exact q.1 (List.length_eq_zero_iff.mp (by simpa using l1))
      · subst e
        have : ys = [] := List.length_eq_zero_iff.mp (by simpa using l2)
        subst this
        rw [List.append_nil] at q
        exact k _ h ι _ H q.2.2 (.refl _ _) hH ⟨a, us, rfl, ht, rs⟩
      · have ex : Ext ι H ι (upd H p (.tup (us ++ ws))) := Ext.new hp
        exact k _ h ι _ _ q.2.2 ex (hH.new hp) ⟨p, _, rfl, SqT.of upd_same, (rs.ext ex).append (rs2.ext ex)⟩
    · obtain ⟨a, us, xs, rfl, h1, rs, q⟩ := seqX_run hH rx q
      obtain ⟨b, ws, ys, rfl, h2, rs2, q⟩ := seqX_run hH ry q
      have l1 := rs.length
      have l2 := rs2.length
      refine .inr (.inr (.inr ⟨a, b, us, ws, rfl, rfl, h1, h2, by omega, fun p hp => ?_⟩))
      have ex : Ext ι H ι (upd H p (.lst (us ++ ws))) := Ext.new hp
      exact k _ h ι _ _ q.2 ex (hH.new hp) ⟨p, _, rfl, .inl ⟨upd_same, hH.notNew hp⟩, (rs.ext ex).append (rs2.ext ex)⟩
theorem op_plus : OpR X (binaryOp .Add) (rPlus X.K) := OpR.or op_add (OpR.or op_add_str (OpR.or op_catT op_catL))
theorem je_plus {a b : Expr} {A B : LE} {pos : Pos} (ha : JE X W a A) (hb : JE X W b B) : JE X W (.BinOp a .Add b pos) (eOp oPlus A B) := je_op op_plus opsPlus ha hb

/-! ### data -/
mutual
def dPy : D → Option PyData
  | .non => some .none
  | .bl b => some (.bool b)
  | .int i => some (.int i)
  | .str x => some (.str x)
  | .tup ds => (dPys ds).map .tuple
  | .lst ds => (dPys ds).map .list
  | .ob _ _ _ => none
  | .ref _ => none
def dPys : List D → Option (List PyData)
  | [] => some []
  | d :: ds => match dPy d, dPys ds with
    | some p, some ps => some (p :: ps)
    | _, _ => none
end
mutual
theorem dp_of {K : Frag} {ι : Ad} {H : Hp} : ∀ {d : D} {v : V} {p : PyData}, RelD K ι H d v → dPy d = some p → Dp K H v p
  | .non, v, _, r, e => by obtain rfl : v = .non := r; simp only [dPy, Option.some.injEq] at e; subst e; exact .non
  | .bl b, v, _, r, e => by obtain rfl : v = .bl b := r; simp only [dPy, Option.some.injEq] at e; subst e; exact .bl b
  | .int i, v, _, r, e => by obtain rfl : v = .int i := r; simp only [dPy, Option.some.injEq] at e; subst e; exact .int i
  | .str x, v, _, r, e => by obtain rfl : v = .str x := r; simp only [dPy, Option.some.injEq] at e; subst e; exact .str x
  | .tup ds, _, _, ⟨a, vs, h1, h2, h3⟩, e => by
    simp only [dPy, Option.map_eq_some_iff] at e
    obtain ⟨ps, e1, e2⟩ := e
    subst h1 e2
    exact .tup h2 (dps_of h3 e1)
  | .lst ds, _, _, ⟨a, vs, h1, h2, h3⟩, e => by
    simp only [dPy, Option.map_eq_some_iff] at e
    obtain ⟨ps, e1, e2⟩ := e
    subst h1 e2
    exact .lst h2.sq (dps_of h3 e1)
  | .ob _ _ _, _, _, _, e => by simp [dPy] at e
  | .ref _, _, _, _, e => by simp [dPy] at e
theorem dps_of {K : Frag} {ι : Ad} {H : Hp} : ∀ {ds : List D} {vs : List V} {ps : List PyData}, RelDs K ι H ds vs → dPys ds = some ps → DpAll K H vs ps
  | [], vs, _, r, e => by obtain rfl : vs = [] := r; simp only [dPys, Option.some.injEq] at e; subst e; exact .nil
  | d :: ds, _, _, ⟨v, r, h1, h2, h3⟩, e => by
    simp only [dPys] at e
    split at e
    · rename_i p ps e1 e2
      cases e
      subst h1
      exact .cons (dp_of h2 e1) (dps_of h3 e2)
    · cases e
end
/-- .. a list of the logical heap on top -/
def dPyH (h : LH) (d : D) : Option PyData := match d with
  | .ref n => match h[n]? with
    | some (.lst ds) => (dPys ds).map .list
    | _ => none
  | d => dPy d
theorem dpH_of {K : Frag} {ι : Ad} {H : Hp} {h : LH} {d : D} {v : V} {p : PyData} (hH : RelH K ι H h) (r : RelD K ι H d v) (e : dPyH h d = some p) : Dp K H v p := by
  unfold dPyH at e
  split at e
  · obtain ⟨a, ha, rfl⟩ := r
    split at e
    · rename_i ho
      obtain ⟨vs, h1, rs⟩ := hH.lst ha ho
      simp only [Option.map_eq_some_iff] at e
      obtain ⟨ps, e1, rfl⟩ := e
      exact .lst (.inl (.inl h1)) (dps_of rs e1)
    · cases e
  · exact dp_of r e

/-! ### == and != of data -/
def oEqD : LOp := fun x y h Q => match x, y with
  | .int i, .int j => Q (.bl (decide (i = j))) h
  | .str i, .str j => Q (.bl (decide (i = j))) h
  | .bl i, .bl j => Q (.bl (decide (i = j))) h
  | x, y => ∃ p q, dPyH h x = some p ∧ dPyH h y = some q ∧ SeqAt.shaped p = true ∧ SeqAt.shaped q = true ∧ Q (.bl (PyData.eqv p q)) h
def oNeD : LOp := fun x y h Q => match x, y with
  | .int i, .int j => Q (.bl (!decide (i = j))) h
  | .str i, .str j => Q (.bl (!decide (i = j))) h
  | .bl i, .bl j => Q (.bl (!decide (i = j))) h
  | x, y => ∃ p q, dPyH h x = some p ∧ dPyH h y = some q ∧ SeqAt.shaped p = true ∧ SeqAt.shaped q = true ∧ Q (.bl (!PyData.eqv p q)) h
theorem opsEqD {K : Frag} : OpS K (fun x y H Q => rEq x y H Q ∨ rEqD K x y H Q) oEqD := by
  refine ⟨fun x y h Q Q' hQ q => ?_, fun ι H h x y vx vy Q Qv hH rx ry q k => ?_⟩
  · unfold oEqD at *
    split at q <;> first | exact hQ _ _ q | (obtain ⟨p, p', e1, e2, e3, e4, q⟩ := q; exact ⟨p, p', e1, e2, e3, e4, hQ _ _ q⟩)
  · unfold oEqD at q
    split at q
    · exact .inl (opsEq.run ι H h (.int _) (.int _) vx vy Q Qv hH rx ry q k)
    · exact .inl (opsEq.run ι H h (.str _) (.str _) vx vy Q Qv hH rx ry q k)
    · exact .inl (opsEq.run ι H h (.bl _) (.bl _) vx vy Q Qv hH rx ry q k)
    · obtain ⟨p, p', e1, e2, e3, e4, q⟩ := q
      exact .inr ⟨p, p', dpH_of hH rx e1, dpH_of hH ry e2, e3, e4, k _ h ι _ H q (.refl _ _) hH rfl⟩
theorem opsNeD {K : Frag} : OpS K (fun x y H Q => rNe x y H Q ∨ rNeD K x y H Q) oNeD := by
  refine ⟨fun x y h Q Q' hQ q => ?_, fun ι H h x y vx vy Q Qv hH rx ry q k => ?_⟩
  · unfold oNeD at *
    split at q <;> first | exact hQ _ _ q | (obtain ⟨p, p', e1, e2, e3, e4, q⟩ := q; exact ⟨p, p', e1, e2, e3, e4, hQ _ _ q⟩)
  · unfold oNeD at q
    split at q
    · exact .inl (opsNe.run ι H h (.int _) (.int _) vx vy Q Qv hH rx ry q k)
    · exact .inl (opsNe.run ι H h (.str _) (.str _) vx vy Q Qv hH rx ry q k)
    · exact .inl (opsNe.run ι H h (.bl _) (.bl _) vx vy Q Qv hH rx ry q k)
    · obtain ⟨p, p', e1, e2, e3, e4, q⟩ := q
      exact .inr ⟨p, p', dpH_of hH rx e1, dpH_of hH ry e2, e3, e4, k _ h ι _ H q (.refl _ _) hH rfl⟩
section
variable {a b : Expr} {A B : LE} {pos : Pos} {k : Nat}
theorem je_eqD (hr : RoomG k X.A) (ha : JE X W a A) (hb : JE X W b B) : JE X W (.Compare a [.Eq] [b] pos) (eOp oEqD A B) := je_cmp (OpR.or op_eq (op_eqD hr.r.units)) opsEqD ha hb (nomark _)
theorem jt_eqD (hr : RoomG k X.A) (ha : JE X W a A) (hb : JE X W b B) : JT X W (.Compare a [.Eq] [b] pos) (eTest (eOp oEqD A B)) := jt_cmp (OpR.or op_eq (op_eqD hr.r.units)) opsEqD ha hb (nomark _)
theorem je_neD (hr : RoomG k X.A) (ha : JE X W a A) (hb : JE X W b B) : JE X W (.Compare a [.NotEq] [b] pos) (eOp oNeD A B) := je_cmp (OpR.or op_ne (op_neD hr.r.units)) opsNeD ha hb (nomark _)
theorem jt_neD (hr : RoomG k X.A) (ha : JE X W a A) (hb : JE X W b B) : JT X W (.Compare a [.NotEq] [b] pos) (eTest (eOp oNeD A B)) := jt_cmp (OpR.or op_ne (op_neD hr.r.units)) opsNeD ha hb (nomark _)
end

/-! ### in, not in -/
def flD : D → Bool
  | .non => true
  | .bl _ => true
  | .int _ => true
  | .str _ => true
  | _ => false
/-- the flat value -/
def flV : D → V
  | .non => .non
  | .bl b => .bl b
  | .int i => .int i
  | .str x => .str x
  | _ => .non
theorem flD_rel {K : Frag} {ι : Ad} {H : Hp} {d : D} {v : V} (r : RelD K ι H d v) (f : flD d = true) : v = flV d ∧ flatV v = true := by
  cases d with
  | non => obtain rfl : v = .non := r; exact ⟨rfl, rfl⟩
  | bl b => obtain rfl : v = .bl b := r; exact ⟨rfl, rfl⟩
  | int i => obtain rfl : v = .int i := r; exact ⟨rfl, rfl⟩
  | str x => obtain rfl : v = .str x := r; exact ⟨rfl, rfl⟩
  | tup _ => exact absurd f Bool.false_ne_true
  | lst _ => exact absurd f Bool.false_ne_true
  | ob _ _ _ => exact absurd f Bool.false_ne_true
  | ref _ => exact absurd f Bool.false_ne_true
theorem flDs_rel {K : Frag} {ι : Ad} {H : Hp} : ∀ {ds : List D} {vs : List V}, RelDs K ι H ds vs → ds.all flD = true → vs = ds.map flV ∧ vs.all flatV = true
  | [], vs, h, _ => by obtain rfl : vs = [] := h; exact ⟨rfl, rfl⟩
  | d :: ds, _, ⟨v, r, h1, h2, h3⟩, f => by
    rw [List.all_cons, Bool.and_eq_true] at f
    obtain ⟨e1, e2⟩ := flD_rel h2 f.1
    obtain ⟨e3, e4⟩ := flDs_rel h3 f.2
    subst h1
    exact ⟨by rw [e1, e3]; rfl, by rw [List.all_cons, e2, e4]; rfl⟩
def inD (x : D) (ds : List D) : Bool := inV (flV x) (ds.map flV)
def oIn (neg : Bool) : LOp := fun x y h Q => flD x = true ∧ seqA y h fun ds => ds.all flD = true ∧ Q (.bl (if neg then !inD x ds else inD x ds)) h
theorem opsIn {K : Frag} {neg : Bool} : OpS K (rIn K neg) (oIn neg) := by
  refine ⟨fun x y h Q Q' hQ q => ⟨q.1, seqA_mono (fun ds q => ⟨q.1, hQ _ _ q.2⟩) q.2⟩, fun ι H h x y vx vy Q Qv hH rx ry q k => ?_⟩
  obtain ⟨a, ds, xs, rfl, h1, rs, q2⟩ := seqA_run hH ry q.2
  obtain ⟨e1, e2⟩ := flD_rel rx q.1
  obtain ⟨e3, e4⟩ := flDs_rel rs q2.1
  refine ⟨a, xs, rfl, h1, e2, e4, ?_⟩
  have := k _ h ι (.bl (if neg then !inD x ds else inD x ds)) H q2.2 (.refl _ _) hH rfl
  unfold inD at this
  rw [e1, e3]
  exact this
section
variable {a b : Expr} {A B : LE} {pos : Pos}
theorem je_in (ha : JE X W a A) (hb : JE X W b B) (hm : behindInMarks .In b = false := by rfl) : JE X W (.Compare a [.In] [b] pos) (eOp (oIn false) A B) := je_cmp op_in_seq opsIn ha hb hm
theorem jt_in (ha : JE X W a A) (hb : JE X W b B) (hm : behindInMarks .In b = false := by rfl) : JT X W (.Compare a [.In] [b] pos) (eTest (eOp (oIn false) A B)) := jt_cmp op_in_seq opsIn ha hb hm
theorem je_notIn (ha : JE X W a A) (hb : JE X W b B) (hm : behindInMarks .NotIn b = false := by rfl) : JE X W (.Compare a [.NotIn] [b] pos) (eOp (oIn true) A B) := je_cmp op_notIn_seq opsIn ha hb hm
theorem jt_notIn (ha : JE X W a A) (hb : JE X W b B) (hm : behindInMarks .NotIn b = false := by rfl) : JT X W (.Compare a [.NotIn] [b] pos) (eTest (eOp (oIn true) A B)) := jt_cmp op_notIn_seq opsIn ha hb hm
end
end LL
end

section
set_option Elab.async false
set_option linter.all false
set_option maxRecDepth 100000
set_option maxHeartbeats 1000000
/-! LLMeth: own special methods, truth, repr, texts, methods of lists. -/
namespace LL
open PySem PySem.Spec PyProof.Rows L2
variable {X : Cx} {W : WX}

/-! ### own special methods: len(o), repr(o), bool(o) -/
section
variable {k : Nat} {f C : Addr} {fd : FuncData} {ps : List Str} {sp : Sp}
theorem own_inst {pins : List (Addr × Obj)} {σ : L2.St} {H : Hp} {s : Shared} {a dx : Addr} {fs : List (Str × V)} (I : Inv X pins σ H s) (h : H a = some (.ins C dx fs)) : ∃ od, PySem.W.InstAt s.heap a (PySem.W.instObj C dx) C od := by
  obtain ⟨m, J, _⟩ := ins_get I.hok h
  obtain ⟨od, J, _⟩ := J.look
  exact ⟨_, J⟩
theorem own_call {pins : List (Addr × Obj)} {σ : L2.St} {H : Hp} {s : Shared} {a : Addr} {A : Around} {Q : VK} (F : FnG X.prog X.w X.K X.mg X.base k f fd ps sp) (hr : RoomG k A) (hA : A.frames = some X.stack) (hb : Binds X.K fd ps []) (I : Inv X pins σ H s)
    (h : sp [.ref a] H Q (fun _ _ _ => False)) : wpAny (model X.prog X.w) A (call (.ref f) [.ref a]) (EP X pins σ Q) X.xe s :=
  run_fnG (E := fun σ => WE NoW σ) (us := [.ref a]) (vs := [.ref a]) F hr hA hb (passAt LamX.takes0 σ) I (.cons rfl .nil) h
def rLenO (sp : Sp) (C : Addr) : List V → Hp → VK → Prop := fun xs H Q => ∃ a dx fs, xs = [.ref a] ∧ H a = some (.ins C dx fs) ∧ sp [.ref a] H (fun v H' => ∃ n : Int, v = .int n ∧ (0 ≤ n ∧ n < 2 ^ 63) ∧ Q (.int n) H') (fun _ _ _ => False)
theorem cr_lenO (F : FnG X.prog X.w X.K X.mg X.base k f fd ps sp) (hr : RoomG (k + 1) X.A) (hb : Binds X.K fd ps []) (hs : PySem.W.findIn X.K (.ref C) "__len__" = some (some (.ref f))) (hf : PySem.W.isFn X.K (.ref f) = true) : CallR X (.builtin "len") (rLenO sp C) := by
  rintro pins s σ H xs us Q I r ⟨a, dx, fs, rfl, h, q⟩
  obtain rfl := Vals.ref1 r
  obtain ⟨od, J⟩ := own_inst I h
  obtain ⟨m, hF⟩ := I.fr
  refine PySem.W.len_K hF I.ok.mod.kin J hs hf (thn (own_call (A := X.A.in1) F hr.in1 I.env0.frames hb I q) fun u s1 ⟨v, H1, I1, rv, n, e, hn, q1⟩ => ?_)
  subst e
  obtain ⟨t, rfl⟩ := rv
  exact ⟨hn, .int n, H1, I1.tok _, ⟨_, rfl⟩, q1⟩
def rReprO (sp : Sp) (C : Addr) : List V → Hp → VK → Prop := fun xs H Q => ∃ a dx fs, xs = [.ref a] ∧ H a = some (.ins C dx fs) ∧ sp [.ref a] H (fun v H' => ∃ x, v = .str x ∧ Q (.str x) H') (fun _ _ _ => False)
theorem cr_reprO (F : FnG X.prog X.w X.K X.mg X.base k f fd ps sp) (hr : RoomG (k + 1) X.A) (hb : Binds X.K fd ps []) (hs : PySem.W.findIn X.K (.ref C) "__repr__" = some (some (.ref f))) (hf : PySem.W.isFn X.K (.ref f) = true) : CallR X (.builtin "repr") (rReprO sp C) := by
  rintro pins s σ H xs us Q I r ⟨a, dx, fs, rfl, h, q⟩
  obtain rfl := Vals.ref1 r
  obtain ⟨od, J⟩ := own_inst I h
  obtain ⟨m, hF⟩ := I.fr
  refine PySem.W.repr_K hr.in1.r.units0 hF I.ok.mod.kin J hs hf (thn (own_call (A := X.A.in1) F hr.in1 I.env0.frames hb I q) fun u s1 ⟨v, H1, I1, rv, x, e, q1⟩ => ?_)
  subst e
  obtain ⟨t, rfl⟩ := rv
  exact ⟨.str x, H1, I1, ⟨t, rfl⟩, q1⟩
/-- the body of len, at an own __len__ -/
theorem len_body {prog : Program} {w : World} {A : Around} {E : Value → Shared → Prop} {s : Shared} {K : Frag} {x : Addr} {ox : Obj} {od : Option Obj} {Q : Value → Shared → Prop} (KX : K.In s.heap) (J : PySem.W.InstAt s.heap x ox C od)
    (hs : PySem.W.findIn K (.ref C) "__len__" = some (some (.ref f))) (hf : PySem.W.isFn K (.ref f) = true) (h : wpAny (model prog w) A (call (.ref f) [.ref x]) (PySem.W.LenBack Q) E s) :
    wpAny (model prog w) A (Builtin.«len» ⟨[.ref x], []⟩) (fun fin s' => ∃ r, fin = .done (.ret r) ∧ Q r s') E s := by
  unfold Builtin.«len»
  refine wpAny_bind (m := oneArg "len" _) (wpAny_pure (wpAny_bind (m := callSpecial? (.ref x) (Str.ofString "__len__")) (PySem.W.special_fn KX J hs (beq_iff_eq.mp hf) (wpAny_mono h (fun r s' hr => ?_) fun _ _ y => y))))
  cases r with
  | int n u =>
    obtain ⟨⟨h0, h1⟩, hq⟩ := hr
    refine wpAny_bind (wpAny_holding (wpAny_pure (wpAny_bind (wpAny_letGo ?_))))
    show wpAny _ _ (if n < 0 then _ else _) _ _ _
    rw [if_neg (Int.not_lt.mpr h0)]
    show wpAny _ _ (if n ≥ 2 ^ 63 then _ else _) _ _ _
    rw [if_neg (Int.not_le.mpr h1)]
    exact wpAny_bind (wpAny_mkInt (wpAny_pure ⟨_, rfl, hq⟩))
  | _ => exact hr.elim
theorem spV_mono {K : Frag} {n : Nat} {G : LSp} (hG : MonoP G) {vs : List V} {H : Hp} {Q Q' : VK} {E : XK} (hQ : ∀ v H, Q v H → Q' v H) (h : spV K n G vs H Q E) : spV K n G vs H Q' E := by
  obtain ⟨ι, ds, h', a, b, c, q⟩ := h
  exact ⟨ι, ds, h', a, b, c, hG _ _ _ _ _ _ (fun d h2 q2 ι' v H' e hH r => hQ _ _ (q2 ι' v H' e hH r)) (fun _ _ _ q2 => q2) q⟩
/-- truth by an own __len__, no __bool__ -/
theorem truthy_lenO {pins : List (Addr × Obj)} {σ : L2.St} {H : Hp} {s : Shared} {a dx : Addr} {fs : List (Str × V)} {A : Around} {Q : Bool → Shared → Prop} (F : FnG X.prog X.w X.K X.mg X.base k f fd ps sp) (hr : RoomG (k + 1) A) (hA : A.frames = some X.stack) (hb : Binds X.K fd ps [])
    (hn : PySem.W.findIn X.K (.ref C) "__bool__" = some none) (hs : PySem.W.findIn X.K (.ref C) "__len__" = some (some (.ref f))) (hf : PySem.W.isFn X.K (.ref f) = true) (I : Inv X pins σ H s) (h : H a = some (.ins C dx fs))
    (q : sp [.ref a] H (fun v H' => ∃ n : Int, v = .int n ∧ (0 ≤ n ∧ n < 2 ^ 63) ∧ ∀ s', Inv X pins σ H' s' → Q (n != 0) s') (fun _ _ _ => False)) : wpAny (model X.prog X.w) A (truthy (.ref a)) Q X.xe s := by
  obtain ⟨od, J⟩ := own_inst I h
  obtain ⟨m, hF⟩ := I.fr
  have KX := I.ok.mod.kin.keeps hF.keep
  have key : wpAny (model X.prog X.w) A (runValue (.builtin "len" ⟨[.ref a], []⟩)) (fun r s' => ∃ n t, r = .int n t ∧ Q (n != 0) s') X.xe s := by
    refine wpAny_runValue (codeAny_builtin entry_len ?_)
    rw [Around.under_plainId plain_len _]
    refine wpAny_mono (len_body (Q := fun r s' => ∃ n t, r = .int n t ∧ Q (n != 0) s') KX J hs hf (thn (own_call (A := A.in1) F hr.in1 hA hb I q) fun u s1 ⟨v, H1, I1, rv, n, e, hn, q1⟩ => by
      subst e
      obtain ⟨t, rfl⟩ := rv
      exact ⟨hn, n, _, rfl, q1 _ (I1.tok _)⟩)) (fun fin s' h' => ?_) fun _ _ e => e
    obtain ⟨r, rfl, hq⟩ := h'
    exact hq
  unfold truthy
  refine wpAny_bind (m := callSpecial? (.ref a) (Str.ofString "__bool__")) (wpAny_bind (wpAny_bind (J.type.here ((PySem.W.looks_findIn KX hn).here (wpAny_pure ?_)))))
  refine wpAny_bind (wpAny_bind (J.type.here ((PySem.W.looks_findIn KX hs).here ?_)))
  exact wpAny_bind (thn key fun r s' ⟨n, t, e, z⟩ => by subst e; exact wpAny_pure z)
def rBoolO (sp : Sp) (C : Addr) : List V → Hp → VK → Prop := fun xs H Q => ∃ a dx fs, xs = [.ref a] ∧ H a = some (.ins C dx fs) ∧ sp [.ref a] H (fun v H' => ∃ n : Int, v = .int n ∧ (0 ≤ n ∧ n < 2 ^ 63) ∧ Q (.bl (n != 0)) H') (fun _ _ _ => False)
/-- bool's body, whatever the truth of x does -/
theorem bool_body {prog : Program} {w : World} {A : Around} {E : Value → Shared → Prop} {s : Shared} {x : Addr} {Q : Value → Shared → Prop} (h : wpAny (model prog w) A (truthy (.ref x)) (fun b s' => Q (.bool b) s') E s) :
    wpAny (model prog w) A (Builtin.«bool.__new__» ⟨[.type "bool", .ref x], []⟩) (fun fin s' => ∃ r, fin = .done (.ret r) ∧ Q r s') E s := by
  have f1 := PySem.F.conv_sub_bool
  unfold Builtin.«bool.__new__»
  repeat (any_goals (first | assumption | (with_reducible refine wpAny_bind (wpAny_mono h (fun b s' z => ?_) fun _ _ e => e)) | wp_step))
  exact ⟨_, rfl, z⟩
theorem cr_boolO {G : LSp} (hG : MonoP G) (Fg : FnG X.prog X.w X.K X.mg X.base k f fd ps (spV X.K 1 G)) (hr : RoomG (k + 3) X.A) (hb : Binds X.K fd ps []) (hn : PySem.W.findIn X.K (.ref C) "__bool__" = some none) (hs : PySem.W.findIn X.K (.ref C) "__len__" = some (some (.ref f)))
    (hf : PySem.W.isFn X.K (.ref f) = true) : CallR X (.type "bool") (rBoolO (spV X.K 1 G) C) := by
  rintro pins s σ H xs us Q I r ⟨a, dx, fs, rfl, h, q⟩
  obtain rfl := Vals.ref1 r
  let S : PySem.Spec := fun A R s => wpAny (model X.prog X.w) A.in1 (truthy (.ref a)) (fun b s' => R (.ok (.ret (.bool b))) s') (fun e s' => R (.error e) s') s
  have hS : MeetsIn X.prog X.w (Builtin.«bool.__new__» ⟨[.type "bool", .ref a], []⟩) S := fun A R s h =>
    wpAny_mono (bool_body (Q := fun r s' => R (.ok (.ret r)) s') h) (fun fin s' ⟨r, e, z⟩ => by subst e; exact z) fun _ _ e => e
  refine callType_newIn PySem.F.called_bool PySem.F.newNe_bool (PySem.F.typeCall_bool_1 _) (PySem.F.newCall_bool_1 _) (fun obj => PySem.F.args_object_init_2 obj _) PySem.F.entry_bool_new hS ?_
  exact truthy_lenO (k := k) (A := X.A.in1.in1) Fg (hr.in1.in1) I.env0.frames hb hn hs hf I h (spV_mono hG (fun v H' ⟨n, e, hn, z⟩ => ⟨n, e, hn, fun s' I' => ⟨rfl, .bl (n != 0), H', I', rfl, z⟩⟩) q)
end
/-- an instance of the class C -/
def isObj (C : Str) (d : D) (h : LH) : Prop := match d with
  | .ob C' _ _ => C' = C
  | .ref n => match h[n]? with
    | some (.ins C' _) => C' = C
    | _ => False
  | _ => False
theorem isObj_run {K : Frag} {C : Str} {ι : Ad} {H : Hp} {h : LH} {d : D} {v : V} (hH : RelH K ι H h) (r : RelD K ι H d v) (q : isObj C d h) : ∃ a dx fs, v = .ref a ∧ H a = some (.ins (He.ga K C) dx fs) := by
  unfold isObj at q
  split at q
  · obtain ⟨a, dx, vs, rfl, _, h2, _, _⟩ := r
    exact ⟨a, dx, _, rfl, by rw [← q]; exact h2⟩
  · split at q
    · rename_i ho
      obtain ⟨a, ha, rfl⟩ := r
      obtain ⟨dx, vs, h1, h2⟩ := hH.ins ha ho
      exact ⟨a, dx, vs, rfl, by rw [← q]; exact h1⟩
    · exact q.elim
  · exact q.elim
def bOwn (C : Str) (G : LSp) (P : D → (D → Prop) → Prop) : LB := fun ds h Q => match ds with
  | [x] => isObj C x h ∧ G [x] h (fun d h2 => P d fun d' => Q d' h2) (fun _ _ _ => False)
  | _ => False
def pLen (d : D) (Q : D → Prop) : Prop := match d with | .int n => (0 ≤ n ∧ n < 2 ^ 63) ∧ Q (.int n) | _ => False
def pRepr (d : D) (Q : D → Prop) : Prop := match d with | .str x => Q (.str x) | _ => False
def pBool (d : D) (Q : D → Prop) : Prop := match d with | .int n => (0 ≤ n ∧ n < 2 ^ 63) ∧ Q (.bl (n != 0)) | _ => False
section
variable {K : Frag} {C : Str} {G : LSp}
theorem spV_of {ι : Ad} {H : Hp} {h : LH} {x : D} {v : V} {Q0 : D → LH → Prop} {Qv : VK} (hG : MonoP G) (hH : RelH K ι H h) (r : RelD K ι H x v) (q : G [x] h Q0 fun _ _ _ => False)
    (k : ∀ d h' ι' u H', Q0 d h' → Ext ι H ι' H' → RelH K ι' H' h' → RelD K ι' H' d u → Qv u H') : spV K 1 G [v] H Qv fun _ _ _ => False :=
  ⟨ι, [x], h, hH, ⟨v, [], rfl, r, rfl⟩, rfl, hG _ _ _ _ _ _ (fun d h' q' ι' u H' e hH' r' => k d h' ι' u H' q' e hH' r') (fun _ _ _ z => z.elim) q⟩
theorem bsLenO (hG : MonoP G) : CallS K (rLenO (spV K 1 G) (He.ga K C)) (bOwn C G pLen) := by
  refine ⟨fun ds h Q Q' hQ q => ?_, fun ι H h ds vs Q Qv hH rs q k => ?_⟩
  · unfold bOwn at *
    split at q
    · refine ⟨q.1, hG _ _ _ _ _ _ (fun d h2 q2 => ?_) (fun _ _ _ z => z) q.2⟩
      unfold pLen at *
      split at q2
      · exact ⟨q2.1, hQ _ _ q2.2⟩
      · exact q2.elim
    · exact q.elim
  · unfold bOwn at q
    split at q
    · obtain ⟨v, rfl, r⟩ := rs.one
      obtain ⟨a, dx, fs, rfl, h1⟩ := isObj_run hH r q.1
      refine ⟨a, dx, fs, rfl, h1, spV_of hG hH r q.2 fun d h' ι' u H' q' e hH' r' => ?_⟩
      unfold pLen at q'
      split at q'
      · exact ⟨_, r', q'.1, k _ h' ι' _ H' q'.2 e hH' rfl⟩
      · exact q'.elim
    · exact q.elim
theorem bsReprO (hG : MonoP G) : CallS K (rReprO (spV K 1 G) (He.ga K C)) (bOwn C G pRepr) := by
  refine ⟨fun ds h Q Q' hQ q => ?_, fun ι H h ds vs Q Qv hH rs q k => ?_⟩
  · unfold bOwn at *
    split at q
    · refine ⟨q.1, hG _ _ _ _ _ _ (fun d h2 q2 => ?_) (fun _ _ _ z => z) q.2⟩
      unfold pRepr at *
      split at q2
      · exact hQ _ _ q2
      · exact q2.elim
    · exact q.elim
  · unfold bOwn at q
    split at q
    · obtain ⟨v, rfl, r⟩ := rs.one
      obtain ⟨a, dx, fs, rfl, h1⟩ := isObj_run hH r q.1
      refine ⟨a, dx, fs, rfl, h1, spV_of hG hH r q.2 fun d h' ι' u H' q' e hH' r' => ?_⟩
      unfold pRepr at q'
      split at q'
      · exact ⟨_, r', k _ h' ι' _ H' q' e hH' rfl⟩
      · exact q'.elim
    · exact q.elim
theorem bsBoolO (hG : MonoP G) : CallS K (rBoolO (spV K 1 G) (He.ga K C)) (bOwn C G pBool) := by
  refine ⟨fun ds h Q Q' hQ q => ?_, fun ι H h ds vs Q Qv hH rs q k => ?_⟩
  · unfold bOwn at *
    split at q
    · refine ⟨q.1, hG _ _ _ _ _ _ (fun d h2 q2 => ?_) (fun _ _ _ z => z) q.2⟩
      unfold pBool at *
      split at q2
      · exact ⟨q2.1, hQ _ _ q2.2⟩
      · exact q2.elim
    · exact q.elim
  · unfold bOwn at q
    split at q
    · obtain ⟨v, rfl, r⟩ := rs.one
      obtain ⟨a, dx, fs, rfl, h1⟩ := isObj_run hH r q.1
      refine ⟨a, dx, fs, rfl, h1, spV_of hG hH r q.2 fun d h' ι' u H' q' e hH' r' => ?_⟩
      unfold pBool at q'
      split at q'
      · exact ⟨_, r', q'.1, k _ h' ι' _ H' q'.2 e hH' rfl⟩
      · exact q'.elim
    · exact q.elim
end
section
variable {k : Nat} {f : Addr} {C : Str} {G : LSp}
theorem cro_len (F : Keeps X.prog X.w X.K X.mg X.base k f 1 G) (hr : RoomG (k + 1) X.A) (hs : PySem.W.findIn X.K (.ref (He.ga X.K C)) "__len__" = some (some (.ref f))) (hf : PySem.W.isFn X.K (.ref f) = true) : CallR X (.builtin "len") (rLenO (spV X.K 1 G) (He.ga X.K C)) := by
  obtain ⟨hG, fd, ps, hn, F, b⟩ := F
  exact cr_lenO F hr b hs hf
theorem cro_repr (F : Keeps X.prog X.w X.K X.mg X.base k f 1 G) (hr : RoomG (k + 1) X.A) (hs : PySem.W.findIn X.K (.ref (He.ga X.K C)) "__repr__" = some (some (.ref f))) (hf : PySem.W.isFn X.K (.ref f) = true) : CallR X (.builtin "repr") (rReprO (spV X.K 1 G) (He.ga X.K C)) := by
  obtain ⟨hG, fd, ps, hn, F, b⟩ := F
  exact cr_reprO F hr b hs hf
theorem cro_bool (F : Keeps X.prog X.w X.K X.mg X.base k f 1 G) (hr : RoomG (k + 3) X.A) (hn : PySem.W.findIn X.K (.ref (He.ga X.K C)) "__bool__" = some none) (hs : PySem.W.findIn X.K (.ref (He.ga X.K C)) "__len__" = some (some (.ref f))) (hf : PySem.W.isFn X.K (.ref f) = true) :
    CallR X (.type "bool") (rBoolO (spV X.K 1 G) (He.ga X.K C)) := by
  obtain ⟨hG, fd, ps, hn', F, b⟩ := F
  exact cr_boolO hG F hr b hn hs hf
end

/-! ### truth -/
def truD (d : D) (h : LH) (Q : Bool → Prop) : Prop := match d with
  | .non => Q false
  | .bl b => Q b
  | .int i => Q (i != 0)
  | .str x => x.length ≤ sizeLine ∧ Q ((x.length : Int) != 0)
  | .tup ds => Q (!ds.isEmpty)
  | d => seqL d h fun ds => Q (!ds.isEmpty)
theorem truD_mono {d : D} {h : LH} {Q Q' : Bool → Prop} (hQ : ∀ b, Q b → Q' b) (q : truD d h Q) : truD d h Q' := by
  unfold truD at *
  split at q <;> first | exact hQ _ q | exact ⟨q.1, hQ _ q.2⟩ | exact seqL_mono (fun _ => hQ _) q
theorem isEmpty_rel {K : Frag} {ι : Ad} {H : Hp} {ds : List D} {vs : List V} (r : RelDs K ι H ds vs) : (!vs.isEmpty) = !ds.isEmpty := by
  cases ds with
  | nil => obtain rfl : vs = [] := r; rfl
  | cons d ds => obtain ⟨v, r', rfl, _⟩ := r; rfl
theorem truD_run {K : Frag} {ι : Ad} {H : Hp} {h : LH} {d : D} {v : V} {Q : Bool → Prop} (hH : RelH K ι H h) (r : RelD K ι H d v) (q : truD d h Q) : ∃ k, TruV K v H k ∧ Q k := by
  unfold truD at q
  split at q
  · obtain rfl : v = .non := r; exact ⟨false, rfl, q⟩
  · rename_i b; obtain rfl : v = .bl b := r; exact ⟨_, rfl, q⟩
  · rename_i i; obtain rfl : v = .int i := r; exact ⟨_, rfl, q⟩
  · rename_i x; obtain rfl : v = .str x := r; exact ⟨_, ⟨q.1, rfl⟩, q.2⟩
  · obtain ⟨a, vs, rfl, h2, rs⟩ := r
    exact ⟨_, .inr (.inl ⟨vs, h2, (isEmpty_rel rs).symm⟩), q⟩
  · obtain ⟨a, ds, vs, rfl, h2, rs, q⟩ := seqL_run hH r q
    exact ⟨_, .inl ⟨vs, h2, (isEmpty_rel rs).symm⟩, q⟩
def eTru (m : LE) : LX Bool := fun σ h Q E => m σ h (fun d h1 => truD d h1 fun b => Q b h1) E
theorem jt_tru {e : Expr} {m : LE} (h : JE X W e m) (he : ∀ whole, isTrue e X.env whole = (do let v ← whole; standAt e.pos; holding [v] (truthy v)) := by intro _; rfl) : JT X W e (eTru m) := by
  refine ⟨fun σ h' Q Q' E E' hQ hE q => h.mono σ h' _ _ _ _ (fun d h1 q1 => truD_mono (fun b => hQ b h1) q1) hE q, PT.weak (pt_truth h.run he) fun σV H Q ⟨ι, σ, h', hS, hH, q⟩ => ?_⟩
  refine tX.into h.mono hS hH q (fun d h1 ι1 v H1 q1 e1 hH1 r => ?_) (fun c fs h1 ι1 dx H1 q1 => q1 ι1 dx H1)
  obtain ⟨k, t, q2⟩ := truD_run hH1 r q1
  exact ⟨k, t, q2 ι1 k H1 e1 hH1 rfl⟩

/-! ### repr of data -/
def rReprD (K : Frag) : List V → Hp → VK → Prop := fun xs H Q => ∃ v p, xs = [v] ∧ Dp K H v p ∧ p.showable = true ∧ p.shown.length ≤ sizeLine ∧ p.depth ≤ 60 ∧ Q (.str p.shown) H
theorem noDict_dp {K : Frag} {H : Hp} : ∀ {p : PyData} {v : V}, Dp K H v p → p.hasDict = false := by
  have key : ∀ n (p : PyData), sizeOf p ≤ n → ∀ v, Dp K H v p → p.hasDict = false := by
    intro n
    induction n with
    | zero => intro p hp; cases p <;> simp at hp
    | succ n ih =>
      have all : ∀ (ps : List PyData), sizeOf ps ≤ n → ∀ vs, DpAll K H vs ps → PyData.hasDictAll ps = false := by
        intro ps
        induction ps with
        | nil => intro _ _ _; simp [PyData.hasDictAll]
        | cons p ps ih2 =>
          intro hz vs h
          cases h with
          | cons h1 h2 =>
            simp only [List.cons.sizeOf_spec] at hz
            simp only [PyData.hasDictAll, ih p (by omega) _ h1, ih2 (by omega) _ h2, Bool.or_self]
      intro p hp v h
      cases h with
      | non => simp [PyData.hasDict]
      | bl => simp [PyData.hasDict]
      | int => simp [PyData.hasDict]
      | str => simp [PyData.hasDict]
      | lst _ h2 => simp only [PyData.hasDict]; exact all _ (by simp only [PyData.list.sizeOf_spec] at hp; omega) _ h2
      | tup _ h2 => simp only [PyData.hasDict]; exact all _ (by simp only [PyData.tuple.sizeOf_spec] at hp; omega) _ h2
  exact fun {p v} h => key _ p (Nat.le_refl _) v h
theorem cr_reprD {k : Nat} (hr : RoomG k X.A) : CallR X (.builtin "repr") (rReprD X.K) := by
  rintro pins s σ H xs us Q I r ⟨v, p, rfl, hd, hs, hz, hp, q⟩
  obtain ⟨u, rfl, ru⟩ := vals1 r
  have hu := hr.r.units
  have nd := noDict_dp hd
  obtain ⟨as, rd⟩ := Dp.reads I p v u hd ru
  cases hd with
  | non => cases ru; exact PySem.P.repr_of_none ⟨.str _, H, I.tok _, ⟨_, rfl⟩, by simpa [PyData.shown] using q⟩
  | bl b => cases ru; exact PySem.P.repr_of_bool ⟨.str _, H, I.tok _, ⟨_, rfl⟩, by simpa [PyData.shown] using q⟩
  | int i => obtain ⟨t, rfl⟩ := ru; exact PySem.P.repr_of_int (by simpa [PyData.showable] using hs) ⟨.str _, H, I.tok _, ⟨_, rfl⟩, by simpa [PyData.shown] using q⟩
  | str x => obtain ⟨t, rfl⟩ := ru; exact PySem.P.repr_of_str ⟨.str _, H, I.tok _, ⟨_, rfl⟩, by simpa [PyData.shown] using q⟩ (by simpa [PyData.shown] using hz)
  | lst h1 h2 =>
    cases ru
    exact repr_of_reads' rd hs (PyData.noDict_hsm nd) hr.g (by omega) (fun _ _ e => e) (fun h' u tk hk => ⟨.str _, H, I.kept hk, ⟨u, rfl⟩, q⟩) hz
  | tup h1 h2 =>
    cases ru
    exact repr_of_reads' rd hs (PyData.noDict_hsm nd) hr.g (by omega) (fun _ _ e => e) (fun h' u tk hk => ⟨.str _, H, I.kept hk, ⟨u, rfl⟩, q⟩) hz
def bReprD : LB := fun ds h Q => match ds with
  | [d] => ∃ p, dPyH h d = some p ∧ p.showable = true ∧ p.shown.length ≤ sizeLine ∧ p.depth ≤ 60 ∧ Q (.str p.shown) h
  | _ => False
theorem bsReprD {K : Frag} : CallS K (rReprD K) bReprD := by
  refine ⟨fun ds h Q Q' hQ q => ?_, fun ι H h ds vs Q Qv hH rs q k => ?_⟩
  · unfold bReprD at *
    split at q
    · obtain ⟨p, e, a, b, c, q⟩ := q; exact ⟨p, e, a, b, c, hQ _ _ q⟩
    · exact q.elim
  · unfold bReprD at q
    split at q
    · obtain ⟨v, rfl, r⟩ := rs.one
      obtain ⟨p, e, a, b, c, q⟩ := q
      exact ⟨v, p, rfl, dpH_of hH r e, a, b, c, k _ h ι _ H q (.refl _ _) hH rfl⟩
    · exact q.elim

/-! ### f-strings -/
/-- the text of {x} -/
def fmtD (d : D) (Q : Str → Prop) : Prop := match d with
  | .str y => y.length ≤ sizeLine ∧ Q y
  | .int i => i.natAbs.log2 < 1920 ∧ Q (toString i)
  | _ => False
def eFmt (m : LE) : LE := fun σ h Q E => m σ h (fun d h1 => fmtD d fun x => Q (.str x) h1) E
theorem je_fmt {e : Expr} {m : LE} {pos : Pos} (he : JE X W e m) : JE X W (.FormattedValue e (-1) none pos) (eFmt m) := by
  refine ⟨fun σ h Q Q' E E' hQ hE q => he.mono σ h _ _ _ _ (fun d h1 q1 => ?_) hE q, PE.weak (pe_fmt he.run) fun σV H Q ⟨ι, σ, h, hS, hH, q⟩ => ?_⟩
  · unfold fmtD at *
    split at q1
    · exact ⟨q1.1, hQ _ _ q1.2⟩
    · exact ⟨q1.1, hQ _ _ q1.2⟩
    · exact q1.elim
  · refine tX.into he.mono hS hH q (fun d h1 ι1 v H1 q1 e1 hH1 r => ?_) (fun c fs h1 ι1 dx H1 q1 => q1 ι1 dx H1)
    unfold fmtD at q1
    split at q1
    · exact .inl ⟨_, r, q1.1, q1.2 ι1 (.str _) H1 e1 hH1 rfl⟩
    · exact .inr ⟨_, r, q1.1, q1.2 ι1 (.str _) H1 e1 hH1 rfl⟩
    · exact q1.elim
inductive JP (X : Cx) (W : WX) : List Expr → List LE → Prop where
  | nil : JP X W [] []
  | cons {e : Expr} {m : LE} {es : List Expr} {ms : List LE} (h : JE X W e m) (r : JP X W es ms) : JP X W (e :: es) (m :: ms)
theorem JP.pj {es : List Expr} {ms : List LE} (h : JP X W es ms) : PJ X es (ms.map fun m => tE X.K W m) := by
  induction h with
  | nil => exact .nil
  | cons h r ih => exact .cons h.run ih
/-- the texts one behind the other -/
def eJoin : List LE → Str → LV → LH → (Str → LH → Prop) → XL → Prop
  | [], acc, _, h, Q, _ => Q acc h
  | m :: ms, acc, σ, h, Q, E => m σ h (fun d h1 => match d with | .str y => (acc ++ y).length ≤ sizeLine ∧ eJoin ms (acc ++ y) σ h1 Q E | _ => False) E
theorem eJoin_mono {es : List Expr} {ms : List LE} (hp : JP X W es ms) : ∀ (acc : Str) (σ : LV) (h : LH) (Q Q' : Str → LH → Prop) (E E' : XL), (∀ x h, Q x h → Q' x h) → (∀ c fs h, E c fs h → E' c fs h) → eJoin ms acc σ h Q E → eJoin ms acc σ h Q' E' := by
  induction hp with
  | nil => exact fun acc σ h Q Q' E E' hQ hE q => hQ _ _ q
  | cons hm _ ih =>
    intro acc σ h Q Q' E E' hQ hE q
    refine hm.mono σ h _ _ _ _ (fun d h1 q1 => ?_) hE q
    cases d with
    | str y => exact ⟨q1.1, ih _ _ _ _ _ _ _ hQ hE q1.2⟩
    | _ => exact q1.elim
theorem eJoin_run {es : List Expr} {ms : List LE} (hp : JP X W es ms) : ∀ (acc : Str) {ι : Ad} {σ : LV} {h : LH} {σV : L2.St} {H : Hp} {Q0 : Str → LH → Prop} {E0 : XL} {Q : Str → Hp → Prop}, RelS X.K ι H σ σV → RelH X.K ι H h → eJoin ms acc σ h Q0 E0 →
    (∀ x h1 ι1 H1, Q0 x h1 → Ext ι H ι1 H1 → RelH X.K ι1 H1 h1 → Q x H1) → (∀ c fs h1 ι1 dx H1, E0 c fs h1 → Ext ι H ι1 H1 → RelH X.K ι1 H1 h1 → RelX X.K ι1 H1 fs dx → W (.ref (He.ga X.K c)) dx σV H1) →
    tJs (ms.map fun m => tE X.K W m) acc σV H Q := by
  induction hp with
  | nil => exact fun acc ι σ h σV H Q0 E0 Q hS hH q k _ => k acc h ι H q (.refl _ _) hH
  | cons hm _ ih =>
    intro acc ι σ h σV H Q0 E0 Q hS hH q k ke
    refine tX.into hm.mono hS hH q (fun d h1 ι1 v H1 q1 e1 hH1 r => ?_) ke
    cases d with
    | str y =>
      obtain rfl : v = .str y := r
      exact ⟨y, rfl, q1.1, ih _ (hS.ext e1) hH1 q1.2 (fun x h2 ι2 H2 q2 e2 hH2 => k x h2 ι2 H2 q2 (e1.trans e2) hH2) fun c fs h2 ι2 dx H2 q2 e2 hH2 r2 => ke c fs h2 ι2 dx H2 q2 (e1.trans e2) hH2 r2⟩
    | _ => exact q1.elim
def eFstr (ms : List LE) : LE := fun σ h Q E => eJoin ms Str.empty σ h (fun x h1 => Q (.str x) h1) E
theorem je_fstr {v1 v2 : Expr} {rest : List Expr} {ms : List LE} {pos : Pos} (hp : JP X W (v1 :: v2 :: rest) ms) : JE X W (.JoinedStr (v1 :: v2 :: rest) pos) (eFstr ms) := by
  refine ⟨fun σ h Q Q' E E' hQ hE q => eJoin_mono hp _ _ _ _ _ _ _ (fun x h1 q1 => hQ _ _ q1) hE q, PE.weak (pe_joined hp.pj) fun σV H Q ⟨ι, σ, h, hS, hH, q⟩ => ?_⟩
  exact eJoin_run hp Str.empty hS hH q (fun x h1 ι1 H1 q1 e1 hH1 => q1 ι1 (.str x) H1 e1 hH1 rfl) fun c fs h1 ι1 dx H1 q1 => q1 ι1 dx H1
end LL
end

section
set_option Elab.async false
set_option linter.all false
set_option maxRecDepth 100000
set_option maxHeartbeats 1000000
/-! LLFrz: what is new is frozen, what is no longer needed is left out of the logical heap. -/
namespace LL
open PySem PySem.Spec PyProof.Rows L2
variable {X : Cx} {W : WX}

mutual
/-- its references lie below k -/
def D.bel (k : Nat) : D → Bool
  | .ref n => decide (n < k)
  | .tup ds => D.bels k ds
  | .lst ds => D.bels k ds
  | .ob _ _ ds => D.bels k ds
  | .non => true
  | .bl _ => true
  | .int _ => true
  | .str _ => true
def D.bels (k : Nat) : List D → Bool
  | [] => true
  | d :: ds => D.bel k d && D.bels k ds
end
def O.bel (k : Nat) : O → Bool
  | .lst ds => D.bels k ds
  | .ins _ fs => D.bels k (fs.map (·.2))
  | .gone => true
mutual
/-- d' is d with what stands at k or above told inline -/
inductive Frz (h : LH) (k : Nat) : D → D → Prop where
  | old {d : D} (b : d.bel k = true) : Frz h k d d
  | tup {ds ds' : List D} (r : Frzs h k ds ds') : Frz h k (.tup ds) (.tup ds')
  | lst {ds ds' : List D} (r : Frzs h k ds ds') : Frz h k (.lst ds) (.lst ds')
  | ob {C : Str} {ns : List Str} {ds ds' : List D} (r : Frzs h k ds ds') : Frz h k (.ob C ns ds) (.ob C ns ds')
  | newL {n : Nat} {ds ds' : List D} (l : k ≤ n) (e : h[n]? = some (.lst ds)) (r : Frzs h k ds ds') : Frz h k (.ref n) (.lst ds')
  | newI {n : Nat} {C : Str} {fs : List (Str × D)} {ds' : List D} (l : k ≤ n) (e : h[n]? = some (.ins C fs)) (r : Frzs h k (fs.map (·.2)) ds') : Frz h k (.ref n) (.ob C (fs.map (·.1)) ds')
inductive Frzs (h : LH) (k : Nat) : List D → List D → Prop where
  | nil : Frzs h k [] []
  | cons {d d' : D} {ds ds' : List D} (a : Frz h k d d') (r : Frzs h k ds ds') : Frzs h k (d :: ds) (d' :: ds')
end
def Ad.trunc (ι : Ad) (k : Nat) : Ad := ⟨ι.ix.take k, ι.res, ι.tab⟩
section
variable {K : Frag} {ι : Ad} {H : Hp} {h : LH} {k : Nat}
theorem Ad.trunc_no {a : Addr} (n : ι.no a) : (ι.trunc k).no a := ⟨fun z => n.1 (List.mem_of_mem_take z), n.2⟩
theorem FzL.trunc {a : Addr} {vs : List V} (q : FzL K ι H a vs) : FzL K (ι.trunc k) H a vs := by
  rcases q with ⟨q, n⟩ | q
  · exact .inl ⟨q, Ad.trunc_no n⟩
  · exact .inr q
theorem trunc_new {n : Nat} {a : Addr} (hH : RelH K ι H h) (e : ι.ix[n]? = some (some a)) (l : k ≤ n) : (ι.trunc k).no a := by
  refine ⟨fun z => ?_, hH.disj a (List.mem_of_getElem? e)⟩
  obtain ⟨m, q⟩ := List.mem_iff_getElem?.mp z
  have lm : m < k := by
    have := (List.getElem?_eq_some_iff.mp q).1
    simp only [Ad.trunc, List.length_take] at this
    omega
  simp only [Ad.trunc, List.getElem?_take, lm, if_true] at q
  have := hH.inj n m a e q
  omega
theorem RelFs.snd : ∀ {fs : List (Str × D)} {vs : List (Str × V)}, RelFs K ι H fs vs → ∃ us, vs = (fs.map (·.1)).zip us ∧ RelDs K ι H (fs.map (·.2)) us
  | [], vs, h => by obtain rfl : vs = [] := h; exact ⟨[], rfl, rfl⟩
  | (f, d) :: fs, vs, ⟨v, r, h1, h2, h3⟩ => by
    obtain ⟨us, e, q⟩ := RelFs.snd h3
    subst h1 e
    exact ⟨v :: us, rfl, v, us, rfl, h2, q⟩
mutual
theorem RelD.below (d : D) {v : V} (r : RelD K ι H d v) : d.bel ι.ix.length = true := by
  cases d with
  | ref n => obtain ⟨a, e, _⟩ := r; simp only [D.bel, decide_eq_true_eq]; exact (List.getElem?_eq_some_iff.mp e).1
  | tup ds => obtain ⟨_, _, _, _, q⟩ := r; simp only [D.bel]; exact RelDs.below ds q
  | lst ds => obtain ⟨_, _, _, _, q⟩ := r; simp only [D.bel]; exact RelDs.below ds q
  | ob C ns ds => obtain ⟨_, _, _, _, _, _, _, q⟩ := r; simp only [D.bel]; exact RelDs.below ds q
  | non => simp [D.bel]
  | bl _ => simp [D.bel]
  | int _ => simp [D.bel]
  | str _ => simp [D.bel]
theorem RelDs.below (ds : List D) {vs : List V} (r : RelDs K ι H ds vs) : D.bels ι.ix.length ds = true := by
  cases ds with
  | nil => simp [D.bels]
  | cons d ds =>
    obtain ⟨v, q, _, h1, h2⟩ := r
    simp only [D.bels, RelD.below d h1, RelDs.below ds h2, Bool.and_self]
end
mutual
theorem RelD.keepB (d : D) {v : V} (r : RelD K ι H d v) (b : d.bel k = true) : RelD K (ι.trunc k) H d v := by
  cases d with
  | ref n =>
    obtain ⟨a, e, rfl⟩ := r
    simp only [D.bel, decide_eq_true_eq] at b
    exact ⟨a, by simp only [Ad.trunc, List.getElem?_take, b, if_true]; exact e, rfl⟩
  | tup ds => obtain ⟨a, vs, h1, h2, q⟩ := r; exact ⟨a, vs, h1, h2, RelDs.keepB ds q (by simpa [D.bel] using b)⟩
  | lst ds => obtain ⟨a, vs, h1, h2, q⟩ := r; exact ⟨a, vs, h1, h2.trunc, RelDs.keepB ds q (by simpa [D.bel] using b)⟩
  | ob C ns ds => obtain ⟨a, dx, vs, h1, h2, h3, h4, q⟩ := r; exact ⟨a, dx, vs, h1, Ad.trunc_no h2, h3, h4, RelDs.keepB ds q (by simpa [D.bel] using b)⟩
  | non => exact r
  | bl _ => exact r
  | int _ => exact r
  | str _ => exact r
theorem RelDs.keepB (ds : List D) {vs : List V} (r : RelDs K ι H ds vs) (b : D.bels k ds = true) : RelDs K (ι.trunc k) H ds vs := by
  cases ds with
  | nil => exact r
  | cons d ds =>
    obtain ⟨v, q, h0, h1, h2⟩ := r
    simp only [D.bels, Bool.and_eq_true] at b
    exact ⟨v, q, h0, RelD.keepB d h1 b.1, RelDs.keepB ds h2 b.2⟩
end
theorem RelFs.keepB : ∀ {fs : List (Str × D)} {vs : List (Str × V)}, RelFs K ι H fs vs → D.bels k (fs.map (·.2)) = true → RelFs K (ι.trunc k) H fs vs
  | [], _, h, _ => h
  | (f, d) :: fs, _, ⟨v, r, h1, h2, h3⟩, b => by
    simp only [List.map_cons, D.bels, Bool.and_eq_true] at b
    exact ⟨v, r, h1, h2.keepB _ b.1, h3.keepB b.2⟩
theorem Frzs.len : ∀ {ds ds' : List D}, Frzs h k ds ds' → ds.length = ds'.length
  | _, _, .nil => rfl
  | _, _, .cons _ q => congrArg Nat.succ (Frzs.len q)
mutual
theorem RelD.frz (hH : RelH K ι H h) : ∀ {d d' : D} {v : V}, Frz h k d d' → RelD K ι H d v → RelD K (ι.trunc k) H d' v
  | _, _, _, .old b, r => r.keepB _ b
  | _, _, _, .tup q, ⟨a, vs, h1, h2, h3⟩ => ⟨a, vs, h1, h2, RelDs.frz hH q h3⟩
  | _, _, _, .lst q, ⟨a, vs, h1, h2, h3⟩ => ⟨a, vs, h1, h2.trunc, RelDs.frz hH q h3⟩
  | _, _, _, .ob q, ⟨a, dx, vs, h1, h2, h3, h4, h5⟩ => ⟨a, dx, vs, h1, Ad.trunc_no h2, h3, h4.trans q.len, RelDs.frz hH q h5⟩
  | _, _, _, .newL l e q, ⟨a, ha, hv⟩ =>
    let ⟨vs, h1, rs⟩ := hH.lst ha e
    ⟨a, vs, hv, .inl ⟨h1, trunc_new hH ha l⟩, RelDs.frz hH q rs⟩
  | _, _, _, .newI l e q, ⟨a, ha, hv⟩ =>
    let ⟨dx, vs, h1, rs⟩ := hH.ins ha e
    let ⟨us, e2, rs2⟩ := rs.snd
    ⟨a, dx, us, hv, trunc_new hH ha l, by rw [← e2]; exact h1, by simpa using q.len, RelDs.frz hH q rs2⟩
theorem RelDs.frz (hH : RelH K ι H h) : ∀ {ds ds' : List D} {vs : List V}, Frzs h k ds ds' → RelDs K ι H ds vs → RelDs K (ι.trunc k) H ds' vs
  | _, _, _, .nil, r => r
  | _, _, _, .cons a q, ⟨v, w, h1, h2, h3⟩ => ⟨v, w, h1, RelD.frz hH a h2, RelDs.frz hH q h3⟩
end
/-- what stands below k looks at nothing above -/
def belH (k : Nat) (h : LH) : Bool := (h.take k).all (O.bel k)
theorem RelH.trunc (hH : RelH K ι H h) (b : belH k h = true) : RelH K (ι.trunc k) H (h.take k) := by
  refine ⟨by simp [Ad.trunc, hH.len], fun n m a e1 e2 => ?_, fun a m => hH.live a (List.mem_of_mem_take m), hH.liveR, fun a m => hH.disj a (List.mem_of_mem_take m), hH.tabs, fun n o q g => ?_⟩
  · simp only [Ad.trunc, List.getElem?_take] at e1 e2
    split at e1
    · split at e2
      · exact hH.inj n m a e1 e2
      · cases e2
    · cases e1
  · have hb := List.all_eq_true.mp b o (List.mem_of_getElem? q)
    rw [List.getElem?_take] at q
    split at q
    · rename_i l
      obtain ⟨a, e, r⟩ := hH.obj n o q g
      refine ⟨a, by simp only [Ad.trunc, List.getElem?_take, l, if_true]; exact e, ?_⟩
      cases o with
      | lst ds => obtain ⟨vs, h1, h2⟩ := r; exact ⟨vs, h1, h2.keepB _ hb⟩
      | ins C fs => obtain ⟨dx, vs, h1, h2⟩ := r; exact ⟨dx, vs, h1, h2.keepB hb⟩
      | gone => trivial
    · cases q
theorem Ext.trunc {ι' : Ad} {H' : Hp} (e : Ext ι H ι' H') (l : ι.ix.length ≤ k) : Ext ι H (ι'.trunc k) H' := by
  obtain ⟨m, q, f⟩ := e.pre
  refine ⟨⟨m.take (k - ι.ix.length), ?_, fun a z => f a (List.mem_of_mem_take z)⟩, e.res1, e.res2, e.tab, e.keep, e.tups, e.frzs, e.there⟩
  simp only [Ad.trunc, q, List.take_append]
  rw [List.take_of_length_le l]
end
/-- a result is frozen: d is told as d', the logical heap is cut at k -/
def frzK (k0 : Nat) (Q : D → LH → Prop) : D → LH → Prop := fun d h => ∃ k d', k0 ≤ k ∧ Frz h k d d' ∧ belH k h = true ∧ Q d' (h.take k)
theorem frzK_mono {k0 : Nat} {Q Q' : D → LH → Prop} (hQ : ∀ d h, Q d h → Q' d h) {d : D} {h : LH} (q : frzK k0 Q d h) : frzK k0 Q' d h := let ⟨k, d', a, b, c, q⟩ := q; ⟨k, d', a, b, c, hQ _ _ q⟩
/-- an expression whose value is frozen -/
def eFrz (m : LE) : LE := fun σ h Q E => m σ h (frzK h.length Q) E
theorem je_frz {e : Expr} {m : LE} (he : JE X W e m) : JE X W e (eFrz m) := by
  refine ⟨fun σ h Q Q' E E' hQ hE q => he.mono σ h _ _ _ _ (fun d h1 q1 => frzK_mono hQ q1) hE q, PE.weak he.run fun σV H Q ⟨ι, σ, h, hS, hH, q⟩ => ?_⟩
  refine ⟨ι, σ, h, hS, hH, he.mono σ h _ _ _ _ (fun d h1 q1 ι1 v H1 e1 hH1 r => ?_) (fun c fs h1 q1 => q1) q⟩
  obtain ⟨k, d', a, b, c, q1⟩ := q1
  exact q1 (ι1.trunc k) v H1 (e1.trunc (by rw [hH.len]; exact a)) (hH1.trunc c) (RelD.frz hH1 b r)
/-- a def whose result is frozen -/
theorem keeps_frz {P : Program} {w : World} {K : Frag} {mg : Str → Option Value} {base : Heap} {x qual : Str} {params : Arguments} {body : List Stmt} {scope : Scope} {dvs : List V} {kws : List (Str × V)} {f : Addr} {fd : FuncData} {N ps : List Str} {k n : Nat} {G : LSp} {b : LS}
    (F : FunD K x qual params body scope dvs kws f fd) (S : FnScope N ps scope) (hn : ps.length = n) (hb : Binds K fd ps []) (hG : MonoP G)
    (hbody : ∀ (cdv : Value) (A : Around) (outer : List Env) (s : Shared) (H : Hp) (E : XK), CodeAt K f cdv → RoomG k (A.deeper (envOfC qual scope s.heap.objs.size f cdv)) →
      JSs (cxOf (L2.CX P w) P w K mg base N qual scope f cdv A outer s H E) (fun cls d _ H => E cls d H) body b)
    (hv : ∀ ds h Q E, ds.length = n → G ds h Q E → b (startD N ds) h (bodyK (frzK h.length Q) E)) : Keeps P w K mg base (k + 1) f n G := by
  obtain ⟨oc, od, dV, kV, doc, pm, an, cdv, ct, osl, rfl, lk, hcd, _, _⟩ := F.ex
  have len : ∀ vs H Q E, spV K n G vs H Q E → vs.length = ps.length := fun vs H Q E ⟨ι, ds, h, _, r, l, _⟩ => by rw [← r.length, l, hn]
  refine ⟨hG, _, ps, hn, ⟨len, fun A outer s H args us vs Q E hr e0 hbt hv' hsp => ?_⟩, hb⟩
  refine LamX.run_ofS (k := k) lk hcd S hr.r e0 hbt hv' (len vs H Q E hsp) fun hr' => ?_
  obtain ⟨ι, ds, h, hH, r, l, q⟩ := hsp
  have j := hbody cdv A outer s H E ⟨_, _, _, _, lk, rfl, _, hcd⟩ ⟨hr', hr.g⟩
  refine ⟨_, j.run, ι, H, ι, startD N ds, h, .refl _ _, rel_start r, hH, ?_⟩
  refine j.mono _ _ _ _ ?_ (hv ds h _ _ l q)
  have fin : ∀ d h', frzK h.length (fun d h' => ∀ ι' v H', Ext ι H ι' H' → RelH K ι' H' h' → RelD K ι' H' d v → Q v H') d h' → ∀ ι' v H', Ext ι H ι' H' → RelH K ι' H' h' → RelD K ι' H' d v → Q v H' := fun d h' ⟨k, d', a, b, c, q'⟩ ι' v H' e' hH' r' =>
    q' (ι'.trunc k) v H' (e'.trunc (by rw [hH.len]; exact a)) (hH'.trunc c) (RelD.frz hH' b r')
  exact ⟨fun σ' h' q' ι' σV' H' e' _ hH' => fin .non h' q' ι' .non H' e' hH' rfl, fun d h' q' ι' v H' e' hH' r' => fin d h' q' ι' v H' e' hH' r', fun _ _ z => z.elim, fun _ _ z => z.elim, fun c fs σ' h' q' ι' dx σV' H' e' _ hH' r' => q' ι' dx H' e' hH' r'⟩

/-! ### .. where what stood before is as it was -/
theorem RelFs.below {K : Frag} {ι : Ad} {H : Hp} : ∀ {fs : List (Str × D)} {vs : List (Str × V)}, RelFs K ι H fs vs → D.bels ι.ix.length (fs.map (·.2)) = true
  | [], _, _ => by simp [D.bels]
  | (f, d) :: fs, _, ⟨v, r, _, h2, h3⟩ => by simp only [List.map_cons, D.bels, RelD.below d h2, RelFs.below h3, Bool.and_self]
theorem RelH.wf {K : Frag} {ι : Ad} {H : Hp} {h : LH} (hH : RelH K ι H h) : h.all (O.bel h.length) = true := by
  rw [List.all_eq_true]
  intro o ho
  obtain ⟨n, e⟩ := List.mem_iff_getElem?.mp ho
  cases o with
  | gone => rfl
  | lst ds =>
    obtain ⟨a, _, vs, _, r⟩ := hH.obj n _ e (by simp)
    have := RelDs.below ds r
    rw [hH.len] at this
    exact this
  | ins C fs =>
    obtain ⟨a, _, dx, vs, _, r⟩ := hH.obj n _ e (by simp)
    have := RelFs.below r
    rw [hH.len] at this
    exact this
/-- a result is frozen; the logical heap is what it was -/
def frz0K (h0 : LH) (Q : D → LH → Prop) : D → LH → Prop := fun d h => ∃ d', Frz h h0.length d d' ∧ h.take h0.length = h0 ∧ Q d' h0
theorem frz0K.frzK {K : Frag} {ι : Ad} {H : Hp} {h0 h : LH} {Q : D → LH → Prop} {d : D} (hH : RelH K ι H h0) (q : frz0K h0 Q d h) : frzK h0.length Q d h := by
  obtain ⟨d', f, e, q⟩ := q
  refine ⟨h0.length, d', Nat.le_refl _, f, ?_, by rw [e]; exact q⟩
  unfold belH
  rw [e]
  exact hH.wf
theorem frz0K_mono {h0 : LH} {Q Q' : D → LH → Prop} (hQ : ∀ d h, Q d h → Q' d h) {d : D} {h : LH} (q : frz0K h0 Q d h) : frz0K h0 Q' d h := let ⟨d', a, b, q⟩ := q; ⟨d', a, b, hQ _ _ q⟩
def eFrz0 (m : LE) : LE := fun σ h Q E => m σ h (frz0K h Q) E
theorem je_frz0 {e : Expr} {m : LE} (he : JE X W e m) : JE X W e (eFrz0 m) := by
  refine ⟨fun σ h Q Q' E E' hQ hE q => he.mono σ h _ _ _ _ (fun d h1 q1 => frz0K_mono hQ q1) hE q, PE.weak (je_frz he).run fun σV H Q ⟨ι, σ, h, hS, hH, q⟩ => ⟨ι, σ, h, hS, hH, he.mono σ h _ _ _ _ (fun d h1 q1 => q1.frzK hH) (fun c fs h1 q1 => q1) q⟩⟩
/-- a def whose result is frozen, what stood before is as it was -/
theorem keeps_frz0 {P : Program} {w : World} {K : Frag} {mg : Str → Option Value} {base : Heap} {x qual : Str} {params : Arguments} {body : List Stmt} {scope : Scope} {dvs : List V} {kws : List (Str × V)} {f : Addr} {fd : FuncData} {N ps : List Str} {k n : Nat} {G : LSp} {b : LS}
    (F : FunD K x qual params body scope dvs kws f fd) (S : FnScope N ps scope) (hn : ps.length = n) (hb : Binds K fd ps []) (hG : MonoP G)
    (hbody : ∀ (cdv : Value) (A : Around) (outer : List Env) (s : Shared) (H : Hp) (E : XK), CodeAt K f cdv → RoomG k (A.deeper (envOfC qual scope s.heap.objs.size f cdv)) →
      JSs (cxOf (L2.CX P w) P w K mg base N qual scope f cdv A outer s H E) (fun cls d _ H => E cls d H) body b)
    (hv : ∀ ds h Q E, ds.length = n → G ds h Q E → b (startD N ds) h (bodyK (frz0K h Q) E)) : Keeps P w K mg base (k + 1) f n G := by
  obtain ⟨oc, od, dV, kV, doc, pm, an, cdv, ct, osl, rfl, lk, hcd, _, _⟩ := F.ex
  have len : ∀ vs H Q E, spV K n G vs H Q E → vs.length = ps.length := fun vs H Q E ⟨ι, ds, h, _, r, l, _⟩ => by rw [← r.length, l, hn]
  refine ⟨hG, _, ps, hn, ⟨len, fun A outer s H args us vs Q E hr e0 hbt hv' hsp => ?_⟩, hb⟩
  refine LamX.run_ofS (k := k) lk hcd S hr.r e0 hbt hv' (len vs H Q E hsp) fun hr' => ?_
  obtain ⟨ι, ds, h, hH, r, l, q⟩ := hsp
  have j := hbody cdv A outer s H E ⟨_, _, _, _, lk, rfl, _, hcd⟩ ⟨hr', hr.g⟩
  refine ⟨_, j.run, ι, H, ι, startD N ds, h, .refl _ _, rel_start r, hH, ?_⟩
  refine j.mono _ _ _ _ ?_ (hv ds h _ _ l q)
  have fin : ∀ d h', frz0K h (fun d h' => ∀ ι' v H', Ext ι H ι' H' → RelH K ι' H' h' → RelD K ι' H' d v → Q v H') d h' → ∀ ι' v H', Ext ι H ι' H' → RelH K ι' H' h' → RelD K ι' H' d v → Q v H' := fun d h' q0 ι' v H' e' hH' r' =>
    let ⟨k, d', a, b, c, q'⟩ := q0.frzK hH
    q' (ι'.trunc k) v H' (e'.trunc (by rw [hH.len]; exact a)) (hH'.trunc c) (RelD.frz hH' b r')
  exact ⟨fun σ' h' q' ι' σV' H' e' _ hH' => fin .non h' q' ι' .non H' e' hH' rfl, fun d h' q' ι' v H' e' hH' r' => fin d h' q' ι' v H' e' hH' r', fun _ _ z => z.elim, fun _ _ z => z.elim, fun c fs σ' h' q' ι' dx σV' H' e' _ hH' r' => q' ι' dx H' e' hH' r'⟩

end LL
end

section
set_option Elab.async false
set_option linter.all false
set_option maxRecDepth 100000
set_option maxHeartbeats 1000000
/-! LLKit: methods of lists, isinstance. -/
namespace LL
open PySem PySem.Spec PyProof.Rows L2
variable {X : Cx} {W : WX}

/-! ### methods of lists -/
abbrev LM := D → List D → LH → (D → LH → Prop) → Prop
structure MtS (K : Frag) (r : V → List V → Hp → VK → Prop) (op : LM) : Prop where
  mono : ∀ x ds h (Q Q' : D → LH → Prop), (∀ d h, Q d h → Q' d h) → op x ds h Q → op x ds h Q'
  run : ∀ ι H h x vx ds vs (Q : D → LH → Prop) (Qv : VK), RelH K ι H h → RelD K ι H x vx → RelDs K ι H ds vs → op x ds h Q →
    (∀ d h' ι' v H', Q d h' → Ext ι H ι' H' → RelH K ι' H' h' → RelD K ι' H' d v → Qv v H') → r vx vs H Qv
/-- o.m(..): o is a list -/
def eMt (op : LM) (o : LE) (A : LX (List D)) : LE := fun σ h Q E => o σ h (fun x h1 => (seqL x h1 fun _ => True) ∧ A σ h1 (fun ds h2 => op x ds h2 Q) E) E
section
variable {r : V → List V → Hp → VK → Prop} {op : LM} {o e : Expr} {es : List Expr} {O : LE} {A : LX (List D)} {name : Str} {id : String} {apos pos : Pos}
theorem mono_mt (hs : MtS X.K r op) (ho : Mono O) (ha : Mono A) : Mono (eMt op O A) := fun σ h Q Q' E E' hQ hE q => ho σ h _ _ _ _ (fun x h1 ⟨t, q1⟩ => ⟨t, ha σ h1 _ _ _ _ (fun ds h2 q2 => hs.mono x ds h2 _ _ hQ q2) hE q1⟩) hE q
theorem mt_run (hs : MtS X.K r op) (ho : Mono O) (ha : Mono A) {σV : L2.St} {H : Hp} {Q : VK} (q : tE X.K W (eMt op O A) σV H Q) : tBM X.K "list" r (tE X.K W O) (tA X.K W A) σV H Q := by
  obtain ⟨ι, σ, h, hS, hH, q⟩ := q
  refine tX.into ho hS hH q (fun x h1 ι1 vx H1 q1 e1 hH1 rx => ?_) (fun c fs h1 ι1 dx H1 q1 => q1 ι1 dx H1)
  obtain ⟨a, ds, vs, rfl, hl, _, _⟩ := seqL_run hH1 rx q1.1
  refine ⟨.inl ⟨rfl, vs, hl⟩, ?_⟩
  refine tX.into ha (hS.ext e1) hH1 q1.2 (fun ds h2 ι2 vs H2 q2 e2 hH2 rs => ?_) (fun c fs h2 ι2 dx H2 q2 e2 => q2 ι2 dx H2 (e1.trans e2))
  exact hs.run ι2 H2 h2 x _ ds vs _ _ hH2 (rx.ext e2) rs q2 fun d h' ι' v H' q' e' => q' ι' v H' (e1.trans (e2.trans e'))
theorem je_mt (hm : MtR X id r) (hs : MtS X.K r op) (slot : Slot "list" name id) (hty : typeOf (.builtin id) = pure (.type "method_descriptor")) (ho : JE X W o O) (ha : JA X W (e :: es) A)
    (h : ∀ {to : TE} {t : TA}, PE X o to → PA X (e :: es) t → PE X (.Call (.Attribute o name apos) (e :: es) [] pos) (tBM X.K "list" r to t)) : JE X W (.Call (.Attribute o name apos) (e :: es) [] pos) (eMt op O A) :=
  ⟨mono_mt hs ho.mono ha.mono, PE.weak (h ho.run ha.run) fun _ _ _ q => mt_run hs ho.mono ha.mono q⟩
theorem je_mt0 (hs : MtS X.K r op) (ho : JE X W o O) (h : ∀ {to : TE}, PE X o to → PE X (.Call (.Attribute o name apos) [] [] pos) (tBM0 X.K "list" r to)) : JE X W (.Call (.Attribute o name apos) [] [] pos) (eMt op O eNil) := by
  refine ⟨mono_mt hs ho.mono (ja_nil (X := X) (W := W)).mono, PE.weak (h ho.run) fun σV H Q ⟨ι, σ, h, hS, hH, q⟩ => ?_⟩
  refine tX.into ho.mono hS hH q (fun x h1 ι1 vx H1 q1 e1 hH1 rx => ?_) (fun c fs h1 ι1 dx H1 q1 => q1 ι1 dx H1)
  obtain ⟨a, ds, vs, rfl, hl, _, _⟩ := seqL_run hH1 rx q1.1
  exact ⟨.inl ⟨rfl, vs, hl⟩, hs.run ι1 H1 h1 x _ [] [] _ _ hH1 rx rfl q1.2 fun d h' ι' v H' q' e' => q' ι' v H' (e1.trans e')⟩
end
def mAppend : LM := fun x ds h Q => match x, ds with
  | .ref n, [y] => match h[n]? with
    | some (.lst xs) => xs.length < sizeLine ∧ Q .non (h.set n (.lst (xs ++ [y])))
    | _ => False
  | _, _ => False
theorem RelDs.snoc' {K : Frag} {ι : Ad} {H : Hp} {d : D} {v : V} {ds : List D} {vs : List V} (rs : RelDs K ι H ds vs) (r : RelD K ι H d v) : RelDs K ι H (ds ++ [d]) (vs ++ [v]) := rs.append ⟨v, [], rfl, r, rfl⟩
theorem msAppend {K : Frag} : MtS K rAppend mAppend := by
  refine ⟨fun x ds h Q Q' hQ q => ?_, fun ι H h x vx ds vs Q Qv hH rx rs q k => ?_⟩
  · unfold mAppend at *
    split at q
    · split at q
      · exact ⟨q.1, hQ _ _ q.2⟩
      · exact q.elim
    · exact q.elim
  · unfold mAppend at q
    split at q
    · split at q
      · rename_i ho
        obtain ⟨a, ha, rfl⟩ := rx
        obtain ⟨us, h1, ru⟩ := hH.lst ha ho
        obtain ⟨v, rfl, r⟩ := rs.one
        have mu : MutO (H a) := by rw [h1]; trivial
        have ex : Ext ι H ι (upd H a (.lst (us ++ [v]))) := Ext.write hH ha mu trivial
        exact ⟨a, us, v, rfl, rfl, h1, by rw [← ru.length]; exact q.1, k _ _ ι _ _ q.2 ex (hH.write (o := .lst (_ ++ [_])) ha mu ex ⟨_, upd_same, (ru.ext ex).snoc' (r.ext ex)⟩) rfl⟩
      · exact q.elim
    · exact q.elim
/-- pop() of the last item -/
def mPop : LM := fun x ds h Q => match x, ds with
  | .ref n, [] => match h[n]? with
    | some (.lst xs) => ∃ y, xs[xs.length - 1]? = some y ∧ Q y (h.set n (.lst xs.dropLast))
    | _ => False
  | _, _ => False
theorem RelDs.dropLast {K : Frag} {ι : Ad} {H : Hp} {ds : List D} {vs : List V} (rs : RelDs K ι H ds vs) : RelDs K ι H ds.dropLast vs.dropLast := by
  rw [List.dropLast_eq_take, List.dropLast_eq_take, ← rs.length]
  exact rs.take _
theorem msPop {K : Frag} : MtS K rPop mPop := by
  refine ⟨fun x ds h Q Q' hQ q => ?_, fun ι H h x vx ds vs Q Qv hH rx rs q k => ?_⟩
  · unfold mPop at *
    split at q
    · split at q
      · obtain ⟨y, e, q⟩ := q; exact ⟨y, e, hQ _ _ q⟩
      · exact q.elim
    · exact q.elim
  · unfold mPop at q
    split at q
    · split at q
      · rename_i ho
        obtain ⟨a, ha, rfl⟩ := rx
        obtain ⟨us, h1, ru⟩ := hH.lst ha ho
        obtain rfl : vs = [] := rs
        obtain ⟨y, e, q⟩ := q
        obtain ⟨v, hv, r⟩ := ru.get e
        have mu : MutO (H a) := by rw [h1]; trivial
        have ex : Ext ι H ι (upd H a (.lst us.dropLast)) := Ext.write hH ha mu trivial
        exact ⟨a, us, v, rfl, rfl, h1, by rw [← ru.length]; exact hv, k _ _ ι _ _ q ex (hH.write (o := .lst _) ha mu ex ⟨_, upd_same, (ru.ext ex).dropLast⟩) (r.ext ex)⟩
      · exact q.elim
    · exact q.elim

/-! ### isinstance -/
inductive Ty where
  | bt (s : String)
  | cl (C : Str)
deriving DecidableEq
def Ty.v (K : Frag) : Ty → Value
  | .bt s => .type s
  | .cl C => .ref (He.ga K C)
def tyD (d : D) (h : LH) : Option Ty := match d with
  | .non => some (.bt "NoneType")
  | .bl _ => some (.bt "bool")
  | .int _ => some (.bt "int")
  | .str _ => some (.bt "str")
  | .tup _ => some (.bt "tuple")
  | .lst _ => some (.bt "list")
  | .ob C _ _ => some (.cl C)
  | .ref n => match h[n]? with
    | some (.lst _) => some (.bt "list")
    | some (.ins C _) => some (.cl C)
    | _ => none
/-- what isinstance asks of an own class -/
def insB (K : Frag) (C : Str) : Bool := decide (PySem.W.findIn K (.ref (He.ga K C)) "__class__" = some (some (.builtin "object.__class__"))) &&
  (decide (PySem.W.specialIn K (.builtin "object.__class__") "__get__" = some (some (.builtin "getset_descriptor.__get__"))) &&
  (decide (PySem.W.takesIn K (.builtin "object.__class__") = some true) && decide (PySem.W.mroIn K (He.ga K C) (.type "object") = some true)))
/-- an answer of isinstance(x, T), x of the type t -/
def isB (K : Frag) (T : Ty) (p : Ty × Bool) : Bool := decide (PySem.W.kitOne K (p.1.v K) (T.v K) = some p.2) && match p.1 with
  | .cl C => insB K C && (Fa.ok' K C)
  | .bt _ => true
where Fa.ok' (K : Frag) (C : Str) : Bool := (He.Fa.cls C).ok K
theorem tyX_tup {K : Frag} {H : Hp} {a : Addr} {xs : List V} (h : SqT K H a xs) : TyX K H (.ref a) (.type "tuple") := by
  rcases h with (h | ⟨o, h⟩) | ⟨o, its, n, h1, h2, _⟩
  · exact .base (.tup h)
  · exact .fTuple h
  · exact .kTuple h1 h2
theorem tyX_lst {K : Frag} {H : Hp} {a : Addr} {xs : List V} (h : SqL K H a xs) : TyX K H (.ref a) (.type "list") := by
  rcases h with (h | ⟨o, h⟩) | ⟨o, its, n, h1, h2, _⟩
  · exact .base (.lst h)
  · exact .base (.frz h)
  · exact .kList h1 h2
def eIsi (l : List (Ty × Bool)) (m : LE) : LE := fun σ h Q E => m σ h (fun d h1 => ∃ t b, tyD d h1 = some t ∧ l.lookup t = some b ∧ Q (.bl b) h1) E
theorem isi_run {K : Frag} {ι : Ad} {H : Hp} {h : LH} {d : D} {v : V} {T t : Ty} {b : Bool} (hH : RelH K ι H h) (r : RelD K ι H d v) (e : tyD d h = some t) (q : isB K T (t, b) = true) : TyX K H v (t.v K) ∧ PySem.W.kitOne K (t.v K) (T.v K) = some b := by
  unfold isB at q
  obtain ⟨q1, q2⟩ := He.ba q
  refine ⟨?_, of_decide_eq_true q1⟩
  have ins : ∀ {C : Str} {a dx : Addr} {fs : List (Str × V)}, t = .cl C → H a = some (.ins (He.ga K C) dx fs) → TyX K H (.ref a) (t.v K) := by
    rintro C a dx fs rfl h1
    obtain ⟨z1, z2⟩ := He.ba q2
    unfold insB at z1
    obtain ⟨y1, y2⟩ := He.ba z1
    obtain ⟨y3, y4⟩ := He.ba y2
    obtain ⟨y5, y6⟩ := He.ba y4
    exact .base (.ins h1 (He.cls_ok z2) (of_decide_eq_true y1) (of_decide_eq_true y3) (of_decide_eq_true y5) (of_decide_eq_true y6))
  unfold tyD at e
  split at e
  · cases e; obtain rfl : v = .non := r; exact .base .non
  · cases e; rename_i b; obtain rfl : v = .bl b := r; exact .base (.bl b)
  · cases e; rename_i i; obtain rfl : v = .int i := r; exact .base (.int i)
  · cases e; rename_i x; obtain rfl : v = .str x := r; exact .base (.str x)
  · cases e; obtain ⟨a, vs, rfl, h2, _⟩ := r; exact tyX_tup h2
  · cases e; obtain ⟨a, vs, rfl, h2, _⟩ := r; exact tyX_lst h2.sq
  · cases e; obtain ⟨a, dx, vs, rfl, _, h2, _, _⟩ := r; exact ins rfl h2
  · obtain ⟨a, ha, rfl⟩ := r
    split at e
    · rename_i ho; cases e; obtain ⟨vs, h1, _⟩ := hH.lst ha ho; exact .base (.lst h1)
    · rename_i ho; cases e; obtain ⟨dx, vs, h1, _⟩ := hH.ins ha ho; exact ins rfl h1
    · cases e
theorem lookup_all {l : List (Ty × Bool)} {t : Ty} {b : Bool} {p : Ty × Bool → Bool} (e : l.lookup t = some b) (h : l.all p = true) : p (t, b) = true := by
  induction l with
  | nil => cases e
  | cons q l ih =>
    obtain ⟨t', b'⟩ := q
    rw [List.all_cons, Bool.and_eq_true] at h
    rw [List.lookup_cons] at e
    cases z : (t == t') with
    | true => rw [z] at e; cases e; rw [beq_iff_eq.mp z]; exact h.1
    | false => rw [z] at e; exact ih e h.2
/-- isinstance(e, T) -/
theorem je_isi {e : Expr} {m : LE} {T : Ty} {tv : V} {x : Str} {l : List (Ty × Bool)} {p p2 pos : Pos} (he : JE X W e m) (hT : PE X (.Name x p2) (tC tv)) (k : ClsV tv (T.v X.K)) (hl : l.all (isB X.K T) = true) (hm : X.mg "isinstance" = none) (hg : Gl X "isinstance" := by rfl)
    (h : ∀ {t : TA}, CallR X (.builtin "isinstance") (rIsi X.K) → Gl X "isinstance" → X.mg "isinstance" = none → PA X [e, .Name x p2] t → PE X (.Call (.Name "isinstance" p) [e, .Name x p2] [] pos) (tCB (rIsi X.K) t) := by exact fun a b c d => pe_callB a b c rfl d)
    (ha : ∀ {te tT : TE}, PE X e te → PE X (.Name x p2) tT → PA X [e, .Name x p2] (tCons te (tCons tT tNil)) := by exact fun a b => pa_cons a (pa_cons b pa_nil)) : JE X W (.Call (.Name "isinstance" p) [e, .Name x p2] [] pos) (eIsi l m) := by
  refine ⟨fun σ h Q Q' E E' hQ hE q => he.mono σ h _ _ _ _ (fun d h1 ⟨t, b, e1, e2, q1⟩ => ⟨t, b, e1, e2, hQ _ _ q1⟩) hE q, PE.weak (h call_isi hg hm (ha he.run hT)) fun σV H Q ⟨ι, σ, h, hS, hH, q⟩ => ?_⟩
  refine tX.into he.mono hS hH q (fun d h1 ι1 v H1 q1 e1 hH1 r => ?_) (fun c fs h1 ι1 dx H1 q1 => q1 ι1 dx H1)
  obtain ⟨t, b, e2, e3, q2⟩ := q1
  obtain ⟨z1, z2⟩ := isi_run hH1 r e2 (lookup_all e3 hl)
  exact ⟨v, tv, _, _, b, rfl, k, z1, z2, q2 ι1 _ H1 e1 hH1 rfl⟩
end LL
end

section
set_option Elab.async false
set_option linter.all false
set_option maxRecDepth 100000
set_option maxHeartbeats 1000000
/-! LLSort: sorted(xs, key=lambda x: ..), the key's body one of a few forms. -/
namespace LL
open PySem PySem.Spec PyProof.Rows L2
variable {X : Cx} {W : WX}

/-! ### a lambda of one parameter is called -/
/-- the code of a lambda of one parameter -/
structure Lam1 (x : Str) (scope : Scope) : Prop where
  kind : scope.kind = .function
  co : scope.isCoroutine = false
  gen : scope.isGenerator = false
  loc : scope.names.lookup x = some .local
  own : ∀ y ∈ scope.names, y.2 ≠ .cell
abbrev l1Env (q : Str) (scope : Scope) (L f c' : Addr) (cl : List (Str × Addr)) : Env := PySem.W.envX q scope L f (.ref c') cl
theorem lam1_call {prog : Program} {w : World} {A : Around} {E : Value → Shared → Prop} {s : Shared} {f c' : Addr} {x q : Str} {params : Arguments} {body : Expr} {scope : Scope} {cl : List (Str × Addr)} {pm ctv v : Value} {Q : Value → Shared → Prop} (S : Lam1 x scope) (hd : A.depth < recursionLimit)
    (hf : s.heap.get? f = some (PySem.W.kla_obj "<lambda>" q params body scope cl pm c' ctv)) (hc : ∃ (oc : Obj) (vs : Array Value) (t : Tok), s.heap.get? c' = some oc ∧ oc.data = .fields vs ∧ vs[1]? = some (.str q t)) (hl : s.heap.NoLimit)
    (hb : bindArgs (PySem.W.kla_fn "<lambda>" q params body scope cl pm (.ref c') ctv) ⟨[v], []⟩ = pure [(x, v)])
    (h : ∀ h₁ m, h₁.Ns s.heap.objs.size m → m x = some v → (∀ b o, s.heap.get? b = some o → h₁.get? b = some o) →
      wpAny (model prog w) (A.deeper (l1Env q scope s.heap.objs.size f c' cl)) (eval body (l1Env q scope s.heap.objs.size f c' cl)) Q (fun _ _ => False) { s with heap := h₁, toks := s.toks + 1 }) :
    wpAny (model prog w) A (call (.ref f) [v]) Q E s := by
  obtain ⟨oc, vs, t, h1, h2, h3⟩ := hc
  refine wpAny_call (PySem.W.kla_callFunE hd hf rfl S.co S.gen rfl ⟨c', oc, vs, t, rfl, h1, h2, h3⟩ ?_)
  rw [hb]
  refine wpAny_pure (wpAny_newFunctionEnv S.own (fun y hy => ?_) (fun h₁ hns hsb => ⟨hl.fresh _ hsb, ?_⟩) S.kind)
  · simp only [List.mem_singleton] at hy
    subst hy
    exact S.loc
  · refine PySem.W.kla_codeExpr (wpAny_mono (h h₁ _ hns (by simp) fun b o e => hsb.extBut b o (Nat.ne_of_lt (Heap.lt_size e)) (Heap.get?_push_of_some _ e)) (fun _ _ z => z) fun _ _ z => z.elim)

/-! ### the keys' bodies -/
/-- the body gives the key k of a tuple with these items -/
def KeyB (x : Str) (body : Expr) (key : List Value → PyData → Prop) : Prop := ∀ (prog : Program) (w : World) (A : Around) (E : Value → Shared → Prop) (s : Shared) (env : Env) (m : Str → Option Value) (t : Addr) (its : List Value) (k : PyData),
  env.scope.kind = .function → env.kindOf x = some .local → s.heap.Ns env.locals m → m x = some (.ref t) → IsTup s.heap t its.toArray → its.length ≤ sizeLine → key its k → wpAny (model prog w) A (eval body env) (PySem.W.KeyPure k s) E s
theorem ints_reads {h : Heap} : ∀ {us : List Value} {ns : List Int}, IntsAre us ns → ReadsAll h us (ns.map PyData.int) []
  | _, _, .nil => .nil
  | _, _, .cons n t r => .cons (as := []) (bs := []) (.int n t) (ints_reads r)
/-- x[:2] -/
theorem key_two {x : Str} {p1 p2 p3 p4 : Pos} {k1 : Nat} (hx : (x == ("__debug__" : Str)) = false) : KeyB x (.Subscript (.Name x p1) (.Slice none (some (.Constant (.int 2) k1 p2)) none p3) p4) fun its k => ∃ i j t u r, its = .int i t :: .int j u :: r ∧ r ≠ [] ∧ k = .tuple [.int i, .int j] := by
  rintro prog w A E s env m t its k hk hx2 hn hm ht hz ⟨i, j, ti, tj, r, rfl, hr, rfl⟩
  refine Subscript_ (wpAny_Name (wpAny_loadName_local hk hx2 hn hm ?_) hx)
  refine wpAny_Slice ?_
  rw [evalPart_none]
  refine wpAny_pure ?_
  rw [evalPart_some]
  refine wpAny_Constant_int (wpAny_pure ?_)
  obtain ⟨o, h1, h2, h3⟩ := ht
  have ht2 : IsTup (s.heap.push { cls := .type "slice", data := .fields #[.none, .int 2 s.toks, .none] }) t (.int i ti :: .int j tj :: r : List Value).toArray := ⟨o, Heap.get?_push_of_some _ h1, h2, h3⟩
  refine tail_any (ops := [.ref s.heap.objs.size, .ref t]) ⟨o, Heap.get?_push_of_some _ h1, h2⟩ slot_tuple_getitem.lookup ?_ (by with_unfolding_all rfl)
  have l : 2 < (.int i ti :: .int j tj :: r : List Value).length := by
    cases r with
    | nil => exact absurd rfl hr
    | cons => simp only [List.length_cons]; omega
  have e2 : HT.sIx (.int i ti :: .int j tj :: r : List Value).toArray.size (.int i ti :: .int j tj :: r : List Value).toArray.size (some 2) = 2 := by
    have := HT.sIx_nat (.int i ti :: .int j tj :: r : List Value).toArray.size (.int i ti :: .int j tj :: r : List Value).toArray.size 2
    rw [show (((2 : Nat) : Int)) = 2 from rfl] at this
    rw [this, List.size_toArray]
    omega
  refine HT.getItem_tuple_cut (lo := none) (hi := some 2) ht2 (Heap.IsSliceOf.new ..) .none (.int 2 _) ?_ ?_ (by simpa using hz)
  · rw [HT.sIx_none, e2, List.size_toArray]
    omega
  · rw [HT.sIx_none, e2]
    refine ⟨_, s.toks + 1, rfl, fun b o e => Heap.get?_push_of_some _ (Heap.get?_push_of_some _ e), ?_⟩
    exact Reads.tuple (Heap.get?_push_size _ rfl) rfl rfl (ints_reads (ns := [i, j]) (.cons i ti (.cons j tj .nil)))
/-- x[0] * 2 + x[1] -/
theorem key_sum {x : Str} {p1 p2 p3 p4 p5 p6 p7 p8 p9 : Pos} {k1 k2 k3 : Nat} (hx : (x == ("__debug__" : Str)) = false) :
    KeyB x (.BinOp (.BinOp (.Subscript (.Name x p1) (.Constant (.int 0) k1 p2) p3) .Mult (.Constant (.int 2) k2 p4) p5) .Add (.Subscript (.Name x p6) (.Constant (.int 1) k3 p7) p8) p9) fun its k => ∃ i j t u r, its = .int i t :: .int j u :: r ∧ CMul i 2 ∧ k = .int (i * 2 + j) := by
  rintro prog w A E s env m t its k hk hx2 hn hm ht hz ⟨i, j, ti, tj, r, rfl, hr, rfl⟩
  have item : ∀ (n : Int) (y : Value) (k : Nat) (p p' p'' : Pos) (tk : Nat) (Q : Value → Shared → Prop), seqIndex? n (.int i ti :: .int j tj :: r : List Value).toArray.size = some n.toNat → (.int i ti :: .int j tj :: r : List Value).toArray[n.toNat]? = some y → -(2 ^ 63) ≤ n → n < 2 ^ 63 →
      (∀ tk', Q y { s with toks := tk' }) → wpAny (model prog w) A (eval (.Subscript (.Name x p) (.Constant (.int n) k p') p'') env) Q E { s with toks := tk } := by
    intro n y k p p' p'' tk Q h1 h2 h3 h4 hq
    refine Subscript_ (wpAny_Name (wpAny_loadName_local hk hx2 hn hm ?_) hx)
    refine wpAny_Constant_int ?_
    obtain ⟨o, z1, z2, z3⟩ := ht
    exact tail_any (ops := [.ref t, .int n tk]) ⟨o, z1, z2⟩ slot_tuple_getitem.lookup (PyProof.Rows.getItem_tuple ⟨o, z1, z2, z3⟩ h3 h4 h1 h2 (hq _)) (by with_unfolding_all rfl)
  have l2 : 2 ≤ (.int i ti :: .int j tj :: r : List Value).toArray.size := by simp
  refine wpAny_BinOp (wpAny_BinOp (item 0 (.int i ti) k1 p1 p2 p3 s.toks _ (PySem.StrLaws.seqIndex_nonneg (by omega) (by omega)) rfl (by omega) (by omega) fun tk => ?_))
  refine wpAny_Constant_int (mul_int ?_ hr.ok)
  refine item 1 (.int j tj) k3 p6 p7 p8 _ _ (PySem.StrLaws.seqIndex_nonneg (by omega) (by omega)) rfl (by omega) (by omega) fun tk => ?_
  exact add_int ⟨s.heap, _, rfl, fun _ _ e => e, .int _ _⟩
/-! ### sorted(e, key=lambda x: ..) -/
theorem extN_sqT {K : Frag} {H H' : Hp} {a : Addr} {xs : List V} (e : LamX.ExtN H H') (h : SqT K H a xs) : SqT K H' a xs := by
  rcases h with (h | ⟨o, h⟩) | h
  · exact .inl (.inl (e a _ h (fun _ z => by cases z)))
  · exact .inl (.inr ⟨o, e a _ h (fun _ z => by cases z)⟩)
  · exact .inr h
theorem extN_sqL {K : Frag} {H H' : Hp} {a : Addr} {xs : List V} (e : LamX.ExtN H H') (h : SqL K H a xs) : SqL K H' a xs := by
  rcases h with (h | ⟨o, h⟩) | h
  · exact .inl (.inl (e a _ h (fun _ z => by cases z)))
  · exact .inl (.inr ⟨o, e a _ h (fun _ z => by cases z)⟩)
  · exact .inr h
theorem each_vals {α : Type} : ∀ {us : List Value} {bs : List (V × α)}, PySem.W.EachIs (fun u (b : V × α) => RelV b.1 u) us bs → Vals (bs.map (·.1)) us
  | _, _, .nil => .nil
  | _, _, .cons h r => .cons h (each_vals r)
theorem vals_each {α : Type} : ∀ {us : List Value} {bs : List (V × α)}, Vals (bs.map (·.1)) us → PySem.W.EachIs (fun u (b : V × α) => RelV b.1 u) us bs
  | us, [], r => by cases r; exact .nil
  | us, b :: bs, r => by cases r with | cons h r => exact .cons h (vals_each r)
/-- the tables that a lambda of this def needs -/
structure LamT (X : Cx) (T : List (Addr × Str)) (c P : Addr) : Prop where
  tb : LamX.TabB X.base X.mg c P
  code : X.env.code = .ref c
  mem : (P, X.env.qual ++ "<lambda>") ∈ T
  uni : ∀ p ∈ T, p.1 = P → p.2 = X.env.qual ++ "<lambda>"
def tSortK (K : Frag) (T : List (Addr × Str)) (key : List Value → PyData → Prop) (te : TE) : TE := fun σ H Q => te σ H fun x H1 => LamX.Tabs T H1 ∧ ∃ (a : Addr) (bs : List (V × PyData)), x = .ref a ∧ SqL K H1 a (bs.map (·.1)) ∧
  (∀ b ∈ bs, ∃ a xs, b.1 = .ref a ∧ SqT K H1 a xs ∧ ∀ us, Vals xs us → key us b.2) ∧ PySem.W.AllAlike (bs.map (·.2)) ∧ PySem.W.Sortable (bs.map (·.2)) ∧ (∀ b ∈ bs, b.2.depth ≤ 4) ∧
  ∀ H2, LamX.ExtN H1 H2 → LamX.Tabs T H2 → ∀ p, H2 p = none → Q (.ref p) (upd H2 p (.lst ((bs.mergeSort (PySem.W.dataLe false (·.2))).map (·.1))))
theorem pe_sortK {e : Expr} {te : TE} {p pos lpos kpos : Pos} {params : Arguments} {body : Expr} {scope : Scope} {x : Str} {T : List (Addr × Str)} {c P : Addr} {k : Nat} {key : List Value → PyData → Prop} (he : PE X e te) (hr : RoomG k X.A) (L : LamT X T c P) (S : Lam1 x scope) (hb : KeyB x body key)
    (hbind : ∀ (q : Str) (cl : List (Str × Addr)) (pm cv ctv v : Value), bindArgs (PySem.W.kla_fn "<lambda>" q params body scope cl pm cv ctv) ⟨[v], []⟩ = pure [(x, v)])
    (hm : X.mg "sorted" = none) (hfree : ∀ y ∈ scope.names, y.2 ≠ .free) (hdef : defaultsOf params X.env = ([], [])) (hg : Gl X "sorted") (hs : backTo pos (starEach [e] X.env) = (false, eval e X.env) :: backTo pos (starEach [] X.env)) (hpl : (backTo pos (starEach [e] X.env)).any (·.1) = false)
    (hkw : ((backToKw pos (keywordEach [⟨some "key", .Lambda params body scope lpos, kpos⟩] X.env)).map (·.2)) = [do let v ← eval (.Lambda params body scope lpos) X.env; standAt pos; pure v]) (hkn : (backToKw pos (keywordEach [⟨some "key", .Lambda params body scope lpos, kpos⟩] X.env)).filterMap (·.1) = [Str.ofString "key"])
    (hall : (backToKw pos (keywordEach [⟨some "key", .Lambda params body scope lpos, kpos⟩] X.env)).all (·.1.isSome) = true) (hnone : (backToKw pos (keywordEach [⟨some "key", .Lambda params body scope lpos, kpos⟩] X.env)).any (·.1.isNone) = false) :
    PE X (.Call (.Name "sorted" p) [e] [⟨some "key", .Lambda params body scope lpos, kpos⟩] pos) (tSortK X.K T key te) := by
  refine ⟨fun pins s σ H Q I h => wpAny_Call_Name_kw (ld_blt I hg hm PyProof.Rows.boot_sorted (PyProof.Rows.callWith_kw (rest := []) ?_ hs hpl hall hnone))⟩
  rw [hs, hkw, hkn]
  refine Calls.spliced_cons (thn (he.run pins s σ H _ I h) fun u s1 ⟨v, H1, I1, r1, hT, a, bs, ev, hl, hk, al, so, dp, q⟩ => Calls.spliced_nil ?_)
  subst ev
  obtain rfl : u = Value.ref a := r1
  show wpAny _ _ ((do let v ← eval (.Lambda params body scope lpos) X.env; standAt pos; pure v) >>= _) _ _ _
  refine wpAny_bind (wpAny_bind (LamX.lam_make2 I1 L.tb L.code L.mem L.uni hT hdef (fun y hy e => absurd e (hfree y hy)) fun f c' pm ctv H2 s2 I2 eN T2 hf hfn hfr hc => wpAny_bind (wpAny_standAt (wpAny_pure ?_))))
  show wpAny _ _ (evalAll [] >>= _) _ _ _
  refine wpAny_bind (wpAny_pure (wpAny_pure ?_))
  obtain ⟨its, rv, pl, hz⟩ := I2.list (extN_sqL eN hl)
  have hlen : bs.length ≤ sizeLine := by simpa using hz
  have hd : X.A.in1.in1.depth < recursionLimit := hr.r.depth
  obtain ⟨⟨oc, vs, t, hoc, hdc, hvc⟩, _, _⟩ := I2.hok c' _ hc
  refine PySem.W.sorted_key_data (b := false) (fun b : V × PyData => b.2) pl.isList (vals_each rv) al so hlen (fun b hb => ?_) (ksk_s1 _ _) (fun _ => ksk_l1 _ _) (fun _ => ksk_t1 _ _) (fun u b ru hb' g tk kp => ?_) (fun out c2 h' tk kp fr hD ln eo => ?_)
  · have := hr.r.units
    have := dp b hb
    omega
  · obtain ⟨a', xs, e1, hq, hkey⟩ := hk b hb'
    rw [e1] at ru
    obtain rfl : u = Value.ref a' := ru
    obtain ⟨its', rv', ⟨o', g1, g2, g3⟩, hz'⟩ := I2.tuple (extN_sqT eN hq)
    have lim : g.NoLimit := I2.nolimit.keeps kp
    refine lam1_call S hd (kp _ _ hf) ⟨oc, vs, t, kp _ _ hoc, hdc, hvc⟩ lim (hbind _ _ _ _ _ _) fun h₁ m hns hm' kp1 => ?_
    have hl1 : (l1Env (X.env.qual ++ "<lambda>") scope g.objs.size f c' (cloFrom X.env.cells scope.names [])).kindOf x = some .local := S.loc
    refine wpAny_mono (hb _ _ _ (fun _ _ => False) _ _ m a' its' b.2 S.kind hl1 hns hm' ⟨o', kp1 _ _ (kp _ _ g1), g2, g3⟩ (by rw [← rv'.length]; exact hz') (hkey its' rv')) (fun u s3 hkp => ?_) fun _ _ z => z
    obtain ⟨h3, tk3, rfl, k3, r3⟩ := hkp
    exact ⟨h3, tk3, rfl, fun b o e => k3 b o (kp1 b o e), r3⟩
  · have vo := each_vals eo
    have lo : ((bs.mergeSort (PySem.W.dataLe false (·.2))).map (·.1)).length ≤ sizeLine := by simpa using hlen
    refine ⟨.ref (s2.heap.objs.size + 1), _, I2.laid (t' := tk) (o := .lst ((bs.mergeSort (PySem.W.dataLe false (·.2))).map (·.1))) kp (Nat.le_succ _) ⟨lo, out, c2, vo, hD⟩, rfl, q H2 eN T2 _ (I2.hok.fresh (Nat.le_succ _))⟩
/-! ### .. in logical words -/
/-- the first two items of a tuple, if they are ints and one more follows -/
def k2 (d : D) : Int × Int := match d with
  | .tup (.int i :: .int j :: _ :: _) => (i, j)
  | _ => (0, 0)
def is2 (d : D) : Bool := match d with
  | .tup (.int _ :: .int _ :: _ :: _) => true
  | _ => false
def le2 (a b : D) : Bool := decide ((k2 a).1 < (k2 b).1 ∨ ((k2 a).1 = (k2 b).1 ∧ (k2 a).2 ≤ (k2 b).2))
def leS (a b : D) : Bool := decide ((k2 a).1 * 2 + (k2 a).2 ≤ (k2 b).1 * 2 + (k2 b).2)
/-- sorted by the two -/
def eSort2 (m : LE) : LE := fun σ h Q E => m σ h (fun d h1 => seqL d h1 fun ds => ds.all is2 = true ∧ Q (.lst (ds.mergeSort le2)) h1) E
def eSortS (m : LE) : LE := fun σ h Q E => m σ h (fun d h1 => seqL d h1 fun ds => ds.all is2 = true ∧ (∀ d ∈ ds, CMul (k2 d).1 2) ∧ Q (.lst (ds.mergeSort leS)) h1) E
theorem is2_rel {K : Frag} {ι : Ad} {H : Hp} {d : D} {v : V} (r : RelD K ι H d v) (h : is2 d = true) : ∃ a xs, v = .ref a ∧ SqT K H a xs ∧ ∀ us, Vals xs us → ∃ t u rr, us = .int (k2 d).1 t :: .int (k2 d).2 u :: rr ∧ rr ≠ [] := by
  unfold is2 at h
  split at h
  · rename_i i j x r'
    obtain ⟨a, xs, rfl, hq, v1, w1, rfl, e1, v2, w2, rfl, e2, v3, w3, rfl, e3, _⟩ := r
    obtain rfl : v1 = .int i := e1
    obtain rfl : v2 = .int j := e2
    refine ⟨a, _, rfl, hq, fun us r => ?_⟩
    cases r with
    | cons r1 r =>
      cases r with
      | cons r2 r =>
        cases r with
        | cons r3 r =>
          obtain ⟨t, rfl⟩ := r1
          obtain ⟨u, rfl⟩ := r2
          exact ⟨t, u, _, rfl, by simp⟩
  · cases h
theorem rels_zip {K : Frag} {ι : Ad} {H : Hp} : ∀ {ds : List D} {vs : List V}, RelDs K ι H ds vs → ∃ T : List (V × D), T.map (·.1) = vs ∧ T.map (·.2) = ds ∧ ∀ p ∈ T, RelD K ι H p.2 p.1
  | [], vs, h => by obtain rfl : vs = [] := h; exact ⟨[], rfl, rfl, by simp⟩
  | d :: ds, _, ⟨v, r, h1, h2, h3⟩ => by
    obtain ⟨T, e1, e2, q⟩ := rels_zip h3
    subst h1 e1 e2
    refine ⟨(v, d) :: T, rfl, rfl, fun p hp => ?_⟩
    rcases List.mem_cons.mp hp with rfl | hp
    · exact h2
    · exact q p hp
theorem rels_of {K : Frag} {ι : Ad} {H : Hp} : ∀ {T : List (V × D)}, (∀ p ∈ T, RelD K ι H p.2 p.1) → RelDs K ι H (T.map (·.2)) (T.map (·.1))
  | [], _ => rfl
  | p :: T, h => ⟨p.1, T.map (·.1), rfl, h p (by simp), rels_of fun q hq => h q (by simp [hq])⟩
/-- a later moment, where a lambda is made and a list is laid -/
theorem Ext.nt {K : Frag} {ι : Ad} {H H' : Hp} {h : LH} (e : LamX.ExtN H H') : Ext ι H ι H' := by
  refine ⟨⟨[], by simp, fun _ z => by cases z⟩, fun _ h => h, fun _ h => .inl h, rfl, fun a o q _ t => e a o q t, fun a xs q => e a _ q (fun _ z => by cases z), fun a o u q => e a _ q (fun _ z => by cases z), fun a ⟨o, q, t⟩ => ⟨o, e a o q t, t⟩⟩
theorem RelH.nt {K : Frag} {ι : Ad} {H H' : Hp} {h : LH} (hH : RelH K ι H h) (e : LamX.ExtN H H') (t : LamX.Tabs (tabsK K) H') : RelH K ι H' h := by
  have ex : Ext ι H ι H' := Ext.nt (K := K) (h := h) e
  refine ⟨hH.len, hH.inj, fun a m => ex.there a (hH.live a m), fun a m => ex.there a (hH.liveR a m), hH.disj, t, fun n o q g => ?_⟩
  obtain ⟨a, e1, r⟩ := hH.obj n o q g
  refine ⟨a, e1, ?_⟩
  cases o with
  | lst ds => obtain ⟨vs, h1, h2⟩ := r; exact ⟨vs, e a _ h1 (fun _ z => by cases z), h2.ext ex⟩
  | ins C fs => obtain ⟨dx, vs, h1, h2⟩ := r; exact ⟨dx, vs, e a _ h1 (fun _ z => by cases z), h2.ext ex⟩
  | gone => trivial
/-- the sorting of the items by their keys -/
theorem sort_run {K : Frag} {key : List Value → PyData → Prop} {kf : D → PyData} {le : D → D → Bool} {ok : D → Prop} (hk : ∀ ι H d v, RelD K ι H d v → is2 d = true → ok d → ∃ a xs, v = .ref a ∧ SqT K H a xs ∧ ∀ us, Vals xs us → key us (kf d)) (hal : ∀ ds : List D, PySem.W.AllAlike (ds.map kf)) (hso : ∀ ds : List D, PySem.W.Sortable (ds.map kf))
    (hd : ∀ d, (kf d).depth ≤ 4) (hle : ∀ a b : D, PySem.W.dataLe false kf a b = le a b) {m : LE} (hm : Mono m) {σV : L2.St} {H : Hp} {Qv : VK} {Q0 : LV → LH → (D → LH → Prop) → XL → Prop}
    (q : tE K W (fun σ h Q E => m σ h (fun d h1 => seqL d h1 fun ds => ds.all is2 = true ∧ (∀ d ∈ ds, ok d) ∧ Q (.lst (ds.mergeSort le)) h1) E) σV H Qv) : tSortK K (tabsK K) key (tE K W m) σV H Qv := by
  obtain ⟨ι, σ, h, hS, hH, q⟩ := q
  refine tX.into hm hS hH q (fun d h1 ι1 v H1 q1 e1 hH1 r => ⟨hH1.tabs, ?_⟩) (fun c fs h1 ι1 dx H1 q1 => q1 ι1 dx H1)
  obtain ⟨a, ds, vs, rfl, hl, rs, h2, h3, q2⟩ := seqL_run hH1 r q1
  obtain ⟨T, rfl, rfl, hT⟩ := rels_zip rs
  have e2 : (T.map fun p => (p.1, kf p.2)).map (·.1) = T.map (·.1) := by simp
  have e3 : (T.map fun p => (p.1, kf p.2)).map (·.2) = (T.map (·.2)).map kf := by simp
  refine ⟨a, T.map fun p => (p.1, kf p.2), rfl, by rw [e2]; exact hl, fun b hb => ?_, by rw [e3]; exact hal _, by rw [e3]; exact hso _, fun b hb => ?_, fun H2 eN tN p hp => ?_⟩
  · obtain ⟨z, hz, rfl⟩ := List.mem_map.mp hb
    have hm2 : z.2 ∈ T.map (·.2) := List.mem_map.mpr ⟨z, hz, rfl⟩
    exact hk _ _ _ _ (hT z hz) (List.all_eq_true.mp h2 _ hm2) (h3 _ hm2)
  · obtain ⟨z, hz, rfl⟩ := List.mem_map.mp hb
    exact hd _
  · have s1 : (T.map fun p => (p.1, kf p.2)).mergeSort (PySem.W.dataLe false (·.2)) = (T.mergeSort fun a b => le a.2 b.2).map fun p => (p.1, kf p.2) := by
      rw [List.map_mergeSort]
      intro x _ y _
      exact (hle x.2 y.2).symm
    have s2 : (T.map (·.2)).mergeSort le = (T.mergeSort fun a b => le a.2 b.2).map (·.2) := by
      rw [List.map_mergeSort]
      intro x _ y _
      rfl
    have e4 : ((T.mergeSort fun a b => le a.2 b.2).map fun p => (p.1, kf p.2)).map (·.1) = (T.mergeSort fun a b => le a.2 b.2).map (·.1) := by simp
    rw [s1, e4]
    rw [s2] at q2
    have ex1 : Ext ι1 H1 ι1 H2 := Ext.nt (K := K) (h := h1) eN
    have hH2 := hH1.nt eN tN
    have ex2 : Ext ι1 H2 ι1 (upd H2 p (.lst ((T.mergeSort fun a b => le a.2 b.2).map (·.1)))) := Ext.new hp
    refine q2 ι1 _ _ (e1.trans (ex1.trans ex2)) (hH2.new hp) ⟨p, _, rfl, .inl ⟨upd_same, hH2.notNew hp⟩, rels_of fun z hz => ?_⟩
    exact (hT z ((List.mergeSort_perm _ _).mem_iff.mp hz)).ext (ex1.trans ex2)
theorem mono_sort2 {m : LE} (hm : Mono m) : Mono (eSort2 m) := fun σ h Q Q' E E' hQ hE q => hm σ h _ _ _ _ (fun d h1 q1 => seqL_mono (fun ds q => ⟨q.1, hQ _ _ q.2⟩) q1) hE q
theorem mono_sortS {m : LE} (hm : Mono m) : Mono (eSortS m) := fun σ h Q Q' E E' hQ hE q => hm σ h _ _ _ _ (fun d h1 q1 => seqL_mono (fun ds q => ⟨q.1, q.2.1, hQ _ _ q.2.2⟩) q1) hE q
abbrev kf2 (d : D) : PyData := .tuple [.int (k2 d).1, .int (k2 d).2]
abbrev kfS (d : D) : PyData := .int ((k2 d).1 * 2 + (k2 d).2)
section
variable {e : Expr} {m : LE} {p pos lpos kpos p1 p2 p3 p4 p5 p6 p7 p8 p9 : Pos} {i1 i2 i3 : Nat} {params : Arguments} {scope : Scope} {x : Str} {c P : Addr} {k : Nat}
theorem je_sort2 (he : JE X W e m) (h : ∀ {te : TE}, PE X e te → PE X (.Call (.Name "sorted" p) [e] [⟨some "key", .Lambda params (.Subscript (.Name x p1) (.Slice none (some (.Constant (.int 2) i1 p2)) none p3) p4) scope lpos, kpos⟩] pos)
      (tSortK X.K (tabsK X.K) (fun its k => ∃ i j t u r, its = .int i t :: .int j u :: r ∧ r ≠ [] ∧ k = .tuple [.int i, .int j]) te)) :
    JE X W (.Call (.Name "sorted" p) [e] [⟨some "key", .Lambda params (.Subscript (.Name x p1) (.Slice none (some (.Constant (.int 2) i1 p2)) none p3) p4) scope lpos, kpos⟩] pos) (eSort2 m) := by
  refine ⟨mono_sort2 he.mono, PE.weak (h he.run) fun σV H Q q => sort_run (kf := kf2) (le := le2) (ok := fun _ => True) (fun ι H d v r i _ => ?_) (fun ds => PySem.W.AllAlike.of fun _ _ => by simp [PySem.W.alike, PySem.W.alikeAll]) (fun ds => PySem.W.Sortable.tuples fun _ => ⟨_, _, rfl⟩) (fun d => by simp [PyData.depth, PyData.depthAll]) (fun a b => ?_) he.mono (Q0 := fun _ _ _ _ => True) ?_⟩
  · obtain ⟨a, xs, e1, e2, e3⟩ := is2_rel r i
    refine ⟨a, xs, e1, e2, fun us hv => ?_⟩
    obtain ⟨t, u, rr, e4, e5⟩ := e3 us hv
    exact ⟨_, _, t, u, rr, e4, e5, rfl⟩
  · exact congrFun (congrFun (PySem.W.dataLe_ii (fun d => (k2 d).1) (fun d => (k2 d).2)) a) b
  · obtain ⟨ι, σ, h, hS, hH, q⟩ := q
    exact ⟨ι, σ, h, hS, hH, he.mono σ h _ _ _ _ (fun d h1 q1 => seqL_mono (fun ds q => ⟨q.1, fun _ _ => trivial, q.2⟩) q1) (fun _ _ _ q => q) q⟩
theorem je_sortS (he : JE X W e m) (h : ∀ {te : TE}, PE X e te → PE X (.Call (.Name "sorted" p) [e] [⟨some "key", .Lambda params (.BinOp (.BinOp (.Subscript (.Name x p1) (.Constant (.int 0) i1 p2) p3) .Mult (.Constant (.int 2) i2 p4) p5) .Add (.Subscript (.Name x p6) (.Constant (.int 1) i3 p7) p8) p9) scope lpos, kpos⟩] pos)
      (tSortK X.K (tabsK X.K) (fun its k => ∃ i j t u r, its = .int i t :: .int j u :: r ∧ CMul i 2 ∧ k = .int (i * 2 + j)) te)) :
    JE X W (.Call (.Name "sorted" p) [e] [⟨some "key", .Lambda params (.BinOp (.BinOp (.Subscript (.Name x p1) (.Constant (.int 0) i1 p2) p3) .Mult (.Constant (.int 2) i2 p4) p5) .Add (.Subscript (.Name x p6) (.Constant (.int 1) i3 p7) p8) p9) scope lpos, kpos⟩] pos) (eSortS m) := by
  refine ⟨mono_sortS he.mono, PE.weak (h he.run) fun σV H Q q => sort_run (kf := kfS) (le := leS) (ok := fun d => CMul (k2 d).1 2) (fun ι H d v r i hc => ?_) (fun ds => PySem.W.AllAlike.of fun _ _ => by simp [PySem.W.alike]) (fun ds => ?_) (fun d => by simp [PyData.depth]) (fun a b => ?_) he.mono (Q0 := fun _ _ _ _ => True) q⟩
  · obtain ⟨a, xs, e1, e2, e3⟩ := is2_rel r i
    refine ⟨a, xs, e1, e2, fun us hv => ?_⟩
    obtain ⟨t, u, rr, e4, e5⟩ := e3 us hv
    exact ⟨_, _, t, u, rr, e4, hc, rfl⟩
  · exact PySem.W.Sortable.others fun _ => ⟨by simp, by simp⟩
  · exact congrFun (congrFun (PySem.W.dataLe_int (fun d => (k2 d).1 * 2 + (k2 d).2)) a) b
end
end LL
end

section
set_option Elab.async false
set_option linter.all false
set_option maxRecDepth 100000
set_option maxHeartbeats 1000000
/-! LLEnd: the law is called at the top; the head's Hook. -/
namespace LL
open PySem PySem.Spec PyProof.Rows L2

/-! ### the call at the top -/
section
variable {P : Program} {w : World} {K : Frag} {mg mb : Str → Option Value} {k : Nat} {fa a : Addr} {cs : List (Addr × Addr)} {G : LSp} {s1 : Shared} {vs : List Value} {ns : List Int}
/-- what is tracked at the start: the script (if the written part does not hold it), the tables -/
def H0 (K : Frag) (a : Addr) (vs : List Value) (ns : List Int) (tb : List Addr) : Hp := fun b =>
  if b = a then (match K.lookup a with | none => some (.frz { cls := .type "list", data := .seq vs.toArray } (.lst (ns.map V.int))) | some _ => none) else if b ∈ tb then some (.tbl #[]) else none
abbrev emptyT : Obj := { cls := .none, data := .fields #[] }
abbrev scriptO (vs : List Value) : Obj := { cls := .type "list", data := .seq vs.toArray }
/-- the facts of the heap behind the top -/
structure TopH (K : Frag) (mg mb : Str → Option Value) (cs : List (Addr × Addr)) (a : Addr) (vs : List Value) (s1 : Shared) : Prop where
  kin : K.In s1.heap
  ns : s1.heap.Ns mainGlobals mg
  nb : s1.heap.Ns builtinsNs mb
  bb : ∀ x : Str, x ≠ "__name__" → mb x = bootBuiltins x
  lim : s1.heap.NoLimit
  gens : s1.gens = #[]
  tab : ∀ p ∈ cs, s1.heap.get? p.2 = some emptyT
  out : ∀ p ∈ cs, K.lookup p.2 = none
  cod : ∀ p ∈ cs, PySem.W.CodeHd s1.heap p.1 p.2
  bm : ∃ (bm : Addr) (ob : Obj), mg "__builtins__" = some (.ref bm) ∧ bm ≠ builtinsNs ∧ s1.heap.get? bm = some ob ∧ ob.cls = .type "module" ∧ ob.dict = some builtinsNs ∧ ob.data = .plain
  scr : s1.heap.get? a = some (scriptO vs)
theorem cx_none {H : Hp} {e : Value} {s s' : Shared} (h : L2.CX P w [] H s (fun _ _ _ => False) e s') : False := by
  obtain ⟨_, _, _, _, _, _, _, _, _, _, _, _, z⟩ := h
  exact z
section
variable (T : TopH K mg mb cs a vs s1)
include T
theorem TopH.tabAt {b : Addr} (h : b ∈ cs.map (·.2)) : s1.heap.get? b = some emptyT := by
  obtain ⟨p, hp, rfl⟩ := List.mem_map.mp h
  exact T.tab p hp
theorem TopH.aNo : a ∉ cs.map (·.2) := fun z => by
  have := T.tabAt z
  rw [T.scr] at this
  exact nomatch congrArg Obj.data (Option.some.inj this)
/-- an object that is no list and no table is not tracked -/
theorem TopH.free {b : Addr} {o : Obj} (e : s1.heap.get? b = some o) (n1 : o ≠ scriptO vs) (n2 : o ≠ emptyT) : H0 K a vs ns (cs.map (·.2)) b = none := by
  unfold H0
  split
  · rename_i z
    subst z
    rw [T.scr] at e
    exact absurd (Option.some.inj e).symm n1
  · split
    · rename_i z
      rw [T.tabAt z] at e
      exact absurd (Option.some.inj e).symm n2
    · rfl
theorem TopH.kfree {b : Addr} {o : Obj} (e : K.lookup b = some o) : H0 K a vs ns (cs.map (·.2)) b = none := by
  unfold H0
  split
  · rename_i z
    subst z
    rw [e]
  · split
    · rename_i z
      obtain ⟨p, hp, rfl⟩ := List.mem_map.mp z
      rw [T.out p hp] at e; cases e
    · rfl
theorem TopH.ok (hi : IntsAre vs ns) (hl : ns.length ≤ sizeLine) : HOk P w (H0 K a vs ns (cs.map (·.2))) s1.heap := by
  intro b u e
  unfold H0 at e
  split at e
  · rename_i z
    subst z
    split at e
    · cases e
      exact ⟨T.scr, by rw [List.length_map]; exact hl, vs, _, vals_ints hi, T.scr⟩
    · cases e
  · split at e
    · cases e
      exact T.tabAt ‹_›
    · cases e
theorem TopH.nsK {b : Addr} {m : Str → Option Value} (h : s1.heap.Ns b m) : (hidT s1.heap (H0 K a vs ns (cs.map (·.2)))).Ns b m := by
  obtain ⟨o, es, ep, e, d, r⟩ := h
  exact ⟨o, es, ep, hidT_get e (T.free e (by rintro rfl; cases d) (by rintro rfl; cases d)), d, r⟩
theorem TopH.kB : K.In (hidT s1.heap (H0 K a vs ns (cs.map (·.2)))) := fun b o e => hidT_get (T.kin b o e) (T.kfree e)
theorem TopH.tabB : ∀ p ∈ cs, LamX.TabB (hidT s1.heap (H0 K a vs ns (cs.map (·.2)))) mg p.1 p.2 := fun p hp => by
  have ne : ∀ {b : Addr} {o : Obj}, s1.heap.get? b = some o → o ≠ emptyT → b ≠ p.2 := fun e n z => n (by rw [z, T.tab p hp] at e; exact (Option.some.inj e).symm)
  refine ⟨?_, ?_, fun z => ?_⟩
  · obtain ⟨o, us, file, tf, flags, tg, inF, text, tt, e1, r1, r2, r3, r4, r5, r6, r7, r8, hne⟩ := T.cod p hp
    exact ⟨o, us, file, tf, flags, tg, inF, text, tt, hidT_get e1 (T.free e1 (by rintro rfl; cases r2) (by rintro rfl; cases r2; simp at r3)), r1, r2, r3, r4, r5, r6, r7, r8, hne⟩
  · obtain ⟨bm, ob, b1, b2, b3, b4, b5, b6⟩ := T.bm
    refine ⟨bm, ob, b1, b2, fun q => ?_, ne b3 (by rintro rfl; cases b6), hidT_get b3 (T.free b3 (by rintro rfl; cases b6) (by rintro rfl; cases b6)), b4, b5, b6⟩
    obtain ⟨o, es, ep, e, d, _⟩ := T.ns
    rw [q, e] at b3
    cases b3
    rw [d] at b6
    cases b6
  · obtain ⟨o, es, ep, e, d, _⟩ := T.ns
    exact ne e (by rintro rfl; cases d) z
theorem TopH.call (hi : IntsAre vs ns) (hl : ns.length ≤ sizeLine) (hr : RoomG k callerA) (F : ∀ base : Heap, K.In base → base.Ns mainGlobals mg → (∀ p ∈ cs, LamX.TabB base mg p.1 p.2) → Keeps P w K mg base k fa 1 G)
    (hsp : ∀ H : Hp, (∀ p ∈ cs, H p.2 = some (.tbl #[])) → LstX K H a (ns.map V.int) → spV K 1 G [.ref a] H (fun v _ => v = .bl true) fun _ _ _ => False) :
    codeAny (model P w) callerA (.call (.ref fa) ⟨[.ref a], []⟩) (fun r s' => r = .ok (.ret (.bool true)) ∧ OldK s1.heap s'.heap ∧ s'.os = s1.os ∧ AllBare s'.gens) s1 := by
  have hH : ∀ p ∈ cs, H0 K a vs ns (cs.map (·.2)) p.2 = some (.tbl #[]) := fun p hp => by
    have m : p.2 ∈ cs.map (·.2) := List.mem_map.mpr ⟨p, hp, rfl⟩
    unfold H0
    rw [if_neg (fun z => T.aNo (by rw [← z]; exact m)), if_pos m]
  have hS : LstX K (H0 K a vs ns (cs.map (·.2))) a (ns.map V.int) := by
    cases q : K.lookup a with
    | none => exact .inr (.inl ⟨_, by unfold H0; rw [if_pos rfl, q]⟩)
    | some o =>
      have := T.kin a o q
      rw [T.scr] at this
      cases this
      exact .inr (.inr ⟨vs, _, q, by rw [List.length_map]; exact hl, vals_ints hi⟩)
  have e0 : Env0 P w K mg (hidT s1.heap (H0 K a vs ns (cs.map (·.2)))) callerA [] s1 (H0 K a vs ns (cs.map (·.2))) :=
    ⟨rfl, ⟨T.kB, T.nsK T.ns, ⟨mb, T.nsK T.nb, T.bb⟩, let ⟨mc, h1, h2⟩ := T.lim; ⟨mc, T.nsK h1, h2⟩⟩, fun b o e => of_hidT e, Nat.le_of_eq (hidT_size _ _), trivial, fun b hb => absurd (show b ∈ ([] : List Addr) from hb) (by simp), T.ok hi hl, .of_eq T.gens⟩
  obtain ⟨hG, fd, ps, hn, Fg, hb⟩ := F _ T.kB (T.nsK T.ns) T.tabB
  have b1 : BindsTo s1 fd ⟨[.ref a], []⟩ (ps.zip ([Value.ref a] ++ [])) := hb s1 [.ref a] T.kin (by rw [hn]; rfl)
  refine codeAny_mono (Fg.run callerA [] s1 _ ⟨[.ref a], []⟩ ([Value.ref a] ++ []) [V.ref a] _ _ hr e0 b1 (.cons (show RelV (V.ref a) (Value.ref a) from rfl) .nil) (hsp _ hH hS)) fun r s' h => ?_
  match r, h with
  | .error e, h => exact (cx_none (show L2.CX P w [] _ s1 _ e s' from h)).elim
  | .ok .next, h => exact h.elim
  | .ok .brk, h => exact h.elim
  | .ok .cont, h => exact h.elim
  | .ok (.ret u), ⟨v, H', os, bare, un, hok', r', q⟩ =>
    obtain rfl : v = .bl true := q
    obtain rfl : u = Value.bool true := r'
    have old : ∀ b o, b ∉ cs.map (·.2) → s1.heap.get? b = some o → s'.heap.get? b = some o := fun b o nb e => by
      cases q : H0 K a vs ns (cs.map (·.2)) b with
      | none => exact un.keep b o e q (by intro z; exact absurd (show b ∈ ([] : List Addr) from z) (by simp)) (by simp)
      | some u =>
        have z := q
        unfold H0 at z
        split at z
        · rename_i zz
          subst zz
          split at z
          · cases z
            obtain ⟨e1, _⟩ := hok' b _ (un.frzs b _ _ q)
            rw [T.scr] at e
            rw [← Option.some.inj e]
            exact e1
          · cases z
        · first | cases z | (rw [if_neg nb] at z; cases z)
    have grown : ∀ p ∈ cs, ∃ more : Array Value, s'.heap.get? p.2 = some { cls := .none, data := .fields more } := fun p hp =>
      let ⟨more, z⟩ := un.tbls p.2 #[] (hH p hp)
      ⟨_, hok' p.2 _ z⟩
    refine ⟨rfl, ⟨fun b o e => ?_, fun b o e => ?_⟩, os, bare⟩
    · by_cases hb : b ∈ cs.map (·.2)
      · obtain ⟨p, hp, rfl⟩ := List.mem_map.mp hb
        obtain ⟨more, hm⟩ := grown p hp
        rw [T.tab p hp] at e
        cases e
        exact .inr (.inl ⟨((T.cod p hp).tab (T.tab p hp)).isCodeTable, rfl, #[], more, rfl, by rw [Array.empty_append]; exact hm⟩)
      · exact .inl (old b o hb e)
    · by_cases hb : b ∈ cs.map (·.2)
      · obtain ⟨p, hp, rfl⟩ := List.mem_map.mp hb
        obtain ⟨more, hm⟩ := grown p hp
        exact ⟨_, hm⟩
      · exact ⟨o, old b o hb e⟩
end
end
/-! ### the head's Hook: a part of the heap, told by a short way -/
def refsT (o : Obj) : List Addr := match o.data with
  | .seq its _ => its.toList.flatMap He.refV
  | .dict es _ => es.toList.flatMap fun e => He.refV e.val
  | .func fd => He.refV fd.code ++ He.refV fd.defaults ++ He.refV fd.kwdefaults
  | .cls cd => cd.ns :: cd.mro.flatMap He.refV
  | .fields vs => vs.toList.flatMap He.refV
  | _ => []
def stepT (g : Addr → Option Obj) (as : List Addr) : List Addr := as.flatMap fun a => match g a with
  | some o => refsT o
  | none => []
def reachT (g : Addr → Option Obj) : Nat → List Addr → List Addr
  | 0, as => as
  | n + 1, as => as ++ reachT g n (stepT g as)
abbrev asT (g : Addr → Option Obj) (n : Nat) : List Addr := reachT g n [mainGlobals]
open He in
def obsL (n : Nat) (fa : List Fa) (fn : List DefD) (ts : List Tab) (tf : List Defn) (ex : Frag → Bool) (g : Addr → Option Obj) : AlX := (obsT fa fn ts (frT g (asT g n)), ex (frT g (asT g n)) && tabsB g tf (frT g (asT g n)))
open He in
theorem saysL {n : Nat} {fa : List Fa} {fn : List DefD} {ts : List Tab} {tf : List Defn} {ex : Frag → Bool} {w : World} {h : Heap} (e : obsL n fa fn ts tf ex h.get? = valX fn ts w) : SaysX fa fn ts tf ex w h (frT h.get? (asT h.get? n)) := by
  obtain ⟨m1, m2⟩ := ba (congrArg Prod.snd e)
  have tab : ∀ p ∈ tf, PySem.W.codeHdIn (frT h.get? (asT h.get? n)) (cT (frT h.get? (asT h.get? n)) p).1 (cT (frT h.get? (asT h.get? n)) p).2 = true ∧ ∃ o, h.get? (cT (frT h.get? (asT h.get? n)) p).2 = some o ∧ emptyTab o = true := fun p hp => by
    obtain ⟨z1, z2⟩ := ba (List.all_eq_true.mp m2 p hp)
    cases q : h.get? (cT (frT h.get? (asT h.get? n)) p).2 with
    | none => rw [q] at z2; cases z2
    | some o => rw [q] at z2; exact ⟨z1, o, rfl, z2⟩
  refine ⟨congrArg Prod.fst e, m1, fun p hp => (tab p hp).1, fun p hp => ?_, fun p hp => ?_⟩
  · obtain ⟨_, o, q, z⟩ := tab p hp
    exact frT_none q z
  · obtain ⟨_, o, q, z⟩ := tab p hp
    rw [q, emptyTab_eq z]
open He in
def hookL (n : Nat) (fa : List Fa) (fn : List DefD) (ts : List Tab) (tf : List Defn) (ex : Frag → Bool) : PySem.W.Hook where
  α := AlX
  obs := fun s => obsL n fa fn ts tf ex s.heap.get?
  val := fun w => valX fn ts w
  says := fun w h => ∃ K : Frag, K.In h ∧ SaysX fa fn ts tf ex w h K
  of := fun _ _ e => ⟨_, frT_in, saysL e⟩
  keeps := fun _ _ _ ⟨K, hK, c⟩ k => ⟨K, PySem.W.Frag.In.keeps hK k, ⟨c.t, c.more, c.hd, c.out, fun p hp => k _ _ (c.empty p hp)⟩⟩
theorem obsL_eq {n : Nat} {fa : List He.Fa} {fn : List He.DefD} {ts : List He.Tab} {tf : List He.Defn} {ex : Frag → Bool} {g : Addr → Option Obj} {s : Shared} (h : ∀ a, g a = s.heap.get? a) : obsL n fa fn ts tf ex g = (hookL n fa fn ts tf ex).obs s := by
  have e : g = s.heap.get? := funext h
  rw [e]
  rfl
/-- the tables that are known are told apart -/
def tabsOk (K : Frag) : Bool := decide ((tabsK K).map (·.1)).Nodup
theorem tabs_uni {K : Frag} (h : tabsOk K = true) {P : Addr} {q : Str} (m : (P, q) ∈ tabsK K) : ∀ p ∈ tabsK K, p.1 = P → p.2 = q := by
  have nd : ((tabsK K).map (·.1)).Nodup := of_decide_eq_true h
  intro p hp e
  subst e
  have key : ∀ (l : List (Addr × Str)), (l.map (·.1)).Nodup → ∀ p ∈ l, ∀ r ∈ l, p.1 = r.1 → p = r := by
    intro l
    induction l with
    | nil => intro _ p hp; cases hp
    | cons x l ih =>
      intro nd p hp r hr e
      rw [List.map_cons, List.nodup_cons] at nd
      rcases List.mem_cons.mp hp with h1 | h1
      · rcases List.mem_cons.mp hr with h2 | h2
        · rw [h1, h2]
        · exact (nd.1 (List.mem_map.mpr ⟨r, h2, by rw [← e, h1]⟩)).elim
      · rcases List.mem_cons.mp hr with h2 | h2
        · exact (nd.1 (List.mem_map.mpr ⟨p, h1, by rw [e, h2]⟩)).elim
        · exact ih nd.2 p h1 r h2 e
  exact congrArg Prod.snd (key _ nd p hp (p.1, q) m rfl)
/-- a def that makes a lambda -/
theorem lamT_of {X : Cx} {p : He.Defn} {q : Str} (hm : (p, q) ∈ lamNames) (hc : PySem.W.codeHdIn X.K (He.cT X.K p).1 (He.cT X.K p).2 = true) (ht : tabsOk X.K = true) (tb : LamX.TabB X.base X.mg (He.cT X.K p).1 (He.cT X.K p).2) (hcode : X.env.code = .ref (He.cT X.K p).1) (hq : X.env.qual ++ "<lambda>" = q) :
    LamT X (tabsK X.K) (He.cT X.K p).1 (He.cT X.K p).2 := by
  have m : ((He.cT X.K p).2, q) ∈ tabsK X.K := List.mem_map.mpr ⟨(p, q), List.mem_filter.mpr ⟨hm, hc⟩, rfl⟩
  subst hq
  exact ⟨tb, hcode, m, tabs_uni ht m⟩

/-! ### the law's own promise -/
/-- the law: at every script of at most n ints of that many bits it answers True -/
def spLaw (n : Nat) : LSp := fun ds h Q _ => ∃ ns : List Int, ds = [.lst (ns.map D.int)] ∧ h = [] ∧ ns.length ≤ n ∧ (∀ z ∈ ns, Builtin.Int.intBits z ≤ 1048576) ∧ ∀ d h', d = .bl true → Q d h'
theorem mono_law {n : Nat} : MonoP (spLaw n) := fun ds h Q Q' E E' hQ hE ⟨ns, a, b, c, d, e⟩ => ⟨ns, a, b, c, d, fun d h' z => hQ _ _ (e d h' z)⟩
theorem rel_ints' {K : Frag} {ι : Ad} {H : Hp} : ∀ ns : List Int, RelDs K ι H (ns.map D.int) (ns.map V.int)
  | [] => rfl
  | n :: ns => ⟨.int n, _, rfl, rfl, rel_ints' ns⟩
theorem law_sp {K : Frag} {n : Nat} {H : Hp} {a : Addr} {ns : List Int} (hl : ns.length ≤ n) (hb : ∀ z ∈ ns, Builtin.Int.intBits z ≤ 1048576) (hT : LamX.Tabs (tabsK K) H) (hS : LstX K H a (ns.map V.int)) :
    spV K 1 (spLaw n) [.ref a] H (fun v _ => v = .bl true) fun _ _ _ => False := by
  refine ⟨⟨[], [], []⟩, [.lst (ns.map D.int)], [], ⟨rfl, fun n m a e => by simp at e, fun a m => by simp at m, fun a m => by simp at m, fun a m => by simp at m, hT, fun n o q => by simp at q⟩, ⟨.ref a, [], rfl, ⟨a, ns.map V.int, rfl, ?_, rel_ints' ns⟩, rfl⟩, rfl, ns, rfl, rfl, hl, hb, fun d h' e ι' v H' _ _ r => ?_⟩
  · rcases hS with h | h | h
    · exact .inl ⟨h, by simp [Ad.no]⟩
    · exact .inr (.inl h)
    · exact .inr (.inr h)
  · subst e
    exact r
open He in
/-- THE END: the law's def keeps its promise over every base -/
theorem walk_L {l : PySem.W.OpenLaw} {n k : Nat} {q : Program} {loose : List Str} {XP : (Str → Option Value) → Heap → Prop} {fa : List Fa} {fn : List DefD} {ts : List Tab} {ex : Frag → Bool} {d : DefRec} {m : Nat} {tf : List Defn}
    (hn : l.most = some n) (hn2 : n ≤ sizeLine) (hdf : d.params.defaults = []) (hr : Room k callerA) (hd : d.name = "law") (hglo : Fa.glo "law" ∈ fa) (htf : ∀ p ∈ lamNames, p.1 ∈ tf)
    (F : ∀ (w : World) (K : Frag) (mg : Str → Option Value) (h base : Heap), K.In h → h.Ns mainGlobals mg → SaysX fa fn ts tf ex w h K → (∀ p ∈ tf, LamX.TabB base mg (cT K p).1 (cT K p).2) → Keeps l.prog w K mg base k (ga K "law") 1 (spLaw n)) :
    PySem.W.WalkO q loose XP (fun w h => (hookL m fa fn ts tf ex).says w h) l.row.toRowW d [] (fun f vs => PySem.call f vs) := by
  refine Att.attach_callB hn hdf fun w s₀ s₁ mg mb fa' o pm cd doc a vs ns G Y ho hdt hcd hmg hobj hints hlen hbits hg => ?_
  obtain ⟨K, KX, c⟩ := Y
  have e := (hd ▸ hmg).symm.trans (He.glo_ok KX G.T.g (He.SaysD.facts c.t.d hglo))
  cases e
  have T : TopH K mg mb (tf.map (cT K)) a vs s₁ := ⟨KX, G.T.g, G.T.b, G.T.builtins, G.T.nolimit, hg, fun p hp => by
      obtain ⟨r, hr, rfl⟩ := List.mem_map.mp hp
      exact c.empty r hr, fun p hp => by
      obtain ⟨r, hr, rfl⟩ := List.mem_map.mp hp
      exact c.out r hr, fun p hp => by
      obtain ⟨r, hr, rfl⟩ := List.mem_map.mp hp
      exact PySem.W.codeHd_of_K KX (c.hd r hr), G.T.bmain, hobj⟩
  refine T.call hints (Nat.le_trans hlen hn2) ⟨hr, rfl⟩ (fun base KB hns tb => F w K mg _ base KX G.T.g c fun p hp => tb _ (List.mem_map.mpr ⟨p, hp, rfl⟩)) fun H hH hS => law_sp hlen hbits (fun p hp => ?_) hS
  obtain ⟨r, hr, rfl⟩ := List.mem_map.mp hp
  obtain ⟨hr1, _⟩ := List.mem_filter.mp hr
  exact LamX.TabS.nil (hH _ (List.mem_map.mpr ⟨r.1, htf r hr1, rfl⟩))
end LL
end

section
set_option Elab.async false
set_option linter.all false
set_option maxRecDepth 100000
set_option maxHeartbeats 1000000
/-! LLAsg: a, b = x, y (and three) with plain local names; -x; the names of built-in types. -/
namespace LL
open PySem PySem.Spec PyProof.Rows L2
variable {X : Cx} {W : WX}

def sPar (i j : Nat) (A : LX (List D)) : LS := fun σ h K => A σ h (fun ds h1 => match ds with | [d, e] => K.nx ((σ.set i (some d)).set j (some e)) h1 | _ => False) (exOf K σ)
def sPar3 (i j l : Nat) (A : LX (List D)) : LS := fun σ h K => A σ h (fun ds h1 => match ds with | [d, e, f] => K.nx (((σ.set i (some d)).set j (some e)).set l (some f)) h1 | _ => False) (exOf K σ)
theorem RelDs.three {K : Frag} {ι : Ad} {H : Hp} {d d2 d3 : D} {vs : List V} (r : RelDs K ι H [d, d2, d3] vs) : ∃ v v2 v3, vs = [v, v2, v3] ∧ RelD K ι H d v ∧ RelD K ι H d2 v2 ∧ RelD K ι H d3 v3 := by
  obtain ⟨v, r', e, h1, h⟩ := r
  obtain ⟨v2, v3, e2, h2, h3⟩ := RelDs.two h
  subst e2
  exact ⟨v, v2, v3, e, h1, h2, h3⟩
theorem js_par {i j : Nat} {es : List Expr} {A : LX (List D)} {st : Stmt} (ha : JA X W es A) (h : ∀ {ta : TA}, PA X es ta → PS X st (tPar i j ta)) : JS X W st (sPar i j A) := by
  refine ⟨fun σ h A' B l q => ha.mono σ h _ _ _ _ (fun ds h1 q1 => ?_) (exOf.le l σ) q, PS.weak (h ha.run) fun Dn σV H ⟨ι0, H0, ι, σ, h, e, hS, hH, q⟩ => ?_⟩
  · split at q1
    · exact l.nx _ _ q1
    · exact q1.elim
  · refine tX.into ha.mono hS hH q (fun ds h1 ι1 vs H1 q1 e1 hH1 r => ?_) (fun c fs h1 ι1 dx H1 q1 e1 hH1 r => q1 ι1 dx σV H1 (e.trans e1) (hS.ext e1) hH1 r)
    split at q1
    · obtain ⟨v, v2, rfl, r1, r2⟩ := r.two
      exact ⟨v, v2, rfl, q1 ι1 _ H1 (e.trans e1) (((hS.ext e1).set i r1).set j r2) hH1⟩
    · exact q1.elim
theorem js_par3 {i j l : Nat} {es : List Expr} {A : LX (List D)} {st : Stmt} (ha : JA X W es A) (h : ∀ {ta : TA}, PA X es ta → PS X st (tPar3 i j l ta)) : JS X W st (sPar3 i j l A) := by
  refine ⟨fun σ h A' B le q => ha.mono σ h _ _ _ _ (fun ds h1 q1 => ?_) (exOf.le le σ) q, PS.weak (h ha.run) fun Dn σV H ⟨ι0, H0, ι, σ, h, e, hS, hH, q⟩ => ?_⟩
  · split at q1
    · exact le.nx _ _ q1
    · exact q1.elim
  · refine tX.into ha.mono hS hH q (fun ds h1 ι1 vs H1 q1 e1 hH1 r => ?_) (fun c fs h1 ι1 dx H1 q1 e1 hH1 r => q1 ι1 dx σV H1 (e.trans e1) (hS.ext e1) hH1 r)
    split at q1
    · obtain ⟨v, v2, v3, rfl, r1, r2, r3⟩ := r.three
      exact ⟨v, v2, v3, rfl, q1 ι1 _ H1 (e.trans e1) ((((hS.ext e1).set i r1).set j r2).set l r3) hH1⟩
    · exact q1.elim
def eNeg (m : LE) : LE := fun σ h Q E => m σ h (fun d h1 => match d with | .int i => Q (.int (-i)) h1 | _ => False) E
theorem je_neg {e : Expr} {m : LE} {pos : Pos} (he : JE X W e m) : JE X W (.UnaryOp .USub e pos) (eNeg m) := by
  refine ⟨fun σ h Q Q' E E' hQ hE q => he.mono σ h _ _ _ _ (fun d h1 q1 => ?_) hE q, PE.weak (pe_un un_neg he.run) fun σV H Q ⟨ι, σ, h, hS, hH, q⟩ => ?_⟩
  · split at q1
    · exact hQ _ _ q1
    · exact q1.elim
  · refine tX.into he.mono hS hH q (fun d h1 ι1 v H1 q1 e1 hH1 r => ?_) (fun c fs h1 ι1 dx H1 q1 => q1 ι1 dx H1)
    split at q1
    · rename_i i
      exact ⟨i, r, q1 ι1 _ H1 e1 hH1 rfl⟩
    · exact q1.elim
/-- the name of a built-in type -/
theorem pe_tyn {x : Str} {n : String} {pos : Pos} (hm : X.mg x = none) (hv : bootBuiltins x = some (.type n)) (hg : Gl X x := by rfl) (hn : x ≠ "__name__" := by decide) (hd : (x == ("__debug__" : Str)) = false := by decide) : PE X (.Name x pos) (tC (.ty n)) := pe_bltn hg hm hv (v := .ty n) rfl hn hd
/-- the name of an own class -/
theorem pe_cln {C : Str} {pos : Pos} (hm : X.mg C = some (.ref (He.ga X.K C))) (hg : Gl X C := by rfl) (hd : (C == ("__debug__" : Str)) = false := by decide) : PE X (.Name C pos) (tC (.ref (He.ga X.K C))) := pe_glob hg hm (v := .ref (He.ga X.K C)) rfl hd
end LL
end

section
set_option Elab.async false
set_option linter.all false
set_option maxRecDepth 100000
/-! LLSim: rules by which simp runs a logical body (a part is opened when it is run, not before). -/
namespace LL
open PySem PySem.Spec PyProof.Rows
/-- a value that is a bool -/
def tstD (d : D) (R : Bool → Prop) : Prop := ∃ b, d = .bl b ∧ R b
@[simp] theorem tstD_bl {b : Bool} {R : Bool → Prop} : tstD (.bl b) R = R b := propext ⟨fun ⟨c, e, r⟩ => by cases e; exact r, fun r => ⟨b, rfl, r⟩⟩
/-- what follows, closed until it is run -/
def seqK (r : LS) (K : LK) : LV → LH → Prop := fun σ h => r σ h K
/-- what a walk asks behind its iterable -/
def compAt (J : LIt) (p : Pt) (t : LX Bool) (e : LE) (vs : List Nat) (σ : LV) (h1 : LH) (Q : List D → LH → Prop) : Prop := ∃ I : Nat → List D → LH → Prop, I 0 [] h1 ∧ (∀ i acc h, i ≤ J.items.length → I i acc h → J.ok h) ∧
  (∀ i x acc h, J.items[i]? = some x → I i acc h → p.st x (lwipe σ vs) fun σ2 => t σ2 h (fun b h2 => if b = true then e σ2 h2 (fun y h3 => acc.length < sizeLine ∧ I (i + 1) (acc ++ [y]) h3) (fun _ _ _ => False) else I (i + 1) acc h2) (fun _ _ _ => False)) ∧
  ∀ acc h, I J.items.length acc h → Q acc h
def forAt (J : LIt) (g : LG) (b : LS) (σ : LV) (h1 : LH) (K : LK) : Prop := ∃ I : Nat → LV → LH → Prop, I 0 σ h1 ∧ (∀ i σ h, i ≤ J.items.length → I i σ h → J.ok h) ∧
    (∀ i x σ h, J.items[i]? = some x → I i σ h → g x σ h (fun σ2 h2 => b σ2 h2 { nx := I (i + 1), ct := I (i + 1), bk := K.nx, rt := K.rt, ex := K.ex }) (exOf K σ)) ∧
    ∀ σ h, I J.items.length σ h → K.nx σ h
section
variable {m a b c o e : LE} {A : LX (List D)} {t u : LX Bool} {s r : LS} {g : LG} {gs : LGs} {mi : LI} {op op' : LOp} {σ : LV} {h : LH} {Q : D → LH → Prop} {Qs : List D → LH → Prop} {Qb : Bool → LH → Prop} {R : LV → LH → Prop} {QI : LIt → LH → Prop} {E : XL} {K : LK} {d : D} {ds : List D} {i j l n : Nat} {C f : Str} {Cs : List Str}
@[simp] theorem exOf_run : exOf K σ = fun cl fs h => K.ex cl fs σ h := (rfl)
@[simp] theorem le_sizeLine (e : n ≤ 16777216) : n ≤ sizeLine := e
@[simp] theorem lt_sizeLine (e : n < 16777216) : n < sizeLine := e
@[simp] theorem sSeq_run : sSeq s r σ h K = s σ h { K with nx := seqK r K } := (rfl)
@[simp] theorem seqK_run : seqK r K σ h = r σ h K := (rfl)
@[simp] theorem sNil_run : sNil σ h K = K.nx σ h := (rfl)
@[simp] theorem sNever_run : sNever σ h K = False := (rfl)
@[simp] theorem sBrk_run : sBrk σ h K = K.bk σ h := (rfl)
@[simp] theorem sCnt_run : sCnt σ h K = K.ct σ h := (rfl)
@[simp] theorem sExpr_run : sExpr m σ h K = m σ h (fun _ h1 => K.nx σ h1) (exOf K σ) := (rfl)
@[simp] theorem sRet_run : sRet m σ h K = m σ h K.rt (exOf K σ) := (rfl)
@[simp] theorem sRetN_run : sRetN σ h K = K.rt .non h := (rfl)
@[simp] theorem sIf_run : sIf t s r σ h K = t σ h (fun c h1 => if c = true then s σ h1 K else r σ h1 K) (exOf K σ) := (rfl)
@[simp] theorem sAsg_run : sAsg m g σ h K = m σ h (fun d h1 => g d σ h1 K.nx (exOf K σ)) (exOf K σ) := (rfl)
@[simp] theorem gNm_run : gNm i d σ h R E = R (σ.set i (some d)) h := (rfl)
@[simp] theorem gSb_run : gSb a b d σ h R E = a σ h (fun x h1 => b σ h1 (fun y h2 => setL x y d h2 (R σ)) E) E := (rfl)
@[simp] theorem gFd_run : gFd Cs f o d σ h R E = o σ h (fun x h1 => setF Cs f x d h1 (R σ)) E := (rfl)
@[simp] theorem gTp_run : gTp n gs (.tup ds) σ h R E = (ds.length = n ∧ gs ds σ h R (fun _ _ _ => False)) := (rfl)
@[simp] theorem gNl_run : gNl ds σ h R E = (ds = [] ∧ R σ h) := (rfl)
@[simp] theorem gCs_run : gCs g gs (d :: ds) σ h R E = g d σ h (fun σ' h' => gs ds σ' h' R E) E := (rfl)
@[simp] theorem eC_run : eC d σ h Q E = Q d h := (rfl)
@[simp] theorem eOp_run : eOp op a b σ h Q E = a σ h (fun x h1 => b σ h1 (fun y h2 => op x y h2 Q) E) E := (rfl)
@[simp] theorem eTest_run : eTest m σ h Qb E = m σ h (fun d h1 => tstD d fun b => Qb b h1) E := (rfl)
@[simp] theorem eTru_run : eTru m σ h Qb E = m σ h (fun d h1 => truD d h1 fun b => Qb b h1) E := (rfl)
@[simp] theorem eAnd_run : eAnd t u σ h Qb E = t σ h (fun c h1 => if c = true then u σ h1 Qb E else Qb false h1) E := (rfl)
@[simp] theorem eOr_run : eOr t u σ h Qb E = t σ h (fun c h1 => if c = true then Qb true h1 else u σ h1 Qb E) E := (rfl)
@[simp] theorem eNot_run : eNot t σ h Qb E = t σ h (fun c h1 => Qb (!c) h1) E := (rfl)
@[simp] theorem eYes_run : eYes σ h Qb E = Qb true h := (rfl)
@[simp] theorem eAndV_run : eAndV a b σ h Q E = a σ h (fun d h1 => tstD d fun c => if c = true then b σ h1 Q E else Q (.bl false) h1) E := (rfl)
@[simp] theorem eOrV_run : eOrV a b σ h Q E = a σ h (fun d h1 => tstD d fun c => if c = true then Q (.bl true) h1 else b σ h1 Q E) E := (rfl)
@[simp] theorem eNotV_run : eNotV a σ h Q E = a σ h (fun d h1 => tstD d fun c => Q (.bl (!c)) h1) E := (rfl)
@[simp] theorem eIf_run : eIf t a b σ h Q E = t σ h (fun c h1 => if c = true then a σ h1 Q E else b σ h1 Q E) E := (rfl)
@[simp] theorem eNil_run : eNil σ h Qs E = Qs [] h := (rfl)
@[simp] theorem eCons_run : eCons a A σ h Qs E = a σ h (fun x h1 => A σ h1 (fun xs h2 => Qs (x :: xs) h2) E) E := (rfl)
@[simp] theorem eTup_run : eTup A σ h Q E = A σ h (fun xs h1 => xs.length ≤ sizeLine ∧ Q (.tup xs) h1) E := (rfl)
@[simp] theorem eLst_run : eLst A σ h Q E = A σ h (fun xs h1 => xs.length ≤ sizeLine ∧ Q (.lst xs) h1) E := (rfl)
@[simp] theorem eLstM_run : eLstM A σ h Q E = A σ h (fun xs h1 => xs.length ≤ sizeLine ∧ Q (.ref h1.length) (h1 ++ [.lst xs])) E := (rfl)
@[simp] theorem eChain_run : eChain op op' a b c σ h Q E = a σ h (fun x h1 => b σ h1 (fun y h2 => op x y h2 (fun z h3 => tstD z fun k => if k = true then c σ h3 (fun w h4 => op' y w h4 Q) E else Q (.bl false) h3)) E) E := (rfl)
@[simp] theorem eFld_run : eFld Cs f m σ h Q E = m σ h (fun d h1 => getF Cs f d h1 Q) E := (rfl)
@[simp] theorem sFldA_run : sFldA Cs f m o σ h K = m σ h (fun y h1 => o σ h1 (fun d h2 => setF Cs f d y h2 (K.nx σ)) (exOf K σ)) (exOf K σ) := (rfl)
@[simp] theorem eNoPart_run {Q : Option Int → LH → Prop} : eNoPart σ h Q E = Q none h := (rfl)
def somePart (d : D) (h : LH) (Q : Option Int → LH → Prop) : Prop := match d with | .int i => Q (some i) h | _ => False
@[simp] theorem somePart_int {i : Int} {Q : Option Int → LH → Prop} : somePart (.int i) h Q = Q (some i) h := (rfl)
@[simp] theorem eSomePart_run {Q : Option Int → LH → Prop} : eSomePart m σ h Q E = m σ h (fun d h1 => somePart d h1 Q) E := (rfl)
def slcD (x : D) (l u : Option Int) (h : LH) (Q : D → LH → Prop) : Prop := match x with
  | .tup ds => ¬ (HT.sIx ds.length 0 l = 0 ∧ HT.sIx ds.length ds.length u = ds.length) ∧ Q (.tup (cutD ds l u)) h
  | d => seqL d h fun ds => Q (.lst (cutD ds l u)) h
@[simp] theorem eSl_run {lo hi : LO} : eSl m lo hi σ h Q E = m σ h (fun x h1 => lo σ h1 (fun l h2 => hi σ h2 (fun u h3 => slcD x l u h3 Q) E) E) E := (rfl)
@[simp] theorem slcD_lst {l u : Option Int} : slcD (.lst ds) l u h Q = Q (.lst (cutD ds l u)) h := (rfl)
@[simp] theorem slcD_ref {l u : Option Int} (q : h[n]? = some (.lst ds)) : slcD (.ref n) l u h Q = Q (.lst (cutD ds l u)) h := by show seqL (.ref n) h _ = _; unfold seqL; simp only [q]
@[simp] theorem slcD_tup {l u : Option Int} : slcD (.tup ds) l u h Q = (¬ (HT.sIx ds.length 0 l = 0 ∧ HT.sIx ds.length ds.length u = ds.length) ∧ Q (.tup (cutD ds l u)) h) := (rfl)
/-- behind an amount -/
def intD (z : D) (R : Int → Prop) : Prop := match z with | .int q => R q | _ => False
@[simp] theorem intD_int {q : Int} {R : Int → Prop} : intD (.int q) R = R q := (rfl)
@[simp] theorem sAugS_run {f : Int → Int → Int} : sAugS a b e f σ h K = a σ h (fun x h1 => b σ h1 (fun y h2 => ∃ p, getI x y h2 p ∧ e σ h2 (fun z h3 => intD z fun q => setL x y (.int (f p q)) h3 (K.nx σ)) (exOf K σ)) (exOf K σ)) (exOf K σ) := (rfl)
@[simp] theorem sAug_run {f : Int → Int → Int} : sAug i e f σ h K = ∃ p, σ[i]? = some (some (.int p)) ∧ e σ h (fun z h1 => intD z fun q => K.nx (σ.set i (some (.int (f p q)))) h1) (exOf K σ) := (rfl)
@[simp] theorem getI_run {x : D} {k p : Int} : getI x (.int k) h p = seqL x h fun ds => L2.atI ds k = some (.int p) := (rfl)
@[simp] theorem eB_run {op : LB} : eB op A σ h Q E = A σ h (fun ds h1 => op ds h1 Q) E := (rfl)
@[simp] theorem eCall_run {G : LSp} : eCall G n A σ h Q E = A σ h (fun ds h1 => ds.length = n ∧ G ds h1 Q E) E := (rfl)
@[simp] theorem eMeth_run {G : LSp} : eMeth C f G n o A σ h Q E = o σ h (fun x h1 => isIns C f x h1 ∧ A σ h1 (fun ds h2 => ds.length + 1 = n ∧ G (x :: ds) h2 Q E) E) E := (rfl)
@[simp] theorem eMake_run {G : LSp} : eMake C G n A σ h Q E = A σ h (fun ds h1 => ds.length + 1 = n ∧ G (.ref h1.length :: ds) (h1 ++ [.ins C []]) (fun d h2 => d = .non ∧ Q (.ref h1.length) h2) E) E := (rfl)
@[simp] theorem eNeg_run : eNeg m σ h Q E = m σ h (fun d h1 => intD d fun i => Q (.int (-i)) h1) E := (rfl)
@[simp] theorem eIsi_run {l : List (Ty × Bool)} : eIsi l m σ h Q E = m σ h (fun d h1 => ∃ t b, tyD d h1 = some t ∧ l.lookup t = some b ∧ Q (.bl b) h1) E := (rfl)
@[simp] theorem iSeq_run : iSeq m σ h QI E = m σ h (fun d h1 => walkD d h1 fun J => QI J h1) E := (rfl)
def rng1 (ds : List D) (h : LH) (Q : LIt → LH → Prop) : Prop := match ds with
  | [.int j] => -(2 ^ 62) ≤ j ∧ j < 2 ^ 62 ∧ Q ⟨rngD 0 j.toNat, fun _ => True⟩ h
  | [.int i, .int j] => -(2 ^ 62) ≤ i ∧ i < 2 ^ 62 ∧ -(2 ^ 62) ≤ j ∧ j < 2 ^ 62 ∧ Q ⟨rngD i (j - i).toNat, fun _ => True⟩ h
  | _ => False
@[simp] theorem rng1_one {j : Int} : rng1 [.int j] h QI = (-(2 ^ 62) ≤ j ∧ j < 2 ^ 62 ∧ QI ⟨rngD 0 j.toNat, fun _ => True⟩ h) := (rfl)
@[simp] theorem rng1_two {i j : Int} : rng1 [.int i, .int j] h QI = (-(2 ^ 62) ≤ i ∧ i < 2 ^ 62 ∧ -(2 ^ 62) ≤ j ∧ j < 2 ^ 62 ∧ QI ⟨rngD i (j - i).toNat, fun _ => True⟩ h) := (rfl)
@[simp] theorem iRangeN_run {k : Nat} : iRangeN k A σ h QI E = A σ h (fun ds h1 => ds.length = k ∧ rng1 ds h1 QI) E := (rfl)
def enum1 (ds : List D) (h : LH) (Q : LIt → LH → Prop) : Prop := match ds with | [d] => walkL d h fun J => Q (enumOf J) h | _ => False
@[simp] theorem enum1_one : enum1 [d] h QI = walkL d h fun J => QI (enumOf J) h := (rfl)
@[simp] theorem iEnumL_run : iEnumL A σ h QI E = A σ h (fun ds h1 => enum1 ds h1 QI) E := (rfl)
def zip1 (ds : List D) (h : LH) (Q : LIt → LH → Prop) : Prop := match ds with | [d, e] => walkL d h fun J => walkL e h fun J' => Q (zipOf J J') h | _ => False
@[simp] theorem zip1_two {d' : D} : zip1 [d, d'] h QI = walkL d h fun J => walkL d' h fun J' => QI (zipOf J J') h := (rfl)
@[simp] theorem iZipL_run : iZipL A σ h QI E = A σ h (fun ds h1 => zip1 ds h1 QI) E := (rfl)
@[simp] theorem eLC_run {p : Pt} {vs : List Nat} : eLC mi p t e vs σ h Q E = mi σ h (fun J h1 => compAt J p t e vs σ h1 fun acc h2 => Q (.lst acc) h2) E := (rfl)
@[simp] theorem eLCM_run {p : Pt} {vs : List Nat} : eLCM mi p t e vs σ h Q E = mi σ h (fun J h1 => compAt J p t e vs σ h1 fun acc h2 => Q (.ref h2.length) (h2 ++ [.lst acc])) E := (rfl)
@[simp] theorem sFor_run : sFor mi g s σ h K = mi σ h (fun J h1 => forAt J g s σ h1 K) (exOf K σ) := (rfl)
@[simp] theorem st_nm {R : LV → Prop} : Pt.st (.nm i) d σ R = R (σ.set i (some d)) := (rfl)
@[simp] theorem st_tp {is : List Nat} {R : LV → Prop} : Pt.st (.tp is) (.tup ds) σ R = (ds.length = is.length ∧ R (LL.setDs is ds σ)) := (rfl)
@[simp] theorem setDs_cons {is : List Nat} : LL.setDs (i :: is) (d :: ds) σ = LL.setDs is ds (σ.set i (some d)) := (rfl)
@[simp] theorem setDs_nil : LL.setDs [] ds σ = σ := by unfold LL.setDs; rfl
@[simp] theorem lwipe_nil : lwipe σ [] = σ := (rfl)
@[simp] theorem lwipe_cons {vs : List Nat} : lwipe σ (i :: vs) = (lwipe σ vs).set i none := (rfl)
def two1 (ds : List D) (R : D → D → Prop) : Prop := match ds with | [d, e] => R d e | _ => False
@[simp] theorem two1_two {d' : D} {R : D → D → Prop} : two1 [d, d'] R = R d d' := (rfl)
@[simp] theorem sPar_run : sPar i j A σ h K = A σ h (fun ds h1 => two1 ds fun d e => K.nx ((σ.set i (some d)).set j (some e)) h1) (exOf K σ) := (rfl)
def three1 (ds : List D) (R : D → D → D → Prop) : Prop := match ds with | [d, e, f] => R d e f | _ => False
@[simp] theorem three1_three {d' d'' : D} {R : D → D → D → Prop} : three1 [d, d', d''] R = R d d' d'' := (rfl)
@[simp] theorem sPar3_run : sPar3 i j l A σ h K = A σ h (fun ds h1 => three1 ds fun d e f => K.nx (((σ.set i (some d)).set j (some e)).set l (some f)) h1) (exOf K σ) := (rfl)
def delAt (x y : D) (h : LH) (R : LH → Prop) : Prop := match x, y with
  | .ref n, .int k => match h[n]? with
    | some (.lst ds) => -(2 ^ 63) ≤ k ∧ k < 2 ^ 63 ∧ ∃ j, seqIndex? k ds.length = some j ∧ R (h.set n (.lst (ds.eraseIdx j)))
    | _ => False
  | _, _ => False
@[simp] theorem sDel_run : sDel a b σ h K = a σ h (fun x h1 => b σ h1 (fun y h2 => delAt x y h2 (K.nx σ)) (exOf K σ)) (exOf K σ) := (rfl)
@[simp] theorem delAt_ref {k : Int} {R : LH → Prop} (q : h[n]? = some (.lst ds)) : delAt (.ref n) (.int k) h R = (-(2 ^ 63) ≤ k ∧ k < 2 ^ 63 ∧ ∃ j, seqIndex? k ds.length = some j ∧ R (h.set n (.lst (ds.eraseIdx j)))) := by unfold delAt; simp only [q]
@[simp] theorem eFrz0_run : eFrz0 m σ h Q E = m σ h (frz0K h Q) E := (rfl)
@[simp] theorem eFrz_run : eFrz m σ h Q E = m σ h (frzK h.length Q) E := (rfl)
@[simp] theorem eSort2_run : eSort2 m σ h Q E = m σ h (fun d h1 => seqL d h1 fun ds => ds.all is2 = true ∧ Q (.lst (ds.mergeSort le2)) h1) E := (rfl)
@[simp] theorem eSortS_run : eSortS m σ h Q E = m σ h (fun d h1 => seqL d h1 fun ds => ds.all is2 = true ∧ (∀ d ∈ ds, L2.CMul (k2 d).1 2) ∧ Q (.lst (ds.mergeSort leS)) h1) E := (rfl)
@[simp] theorem eFmt_run : eFmt m σ h Q E = m σ h (fun d h1 => fmtD d fun x => Q (.str x) h1) E := (rfl)
@[simp] theorem fmtD_str {y : Str} {R : Str → Prop} : fmtD (.str y) R = (y.length ≤ sizeLine ∧ R y) := (rfl)
@[simp] theorem fmtD_int {k : Int} {R : Str → Prop} : fmtD (.int k) R = (k.natAbs.log2 < 1920 ∧ R (toString k)) := (rfl)
def strD (d : D) (R : Str → Prop) : Prop := match d with | .str y => R y | _ => False
@[simp] theorem strD_str {y : Str} {R : Str → Prop} : strD (.str y) R = R y := (rfl)
@[simp] theorem eFstr_run {ms : List LE} : eFstr ms σ h Q E = eJoin ms Str.empty σ h (fun x h1 => Q (.str x) h1) E := (rfl)
@[simp] theorem eJoin_nil {acc : Str} {R : Str → LH → Prop} : eJoin [] acc σ h R E = R acc h := (rfl)
@[simp] theorem eJoin_cons {ms : List LE} {acc : Str} {R : Str → LH → Prop} : eJoin (m :: ms) acc σ h R E = m σ h (fun d h1 => strD d fun y => (acc ++ y).length ≤ sizeLine ∧ eJoin ms (acc ++ y) σ h1 R E) E := (rfl)
@[simp] theorem bOwn_run {G : LSp} {P : D → (D → Prop) → Prop} : bOwn C G P [d] h Q = (isObj C d h ∧ G [d] h (fun d h2 => P d fun d' => Q d' h2) (fun _ _ _ => False)) := (rfl)
@[simp] theorem pLen_int {k : Int} {R : D → Prop} : pLen (.int k) R = ((0 ≤ k ∧ k < 2 ^ 63) ∧ R (.int k)) := (rfl)
@[simp] theorem pBool_int {k : Int} {R : D → Prop} : pBool (.int k) R = ((0 ≤ k ∧ k < 2 ^ 63) ∧ R (.bl (k != 0))) := (rfl)
@[simp] theorem pRepr_str {y : Str} {R : D → Prop} : pRepr (.str y) R = R (.str y) := (rfl)
end
/-- the ends of a body are kept closed (the kernel's check of what simp did stays small) -/
theorem byK {b : LS} {σ : LV} {h : LH} {Q : D → LH → Prop} {E : XL} (H : ∀ κ : LK, (∀ d h, Q d h → κ.rt d h) → (∀ σ h, Q .non h → κ.nx σ h) → (∀ c fs σ h, E c fs h → κ.ex c fs σ h) → b σ h κ) : b σ h (bodyK Q E) := H _ (fun _ _ q => q) (fun _ _ q => q) (fun _ _ _ _ q => q)
/-- a later round, closed for simp -/
def dec (I : Nat → LV → LH → Prop) (m : Nat) (σ : LV) (h : LH) : Prop := ∃ m', m' < m ∧ I m' σ h
def opq (I : Nat → LV → LH → Prop) (m : Nat) (σ : LV) (h : LH) : Prop := I m σ h
theorem whileBy {t : LX Bool} {b : LS} {σ : LV} {h : LH} {K : LK} (I : Nat → LV → LH → Prop) (m : Nat) (h0 : I m σ h)
    (hs : ∀ m σ h, I m σ h → t σ h (fun c h1 => if c = true then b σ h1 { nx := dec I m, ct := dec I m, bk := K.nx, rt := K.rt, ex := K.ex } else K.nx σ h1) (exOf K σ)) : sWhile t b σ h K := ⟨I, ⟨m, h0⟩, hs⟩
/-- .. with a test that only looks -/
theorem whileT {t : LX Bool} {b : LS} {σ : LV} {h : LH} {K : LK} (I : Nat → LV → LH → Prop) (m : Nat) (h0 : I m σ h)
    (hs : ∀ m σ h, I m σ h → ∃ c : Bool, (∀ Qb E, Qb c h → t σ h Qb E) ∧ (c = true → b σ h { nx := dec I m, ct := dec I m, bk := K.nx, rt := K.rt, ex := K.ex }) ∧ (c = false → K.nx σ h)) : sWhile t b σ h K := by
  refine whileBy I m h0 fun m σ h q => ?_
  obtain ⟨c, h1, h2, h3⟩ := hs m σ h q
  refine h1 _ _ ?_
  cases c with
  | true => rw [if_pos rfl]; exact h2 rfl
  | false => rw [if_neg Bool.false_ne_true]; exact h3 rfl
theorem forBy {J : LIt} {g : LG} {b : LS} {σ : LV} {h : LH} {K : LK} (I : Nat → LV → LH → Prop) (h0 : I 0 σ h) (hok : ∀ i σ h, i ≤ J.items.length → I i σ h → J.ok h)
    (hs : ∀ i x σ h, J.items[i]? = some x → I i σ h → g x σ h (fun σ2 h2 => b σ2 h2 { nx := opq I (i + 1), ct := opq I (i + 1), bk := K.nx, rt := K.rt, ex := K.ex }) (exOf K σ))
    (he : ∀ σ h, I J.items.length σ h → K.nx σ h) : forAt J g b σ h K := ⟨I, h0, hok, hs, he⟩
section
variable {h : LH} {Q : D → LH → Prop} {σ : LV} {E : XL} {i j : Int} {n : Nat}
@[simp] theorem eVar_at {i : Nat} {d : D} (e : σ[i]? = some (some d)) : eVar i σ h Q E = Q d h := by unfold eVar; rw [e]
@[simp] theorem oPlus_int : oPlus (.int i) (.int j) h Q = Q (.int (i + j)) h := by unfold oPlus; rfl
@[simp] theorem oPlus_lst {xs ys : List D} : oPlus (.lst xs) (.lst ys) h Q = (xs.length + ys.length ≤ sizeLine ∧ Q (.lst (xs ++ ys)) h) := by unfold oPlus; rfl
@[simp] theorem oPlus_str {x y : Str} : oPlus (.str x) (.str y) h Q = (x.length + y.length ≤ sizeLine ∧ Q (.str (x ++ y)) h) := by unfold oPlus; rfl
@[simp] theorem oPlus_tup {xs ys : List D} : oPlus (.tup xs) (.tup ys) h Q = (xs ≠ [] ∧ xs.length + ys.length ≤ sizeLine ∧ Q (.tup (xs ++ ys)) h) := by unfold oPlus; rfl
@[simp] theorem oPlus_rl {xs ys : List D} (e : h[n]? = some (.lst xs)) : oPlus (.ref n) (.lst ys) h Q = (xs.length + ys.length ≤ sizeLine ∧ Q (.lst (xs ++ ys)) h) := by unfold oPlus seqL; simp only [e]
@[simp] theorem oPlus_rr {m : Nat} {xs ys : List D} (e : h[n]? = some (.lst xs)) (e2 : h[m]? = some (.lst ys)) : oPlus (.ref n) (.ref m) h Q = (xs.length + ys.length ≤ sizeLine ∧ Q (.lst (xs ++ ys)) h) := by unfold oPlus seqL; simp only [e, e2]
@[simp] theorem oSub_int : oSub (.int i) (.int j) h Q = Q (.int (i - j)) h := (rfl)
@[simp] theorem oMul_int : oMul (.int i) (.int j) h Q = (L2.CMul i j ∧ Q (.int (i * j)) h) := (rfl)
@[simp] theorem oMod_int : oMod (.int i) (.int j) h Q = (0 < j ∧ Q (.int (i % j)) h) := (rfl)
@[simp] theorem oDiv_int : oDiv (.int i) (.int j) h Q = (L2.CDiv i j ∧ Q (.int (i / j)) h) := (rfl)
@[simp] theorem oPow_int : oPow (.int i) (.int j) h Q = (L2.CPow i j ∧ Q (.int (i ^ j.toNat)) h) := (rfl)
@[simp] theorem oLt_int : oLt (.int i) (.int j) h Q = Q (.bl (decide (i < j))) h := (rfl)
@[simp] theorem oLe_int : oLe (.int i) (.int j) h Q = Q (.bl (decide (i ≤ j))) h := (rfl)
@[simp] theorem oGt_int : oGt (.int i) (.int j) h Q = Q (.bl (decide (j < i))) h := (rfl)
@[simp] theorem oGe_int : oGe (.int i) (.int j) h Q = Q (.bl (decide (j ≤ i))) h := (rfl)
@[simp] theorem oIsN_non {x : D} : oIsN x .non h Q = Q (.bl x.isNon) h := (rfl)
@[simp] theorem oNotN_non {x : D} : oNotN x .non h Q = Q (.bl (!x.isNon)) h := (rfl)
@[simp] theorem isNon_non : D.isNon .non = true := (rfl)
@[simp] theorem isNon_int : D.isNon (.int i) = false := (rfl)
@[simp] theorem oIx_int {x : D} : oIx x (.int i) h Q = seqA x h (fun ds => ∃ d, L2.atI ds i = some d ∧ Q d h) := (rfl)
@[simp] theorem seqA_tup {ds : List D} {R : List D → Prop} : seqA (.tup ds) h R = R ds := (rfl)
@[simp] theorem seqA_lst {ds : List D} {R : List D → Prop} : seqA (.lst ds) h R = R ds := (rfl)
@[simp] theorem seqL_lst {ds : List D} {R : List D → Prop} : seqL (.lst ds) h R = R ds := (rfl)
@[simp] theorem seqA_ref {ds : List D} {R : List D → Prop} (e : h[n]? = some (.lst ds)) : seqA (.ref n) h R = R ds := by unfold seqA seqL; simp [e]
@[simp] theorem seqL_ref {ds : List D} {R : List D → Prop} (e : h[n]? = some (.lst ds)) : seqL (.ref n) h R = R ds := by unfold seqL; simp [e]
@[simp] theorem setL_ref {ds : List D} {v : D} {R : LH → Prop} (e : h[n]? = some (.lst ds)) : setL (.ref n) (.int i) v h R = ∃ j, L2.ixN ds.length i = some j ∧ R (h.set n (.lst (ds.set j v))) := by unfold setL; simp [e]
/-- what stands there is an instance -/
def getFo (Cs : List Str) (f : Str) (o : O) (h : LH) (Q : D → LH → Prop) : Prop := match o with | .ins C fs => C ∈ Cs ∧ ∃ v, fs.lookup f = some v ∧ Q v h | _ => False
@[simp] theorem getFo_ins {Cs : List Str} {f : Str} {C : Str} {fs : List (Str × D)} : getFo Cs f (.ins C fs) h Q = (C ∈ Cs ∧ ∃ v, fs.lookup f = some v ∧ Q v h) := (rfl)
@[simp] theorem getF_ref {Cs : List Str} {f : Str} {o : O} (e : h[n]? = some o) : getF Cs f (.ref n) h Q = getFo Cs f o h Q := by unfold getF; simp only [e]; cases o <;> rfl
@[simp] theorem getF_ob {Cs : List Str} {f : Str} {C : Str} {ns : List Str} {ds : List D} : getF Cs f (.ob C ns ds) h Q = (C ∈ Cs ∧ ∃ v, (ns.zip ds).lookup f = some v ∧ Q v h) := (rfl)
def setFo (Cs : List Str) (f : Str) (n : Nat) (o : O) (v : D) (h : LH) (R : LH → Prop) : Prop := match o with | .ins C fs => C ∈ Cs ∧ fs.length < 1000 ∧ R (h.set n (.ins C (putD f v fs))) | _ => False
@[simp] theorem setFo_ins {Cs : List Str} {f : Str} {C : Str} {fs : List (Str × D)} {v : D} {R : LH → Prop} : setFo Cs f n (.ins C fs) v h R = (C ∈ Cs ∧ fs.length < 1000 ∧ R (h.set n (.ins C (putD f v fs)))) := (rfl)
@[simp] theorem setF_ref {Cs : List Str} {f : Str} {o : O} {v : D} {R : LH → Prop} (e : h[n]? = some o) : setF Cs f (.ref n) v h R = setFo Cs f n o v h R := by unfold setF; simp only [e]; cases o <;> rfl
def isInsO (C m : Str) (o : O) : Prop := match o with | .ins C' fs => C' = C ∧ fs.lookup m = none | _ => False
@[simp] theorem isInsO_ins {C C' m : Str} {fs : List (Str × D)} : isInsO C m (.ins C' fs) = (C' = C ∧ fs.lookup m = none) := (rfl)
@[simp] theorem isIns_ref {C m : Str} {o : O} (e : h[n]? = some o) : isIns C m (.ref n) h = isInsO C m o := by unfold isIns; simp only [e]; cases o <;> rfl
@[simp] theorem isIns_ob {C C' m : Str} {ns : List Str} {ds : List D} : isIns C m (.ob C' ns ds) h = (C' = C ∧ (ns.zip ds).lookup m = none) := (rfl)
def isObjO (C : Str) (o : O) : Prop := match o with | .ins C' _ => C' = C | _ => False
@[simp] theorem isObjO_ins {C C' : Str} {fs : List (Str × D)} : isObjO C (.ins C' fs) = (C' = C) := (rfl)
@[simp] theorem isObj_ref {C : Str} {o : O} (e : h[n]? = some o) : isObj C (.ref n) h = isObjO C o := by unfold isObj; simp only [e]; cases o <;> rfl
@[simp] theorem isObj_ob {C C' : Str} {ns : List Str} {ds : List D} : isObj C (.ob C' ns ds) h = (C' = C) := (rfl)
@[simp] theorem walkD_lst {ds : List D} {R : LIt → Prop} : walkD (.lst ds) h R = R ⟨ds, fun _ => True⟩ := (rfl)
@[simp] theorem walkD_tup {ds : List D} {R : LIt → Prop} : walkD (.tup ds) h R = R ⟨ds, fun _ => True⟩ := (rfl)
@[simp] theorem walkD_ref {ds : List D} {R : LIt → Prop} (e : h[n]? = some (.lst ds)) : walkD (.ref n) h R = R ⟨ds, fun h' => h'[n]? = some (.lst ds)⟩ := by unfold walkD; simp [e]
@[simp] theorem bLen_str {s : Str} : bLen [.str s] h Q = (s.length ≤ sizeLine ∧ Q (.int s.length) h) := (rfl)
@[simp] theorem bLen_lst {ds : List D} : bLen [.lst ds] h Q = Q (.int ds.length) h := (rfl)
@[simp] theorem bLen_tup {ds : List D} : bLen [.tup ds] h Q = Q (.int ds.length) h := (rfl)
@[simp] theorem bLen_ref {ds : List D} (e : h[n]? = some (.lst ds)) : bLen [.ref n] h Q = Q (.int ds.length) h := by unfold bLen; simp [e]
@[simp] theorem bAbs_int : bAbs [.int i] h Q = Q (.int (if i < 0 then -i else i)) h := (rfl)
@[simp] theorem bInt_int : bInt [.int i] h Q = Q (.int i) h := (rfl)
@[simp] theorem bInt_bl {b : Bool} : bInt [.bl b] h Q = Q (.int (if b then 1 else 0)) h := (rfl)
@[simp] theorem bMax2_int : bMax2 [.int i, .int j] h Q = Q (.int (if j > i then j else i)) h := (rfl)
@[simp] theorem bMin2_int : bMin2 [.int i, .int j] h Q = Q (.int (if j < i then j else i)) h := (rfl)
@[simp] theorem bDivmod_int : bDivmod [.int i, .int j] h Q = (L2.CDiv i j ∧ Q (.tup [.int (i / j), .int (i % j)]) h) := (rfl)
@[simp] theorem bTuple_tup {ds : List D} : bTuple [.tup ds] h Q = Q (.tup ds) h := (rfl)
@[simp] theorem bTuple_lst {ds : List D} : bTuple [.lst ds] h Q = Q (.tup ds) h := (rfl)
@[simp] theorem bTuple_ref {ds : List D} (e : h[n]? = some (.lst ds)) : bTuple [.ref n] h Q = Q (.tup ds) h := by unfold bTuple; simp [e]
@[simp] theorem bSum_lst {ds : List D} : bSum [.lst ds] h Q = ∃ ns : List Int, ds = ns.map D.int ∧ Q (.int ns.sum) h := (rfl)
@[simp] theorem mAppend_ref {xs : List D} {y : D} (e : h[n]? = some (.lst xs)) : mAppend (.ref n) [y] h Q = (xs.length < sizeLine ∧ Q .non (h.set n (.lst (xs ++ [y])))) := by unfold mAppend; simp [e]
@[simp] theorem eMt_run {op : LM} {o : LE} {A : LX (List D)} : eMt op o A σ h Q E = o σ h (fun x h1 => (seqL x h1 fun _ => True) ∧ A σ h1 (fun ds h2 => op x ds h2 Q) E) E := (rfl)
@[simp] theorem atI_nat {α : Type} {xs : List α} (h0 : 0 ≤ i) (h1 : i < xs.length) : L2.atI xs i = xs[i.toNat]? := by
  unfold L2.atI L2.ixN
  rw [if_pos h0, if_pos h1]; rfl
@[simp] theorem atI_last {α : Type} {xs : List α} (h1 : 0 < xs.length) : L2.atI xs (-1) = xs[xs.length - 1]? := by
  unfold L2.atI L2.ixN
  rw [if_neg (by decide), if_pos (by omega)]
  show xs[(-1 + (xs.length : Int)).toNat]? = _
  congr 1
  omega
@[simp] theorem ixN_nat {n : Nat} (h0 : 0 ≤ i) (h1 : i < n) : L2.ixN n i = some i.toNat := by
  unfold L2.ixN
  rw [if_pos h0, if_pos h1]
@[simp] theorem set_get {o o' : O} (e : h[n]? = some o) : (h.set n o')[n]? = some o' := by
  rw [List.getElem?_set_self (by exact (List.getElem?_eq_some_iff.mp e).1)]
@[simp] theorem set_get_ne {m : Nat} {o' : O} (e : n ≠ m) : (h.set n o')[m]? = h[m]? := List.getElem?_set_ne e
@[simp] theorem cPow_nat (h0 : 0 ≤ j) (h1 : j ≤ 1000000) (h2 : i.natAbs < 18446744073709551616) : L2.CPow i j := ⟨h0, h1, h2⟩
@[simp] theorem cDiv_nat (h0 : 0 < j) (h1 : j < 1073741824) : L2.CDiv i j := ⟨h0, h1⟩
@[simp] theorem cMul_l (h0 : -(2 ^ 64) < i) (h1 : i < 2 ^ 64) : L2.CMul i j := .inl ⟨h0, h1⟩
@[simp] theorem cMul_r (h0 : -(2 ^ 64) < j) (h1 : j < 2 ^ 64) : L2.CMul i j := .inr ⟨h0, h1⟩
theorem mod_lt' {k : Int} (h : 0 < k) : i % k < k := Int.emod_lt_of_pos i h
theorem mod_nn {k : Int} (h : 0 < k) : 0 ≤ i % k := Int.emod_nonneg i (by omega)
end

section
variable {h l : LH} {n k : Nat} {o : O}
@[simp] theorem app_old (e : h[n]? = some o) : (h ++ l)[n]? = some o := by rw [List.getElem?_append_left (List.getElem?_eq_some_iff.mp e).1]; exact e
@[simp] theorem app_new : (h ++ l)[h.length + k]? = l[k]? := by rw [List.getElem?_append_right (by omega)]; congr 1; omega
@[simp] theorem app_new0 : (h ++ l)[h.length]? = l[0]? := by rw [List.getElem?_append_right (by omega)]; congr 1; omega
@[simp] theorem app_set : (h ++ l).set (h.length + k) o = h ++ l.set k o := by rw [List.set_append_right _ _ (by omega)]; congr 2; omega
@[simp] theorem app_set0 : (h ++ l).set h.length o = h ++ l.set 0 o := by rw [List.set_append_right _ _ (by omega)]; congr 2; omega
theorem app_setOld (e : n < h.length) : (h ++ l).set n o = h.set n o ++ l := List.set_append_left _ _ e
end
/-! names -/
theorem ofString_inj {a b : String} (h : Str.ofString a = Str.ofString b) : a = b := by
  rw [Str.ofString_eq_toList, Str.ofString_eq_toList] at h
  have h := congrArg (fun s : Str => s.cps.toList) h
  simp only [List.toList_toArray] at h
  have key : ∀ xs ys : List Char, xs.map Char.toNat = ys.map Char.toNat → xs = ys := by
    intro xs
    induction xs with
    | nil => intro ys e; cases ys with | nil => rfl | cons y ys => simp at e
    | cons x xs ih => intro ys e; cases ys with | nil => simp at e | cons y ys => simp only [List.map_cons, List.cons.injEq] at e; rw [ih ys e.2, Char.ext (UInt32.toNat_inj.mp e.1)]
  have : a.toList = b.toList := key _ _ h
  rw [← String.ofList_toList (s := a), this, String.ofList_toList]
@[simp] theorem ofString_eq {a b : String} : (Str.ofString a = Str.ofString b) = (a = b) := propext ⟨ofString_inj, fun h => by rw [h]⟩
@[simp] theorem lookup_if {β : Type} {a k : Str} {b : β} {es : List (Str × β)} : List.lookup a ((k, b) :: es) = if a = k then some b else List.lookup a es := by
  rw [List.lookup_cons]
  by_cases z : a = k
  · simp [z]
  · rw [if_neg z, show (a == k) = false from by simpa using z]
@[simp] theorem putD_if {f g : Str} {d e : D} {r : List (Str × D)} : putD f d ((g, e) :: r) = if g = f then (g, d) :: r else (g, e) :: putD f d r := (rfl)
@[simp] theorem putD_nil {f : Str} {d : D} : putD f d [] = [(f, d)] := (rfl)
section
variable {h : LH} {Q : D → LH → Prop} {σ : LV} {E : XL} {i j : Int} {n : Nat}
@[simp] theorem oEqD_int : oEqD (.int i) (.int j) h Q = Q (.bl (decide (i = j))) h := (rfl)
@[simp] theorem oNeD_int : oNeD (.int i) (.int j) h Q = Q (.bl (!decide (i = j))) h := (rfl)
@[simp] theorem oEqD_str {x y : Str} : oEqD (.str x) (.str y) h Q = Q (.bl (decide (x = y))) h := (rfl)
@[simp] theorem oNeD_str {x y : Str} : oNeD (.str x) (.str y) h Q = Q (.bl (!decide (x = y))) h := (rfl)
@[simp] theorem truD_bl {b : Bool} {R : Bool → Prop} : truD (.bl b) h R = R b := (rfl)
@[simp] theorem bListM_lst {ds : List D} : bListM [.lst ds] h Q = Q (.ref h.length) (h ++ [.lst ds]) := (rfl)
@[simp] theorem tyD_int : tyD (.int i) h = some (.bt "int") := (rfl)
@[simp] theorem tyD_str {x : Str} : tyD (.str x) h = some (.bt "str") := (rfl)
@[simp] theorem tyD_ob {C : Str} {ns : List Str} {ds : List D} : tyD (.ob C ns ds) h = some (.cl C) := (rfl)
@[simp] theorem bMin_run {d : D} : bMin [d] h Q = seqL d h fun xs => ∃ ns : List Int, xs = ns.map D.int ∧ 0 < ns.length ∧ ∀ m, m ∈ ns → (∀ y, y ∈ ns → m ≤ y) → Q (.int m) h := (rfl)
@[simp] theorem bMax_run {d : D} : bMax [d] h Q = seqL d h fun xs => ∃ ns : List Int, xs = ns.map D.int ∧ 0 < ns.length ∧ ∀ m, m ∈ ns → (∀ y, y ∈ ns → y ≤ m) → Q (.int m) h := (rfl)
@[simp] theorem bAll_run {d : D} : bAll [d] h Q = seqL d h fun xs => ∃ bs : List Bool, xs = bs.map D.bl ∧ Q (.bl (bs.all id)) h := (rfl)
@[simp] theorem bAny_run {d : D} : bAny [d] h Q = seqL d h fun xs => ∃ bs : List Bool, xs = bs.map D.bl ∧ Q (.bl (bs.any id)) h := (rfl)
@[simp] theorem oIn_run {neg : Bool} {x y : D} : oIn neg x y h Q = (flD x = true ∧ seqA y h fun ds => ds.all flD = true ∧ Q (.bl (if neg then !inD x ds else inD x ds)) h) := (rfl)
@[simp] theorem bReprD_run {d : D} : bReprD [d] h Q = ∃ p, dPyH h d = some p ∧ p.showable = true ∧ p.shown.length ≤ sizeLine ∧ p.depth ≤ 60 ∧ Q (.str p.shown) h := (rfl)
end
/-- a walk over two items -/
theorem forAt_two {g : LG} {b : LS} {σ : LV} {h : LH} {K : LK} {x y : D} {ok : LH → Prop} (hok : ∀ h, ok h)
    (q : g x σ h (fun σ2 h2 => b σ2 h2 { K with nx := fun σ3 h3 => g y σ3 h3 (fun σ4 h4 => b σ4 h4 { K with nx := K.nx, ct := K.nx, bk := K.nx }) (exOf K σ3), ct := fun σ3 h3 => g y σ3 h3 (fun σ4 h4 => b σ4 h4 { K with nx := K.nx, ct := K.nx, bk := K.nx }) (exOf K σ3), bk := K.nx }) (exOf K σ)) : forAt ⟨[x, y], ok⟩ g b σ h K := by
  refine ⟨fun i σ' h' => match i with | 0 => σ' = σ ∧ h' = h | 1 => g y σ' h' (fun σ4 h4 => b σ4 h4 { K with nx := K.nx, ct := K.nx, bk := K.nx }) (exOf K σ') | _ => K.nx σ' h', ⟨rfl, rfl⟩, fun _ _ _ _ _ => hok _, fun i z σ' h' e q' => ?_, fun σ' h' q' => q'⟩
  match i, e, q' with
  | 0, e, ⟨e1, e2⟩ => subst e1 e2; cases e; exact q
  | 1, e, q' => cases e; exact q'
/-- a comprehension that changes nothing -/
theorem comp_pure {J : LIt} {p : Pt} {t : LX Bool} {e : LE} {vs : List Nat} {σ : LV} {h : LH} {Q : List D → LH → Prop} (f : D → Option D) (hok : J.ok h) (hlen : J.items.length < sizeLine)
    (hst : ∀ x ∈ J.items, ∀ R : Option D → LH → Prop, R (f x) h → p.st x (lwipe σ vs) fun σ2 => t σ2 h (fun b h2 => if b = true then e σ2 h2 (fun y h3 => R (some y) h3) (fun _ _ _ => False) else R none h2) (fun _ _ _ => False))
    (q : Q (J.items.filterMap f) h) : compAt J p t e vs σ h Q := by
  refine ⟨fun i acc h' => acc = (J.items.take i).filterMap f ∧ h' = h, ⟨by simp, rfl⟩, fun i acc h' _ hI => by rw [hI.2]; exact hok, fun i x acc h' hx hI => ?_, fun acc h' hI => by rw [hI.1, hI.2, List.take_length]; exact q⟩
  obtain ⟨ea, eh⟩ := hI
  subst ea
  subst eh
  have hl := (List.getElem?_eq_some_iff.mp hx).1
  have tk : J.items.take (i + 1) = J.items.take i ++ [x] := by rw [List.take_succ, hx]; rfl
  have l1 : ((J.items.take i).filterMap f).length < sizeLine := by
    have a := List.length_filterMap_le f (J.items.take i)
    have b : (J.items.take i).length ≤ J.items.length := by rw [List.length_take]; omega
    omega
  refine hst x (List.mem_of_getElem? hx) (fun o h3 => match o with | some y => ((J.items.take i).filterMap f).length < sizeLine ∧ (J.items.take i).filterMap f ++ [y] = (J.items.take (i + 1)).filterMap f ∧ h3 = h' | none => (J.items.take i).filterMap f = (J.items.take (i + 1)).filterMap f ∧ h3 = h') ?_
  cases q : f x with
  | some y => exact ⟨l1, by rw [tk, List.filterMap_append, List.filterMap_cons, q]; rfl, rfl⟩
  | none => exact ⟨by rw [tk, List.filterMap_append, List.filterMap_cons, q]; simp, rfl⟩
end LL
end

section
set_option Elab.async false
set_option linter.all false
set_option maxRecDepth 100000
/-! LLX1: x in a list or a tuple of data of any depth. -/
namespace LL
open PySem PySem.Spec PyProof.Rows L2
section
variable {X : Cx} {W : WX} {k : Nat}
def rInDT (K : PySem.W.Frag) (neg : Bool) : R2 := fun x y H Q => ∃ d ds, Dp K H x d ∧ (Dp K H y (.list ds) ∨ Dp K H y (.tuple ds)) ∧ SeqAt.shaped d = true ∧ SeqAt.shaped (.list ds) = true ∧ Q (.bl (if neg then !(ds.any fun z => PyData.eqv z d) else ds.any fun z => PyData.eqv z d)) H
theorem op_inDT (hu : X.A.units + 65 < cLine) : OpR X (compareOp .In) (rInDT X.K false) := by
  intro pins s σ H x y v u Q I rx ry h
  obtain ⟨d, ds, hd, he, sd, se, q⟩ := h
  rcases he with he | he
  · exact op_inD hu pins s σ H x y v u Q I rx ry ⟨d, ds, hd, he, sd, se, q⟩
  · obtain ⟨as, r1⟩ := Dp.reads I d x v hd rx
    obtain ⟨bs, r2⟩ := Dp.reads I (.tuple ds) y u he ry
    exact SeqAt.in_tuple_data r2 r1 (PyData.plainAll_of_canLay0 _ (SeqAt.canLay_of_shaped se)) (PyData.plain_of_canLay0 _ (SeqAt.canLay_of_shaped sd)) (room_in_shaped sd hu) ⟨.bl _, H, I, rfl, q⟩
theorem op_notInDT (hu : X.A.units + 65 < cLine) : OpR X (compareOp .NotIn) (rInDT X.K true) := by
  intro pins s σ H x y v u Q I rx ry h
  obtain ⟨d, ds, hd, he, sd, se, q⟩ := h
  rcases he with he | he
  · exact op_notInD hu pins s σ H x y v u Q I rx ry ⟨d, ds, hd, he, sd, se, q⟩
  · obtain ⟨as, r1⟩ := Dp.reads I d x v hd rx
    obtain ⟨bs, r2⟩ := Dp.reads I (.tuple ds) y u he ry
    exact SeqAt.notIn_tuple_data r2 r1 (PyData.plainAll_of_canLay0 _ (SeqAt.canLay_of_shaped se)) (PyData.plain_of_canLay0 _ (SeqAt.canLay_of_shaped sd)) (room_in_shaped sd hu) ⟨.bl _, H, I, rfl, q⟩
def oInD (neg : Bool) : LOp := fun x y h Q => ∃ d ds, dPyH h x = some d ∧ (dPyH h y = some (.list ds) ∨ dPyH h y = some (.tuple ds)) ∧ SeqAt.shaped d = true ∧ SeqAt.shaped (.list ds) = true ∧ Q (.bl (if neg then !(ds.any fun z => PyData.eqv z d) else ds.any fun z => PyData.eqv z d)) h
theorem opsInD {K : PySem.W.Frag} {neg : Bool} : OpS K (rInDT K neg) (oInD neg) := by
  refine ⟨fun x y h Q Q' hQ q => ?_, fun ι H h x y vx vy Q Qv hH rx ry q k => ?_⟩
  · obtain ⟨d, ds, a, b, c, e, q⟩ := q
    exact ⟨d, ds, a, b, c, e, hQ _ _ q⟩
  · obtain ⟨d, ds, a, b, c, e, q⟩ := q
    refine ⟨d, ds, dpH_of hH rx a, ?_, c, e, k _ _ ι _ H q (.refl _ _) hH rfl⟩
    rcases b with b | b
    · exact .inl (dpH_of hH ry b)
    · exact .inr (dpH_of hH ry b)
theorem Room.units65 {k : Nat} {A : Around} (r : Room k A) : A.units + 65 < cLine := by have := r.un; omega
variable {a b : Expr} {A B : LE} {pos : Pos}
theorem je_inD (hr : RoomG k X.A) (ha : JE X W a A) (hb : JE X W b B) (hm : behindInMarks .In b = false := by rfl) : JE X W (.Compare a [.In] [b] pos) (eOp (oInD false) A B) := je_cmp (op_inDT (Room.units65 hr.r)) opsInD ha hb hm
theorem jt_inD (hr : RoomG k X.A) (ha : JE X W a A) (hb : JE X W b B) (hm : behindInMarks .In b = false := by rfl) : JT X W (.Compare a [.In] [b] pos) (eTest (eOp (oInD false) A B)) := jt_cmp (op_inDT (Room.units65 hr.r)) opsInD ha hb hm
theorem je_notInD (hr : RoomG k X.A) (ha : JE X W a A) (hb : JE X W b B) (hm : behindInMarks .NotIn b = false := by rfl) : JE X W (.Compare a [.NotIn] [b] pos) (eOp (oInD true) A B) := je_cmp (op_notInDT (Room.units65 hr.r)) opsInD ha hb hm
theorem jt_notInD (hr : RoomG k X.A) (ha : JE X W a A) (hb : JE X W b B) (hm : behindInMarks .NotIn b = false := by rfl) : JT X W (.Compare a [.NotIn] [b] pos) (eTest (eOp (oInD true) A B)) := jt_cmp (op_notInDT (Room.units65 hr.r)) opsInD ha hb hm
end
end LL
end

section
set_option Elab.async false
set_option linter.all false
set_option maxRecDepth 100000
set_option maxHeartbeats 0
namespace LL.K80
open PySem PySem.Spec PyProof.Rows L2 LL
def top (i : Nat) : Stmt := PySem.Challenge.pw_smallheld_k80_waits_in_parts.main.body.getD i (.Pass ⟨0, 0, 0, 0⟩)
def d_law_draw : He.DefD := ⟨("_law_draw", none), "_law_draw", "_law_draw", defArgs (top 44), defBody (top 44), defScope (top 44), [], []⟩
def d_law_one_of : He.DefD := ⟨("_law_one_of", none), "_law_one_of", "_law_one_of", defArgs (top 45), defBody (top 45), defScope (top 45), [], []⟩
def d_law_ways : He.DefD := ⟨("_law_ways", none), "_law_ways", "_law_ways", defArgs (top 46), defBody (top 46), defScope (top 46), [], []⟩
def d_law_told : He.DefD := ⟨("_law_told", none), "_law_told", "_law_told", defArgs (top 47), defBody (top 47), defScope (top 47), [], []⟩
def d_law_new : He.DefD := ⟨("_law_new", none), "_law_new", "_law_new", defArgs (top 49), defBody (top 49), defScope (top 49), [], []⟩
def d_is_integer : He.DefD := ⟨("is_integer", none), "is_integer", "is_integer", defArgs (top 22), defBody (top 22), defScope (top 22), [], []⟩
def d_is_between : He.DefD := ⟨("is_between", none), "is_between", "is_between", defArgs (top 23), defBody (top 23), defScope (top 23), [], []⟩
def d_check_number : He.DefD := ⟨("check_number", none), "check_number", "check_number", defArgs (top 24), defBody (top 24), defScope (top 24), [], []⟩
def d_check_setting : He.DefD := ⟨("check_setting", none), "check_setting", "check_setting", defArgs (top 26), defBody (top 26), defScope (top 26), [], []⟩
def d_Line_init : He.DefD := ⟨("Line", some "__init__"), "__init__", "Line.__init__", defArgs (inClass (top 27) 0), defBody (inClass (top 27) 0), defScope (inClass (top 27) 0), [], []⟩
def d_Setting_init : He.DefD := ⟨("Setting", some "__init__"), "__init__", "Setting.__init__", defArgs (inClass (top 25) 0), defBody (inClass (top 25) 0), defScope (inClass (top 25) 0), [], []⟩
def d_law_made : He.DefD := ⟨("_law_made", none), "_law_made", "_law_made", defArgs (top 48), defBody (top 48), defScope (top 48), [], []⟩
def d_check_line : He.DefD := ⟨("check_line", none), "check_line", "check_line", defArgs (top 28), defBody (top 28), defScope (top 28), [], []⟩
def d_Flow_kept : He.DefD := ⟨("Flow", some "kept"), "kept", "Flow.kept", defArgs (inClass (top 38) 1), defBody (inClass (top 38) 1), defScope (inClass (top 38) 1), [], []⟩
def d_Flow_fresh : He.DefD := ⟨("Flow", some "fresh"), "fresh", "Flow.fresh", defArgs (inClass (top 38) 2), defBody (inClass (top 38) 2), defScope (inClass (top 38) 2), [], []⟩
def d_Session_show : He.DefD := ⟨("Session", some "show"), "show", "Session.show", defArgs (inClass (top 41) 1), defBody (inClass (top 41) 1), defScope (inClass (top 41) 1), [], []⟩
def d_Flow_init : He.DefD := ⟨("Flow", some "__init__"), "__init__", "Flow.__init__", defArgs (inClass (top 38) 0), defBody (inClass (top 38) 0), defScope (inClass (top 38) 0), [], []⟩
def d_Session_init : He.DefD := ⟨("Session", some "__init__"), "__init__", "Session.__init__", defArgs (inClass (top 41) 0), defBody (inClass (top 41) 0), defScope (inClass (top 41) 0), [], []⟩
def d_law_job : He.DefD := ⟨("_law_job", none), "_law_job", "_law_job", defArgs (top 58), defBody (top 58), defScope (top 58), [], []⟩
def d_law_send : He.DefD := ⟨("_law_send", none), "_law_send", "_law_send", defArgs (top 50), defBody (top 50), defScope (top 50), [], []⟩
def d_law_leave : He.DefD := ⟨("_law_leave", none), "_law_leave", "_law_leave", defArgs (top 53), defBody (top 53), defScope (top 53), [], []⟩
def d_law_land : He.DefD := ⟨("_law_land", none), "_law_land", "_law_land", defArgs (top 52), defBody (top 52), defScope (top 52), [], []⟩
def d_law_free : He.DefD := ⟨("_law_free", none), "_law_free", "_law_free", defArgs (top 51), defBody (top 51), defScope (top 51), [], []⟩
def d_law_waited : He.DefD := ⟨("_law_waited", none), "_law_waited", "_law_waited", defArgs (top 54), defBody (top 54), defScope (top 54), [], []⟩
def d_law_done : He.DefD := ⟨("_law_done", none), "_law_done", "_law_done", defArgs (top 55), defBody (top 55), defScope (top 55), [], []⟩
def d_Session_check_free : He.DefD := ⟨("Session", some "check_free"), "check_free", "Session.check_free", defArgs (inClass (top 41) 2), defBody (inClass (top 41) 2), defScope (inClass (top 41) 2), [], []⟩
def d_check_side : He.DefD := ⟨("check_side", none), "check_side", "check_side", defArgs (top 31), defBody (top 31), defScope (top 31), [], []⟩
def d_check_deed : He.DefD := ⟨("check_deed", none), "check_deed", "check_deed", defArgs (top 34), defBody (top 34), defScope (top 34), [], []⟩
def d_Flow_copied : He.DefD := ⟨("Flow", some "copied"), "copied", "Flow.copied", defArgs (inClass (top 38) 13), defBody (inClass (top 38) 13), defScope (inClass (top 38) 13), [], []⟩
def d_Flow_take_out : He.DefD := ⟨("Flow", some "take_out"), "take_out", "Flow.take_out", defArgs (inClass (top 38) 3), defBody (inClass (top 38) 3), defScope (inClass (top 38) 3), [], []⟩
def d_Flow_send : He.DefD := ⟨("Flow", some "send"), "send", "Flow.send", defArgs (inClass (top 38) 4), defBody (inClass (top 38) 4), defScope (inClass (top 38) 4), [], []⟩
def d_Flow_lets : He.DefD := ⟨("Flow", some "lets"), "lets", "Flow.lets", defArgs (inClass (top 38) 5), defBody (inClass (top 38) 5), defScope (inClass (top 38) 5), [], []⟩
def d_Flow_let_go : He.DefD := ⟨("Flow", some "let_go"), "let_go", "Flow.let_go", defArgs (inClass (top 38) 6), defBody (inClass (top 38) 6), defScope (inClass (top 38) 6), [], []⟩
def d_Flow_put : He.DefD := ⟨("Flow", some "put"), "put", "Flow.put", defArgs (inClass (top 38) 7), defBody (inClass (top 38) 7), defScope (inClass (top 38) 7), [], []⟩
def d_Flow_is_due : He.DefD := ⟨("Flow", some "is_due"), "is_due", "Flow.is_due", defArgs (inClass (top 38) 10), defBody (inClass (top 38) 10), defScope (inClass (top 38) 10), [], []⟩
def d_Flow_leave : He.DefD := ⟨("Flow", some "leave"), "leave", "Flow.leave", defArgs (inClass (top 38) 11), defBody (inClass (top 38) 11), defScope (inClass (top 38) 11), [], []⟩
def d_Flow_next_tick : He.DefD := ⟨("Flow", some "next_tick"), "next_tick", "Flow.next_tick", defArgs (inClass (top 38) 12), defBody (inClass (top 38) 12), defScope (inClass (top 38) 12), [], []⟩
def d_Flow_land : He.DefD := ⟨("Flow", some "land"), "land", "Flow.land", defArgs (inClass (top 38) 8), defBody (inClass (top 38) 8), defScope (inClass (top 38) 8), [], []⟩
def d_Flow_begin : He.DefD := ⟨("Flow", some "begin"), "begin", "Flow.begin", defArgs (inClass (top 38) 9), defBody (inClass (top 38) 9), defScope (inClass (top 38) 9), [], []⟩
def d_pass_ticks : He.DefD := ⟨("pass_ticks", none), "pass_ticks", "pass_ticks", defArgs (top 35), defBody (top 35), defScope (top 35), [], []⟩
def d_flow_behind : He.DefD := ⟨("flow_behind", none), "flow_behind", "flow_behind", defArgs (top 36), defBody (top 36), defScope (top 36), [], []⟩
def d_Session_do_deed : He.DefD := ⟨("Session", some "do_deed"), "do_deed", "Session.do_deed", defArgs (inClass (top 41) 3), defBody (inClass (top 41) 3), defScope (inClass (top 41) 3), [], []⟩
def d_Session_wait : He.DefD := ⟨("Session", some "wait"), "wait", "Session.wait", defArgs (inClass (top 41) 6), defBody (inClass (top 41) 6), defScope (inClass (top 41) 6), [], []⟩
def d_Session_write : He.DefD := ⟨("Session", some "write"), "write", "Session.write", defArgs (inClass (top 41) 4), defBody (inClass (top 41) 4), defScope (inClass (top 41) 4), [], []⟩
def d_Session_read : He.DefD := ⟨("Session", some "read"), "read", "Session.read", defArgs (inClass (top 41) 5), defBody (inClass (top 41) 5), defScope (inClass (top 41) 5), [], []⟩
def d_law_call : He.DefD := ⟨("_law_call", none), "_law_call", "_law_call", defArgs (top 57), defBody (top 57), defScope (top 57), [], []⟩
def d_Session_len : He.DefD := ⟨("Session", some "__len__"), "__len__", "Session.__len__", defArgs (inClass (top 41) 10), defBody (inClass (top 41) 10), defScope (inClass (top 41) 10), [], []⟩
def d_Session_repr : He.DefD := ⟨("Session", some "__repr__"), "__repr__", "Session.__repr__", defArgs (inClass (top 41) 11), defBody (inClass (top 41) 11), defScope (inClass (top 41) 11), [], []⟩
def d_law_shown : He.DefD := ⟨("_law_shown", none), "_law_shown", "_law_shown", defArgs (top 56), defBody (top 56), defScope (top 56), [], []⟩
def d_law_in_parts : He.DefD := ⟨("_law_in_parts", none), "_law_in_parts", "_law_in_parts", defArgs (top 59), defBody (top 59), defScope (top 59), [], []⟩
def d_law_right : He.DefD := ⟨("_law_right", none), "_law_right", "_law_right", defArgs (top 60), defBody (top 60), defScope (top 60), [], []⟩
def d_law_well : He.DefD := ⟨("_law_well", none), "_law_well", "_law_well", defArgs (top 43), defBody (top 43), defScope (top 43), [], []⟩
def d_law : He.DefD := ⟨("law", none), "law", "law", defArgs (top 61), defBody (top 61), defScope (top 61), [], []⟩
def fn0 : List He.DefD := [d_law_draw, d_law_one_of, d_law_ways, d_law_told, d_law_new, d_is_integer, d_is_between, d_check_number, d_check_setting, d_Line_init, d_Setting_init, d_law_made, d_check_line, d_Flow_kept, d_Flow_fresh, d_Session_show, d_Flow_init, d_Session_init, d_law_job, d_law_send, d_law_leave, d_law_land, d_law_free, d_law_waited]
def fn1 : List He.DefD := [d_law_done, d_Session_check_free, d_check_side, d_check_deed, d_Flow_copied, d_Flow_take_out, d_Flow_send, d_Flow_lets, d_Flow_let_go, d_Flow_put, d_Flow_is_due, d_Flow_leave, d_Flow_next_tick, d_Flow_land, d_Flow_begin, d_pass_ticks, d_flow_behind, d_Session_do_deed, d_Session_wait, d_Session_write, d_Session_read, d_law_call, d_Session_len, d_Session_repr]
def fn2 : List He.DefD := [d_law_shown, d_law_in_parts, d_law_right, d_law_well, d_law]
def fn : List He.DefD := fn0 ++ (fn1 ++ (fn2))
def fa0 : List He.Fa := [.glo "Flow", .glo "Line", .glo "RULES", .glo "Session", .glo "Setting", .glo "_law_call", .glo "_law_done", .glo "_law_draw", .glo "_law_free", .glo "_law_in_parts", .glo "_law_job", .glo "_law_land", .glo "_law_leave", .glo "_law_made", .glo "_law_new", .glo "_law_one_of", .glo "_law_right", .glo "_law_send", .glo "_law_shown", .glo "_law_told", .glo "_law_waited", .glo "_law_ways", .glo "_law_well", .glo "check_deed"]
def fa1 : List He.Fa := [.glo "check_line", .glo "check_number", .glo "check_setting", .glo "check_side", .glo "flow_behind", .glo "is_between", .glo "is_integer", .glo "law", .glo "pass_ticks", .free "abs", .free "all", .free "bool", .free "divmod", .free "int", .free "isinstance", .free "len", .free "list", .free "max", .free "min", .free "range", .free "repr", .free "sorted", .free "str", .free "sum"]
def fa2 : List He.Fa := [.free "tuple", .int "MOST_BYTES" 60, .int "MOST_DEEDS" 60, .int "MOST_DELAY" 200, .int "MOST_EVERY" 4, .int "MOST_SIZE" 40, .int "MOST_WAY" 200, .cls "Flow", .cls "Line", .cls "Moment", .cls "Session", .cls "Setting", .noat "Session" "busy", .noat "Flow" "come", .noat "Setting" "delay", .noat "Setting" "every", .noat "Line" "far", .noat "Flow" "first", .noat "Flow" "flight", .noat "Moment" "flow", .noat "Session" "flow", .noat "Flow" "full", .noat "Moment" "holding", .noat "Session" "holding"]
def fa3 : List He.Fa := [.noat "Flow" "known", .noat "Flow" "line", .noat "Session" "line", .noat "Flow" "log", .noat "Flow" "long", .noat "Line" "near", .noat "Moment" "now", .noat "Session" "now", .noat "Flow" "out", .noat "Moment" "past", .noat "Session" "past", .noat "Moment" "pieces", .noat "Session" "pieces", .noat "Setting" "rule", .noat "Flow" "settings", .noat "Line" "size", .noat "Flow" "small", .noat "Flow" "stock", .noat "Flow" "taken", .noat "Flow" "tick", .noat "Setting" "told", .noat "Line" "told", .noat "Moment" "unanswered", .noat "Session" "unanswered"]
def fa4 : List He.Fa := [.noat "Moment" "under_way", .noat "Session" "under_way", .noat "Moment" "unread", .noat "Session" "unread", .noat "Line" "way", .noat "Session" "__bool__", .meth "Flow" "begin", .meth "Flow" "copied", .meth "Flow" "fresh", .meth "Flow" "is_due", .meth "Flow" "kept", .meth "Flow" "land", .meth "Flow" "leave", .meth "Flow" "let_go", .meth "Flow" "lets", .meth "Flow" "next_tick", .meth "Flow" "put", .meth "Flow" "send", .meth "Flow" "take_out", .meth "Session" "__len__", .meth "Session" "__repr__", .meth "Session" "check_free", .meth "Session" "do_deed", .meth "Session" "read"]
def fa5 : List He.Fa := [.meth "Session" "show", .meth "Session" "wait", .meth "Session" "write", .mkr "Flow", .mkr "Line", .mkr "Session", .mkr "Setting"]
def fa : List He.Fa := fa0 ++ (fa1 ++ (fa2 ++ (fa3 ++ (fa4 ++ (fa5)))))
def loose0 : List Str := ["_wall", "InputError", "StateError", "SizeError", "NotASetting", "NotALine", "InvalidRule", "InvalidNumber", "InvalidSide", "InvalidDeeds", "NotThere", "Busy", "TooMany", "MOST_SIZE", "MOST_WAY", "MOST_EVERY", "MOST_DELAY", "MOST_BYTES", "MOST_DEEDS", "RULES", "is_integer", "is_between", "check_number", "Setting"]
def loose1 : List Str := ["check_setting", "Line", "check_line", "LENGTHS", "check_side", "is_deed", "check_deeds", "check_deed", "pass_ticks", "flow_behind", "Flow", "Moment", "Session", "_law_well", "_law_draw", "_law_one_of", "_law_ways", "_law_told", "_law_made", "_law_new", "_law_send", "_law_free", "_law_land", "_law_leave"]
def loose2 : List Str := ["_law_waited", "_law_done", "_law_shown", "_law_call", "_law_job", "_law_in_parts", "_law_right"]
def loose : List Str := loose0 ++ (loose1 ++ (loose2))
def is_Line : List (Ty × Bool) := [(.cl "Line", true)]
def is_Setting : List (Ty × Bool) := [(.cl "Setting", true)]
def is_bool : List (Ty × Bool) := [(.bt "int", false)]
def is_int : List (Ty × Bool) := [(.bt "int", true)]
def is_str : List (Ty × Bool) := [(.bt "str", true)]
def tup_RULES : D := .tup [.str "plain", .str "hold", .str "few"]
def ex (K : Frag) : Bool := tabsOk K && (is_Line.all (isB K (.cl "Line")) && (is_Setting.all (isB K (.cl "Setting")) && (is_bool.all (isB K (.bt "bool")) && (is_int.all (isB K (.bt "int")) && (is_str.all (isB K (.bt "str")) && (He.tupB K "RULES" [.str "plain", .str "hold", .str "few"]))))))
theorem lamMem0 : ((("Session", some "show"), "Session.show.<locals>.<lambda>") : He.Defn × Str) ∈ lamNames := by decide +kernel
def tf : List He.Defn := [("Session", some "show")]
abbrev cs_busy : List Str := ["Session"]
abbrev cs_come : List Str := ["Flow"]
abbrev cs_delay : List Str := ["Setting"]
abbrev cs_every : List Str := ["Setting"]
abbrev cs_far : List Str := ["Line"]
abbrev cs_first : List Str := ["Flow"]
abbrev cs_flight : List Str := ["Flow"]
abbrev cs_flow : List Str := ["Moment", "Session"]
abbrev cs_full : List Str := ["Flow"]
abbrev cs_holding : List Str := ["Moment", "Session"]
abbrev cs_known : List Str := ["Flow"]
abbrev cs_line : List Str := ["Flow", "Session"]
abbrev cs_log : List Str := ["Flow"]
abbrev cs_long : List Str := ["Flow"]
abbrev cs_near : List Str := ["Line"]
abbrev cs_now : List Str := ["Moment", "Session"]
abbrev cs_out : List Str := ["Flow"]
abbrev cs_past : List Str := ["Moment", "Session"]
abbrev cs_pieces : List Str := ["Moment", "Session"]
abbrev cs_rule : List Str := ["Setting"]
abbrev cs_settings : List Str := ["Flow"]
abbrev cs_size : List Str := ["Line"]
abbrev cs_small : List Str := ["Flow"]
abbrev cs_stock : List Str := ["Flow"]
abbrev cs_taken : List Str := ["Flow"]
abbrev cs_tick : List Str := ["Flow"]
abbrev cs_told : List Str := ["Setting", "Line"]
abbrev cs_unanswered : List Str := ["Moment", "Session"]
abbrev cs_under_way : List Str := ["Moment", "Session"]
abbrev cs_unread : List Str := ["Moment", "Session"]
abbrev cs_way : List Str := ["Line"]
abbrev R : PySem.W.OpenRow := PySem.W.OpenLaw.row PySem.Challenge.rw_smallheld_k80_waits_in_parts
abbrev hk : PySem.W.Hook := hookL 6 fa fn [] tf ex
def ob (s : PySem.W.SharedT) : He.AlX := obsL 6 fa fn [] tf ex (HandSHeadRun.getT s)
theorem ob_eq (s : PySem.W.SharedT) : ob s = hk.obs s.abs := obsL_eq (HandSHeadRun.getT_eq s)
end LL.K80
end

section
set_option Elab.async false
set_option linter.all false
set_option maxRecDepth 100000
/-! K80Pure: what a session does, in plain Lean: one state, tick by tick, and from event to event. -/
namespace LL.K80
structure Row where
  kept : Int
  sent : Int
  known : Int
  small : Int
  come : Int
  taken : Int
  full : Int
  first : Option Int
structure Pc where
  born : Int
  side : Bool
  amt : Int
  ans : Int
/-- rule: 0 plain, 1 hold, 2 few -/
structure Par where
  size : Int
  way : Int
  rule : Bool → Nat
  every : Bool → Int
  delay : Bool → Int
structure St where
  tick : Int
  row : Bool → Row
  flight : List Pc
  log : List Pc
structure Par.Ok (P : Par) : Prop where
  s1 : 1 ≤ P.size
  s2 : P.size ≤ 40
  w1 : 1 ≤ P.way
  w2 : P.way ≤ 200
  e1 : ∀ s, 1 ≤ P.every s
  e2 : ∀ s, P.every s ≤ 4
  d1 : ∀ s, 0 ≤ P.delay s
  d2 : ∀ s, P.delay s ≤ 200
  r : ∀ s, P.rule s < 3
def upR {α : Type} (f : Bool → α) (s : Bool) (r : α) : Bool → α := fun t => if t = s then r else f t
@[simp] theorem upR_same {α : Type} {f : Bool → α} {s : Bool} {r : α} : upR f s r s = r := if_pos rfl
@[simp] theorem upR_not {α : Type} {f : Bool → α} {s : Bool} {r : α} : upR f s r (!s) = f (!s) := if_neg (by cases s <;> decide)
@[simp] theorem upR_not' {α : Type} {f : Bool → α} {s : Bool} {r : α} : upR f (!s) r s = f s := if_neg (by cases s <;> decide)
theorem upR_ne {α : Type} {f : Bool → α} {s t : Bool} {r : α} (h : t ≠ s) : upR f s r t = f t := if_neg h
theorem bool_cases (s t : Bool) : t = s ∨ t = !s := by cases s <;> cases t <;> decide

def sendR (P : Par) (m : Int) (r : Row) : Row := { r with kept := r.kept - m, sent := r.sent + m, small := if 0 < m ∧ m < P.size then r.sent + m else r.small, full := 0, first := none }
def send (P : Par) (s : Bool) (m : Int) (S : St) : St :=
  { S with row := upR S.row s (sendR P m (S.row s)), flight := S.flight ++ [⟨S.tick, s, m, (S.row s).come⟩], log := S.log ++ [⟨S.tick, s, m, (S.row s).come⟩] }
def sends (P : Par) (s : Bool) : Nat → St → St
  | 0, S => S
  | n + 1, S => send P s P.size (sends P s n S)
def letsR (P : Par) (s : Bool) (r : Row) : Bool := decide (P.rule s = 0) || !decide (r.known < (if P.rule s = 1 then r.sent else r.small))
def free (P : Par) (s : Bool) (S : St) : St :=
  let S1 := sends P s ((S.row s).kept / P.size).toNat S
  if 0 < (S1.row s).kept ∧ letsR P s (S1.row s) = true then send P s (S1.row s).kept S1 else S1
def landR (P : Par) (tick : Int) (p : Pc) (r : Row) : Row := { r with known := if p.ans > r.known then p.ans else r.known, come := r.come + p.amt, full := r.full + (if p.amt = P.size then 1 else 0), first := if 0 < p.amt ∧ r.first = none then some tick else r.first }
def landOne (P : Par) (S : St) (p : Pc) : St := { S with row := upR S.row (!p.side) (landR P S.tick p (S.row (!p.side))) }
def here (P : Par) (t : Int) (fl : List Pc) : List Pc := fl.filter fun p => decide (p.born ≤ t - P.way)
def away (P : Par) (t : Int) (fl : List Pc) : List Pc := fl.filter fun p => decide (p.born > t - P.way)
def land (P : Par) (S : St) : St := { (here P S.tick S.flight).foldl (landOne P) S with flight := away P S.tick S.flight }
def dueR (P : Par) (s : Bool) (t : Int) (r : Row) : Bool := decide (r.full ≥ P.every s) || (match r.first with | none => false | some f => decide (t ≥ f + P.delay s))
def leave1 (P : Par) (s : Bool) (S : St) : St := if dueR P s S.tick (S.row s) = true then send P s 0 S else S
def leave (P : Par) (S : St) : St := leave1 P true (leave1 P false S)
def at_ (t : Int) (S : St) : St := { S with tick := t }
def begin_ (P : Par) (t : Int) (S : St) : St := free P true (free P false (land P (at_ t S)))
def step (P : Par) (S : St) : St := begin_ P (S.tick + 1) (leave P S)
def waited (P : Par) : Nat → St → St
  | 0, S => S
  | n + 1, S => step P (waited P n S)

/-! ### what never changes -/
section
variable {P : Par} {S : St} {s t : Bool}
@[simp] theorem send_tick {m : Int} : (send P s m S).tick = S.tick := rfl
@[simp] theorem sends_tick : ∀ {n : Nat}, (sends P s n S).tick = S.tick
  | 0 => rfl
  | n + 1 => sends_tick (n := n)
@[simp] theorem free_tick : (free P s S).tick = S.tick := by
  unfold free
  simp only
  split <;> simp
theorem fold_land : ∀ {ps : List Pc} {S : St}, (ps.foldl (landOne P) S).tick = S.tick ∧ (ps.foldl (landOne P) S).flight = S.flight ∧ (ps.foldl (landOne P) S).log = S.log
  | [], _ => ⟨rfl, rfl, rfl⟩
  | p :: ps, S => fold_land (ps := ps) (S := landOne P S p)
@[simp] theorem land_tick : (land P S).tick = S.tick := fold_land.1
@[simp] theorem leave1_tick : (leave1 P s S).tick = S.tick := by unfold leave1; split <;> rfl
@[simp] theorem leave_tick : (leave P S).tick = S.tick := by unfold leave; simp
@[simp] theorem at_tick {t : Int} : (at_ t S).tick = t := rfl
@[simp] theorem begin_tick {t : Int} : (begin_ P t S).tick = t := by unfold begin_; simp
@[simp] theorem step_tick : (step P S).tick = S.tick + 1 := by unfold step; simp
theorem waited_tick : ∀ {n : Nat}, (waited P n S).tick = S.tick + n
  | 0 => by simp [waited]
  | n + 1 => by simp [waited, waited_tick (n := n)]; omega
theorem at_at {t u : Int} : at_ t (at_ u S) = at_ t S := rfl
theorem begin_at {t u : Int} : begin_ P t (at_ u S) = begin_ P t S := rfl

/-! ### settled, due -/
def Settled (P : Par) (s : Bool) (S : St) : Prop := 0 ≤ (S.row s).kept ∧ (S.row s).kept < P.size ∧ ¬ (0 < (S.row s).kept ∧ letsR P s (S.row s) = true)
theorem free_settled (h : Settled P s S) : free P s S = S := by
  obtain ⟨h1, h2, h3⟩ := h
  have e : ((S.row s).kept / P.size).toNat = 0 := by
    rw [Int.ediv_eq_zero_of_lt h1 h2]; rfl
  unfold free
  rw [e]
  exact if_neg h3
@[simp] theorem send_row {m : Int} : (send P s m S).row s = sendR P m (S.row s) := upR_same
@[simp] theorem send_other {m : Int} : (send P s m S).row (!s) = S.row (!s) := upR_not
theorem sends_other : ∀ {n : Nat}, (sends P s n S).row (!s) = S.row (!s)
  | 0 => rfl
  | n + 1 => (send_other).trans (sends_other (n := n))
theorem sends_kept : ∀ {n : Nat}, ((sends P s n S).row s).kept = (S.row s).kept - n * P.size
  | 0 => by simp [sends]
  | n + 1 => by
    show ((send P s P.size (sends P s n S)).row s).kept = _
    rw [send_row]
    show ((sends P s n S).row s).kept - P.size = _
    rw [sends_kept (n := n)]
    rw [Int.natCast_succ, Int.add_mul]; omega
theorem free_other : (free P s S).row (!s) = S.row (!s) := by
  unfold free
  simp only
  split
  · rw [send_other, sends_other]
  · exact sends_other
theorem div_rest {k z : Int} (h : 0 ≤ k) (hz : 1 ≤ z) : 0 ≤ k - (k / z).toNat * z ∧ k - (k / z).toNat * z < z := by
  have h1 : 0 ≤ k / z := Int.ediv_nonneg h (by omega)
  rw [Int.toNat_of_nonneg h1]
  have h2 := Int.emod_add_mul_ediv k z
  have h3 := Int.emod_nonneg k (show z ≠ 0 by omega)
  have h4 := Int.emod_lt_of_pos k (show 0 < z by omega)
  rw [Int.mul_comm] at h2
  omega
theorem free_settles (hP : P.Ok) (h : 0 ≤ (S.row s).kept) : Settled P s (free P s S) := by
  have d := div_rest h hP.s1
  unfold free
  simp only
  have k := sends_kept (P := P) (S := S) (s := s) (n := ((S.row s).kept / P.size).toNat)
  split
  · unfold Settled
    rw [send_row]
    simp only [sendR]
    have := hP.s1
    refine ⟨by omega, by omega, fun z => ?_⟩
    omega
  · rename_i z
    unfold Settled
    rw [k]
    refine ⟨d.1, d.2, ?_⟩
    rw [k] at z
    exact z
theorem settled_of (e1 : S.row s = S'.row s) (h : Settled P s S) : Settled P s S' := by
  unfold Settled at *
  rw [← e1]; exact h
theorem settled_not (h : Settled P s S) : Settled P s (free P (!s) S) := by
  refine settled_of ?_ h
  have := free_other (P := P) (s := !s) (S := S)
  rw [Bool.not_not] at this
  exact this.symm
/-- what leaving changes in a row: full and first -/
def calmR (r r' : Row) : Prop := r'.kept = r.kept ∧ r'.sent = r.sent ∧ r'.known = r.known ∧ r'.small = r.small ∧ r'.come = r.come ∧ r'.taken = r.taken
theorem calmR.refl (r : Row) : calmR r r := ⟨rfl, rfl, rfl, rfl, rfl, rfl⟩
theorem calmR.trans {a b c : Row} (h : calmR a b) (k : calmR b c) : calmR a c := by
  obtain ⟨h1, h2, h3, h4, h5, h6⟩ := h
  obtain ⟨k1, k2, k3, k4, k5, k6⟩ := k
  exact ⟨k1.trans h1, k2.trans h2, k3.trans h3, k4.trans h4, k5.trans h5, k6.trans h6⟩
theorem calm_send0 (t : Bool) : calmR (S.row t) ((send P s 0 S).row t) := by
  rcases bool_cases s t with rfl | rfl
  · rw [send_row]
    simp [sendR, calmR]
  · rw [send_other]; exact .refl _
theorem calm_leave1 (t : Bool) : calmR (S.row t) ((leave1 P s S).row t) := by
  unfold leave1
  split
  · exact calm_send0 t
  · exact .refl _
theorem calm_leave (t : Bool) : calmR (S.row t) ((leave P S).row t) := (calm_leave1 t).trans (calm_leave1 t)
theorem settled_calm (c : calmR (S.row s) (S'.row s)) (h : Settled P s S) : Settled P s S' := by
  obtain ⟨h1, h2, h3, h4, _, _⟩ := c
  unfold Settled letsR at *
  rw [h1, h2, h3, h4]; exact h
def Due (P : Par) (s : Bool) (S : St) : Prop := dueR P s S.tick (S.row s) = true
theorem leave1_not (hP : P.Ok) : ¬ Due P s (leave1 P s S) := by
  unfold leave1
  split
  · unfold Due
    rw [send_row]
    have := hP.e1 s
    simp [dueR, sendR]
    omega
  · rename_i z; exact z
theorem leave1_other : (leave1 P s S).row (!s) = S.row (!s) := by
  unfold leave1
  split
  · exact send_other
  · rfl
theorem leave_not (hP : P.Ok) (s : Bool) : ¬ Due P s (leave P S) := by
  unfold leave
  cases s with
  | true => exact leave1_not hP
  | false =>
    intro z
    refine leave1_not (P := P) (s := false) (S := S) hP ?_
    unfold Due at *
    rw [leave1_tick] at z
    rw [show (leave1 P true (leave1 P false S)).row false = (leave1 P false S).row false from leave1_other (s := true)] at z
    exact z
theorem leave_id (h : ∀ s, ¬ Due P s S) : leave P S = S := by
  have e : leave1 P false S = S := if_neg (h false)
  unfold leave
  rw [e]
  exact if_neg (h true)
end

/-! ### from event to event -/
section
variable {P : Par} {S F : St} {s : Bool}
def tickF (P : Par) (S : St) (s : Bool) : List Int := match (S.row s).first with | none => [] | some f => [f + P.delay s]
def ticks (P : Par) (S : St) : List Int := S.flight.map (fun p => p.born + P.way) ++ tickF P S false ++ tickF P S true
theorem mem_tickF {f : Int} (h : (S.row s).first = some f) : f + P.delay s ∈ ticks P S := by
  have : f + P.delay s ∈ tickF P S s := by unfold tickF; rw [h]; exact List.mem_singleton.mpr rfl
  unfold ticks
  cases s <;> simp [this]
theorem mem_tickA {p : Pc} (h : p ∈ S.flight) : p.born + P.way ∈ ticks P S := by
  unfold ticks
  simp only [List.mem_append, List.mem_map]
  exact .inl (.inl ⟨p, h, rfl⟩)
theorem land_kept {t : Bool} : ∀ {ps : List Pc} {S : St}, ((ps.foldl (landOne P) S).row t).kept = (S.row t).kept
  | [], _ => rfl
  | p :: ps, S => by
    rw [List.foldl_cons, land_kept (ps := ps)]
    unfold landOne
    by_cases z : t = !p.side
    · subst z; simp [landR]
    · simp [upR_ne z]
theorem begin_settles {t : Int} (hP : P.Ok) (h : ∀ s, 0 ≤ (S.row s).kept) (s : Bool) : Settled P s (begin_ P t S) := by
  have k : ∀ s, 0 ≤ ((land P (at_ t S)).row s).kept := fun s => by
    show 0 ≤ (((here P t S.flight).foldl (landOne P) (at_ t S)).row s).kept
    rw [land_kept]; exact h s
  have a := free_settles (s := false) hP (k false)
  have o : ((free P false (land P (at_ t S))).row true) = (land P (at_ t S)).row true := free_other (s := false)
  cases s with
  | true => exact free_settles hP (by rw [o]; exact k true)
  | false => exact settled_not (s := false) a
theorem waited_settled (hP : P.Ok) (h : ∀ s, Settled P s S) : ∀ n s, Settled P s (waited P n S)
  | 0, s => h s
  | n + 1, s => begin_settles hP (fun t => (settled_calm (calm_leave t) (waited_settled hP h n t)).1) s
theorem quiet {t : Int} (hs : ∀ s, Settled P s F) (hq : ∀ y ∈ ticks P F, t < y) : begin_ P t F = at_ t F := by
  have e1 : here P t F.flight = [] := by
    unfold here
    rw [List.filter_eq_nil_iff]
    intro p hp
    have := hq _ (mem_tickA (P := P) hp)
    simp only [decide_eq_true_eq]
    omega
  have e2 : away P t F.flight = F.flight := by
    unfold away
    rw [List.filter_eq_self]
    intro p hp
    have := hq _ (mem_tickA (P := P) hp)
    simp only [decide_eq_true_eq]
    omega
  have e3 : land P (at_ t F) = at_ t F := by
    unfold land
    show ({ (here P t F.flight).foldl (landOne P) (at_ t F) with flight := away P t F.flight } : St) = _
    rw [e1, e2]
    rfl
  unfold begin_
  rw [e3, free_settled (S := at_ t F) (settled_of (S := F) rfl (hs false)), free_settled (S := at_ t F) (settled_of (S := F) rfl (hs true))]
theorem due_later {t : Int} (h : ¬ Due P s F) (hq : ∀ y ∈ ticks P F, t < y) : ¬ Due P s (at_ t F) := by
  unfold Due dueR at *
  show ¬ (decide ((F.row s).full ≥ P.every s) || (match (F.row s).first with | none => false | some f => decide (t ≥ f + P.delay s))) = true
  simp only [Bool.or_eq_true, decide_eq_true_eq, not_or] at h ⊢
  refine ⟨h.1, ?_⟩
  cases q : (F.row s).first with
  | none => simp
  | some f =>
    have := hq _ (mem_tickF q)
    simp
    omega
theorem quiet_run {j : Nat} (hP : P.Ok) (h : ∀ s, Settled P s S) (e : F = leave P (waited P j S)) : ∀ d : Nat, (∀ y ∈ ticks P F, S.tick + (j + d : Nat) < y) → leave P (waited P (j + d) S) = at_ (S.tick + (j + d : Nat)) F
  | 0, hq => by
    have t : F.tick = S.tick + (j : Nat) := by rw [e, leave_tick, waited_tick]
    show leave P (waited P j S) = at_ (S.tick + (j : Nat)) F
    rw [← e, ← t]; rfl
  | d + 1, hq => by
    have ih := quiet_run hP h e d fun y hy => by have := hq y hy; omega
    show leave P (begin_ P ((waited P (j + d) S).tick + 1) (leave P (waited P (j + d) S))) = _
    rw [ih, begin_at, waited_tick]
    have et : S.tick + ((j + d : Nat) : Int) + 1 = S.tick + ((j + (d + 1) : Nat) : Int) := by omega
    rw [et]
    have sF : ∀ s, Settled P s F := fun s => by rw [e]; exact settled_calm (calm_leave s) (waited_settled hP h j s)
    have dF : ∀ s, ¬ Due P s F := fun s => by rw [e]; exact leave_not hP s
    rw [quiet sF hq]
    exact leave_id fun s => due_later (dF s) hq
theorem jump {j m : Nat} (hP : P.Ok) (h : ∀ s, Settled P s S) (e : F = leave P (waited P j S)) (hj : j < m) (hq : ∀ y ∈ ticks P F, S.tick + (m : Nat) ≤ y) : begin_ P (S.tick + (m : Nat)) F = waited P m S := by
  obtain ⟨d, rfl⟩ : ∃ d, m = j + d + 1 := ⟨m - j - 1, by omega⟩
  have a := quiet_run hP h e d fun y hy => by have := hq y hy; omega
  show _ = begin_ P ((waited P (j + d) S).tick + 1) (leave P (waited P (j + d) S))
  rw [a, begin_at, waited_tick]
  congr 1
  omega
/-- what flies lands later -/
def Later (P : Par) (S : St) : Prop := ∀ p ∈ S.flight, S.tick < p.born + P.way
theorem later_send (hP : P.Ok) {m : Int} (h : Later P S) : Later P (send P s m S) := by
  intro p hp
  have hp : p ∈ S.flight ++ [(⟨S.tick, s, m, (S.row s).come⟩ : Pc)] := hp
  rcases List.mem_append.mp hp with hp | hp
  · exact h p hp
  · obtain rfl := List.mem_singleton.mp hp
    have := hP.w1
    show S.tick < S.tick + P.way
    omega
theorem later_sends (hP : P.Ok) (h : Later P S) : ∀ n, Later P (sends P s n S)
  | 0 => h
  | n + 1 => later_send hP (later_sends hP h n)
theorem later_free (hP : P.Ok) (h : Later P S) : Later P (free P s S) := by
  unfold free
  simp only
  split
  · exact later_send hP (later_sends hP h _)
  · exact later_sends hP h _
theorem later_begin {t : Int} (hP : P.Ok) : Later P (begin_ P t S) := by
  refine later_free hP (later_free hP fun p hp => ?_)
  have hp : p ∈ away P t S.flight := hp
  have := (List.mem_filter.mp hp).2
  simp only [decide_eq_true_eq] at this
  rw [land_tick, at_tick]
  omega
theorem later_leave1 (hP : P.Ok) (h : Later P S) : Later P (leave1 P s S) := by
  unfold leave1
  split
  · exact later_send hP h
  · exact h
theorem later_leave (hP : P.Ok) (h : Later P S) : Later P (leave P S) := later_leave1 hP (later_leave1 hP h)
theorem waited_later (hP : P.Ok) (h : Later P S) : ∀ n, Later P (waited P n S)
  | 0 => h
  | n + 1 => later_begin hP
theorem ticks_later (hP : P.Ok) (h : Later P S) : ∀ y ∈ ticks P (leave P S), S.tick < y := by
  intro y hy
  have hl := later_leave hP h
  unfold ticks at hy
  simp only [List.mem_append, List.mem_map] at hy
  have key : ∀ s, y ∈ tickF P (leave P S) s → S.tick < y := by
    intro s hy
    have nd := leave_not (S := S) hP s
    unfold tickF at hy
    cases q : ((leave P S).row s).first with
    | none => rw [q] at hy; cases hy
    | some f =>
      rw [q] at hy
      obtain rfl := List.mem_singleton.mp hy
      unfold Due dueR at nd
      rw [q, leave_tick] at nd
      simp only [Bool.or_eq_true, decide_eq_true_eq, not_or] at nd
      omega
  rcases hy with (⟨p, hp, rfl⟩ | hy) | hy
  · have := hl p hp
    rw [leave_tick] at this
    exact this
  · exact key _ hy
  · exact key _ hy
/-- the next event -/
theorem jump_next {j n : Nat} {a : Int} (hP : P.Ok) (h : ∀ s, Settled P s S) (hl : Later P S) (e : F = leave P (waited P j S)) (ha : a ∈ ticks P F) (hm : ∀ y ∈ ticks P F, a ≤ y) (hn : a < S.tick + (n : Nat)) : ∃ j', j < j' ∧ j' < n ∧ a = S.tick + (j' : Nat) ∧ begin_ P a F = waited P j' S := by
  have l := ticks_later hP (waited_later hP hl j) a (by rw [← e]; exact ha)
  rw [waited_tick] at l
  refine ⟨(a - S.tick).toNat, by omega, by omega, by omega, ?_⟩
  have ea : a = S.tick + ((a - S.tick).toNat : Nat) := by omega
  have := jump (m := (a - S.tick).toNat) hP h e (by omega) (fun y hy => by rw [← ea]; exact hm y hy)
  rw [← ea] at this
  exact this
end
end LL.K80
end

section
set_option Elab.async false
set_option linter.all false
set_option maxRecDepth 100000
/-! K80Good: bounds and what stays true. -/
namespace LL.K80
def amts (s : Bool) (ps : List Pc) : Int := ((ps.filter fun p => p.side = s).map (·.amt)).sum
theorem amts_nil {s : Bool} : amts s [] = 0 := rfl
theorem amts_cons {s : Bool} {p : Pc} {ps : List Pc} : amts s (p :: ps) = (if p.side = s then p.amt else 0) + amts s ps := by
  unfold amts
  by_cases z : p.side = s
  · simp [List.filter_cons, z]
  · simp [List.filter_cons, z]
theorem amts_append {s : Bool} {ps : List Pc} : ∀ {qs : List Pc}, amts s (qs ++ ps) = amts s qs + amts s ps
  | [] => by simp [amts_nil]
  | q :: qs => by rw [List.cons_append, amts_cons, amts_cons, amts_append]; omega
theorem amts_nonneg {s : Bool} : ∀ {ps : List Pc}, (∀ p ∈ ps, 0 ≤ p.amt) → 0 ≤ amts s ps
  | [], _ => by rw [amts_nil]; omega
  | p :: ps, h => by
    rw [amts_cons]
    have := amts_nonneg (s := s) (ps := ps) fun q hq => h q (List.mem_cons_of_mem _ hq)
    have := h p List.mem_cons_self
    split <;> omega
theorem amts_split {s : Bool} {P : Par} {t : Int} : ∀ {ps : List Pc}, amts s (here P t ps) + amts s (away P t ps) = amts s ps
  | [] => rfl
  | p :: ps => by
    have ih := amts_split (s := s) (P := P) (t := t) (ps := ps)
    unfold here away at *
    by_cases z : p.born ≤ t - P.way
    · have z' : ¬ p.born > t - P.way := by omega
      rw [List.filter_cons_of_pos (by simpa using z), List.filter_cons_of_neg (by simpa using z'), amts_cons, amts_cons]
      omega
    · have z' : p.born > t - P.way := by omega
      rw [List.filter_cons_of_neg (by simpa using z), List.filter_cons_of_pos (by simpa using z'), amts_cons, amts_cons]
      omega
structure Good (P : Par) (B L : Int) (S : St) : Prop where
  t0 : 0 ≤ S.tick
  k0 : ∀ s, 0 ≤ (S.row s).kept
  s0 : ∀ s, 0 ≤ (S.row s).sent
  c0 : ∀ s, 0 ≤ (S.row s).come
  kn : ∀ s, (S.row s).known ≤ (S.row s).sent
  kb : ∀ s, (S.row s).kept + (S.row s).sent ≤ B
  eq : ∀ s, (S.row (!s)).come + amts s S.flight = (S.row s).sent
  am : ∀ p ∈ S.flight, 0 ≤ p.amt
  an : ∀ p ∈ S.flight, p.ans ≤ (S.row (!p.side)).sent
  lg : (S.log.length : Int) ≤ (S.row false).sent + (S.row true).sent + L
  fl : S.flight.length ≤ S.log.length
  lp : ∀ p ∈ S.log, 0 ≤ p.born ∧ p.born ≤ S.tick ∧ 0 ≤ p.amt ∧ p.amt ≤ B ∧ 0 ≤ p.ans ∧ p.ans ≤ B
section
variable {P : Par} {B L : Int} {S : St} {s : Bool}
theorem Good.comeLe (g : Good P B L S) (s : Bool) : (S.row s).come ≤ (S.row (!s)).sent := by
  have h := g.eq (!s)
  rw [Bool.not_not] at h
  have := amts_nonneg (s := !s) g.am
  omega
theorem Good.sentLe (g : Good P B L S) (s : Bool) : (S.row s).sent ≤ B := by
  have := g.kb s
  have := g.k0 s
  omega
theorem sent_sum {f : Bool → Int} (s : Bool) : f false + f true = f s + f (!s) := by cases s <;> simp <;> omega
theorem Good.send {m : Int} (g : Good P B L S) (h0 : 0 ≤ m) (h1 : m ≤ (S.row s).kept) : Good P B (if m = 0 then L + 1 else L) (send P s m S) := by
  have rs : ∀ t, ((LL.K80.send P s m S).row t).kept = (S.row t).kept - (if t = s then m else 0) ∧ ((LL.K80.send P s m S).row t).sent = (S.row t).sent + (if t = s then m else 0) ∧ ((LL.K80.send P s m S).row t).known = (S.row t).known ∧ ((LL.K80.send P s m S).row t).come = (S.row t).come := by
    intro t
    rcases bool_cases s t with rfl | rfl
    · rw [send_row]; simp [sendR]
    · rw [send_other]; simp
  have cl := g.comeLe s
  refine ⟨g.t0, fun t => ?_, fun t => ?_, fun t => ?_, fun t => ?_, fun t => ?_, fun t => ?_, fun p hp => ?_, fun p hp => ?_, ?_, ?_, fun p hp => ?_⟩
  · rw [(rs t).1]; have := g.k0 t; split
    · rename_i z; subst z; omega
    · omega
  · rw [(rs t).2.1]; have := g.s0 t; split <;> omega
  · rw [(rs t).2.2.2]; exact g.c0 t
  · rw [(rs t).2.2.1, (rs t).2.1]; have := g.kn t; split <;> omega
  · rw [(rs t).1, (rs t).2.1]; have := g.kb t; omega
  · rw [(rs (!t)).2.2.2, (rs t).2.1]
    show _ + amts t (S.flight ++ [_]) = _
    rw [amts_append, amts_cons, amts_nil]
    have := g.eq t
    by_cases z : t = s
    · subst z; simp; omega
    · have z' : ¬ s = t := fun e => z e.symm
      simp [z, z']; omega
  · rcases List.mem_append.mp (show p ∈ S.flight ++ [_] from hp) with hp | hp
    · exact g.am p hp
    · obtain rfl := List.mem_singleton.mp hp; exact h0
  · rcases List.mem_append.mp (show p ∈ S.flight ++ [_] from hp) with hp | hp
    · rw [(rs _).2.1]; have := g.an p hp; split <;> omega
    · obtain rfl := List.mem_singleton.mp hp
      rw [(rs _).2.1]
      show (S.row s).come ≤ (S.row (!s)).sent + _
      split <;> omega
  · show ((S.log ++ [_]).length : Int) ≤ _
    rw [(rs false).2.1, (rs true).2.1, List.length_append]
    have := g.lg
    cases s <;> simp <;> split <;> omega
  · show (S.flight ++ [_]).length ≤ (S.log ++ [_]).length
    have := g.fl
    simp; omega
  · rcases List.mem_append.mp (show p ∈ S.log ++ [_] from hp) with hp | hp
    · exact g.lp p hp
    · obtain rfl := List.mem_singleton.mp hp
      have := g.sentLe (!s)
      have := g.kb s
      have := g.s0 s
      exact ⟨g.t0, Int.le_refl _, h0, by show m ≤ B; omega, g.c0 s, by show (S.row s).come ≤ B; omega⟩
theorem Good.sends (hP : P.Ok) (g : Good P B L S) : ∀ n : Nat, n * P.size ≤ (S.row s).kept → Good P B L (sends P s n S)
  | 0, _ => g
  | n + 1, h => by
    have h1 := hP.s1
    rw [Int.natCast_succ, Int.add_mul] at h
    have ih := Good.sends hP g n (by omega)
    have k := sends_kept (P := P) (S := S) (s := s) (n := n)
    have := ih.send (s := s) (m := P.size) (by omega) (by omega)
    rw [if_neg (by omega)] at this
    exact this
theorem Good.free (hP : P.Ok) (g : Good P B L S) : Good P B L (free P s S) := by
  have d := div_rest (g.k0 s) hP.s1
  have gs := g.sends (s := s) hP ((S.row s).kept / P.size).toNat (by omega)
  unfold LL.K80.free
  simp only
  split
  · rename_i z
    have := gs.send (s := s) (m := ((LL.K80.sends P s ((S.row s).kept / P.size).toNat S).row s).kept) (by omega) (Int.le_refl _)
    rw [if_neg (by omega)] at this
    exact this
  · exact gs
theorem Good.at {t : Int} (g : Good P B L S) (h : S.tick ≤ t) : Good P B L (at_ t S) :=
  ⟨Int.le_trans g.t0 h, g.k0, g.s0, g.c0, g.kn, g.kb, g.eq, g.am, g.an, g.lg, g.fl, fun p hp => by
    obtain ⟨a, b, c⟩ := g.lp p hp
    exact ⟨a, Int.le_trans b h, c⟩⟩
theorem fold_row (t : Bool) : ∀ (ps : List Pc) (S : St), (∀ p ∈ ps, p.ans ≤ (S.row (!p.side)).sent) → (S.row t).known ≤ (S.row t).sent →
    ((ps.foldl (landOne P) S).row t).kept = (S.row t).kept ∧ ((ps.foldl (landOne P) S).row t).sent = (S.row t).sent ∧ ((ps.foldl (landOne P) S).row t).come = (S.row t).come + amts (!t) ps ∧ ((ps.foldl (landOne P) S).row t).known ≤ (S.row t).sent
  | [], S, _, h => ⟨rfl, rfl, by rw [amts_nil]; exact (Int.add_zero _).symm, h⟩
  | p :: ps, S, h, hk => by
    have one : ∀ u, ((landOne P S p).row u).kept = (S.row u).kept ∧ ((landOne P S p).row u).sent = (S.row u).sent ∧ ((landOne P S p).row u).come = (S.row u).come + (if p.side = !u then p.amt else 0) ∧ ((S.row u).known ≤ (S.row u).sent → ((landOne P S p).row u).known ≤ (S.row u).sent) := by
      intro u
      unfold landOne
      by_cases z : u = !p.side
      · subst z
        have := h p List.mem_cons_self
        simp [landR]
        split <;> omega
      · have z' : ¬ p.side = !u := fun e => z (by rw [e, Bool.not_not])
        simp [upR_ne z, z']
    obtain ⟨o1, o2, o3, o4⟩ := one t
    have ih := fold_row t ps (landOne P S p) (fun q hq => by rw [(one _).2.1]; exact h q (List.mem_cons_of_mem _ hq)) (by rw [o2]; exact o4 hk)
    obtain ⟨i1, i2, i3, i4⟩ := ih
    rw [List.foldl_cons]
    refine ⟨i1.trans o1, i2.trans o2, ?_, by rw [← o2]; exact i4⟩
    rw [i3, o3, amts_cons]; omega
theorem Good.land (g : Good P B L S) : Good P B L (land P S) := by
  have f : ∀ t, _ := fun t => fold_row (P := P) t (here P S.tick S.flight) S (fun p hp => g.an p (List.mem_filter.mp hp).1) (g.kn t)
  have sub : ∀ p, p ∈ away P S.tick S.flight → p ∈ S.flight := fun p hp => (List.mem_filter.mp hp).1
  have hsub : ∀ p, p ∈ here P S.tick S.flight → p ∈ S.flight := fun p hp => (List.mem_filter.mp hp).1
  have elog : (LL.K80.land P S).log = S.log := fold_land.2.2
  have r : ∀ t, (LL.K80.land P S).row t = ((here P S.tick S.flight).foldl (landOne P) S).row t := fun _ => rfl
  refine ⟨by rw [land_tick]; exact g.t0, fun t => ?_, fun t => ?_, fun t => ?_, fun t => ?_, fun t => ?_, fun t => ?_, fun p hp => g.am p (sub p hp), fun p hp => ?_, ?_, ?_, ?_⟩
  · rw [r, (f t).1]; exact g.k0 t
  · rw [r, (f t).2.1]; exact g.s0 t
  · rw [r, (f t).2.2.1]; have := g.c0 t; have := amts_nonneg (s := !t) fun p hp => g.am p (hsub p hp); omega
  · rw [r, (f t).2.1]; exact (f t).2.2.2
  · rw [r, (f t).1, (f t).2.1]; exact g.kb t
  · rw [r, r, (f (!t)).2.2.1, (f t).2.1, Bool.not_not]
    show _ + amts t (away P S.tick S.flight) = _
    have := g.eq t
    have := amts_split (s := t) (P := P) (t := S.tick) (ps := S.flight)
    omega
  · rw [r, (f _).2.1]; exact g.an p (sub p hp)
  · rw [r, r, (f _).2.1, (f _).2.1, elog]; exact g.lg
  · rw [elog]
    have : (away P S.tick S.flight).length ≤ S.flight.length := List.length_filter_le _ _
    exact Nat.le_trans this g.fl
  · rw [elog, land_tick]; exact g.lp
theorem Good.more {L' : Int} (g : Good P B L S) (h : L ≤ L') : Good P B L' S :=
  ⟨g.t0, g.k0, g.s0, g.c0, g.kn, g.kb, g.eq, g.am, g.an, by have := g.lg; omega, g.fl, g.lp⟩
theorem Good.leave1 (g : Good P B L S) : Good P B (L + 1) (leave1 P s S) := by
  unfold LL.K80.leave1
  split
  · have := g.send (s := s) (m := 0) (Int.le_refl _) (g.k0 s)
    rw [if_pos rfl] at this
    exact this
  · exact g.more (by omega)
theorem Good.leave (g : Good P B L S) : Good P B (L + 2) (leave P S) := (g.leave1.leave1).more (by omega)
theorem Good.begin {t : Int} (hP : P.Ok) (g : Good P B L S) (h : S.tick ≤ t) : Good P B L (begin_ P t S) := ((g.at h).land.free hP).free hP
theorem Good.step (hP : P.Ok) (g : Good P B L S) : Good P B (L + 2) (step P S) := g.leave.begin hP (by rw [leave_tick]; omega)
theorem Good.waited (hP : P.Ok) (g : Good P B L S) : ∀ n : Nat, Good P B (L + 2 * n) (waited P n S)
  | 0 => g.more (by omega)
  | n + 1 => ((Good.waited hP g n).step hP).more (by omega)
theorem Good.log_lt (g : Good P B L S) (hB : B ≤ 100000) (hL : L ≤ 100000) : S.log.length < 400000 := by
  have := g.lg
  have := g.sentLe false
  have := g.sentLe true
  omega
/-- a deed of writing -/
def wrote (s : Bool) (m : Int) (S : St) : St := { S with row := upR S.row s { S.row s with kept := (S.row s).kept + m } }
theorem Good.wrote {m : Int} (g : Good P B L S) (h : 0 ≤ m) : Good P (B + m) L (wrote s m S) := by
  have rs : ∀ t, ((LL.K80.wrote s m S).row t).kept = (S.row t).kept + (if t = s then m else 0) ∧ ((LL.K80.wrote s m S).row t).sent = (S.row t).sent ∧ ((LL.K80.wrote s m S).row t).known = (S.row t).known ∧ ((LL.K80.wrote s m S).row t).come = (S.row t).come := by
    intro t
    unfold LL.K80.wrote
    rcases bool_cases s t with rfl | rfl
    · simp
    · simp
  refine ⟨g.t0, fun t => ?_, fun t => ?_, fun t => ?_, fun t => ?_, fun t => ?_, fun t => ?_, g.am, fun p hp => ?_, ?_, g.fl, fun p hp => ?_⟩
  · rw [(rs t).1]; have := g.k0 t; split <;> omega
  · rw [(rs t).2.1]; exact g.s0 t
  · rw [(rs t).2.2.2]; exact g.c0 t
  · rw [(rs t).2.2.1, (rs t).2.1]; exact g.kn t
  · rw [(rs t).1, (rs t).2.1]; have := g.kb t; split <;> omega
  · rw [(rs _).2.2.2, (rs t).2.1]; exact g.eq t
  · rw [(rs _).2.1]; exact g.an p hp
  · rw [(rs _).2.1, (rs _).2.1]; exact g.lg
  · obtain ⟨a, b, c, d, e, f⟩ := g.lp p hp
    exact ⟨a, b, c, by omega, e, by omega⟩
/-- a deed of reading -/
def readS (s : Bool) (m : Int) (S : St) : St := { S with row := upR S.row s { S.row s with taken := (S.row s).taken + m } }
theorem Good.readS {m : Int} (g : Good P B L S) : Good P B L (readS s m S) := by
  have rs : ∀ t, ((LL.K80.readS s m S).row t).kept = (S.row t).kept ∧ ((LL.K80.readS s m S).row t).sent = (S.row t).sent ∧ ((LL.K80.readS s m S).row t).known = (S.row t).known ∧ ((LL.K80.readS s m S).row t).come = (S.row t).come := by
    intro t
    unfold LL.K80.readS
    rcases bool_cases s t with rfl | rfl
    · simp
    · simp
  refine ⟨g.t0, fun t => ?_, fun t => ?_, fun t => ?_, fun t => ?_, fun t => ?_, fun t => ?_, g.am, fun p hp => ?_, ?_, g.fl, g.lp⟩
  · rw [(rs t).1]; exact g.k0 t
  · rw [(rs t).2.1]; exact g.s0 t
  · rw [(rs t).2.2.2]; exact g.c0 t
  · rw [(rs t).2.2.1, (rs t).2.1]; exact g.kn t
  · rw [(rs t).1, (rs t).2.1]; exact g.kb t
  · rw [(rs _).2.2.2, (rs t).2.1]; exact g.eq t
  · rw [(rs _).2.1]; exact g.an p hp
  · rw [(rs _).2.1, (rs _).2.1]; exact g.lg
end
end LL.K80
end

section
set_option Elab.async false
set_option linter.all false
set_option maxRecDepth 100000
/-! K80Spec: the promise of each def. -/
namespace LL.K80
open PySem LL
/-! ### how the state stands in the logical heap -/
def optD : Option Int → D | none => .non | some i => .int i
def b2i (s : Bool) : Int := if s then 1 else 0
def ruleS (k : Nat) : Str := if k = 0 then "plain" else if k = 1 then "hold" else "few"
def rowD (r : Row) : List D := [.int r.kept, .int r.sent, .int r.known, .int r.small, .int r.come, .int r.taken, .int r.full, optD r.first]
def pcD (p : Pc) : D := .tup [.int p.born, .int (b2i p.side), .int p.amt, .int p.ans]
def pcF (P : Par) (p : Pc) : D := .tup [.int (p.born + P.way), .int (b2i p.side), .int p.amt, .int p.ans]
def stD (x : Int × Int) : D := .tup [.int x.1, .int x.2]
def wayD (P : Par) (s : Bool) : D := .tup [.str (ruleS (P.rule s)), .int (P.every s), .int (P.delay s)]
def toldD (P : Par) : D := .tup [.int P.size, .int P.way, wayD P false, wayD P true]
def setNs : List Str := ["rule", "every", "delay", "told"]
def setDs (P : Par) (s : Bool) : List D := [.str (ruleS (P.rule s)), .int (P.every s), .int (P.delay s), wayD P s]
def setD (P : Par) (s : Bool) : D := .ob "Setting" setNs (setDs P s)
def lineNs : List Str := ["size", "way", "near", "far", "told"]
def lineDs (P : Par) : List D := [.int P.size, .int P.way, setD P false, setD P true, toldD P]
def lineD (P : Par) : D := .ob "Line" lineNs (lineDs P)
/-- two items, one for each side -/
def prD (f : Bool → D) : List D := [f false, f true]
/-- a pair of ints -/
abbrev two (f : Bool → Int) : List D := prD fun s => .int (f s)
abbrev twoO (f : Bool → Option Int) : List D := prD fun s => optD (f s)
abbrev Stk := Bool → List (Int × Int)
def flowNs : List Str := ["line", "settings", "tick", "stock", "out", "known", "small", "come", "taken", "full", "first", "long", "flight", "log"]
/-- the fields of a frozen Flow -/
def flowDs (P : Par) (S : St) (stk : Stk) (lng : Bool → Int) : List D := [lineD P, .tup (prD (setD P)), .int S.tick, .lst (prD fun s => .lst ((stk s).map stD)),
  .lst (two fun s => (S.row s).sent), .lst (two fun s => (S.row s).known), .lst (two fun s => (S.row s).small), .lst (two fun s => (S.row s).come), .lst (two fun s => (S.row s).taken), .lst (two fun s => (S.row s).full),
  .lst (twoO fun s => (S.row s).first), .lst (two lng), .lst (S.flight.map (pcF P)), .lst (S.log.map pcD)]
def flowD (P : Par) (S : St) (stk : Stk) (lng : Bool → Int) : D := .ob "Flow" flowNs (flowDs P S stk lng)
/-- the fields of a Flow that is changed: where its lists stand -/
def flowFs (P : Par) (t : Int) (sa : Bool → Nat) (o k m c a f fi l fl lg : Nat) : List (Str × D) := [("line", lineD P), ("settings", .tup (prD (setD P))), ("tick", .int t), ("stock", .lst (prD fun s => .ref (sa s))), ("out", .ref o), ("known", .ref k), ("small", .ref m), ("come", .ref c), ("taken", .ref a), ("full", .ref f), ("first", .ref fi), ("long", .ref l), ("flight", .ref fl), ("log", .ref lg)]
/-- .. in one that was copied -/
def sAt (n : Nat) (s : Bool) : Nat := n + 13 + cond s 1 0
structure FlowAt (n fl : Nat) (P : Par) (S : St) (stk : Stk) (lng : Bool → Int) (h : LH) : Prop where
  self : h[n]? = some (.ins "Flow" (flowFs P S.tick (sAt n) (n + 15) (n + 16) (n + 17) (n + 18) (n + 19) (n + 20) (n + 21) (n + 22) fl (n + 24)))
  st : ∀ s, h[sAt n s]? = some (.lst ((stk s).map stD))
  out : h[n + 15]? = some (.lst (two fun s => (S.row s).sent))
  known : h[n + 16]? = some (.lst (two fun s => (S.row s).known))
  small : h[n + 17]? = some (.lst (two fun s => (S.row s).small))
  come : h[n + 18]? = some (.lst (two fun s => (S.row s).come))
  taken : h[n + 19]? = some (.lst (two fun s => (S.row s).taken))
  full : h[n + 20]? = some (.lst (two fun s => (S.row s).full))
  first : h[n + 21]? = some (.lst (twoO fun s => (S.row s).first))
  long : h[n + 22]? = some (.lst (two lng))
  flight : h[fl]? = some (.lst (S.flight.map (pcF P)))
  log : h[n + 24]? = some (.lst (S.log.map pcD))
  ix : fl = n + 23 ∨ n + 24 < fl
/-- the stock: what is kept, in portions -/
def sumA (xs : List (Int × Int)) : Int := (xs.map (·.1)).sum
structure Stock (S : St) (stk : Stk) : Prop where
  sum : ∀ s, sumA (stk s) = (S.row s).kept
  pos : ∀ s, ∀ x ∈ stk s, 0 < x.1
/-- a Flow that is changed -/
def FlowOk (n : Nat) (P : Par) (S : St) (h : LH) : Prop := ∃ fl stk lng, FlowAt n fl P S stk lng h ∧ Stock S stk
/-- nothing below n is changed -/
def Bel (n : Nat) (h h' : LH) : Prop := h'.take n = h.take n
/-- what may change in the law's world -/
structure WIx where
  w : Nat
  r : Bool → Nat
  fl : Nat
  lg : Nat
def WIx.own (A : WIx) (i : Nat) : Prop := i = A.w ∨ (∃ s, i = A.r s) ∨ i = A.fl ∨ i = A.lg
structure WIx.Ok (A : WIx) : Prop where
  wr : ∀ s, A.w ≠ A.r s
  wf : A.w ≠ A.fl
  wl : A.w ≠ A.lg
  rr : ∀ s, A.r s ≠ A.r (!s)
  rf : ∀ s, A.r s ≠ A.fl
  rl : ∀ s, A.r s ≠ A.lg
  fl : A.fl ≠ A.lg
structure WorldAt (A : WIx) (P : Par) (S : St) (h : LH) : Prop where
  ok : A.Ok
  w : h[A.w]? = some (.lst [toldD P, .int S.tick, .lst (prD fun s => .ref (A.r s)), .ref A.fl, .ref A.lg])
  r : ∀ s, h[A.r s]? = some (.lst (rowD (S.row s)))
  fl : h[A.fl]? = some (.lst (S.flight.map pcD))
  lg : h[A.lg]? = some (.lst (S.log.map pcD))
/-- a later heap: only what is owned is changed -/
structure Fr (own : Nat → Prop) (h h' : LH) : Prop where
  len : h.length ≤ h'.length
  same : ∀ i, i < h.length → ¬ own i → h'[i]? = h[i]?
/-- the world stands, and nothing else is changed -/
def WorldLater (A : WIx) (P : Par) (S : St) (h h' : LH) : Prop := ∃ fl, (fl = A.fl ∨ h.length ≤ fl) ∧ WorldAt { A with fl := fl } P S h' ∧ Fr A.own h h'
/-! ### the well -/
def wellO (a c b : Int) : O := .lst [.int a, .int c, .int b]
def WellAt (w : Nat) (h : LH) : Prop := ∃ a c b, h[w]? = some (wellO a c b)
def wsp (w : Nat) (R : D → Prop) (h : LH) (Q : D → LH → Prop) : Prop := WellAt w h ∧ ∀ r a c b, R r → Q r (h.set w (wellO a c b))
/-! ### jobs -/
inductive Job where
  | read (s : Bool) (m : Int)
  | write (s : Bool) (m : Int)
  | wait (m : Int)
def jobD : Job → D
  | .read s m => .tup [.str "read", .int (b2i s), .int m]
  | .write s m => .tup [.str "write", .int (b2i s), .int m]
  | .wait m => .tup [.str "wait", .int m]
def Job.Ok (S : St) : Job → Prop
  | .read s m => 1 ≤ m ∧ m ≤ 60 ∧ m ≤ (S.row s).come - (S.row s).taken
  | .write _ m => 1 ≤ m ∧ m ≤ 60
  | .wait m => 1 ≤ m ∧ m ≤ 60
def Job.run (P : Par) (S : St) : Job → St
  | .read s m => readS s m S
  | .write s m => free P s (wrote s m S)
  | .wait m => waited P m.toNat S
def Job.ans (S : St) : Job → Int
  | .read s _ => (S.row s).come - (S.row s).taken
  | .write s _ => (S.row s).kept
  | .wait _ => S.tick
def init : St := ⟨0, fun _ => ⟨0, 0, 0, 0, 0, 0, 0, none⟩, [], []⟩
/-- what is read has come -/
def Tk (S : St) : Prop := ∀ s, 0 ≤ (S.row s).taken ∧ (S.row s).taken ≤ (S.row s).come ∧ 0 ≤ (S.row s).known
/-- what stands between two deeds -/
structure Fine (P : Par) (S : St) (B L : Int) : Prop where
  p : P.Ok
  set : ∀ s, Settled P s S
  lat : Later P S
  g : Good P B L S
  tk : Tk S
  b : B ≤ 3000
  l : L ≤ 6000
/-! ### the session -/
def le2P (a b : Pc) : Bool := decide (a.born < b.born ∨ (a.born = b.born ∧ b2i a.side ≤ b2i b.side))
def sorted (ps : List Pc) : List Pc := ps.mergeSort le2P
def kpt (S : St) (s : Bool) : Int := (S.row s).kept
def unr (S : St) (s : Bool) : Int := (S.row s).come - (S.row s).taken
def una (S : St) (s : Bool) : Int := (S.row s).sent - (S.row s).known
def sessFs (P : Par) (S : St) (stk : Stk) (lng : Bool → Int) (past : List D) : List (Str × D) := [("line", lineD P), ("busy", .bl false), ("flow", flowD P S stk lng), ("past", .lst past), ("now", .int S.tick), ("holding", .tup (two (kpt S))), ("unread", .tup (two (unr S))), ("unanswered", .tup (two (una S))),
  ("pieces", .tup ((sorted S.log).map pcD)), ("under_way", .int S.flight.length)]
def sessFs0 (P : Par) : List (Str × D) := [("line", lineD P), ("busy", .bl false)]
def SessO (P : Par) (S : St) (k : Nat) (o : O) : Prop := ∃ stk lng past, Stock S stk ∧ past.length = k ∧ o = .ins "Session" (sessFs P S stk lng past)
def SessAt (b : Nat) (P : Par) (S : St) (k : Nat) (h : LH) : Prop := ∃ o, h[b]? = some o ∧ SessO P S k o
def nameS (S : St) : Str := ((((Str.empty ++ "Session(tick ") ++ Str.ofString (toString S.tick)) ++ ", ") ++ Str.ofString (toString (S.log.length : Int))) ++ " pieces)"
def shownD (S : St) : D := .lst [.int S.tick, .tup (two (kpt S)), .tup (two (unr S)), .tup (two (una S)), .tup ((sorted S.log).map pcD), .int S.flight.length, .bl false, .int S.log.length, .str (nameS S), .bl (decide (S.log ≠ []))]
/-! ### the promises -/
def G_law_well : LSp := fun ds h Q _ => ∃ (ns : List Int) (k : Nat), ds = [.lst (ns.map .int), .int k] ∧ ns.length ≤ 63 ∧ ∀ a c b, Q (.ref h.length) (h ++ [wellO a c b])
def G_law_draw : LSp := fun ds h Q _ => ∃ w m, ds = [.ref w, .int m] ∧ 0 < m ∧ m < 1073741824 ∧ wsp w (fun d => ∃ r, d = .int r ∧ 0 ≤ r ∧ r < m) h Q
def G_law_one_of : LSp := fun ds h Q _ => ∃ w xs, ds = [.ref w, .lst xs] ∧ 0 < xs.length ∧ xs.length < 1000 ∧ wsp w (fun d => d ∈ xs) h Q
def G_law_ways : LSp := fun ds h Q _ => ∃ w, ds = [.ref w] ∧ wsp w (fun d => ∃ k e l, d = .tup [.str (ruleS k), .int e, .int l] ∧ k < 3 ∧ 1 ≤ e ∧ e ≤ 4 ∧ 0 ≤ l ∧ l ≤ 40) h Q
def G_law_told : LSp := fun ds h Q _ => ∃ w, ds = [.ref w] ∧ wsp w (fun d => ∃ P : Par, P.Ok ∧ d = toldD P) h Q
def G_law_made : LSp := fun ds h Q _ => ∃ P : Par, P.Ok ∧ ds = [toldD P] ∧ Q (lineD P) h
def newW (P : Par) (n : Nat) : LH := [.lst (rowD (init.row false)), .lst (rowD (init.row true)), .lst [], .lst [], .lst [toldD P, .int 0, .lst (prD fun s => .ref (n + cond s 1 0)), .ref (n + 2), .ref (n + 3)]]
def G_law_new : LSp := fun ds h Q _ => ∃ P, ds = [toldD P] ∧ Q (.ref (h.length + 4)) (h ++ newW P h.length)
def G_law_send : LSp := fun ds h Q _ => ∃ A P S s m, ds = [.ref A.w, .int (b2i s), .int m] ∧ WorldAt A P S h ∧ S.flight.length < 1000000 ∧ S.log.length < 1000000 ∧ ∀ h', WorldLater A P (send P s m S) h h' → Q .non h'
def G_law_free : LSp := fun ds h Q _ => ∃ A P S s B L, ds = [.ref A.w, .int (b2i s)] ∧ WorldAt A P S h ∧ P.Ok ∧ Good P B L S ∧ B ≤ 100000 ∧ L ≤ 100000 ∧ ∀ h', WorldLater A P (free P s S) h h' → Q .non h'
def G_law_land : LSp := fun ds h Q _ => ∃ A P S B L, ds = [.ref A.w] ∧ WorldAt A P S h ∧ P.Ok ∧ Good P B L S ∧ B ≤ 100000 ∧ L ≤ 100000 ∧ ∀ h', WorldLater A P (land P S) h h' → Q .non h'
def G_law_leave : LSp := fun ds h Q _ => ∃ A P S B L, ds = [.ref A.w] ∧ WorldAt A P S h ∧ P.Ok ∧ Good P B L S ∧ B ≤ 100000 ∧ L ≤ 100000 ∧ ∀ h', WorldLater A P (leave P S) h h' → Q .non h'
def G_law_waited : LSp := fun ds h Q _ => ∃ A P S B L, ∃ n : Nat, ds = [.ref A.w, .int n] ∧ WorldAt A P S h ∧ P.Ok ∧ Good P B L S ∧ B ≤ 100000 ∧ L + 2 * n ≤ 100000 ∧ n ≤ 60 ∧ ∀ h', WorldLater A P (waited P n S) h h' → Q .non h'
def G_law_done : LSp := fun ds h Q _ => ∃ A P S B L j, ds = [.ref A.w, jobD j] ∧ WorldAt A P S h ∧ Fine P S B L ∧ j.Ok S ∧ ∀ h', WorldLater A P (j.run P S) h h' → Q (.int (j.ans (j.run P S))) h'
def G_law_listed : LSp := fun ds h Q _ => ∃ lg ps, ds = [.ref lg] ∧ h[lg]? = some (.lst (ps.map pcD)) ∧ ps.length ≤ 1000000 ∧ Q (.tup ((sorted ps).map pcD)) h
def G_law_view : LSp := fun ds h Q _ => ∃ A P S B L, ds = [.ref A.w] ∧ WorldAt A P S h ∧ Good P B L S ∧ B ≤ 100000 ∧ L ≤ 100000 ∧ S.tick ≤ 100000 ∧ Q (shownD S) h
def G_law_job : LSp := fun ds h Q _ => ∃ w A P S, ds = [.ref w, .ref A.w] ∧ WorldAt A P S h ∧ P.Ok ∧ ¬ A.own w ∧ wsp w (fun d => ∃ j : Job, j.Ok S ∧ d = jobD j) h Q
def G_law_right : LSp := fun ds h Q _ => ∃ w, ds = [.ref w] ∧ WellAt w h ∧ ∀ h', Q (.bl true) h'
def G_law : LSp := spLaw 63
def G_check_line : LSp := fun ds h Q _ => ∃ P, ds = [lineD P] ∧ Q .non h
def G_check_setting : LSp := fun ds h Q _ => ∃ P s, ds = [setD P s] ∧ Q .non h
def G_is_integer : LSp := fun ds h Q _ => ∃ i, ds = [.int i] ∧ Q (.bl true) h
def G_is_between : LSp := fun ds h Q _ => ∃ i l u, ds = [.int i, .int l, .int u] ∧ Q (.bl (decide (l ≤ i ∧ i ≤ u))) h
def G_check_number : LSp := fun ds h Q _ => ∃ i l u, ds = [.int i, .int l, .int u] ∧ l ≤ i ∧ i ≤ u ∧ Q .non h
def G_check_side : LSp := fun ds h Q _ => ∃ s, ds = [.int (b2i s)] ∧ Q .non h
def G_Setting_init : LSp := fun ds h Q _ => ∃ pre P s, Par.Ok P ∧ ds = [.ref pre.length, .str (ruleS (P.rule s)), .int (P.every s), .int (P.delay s)] ∧ h = pre ++ [.ins "Setting" []] ∧ Q .non (pre ++ [.ins "Setting" (setNs.zip (setDs P s))])
def G_Line_init : LSp := fun ds h Q _ => ∃ pre P, Par.Ok P ∧ ds = [.ref pre.length, .int P.size, .int P.way, setD P false, setD P true] ∧ h = pre ++ [.ins "Line" []] ∧ Q .non (pre ++ [.ins "Line" (lineNs.zip (lineDs P))])
/-- a Flow that was just made -/
def newF (P : Par) (n : Nat) : LH := [.ins "Flow" (flowFs P 0 (fun s => n + 1 + cond s 1 0) (n + 3) (n + 4) (n + 5) (n + 6) (n + 7) (n + 8) (n + 9) (n + 10) (n + 11) (n + 12)), .lst [], .lst [], .lst [.int 0, .int 0], .lst [.int 0, .int 0], .lst [.int 0, .int 0], .lst [.int 0, .int 0], .lst [.int 0, .int 0], .lst [.int 0, .int 0], .lst [.non, .non], .lst [.int 0, .int 0], .lst [], .lst []]
def G_Flow_init : LSp := fun ds h Q _ => ∃ pre P, ds = [.ref pre.length, lineD P] ∧ h = pre ++ [.ins "Flow" []] ∧ Q .non (pre ++ newF P pre.length)
def G_Session_init : LSp := fun ds h Q _ => ∃ pre P, ds = [.ref pre.length, lineD P] ∧ h = pre ++ [.ins "Session" []] ∧ ∀ o, SessO P init 0 o → Q .non (pre ++ [o])
/-- a Flow, frozen or not -/
def FlowIs (d : D) (P : Par) (S : St) (h : LH) : Prop := (∃ n, d = .ref n ∧ FlowOk n P S h) ∨ ∃ stk lng, d = flowD P S stk lng ∧ Stock S stk
def G_Flow_kept : LSp := fun ds h Q _ => ∃ d P S s, ds = [d, .int (b2i s)] ∧ FlowIs d P S h ∧ (S.row s).kept ≤ 1000000 ∧ Q (.int (S.row s).kept) h
def G_Flow_fresh : LSp := fun ds h Q _ => ∃ d P S s, ds = [d, .int (b2i s)] ∧ FlowIs d P S h ∧ Q (.int (unr S s)) h
def G_Session_show : LSp := fun ds h Q _ => ∃ b P S stk lng past fs, ds = [.ref b, flowD P S stk lng, .lst past] ∧ Stock S stk ∧ h[b]? = some (.ins "Session" fs) ∧ (fs = sessFs0 P ∨ ∃ S' stk' lng' past', fs = sessFs P S' stk' lng' past') ∧ (∀ s, (S.row s).kept ≤ 1000000) ∧ S.log.length ≤ 1000000 ∧ Q .non (h.set b (.ins "Session" (sessFs P S stk lng past)))
def G_Session_check_free : LSp := fun ds h Q _ => ∃ b P S k, ds = [.ref b] ∧ SessAt b P S k h ∧ Q .non h
def G_check_deed : LSp := fun ds h Q _ => ∃ P S stk lng j, ds = [flowD P S stk lng, jobD j] ∧ Stock S stk ∧ j.Ok S ∧ Q .non h
def G_Flow_copied : LSp := fun ds h Q _ => ∃ P S stk lng, ds = [flowD P S stk lng] ∧ Stock S stk ∧ ∀ h', FlowOk h.length P S h' → Bel h.length h h' → Q (.ref h.length) h'
/-- a method that changes a Flow -/
def fsp (n : Nat) (P : Par) (S S' : St) (h : LH) (Q : D → LH → Prop) : Prop := FlowOk n P S h ∧ ∀ h', FlowOk n P S' h' → Bel n h h' → Q .non h'
def G_Flow_take_out : LSp := fun ds h Q _ => ∃ n fl P S stk lng s m, ds = [.ref n, .int (b2i s), .int m] ∧ FlowAt n fl P S stk lng h ∧ Stock S stk ∧ 0 ≤ m ∧ m ≤ (S.row s).kept ∧
  ∀ stk' lng' h', FlowAt n fl P S stk' lng' h' → (∀ t, sumA (stk' t) = (S.row t).kept - if t = s then m else 0) → (∀ t, ∀ x ∈ stk' t, 0 < x.1) → Bel n h h' → Q .non h'
def G_Flow_send : LSp := fun ds h Q _ => ∃ n P S s m, ds = [.ref n, .int (b2i s), .int m] ∧ P.Ok ∧ 0 ≤ m ∧ m ≤ (S.row s).kept ∧ S.flight.length < 1000000 ∧ S.log.length < 1000000 ∧ fsp n P S (send P s m S) h Q
def G_Flow_lets : LSp := fun ds h Q _ => ∃ n P S s, ds = [.ref n, .int (b2i s)] ∧ P.Ok ∧ FlowOk n P S h ∧ (S.row s).known ≤ (S.row s).sent ∧ Q (.bl (letsR P s (S.row s))) h
def G_Flow_let_go : LSp := fun ds h Q _ => ∃ n P S s B L, ds = [.ref n, .int (b2i s)] ∧ P.Ok ∧ Good P B L S ∧ B ≤ 100000 ∧ L ≤ 100000 ∧ fsp n P S (free P s S) h Q
def G_Flow_put : LSp := fun ds h Q _ => ∃ n P S s m B L, ds = [.ref n, .int (b2i s), .int m] ∧ P.Ok ∧ Good P B L S ∧ B + m ≤ 100000 ∧ L ≤ 100000 ∧ 0 < m ∧ fsp n P S (free P s (wrote s m S)) h Q
def G_Flow_is_due : LSp := fun ds h Q _ => ∃ n P S s, ds = [.ref n, .int (b2i s)] ∧ FlowOk n P S h ∧ Q (.bl (dueR P s S.tick (S.row s))) h
def G_Flow_leave : LSp := fun ds h Q _ => ∃ n P S B L, ds = [.ref n] ∧ P.Ok ∧ Good P B L S ∧ B ≤ 100000 ∧ L ≤ 100000 ∧ fsp n P S (leave P S) h Q
def G_Flow_next_tick : LSp := fun ds h Q _ => ∃ n P S, ds = [.ref n] ∧ FlowOk n P S h ∧ S.flight.length < 1000000 ∧ ∀ h' d, FlowOk n P S h' → Bel n h h' → ((d = .non ∧ ticks P S = []) ∨ ∃ a, d = .int a ∧ a ∈ ticks P S ∧ ∀ y ∈ ticks P S, a ≤ y) → Q d h'
def G_Flow_land : LSp := fun ds h Q _ => ∃ n P S p, ds = [.ref n, .int (b2i p.side), .int p.amt, .int p.ans] ∧ P.Ok ∧ 0 ≤ p.amt ∧ fsp n P S (landOne P S p) h Q
def G_Flow_begin : LSp := fun ds h Q _ => ∃ n P S t B L, ds = [.ref n, .int t] ∧ P.Ok ∧ Good P B L S ∧ B ≤ 100000 ∧ L ≤ 100000 ∧ S.tick ≤ t ∧ fsp n P S (begin_ P t S) h Q
def G_pass_ticks : LSp := fun ds h Q _ => ∃ n P S B L, ∃ k : Nat, ds = [.ref n, .int k] ∧ Fine P S B L ∧ 1 ≤ k ∧ k ≤ 60 ∧ fsp n P S (waited P k S) h Q
def G_flow_behind : LSp := fun ds h Q _ => ∃ P S stk lng B L j, ds = [flowD P S stk lng, jobD j] ∧ Stock S stk ∧ Fine P S B L ∧ j.Ok S ∧ ∀ stk' lng', Stock (j.run P S) stk' → Q (flowD P (j.run P S) stk' lng') h
def G_Session_do_deed : LSp := fun ds h Q _ => ∃ b P S k B L j, ds = [.ref b, jobD j] ∧ SessAt b P S k h ∧ k < 60 ∧ Fine P S B L ∧ j.Ok S ∧ ∀ o, SessO P (j.run P S) (k + 1) o → Q .non (h.set b o)
def G_Session_write : LSp := fun ds h Q _ => ∃ b P S k B L s m, ds = [.ref b, .int (b2i s), .int m] ∧ SessAt b P S k h ∧ k < 60 ∧ Fine P S B L ∧ (Job.write s m).Ok S ∧ ∀ o, SessO P ((Job.write s m).run P S) (k + 1) o → Q (.int ((Job.write s m).ans ((Job.write s m).run P S))) (h.set b o)
def G_Session_read : LSp := fun ds h Q _ => ∃ b P S k B L s m, ds = [.ref b, .int (b2i s), .int m] ∧ SessAt b P S k h ∧ k < 60 ∧ Fine P S B L ∧ (Job.read s m).Ok S ∧ ∀ o, SessO P ((Job.read s m).run P S) (k + 1) o → Q (.int ((Job.read s m).ans ((Job.read s m).run P S))) (h.set b o)
def G_Session_wait : LSp := fun ds h Q _ => ∃ b P S k B L m, ds = [.ref b, .int m] ∧ SessAt b P S k h ∧ k < 60 ∧ Fine P S B L ∧ (Job.wait m).Ok S ∧ ∀ o, SessO P ((Job.wait m).run P S) (k + 1) o → Q (.int ((Job.wait m).ans ((Job.wait m).run P S))) (h.set b o)
def G_law_call : LSp := fun ds h Q _ => ∃ b P S k B L j, ds = [.ref b, jobD j] ∧ SessAt b P S k h ∧ k < 60 ∧ Fine P S B L ∧ j.Ok S ∧ ∀ o, SessO P (j.run P S) (k + 1) o → Q (.int (j.ans (j.run P S))) (h.set b o)
def G_Session_len : LSp := fun ds h Q _ => ∃ b P S k, ds = [.ref b] ∧ SessAt b P S k h ∧ Q (.int S.log.length) h
def G_Session_repr : LSp := fun ds h Q _ => ∃ b P S k, ds = [.ref b] ∧ SessAt b P S k h ∧ 0 ≤ S.tick ∧ S.tick ≤ 100000 ∧ S.log.length ≤ 1000000 ∧ Q (.str (nameS S)) h
def G_law_shown : LSp := fun ds h Q _ => ∃ b P S k, ds = [.ref b] ∧ SessAt b P S k h ∧ 0 ≤ S.tick ∧ S.tick ≤ 100000 ∧ S.log.length ≤ 1000000 ∧ Q (shownD S) h
/-- only what is owned is changed; the well and the session stand -/
def Parts (w b : Nat) (P : Par) (S : St) (k : Nat) (h h' : LH) : Prop := Fr (fun i => i = w ∨ i = b) h h' ∧ WellAt w h' ∧ SessAt b P S k h'
def G_law_in_parts : LSp := fun ds h Q _ => ∃ w b P S k B L, ∃ n : Nat, ds = [.ref w, .ref b, .int n] ∧ WellAt w h ∧ SessAt b P S k h ∧ w ≠ b ∧ Fine P S B L ∧ L + 120 ≤ 6000 ∧ S.tick ≤ 90000 ∧ n ≤ 60 ∧ k + 4 ≤ 60 ∧ ∀ h' k', k' ≤ k + 4 → Parts w b P (waited P n S) k' h h' → Q (.bl true) h'

end LL.K80
end

section
set_option Elab.async false
set_option linter.all false
set_option maxRecDepth 100000
namespace LL.K80
open PySem LL
theorem wsp_mono {w : Nat} {R : D → Prop} {h : LH} {Q Q' : D → LH → Prop} (hQ : ∀ d h, Q d h → Q' d h) (q : wsp w R h Q) : wsp w R h Q' := ⟨q.1, fun r a c b hr => hQ _ _ (q.2 r a c b hr)⟩
theorem fsp_mono {n : Nat} {P : Par} {S S' : St} {h : LH} {Q Q' : D → LH → Prop} (hQ : ∀ d h, Q d h → Q' d h) (q : fsp n P S S' h Q) : fsp n P S S' h Q' := ⟨q.1, fun h' a b => hQ _ _ (q.2 h' a b)⟩
theorem M_law_well : MonoP G_law_well := fun ds h Q Q' E E' hQ hE ⟨x0, x1, y0, y1, q⟩ => ⟨x0, x1, y0, y1, (fun z0 z1 z2 => hQ _ _ (q z0 z1 z2))⟩
theorem M_law_draw : MonoP G_law_draw := fun ds h Q Q' E E' hQ hE ⟨x0, x1, y0, y1, y2, q⟩ => ⟨x0, x1, y0, y1, y2, wsp_mono hQ q⟩
theorem M_law_one_of : MonoP G_law_one_of := fun ds h Q Q' E E' hQ hE ⟨x0, x1, y0, y1, y2, q⟩ => ⟨x0, x1, y0, y1, y2, wsp_mono hQ q⟩
theorem M_law_ways : MonoP G_law_ways := fun ds h Q Q' E E' hQ hE ⟨x0, y0, q⟩ => ⟨x0, y0, wsp_mono hQ q⟩
theorem M_law_told : MonoP G_law_told := fun ds h Q Q' E E' hQ hE ⟨x0, y0, q⟩ => ⟨x0, y0, wsp_mono hQ q⟩
theorem M_law_made : MonoP G_law_made := fun ds h Q Q' E E' hQ hE ⟨x0, y0, y1, q⟩ => ⟨x0, y0, y1, hQ _ _ q⟩
theorem M_law_new : MonoP G_law_new := fun ds h Q Q' E E' hQ hE ⟨x0, y0, q⟩ => ⟨x0, y0, hQ _ _ q⟩
theorem M_law_send : MonoP G_law_send := fun ds h Q Q' E E' hQ hE ⟨x0, x1, x2, x3, x4, y0, y1, y2, y3, q⟩ => ⟨x0, x1, x2, x3, x4, y0, y1, y2, y3, (fun z0 z1 => hQ _ _ (q z0 z1))⟩
theorem M_law_free : MonoP G_law_free := fun ds h Q Q' E E' hQ hE ⟨x0, x1, x2, x3, x4, x5, y0, y1, y2, y3, y4, y5, q⟩ => ⟨x0, x1, x2, x3, x4, x5, y0, y1, y2, y3, y4, y5, (fun z0 z1 => hQ _ _ (q z0 z1))⟩
theorem M_law_land : MonoP G_law_land := fun ds h Q Q' E E' hQ hE ⟨x0, x1, x2, x3, x4, y0, y1, y2, y3, y4, y5, q⟩ => ⟨x0, x1, x2, x3, x4, y0, y1, y2, y3, y4, y5, (fun z0 z1 => hQ _ _ (q z0 z1))⟩
theorem M_law_leave : MonoP G_law_leave := fun ds h Q Q' E E' hQ hE ⟨x0, x1, x2, x3, x4, y0, y1, y2, y3, y4, y5, q⟩ => ⟨x0, x1, x2, x3, x4, y0, y1, y2, y3, y4, y5, (fun z0 z1 => hQ _ _ (q z0 z1))⟩
theorem M_law_waited : MonoP G_law_waited := fun ds h Q Q' E E' hQ hE ⟨x0, x1, x2, x3, x4, x5, y0, y1, y2, y3, y4, y5, y6, q⟩ => ⟨x0, x1, x2, x3, x4, x5, y0, y1, y2, y3, y4, y5, y6, (fun z0 z1 => hQ _ _ (q z0 z1))⟩
theorem M_law_done : MonoP G_law_done := fun ds h Q Q' E E' hQ hE ⟨x0, x1, x2, x3, x4, x5, y0, y1, y2, y3, q⟩ => ⟨x0, x1, x2, x3, x4, x5, y0, y1, y2, y3, (fun z0 z1 => hQ _ _ (q z0 z1))⟩
theorem M_law_listed : MonoP G_law_listed := fun ds h Q Q' E E' hQ hE ⟨x0, x1, y0, y1, y2, q⟩ => ⟨x0, x1, y0, y1, y2, hQ _ _ q⟩
theorem M_law_view : MonoP G_law_view := fun ds h Q Q' E E' hQ hE ⟨x0, x1, x2, x3, x4, y0, y1, y2, y3, y4, y5, q⟩ => ⟨x0, x1, x2, x3, x4, y0, y1, y2, y3, y4, y5, hQ _ _ q⟩
theorem M_law_job : MonoP G_law_job := fun ds h Q Q' E E' hQ hE ⟨x0, x1, x2, x3, y0, y1, y2, y3, q⟩ => ⟨x0, x1, x2, x3, y0, y1, y2, y3, wsp_mono hQ q⟩
theorem M_law_right : MonoP G_law_right := fun ds h Q Q' E E' hQ hE ⟨x0, y0, y1, q⟩ => ⟨x0, y0, y1, (fun z0 => hQ _ _ (q z0))⟩
theorem M_check_line : MonoP G_check_line := fun ds h Q Q' E E' hQ hE ⟨x0, y0, q⟩ => ⟨x0, y0, hQ _ _ q⟩
theorem M_check_setting : MonoP G_check_setting := fun ds h Q Q' E E' hQ hE ⟨x0, x1, y0, q⟩ => ⟨x0, x1, y0, hQ _ _ q⟩
theorem M_is_integer : MonoP G_is_integer := fun ds h Q Q' E E' hQ hE ⟨x0, y0, q⟩ => ⟨x0, y0, hQ _ _ q⟩
theorem M_is_between : MonoP G_is_between := fun ds h Q Q' E E' hQ hE ⟨x0, x1, x2, y0, q⟩ => ⟨x0, x1, x2, y0, hQ _ _ q⟩
theorem M_check_number : MonoP G_check_number := fun ds h Q Q' E E' hQ hE ⟨x0, x1, x2, y0, y1, y2, q⟩ => ⟨x0, x1, x2, y0, y1, y2, hQ _ _ q⟩
theorem M_check_side : MonoP G_check_side := fun ds h Q Q' E E' hQ hE ⟨x0, y0, q⟩ => ⟨x0, y0, hQ _ _ q⟩
theorem M_Setting_init : MonoP G_Setting_init := fun ds h Q Q' E E' hQ hE ⟨x0, x1, x2, y0, y1, y2, q⟩ => ⟨x0, x1, x2, y0, y1, y2, hQ _ _ q⟩
theorem M_Line_init : MonoP G_Line_init := fun ds h Q Q' E E' hQ hE ⟨x0, x1, y0, y1, y2, q⟩ => ⟨x0, x1, y0, y1, y2, hQ _ _ q⟩
theorem M_Flow_init : MonoP G_Flow_init := fun ds h Q Q' E E' hQ hE ⟨x0, x1, y0, y1, q⟩ => ⟨x0, x1, y0, y1, hQ _ _ q⟩
theorem M_Session_init : MonoP G_Session_init := fun ds h Q Q' E E' hQ hE ⟨x0, x1, y0, y1, q⟩ => ⟨x0, x1, y0, y1, (fun z0 z1 => hQ _ _ (q z0 z1))⟩
theorem M_Flow_kept : MonoP G_Flow_kept := fun ds h Q Q' E E' hQ hE ⟨x0, x1, x2, x3, y0, y1, y2, q⟩ => ⟨x0, x1, x2, x3, y0, y1, y2, hQ _ _ q⟩
theorem M_Flow_fresh : MonoP G_Flow_fresh := fun ds h Q Q' E E' hQ hE ⟨x0, x1, x2, x3, y0, y1, q⟩ => ⟨x0, x1, x2, x3, y0, y1, hQ _ _ q⟩
theorem M_Session_show : MonoP G_Session_show := fun ds h Q Q' E E' hQ hE ⟨x0, x1, x2, x3, x4, x5, x6, y0, y1, y2, y3, y4, y5, q⟩ => ⟨x0, x1, x2, x3, x4, x5, x6, y0, y1, y2, y3, y4, y5, hQ _ _ q⟩
theorem M_Session_check_free : MonoP G_Session_check_free := fun ds h Q Q' E E' hQ hE ⟨x0, x1, x2, x3, y0, y1, q⟩ => ⟨x0, x1, x2, x3, y0, y1, hQ _ _ q⟩
theorem M_check_deed : MonoP G_check_deed := fun ds h Q Q' E E' hQ hE ⟨x0, x1, x2, x3, x4, y0, y1, y2, q⟩ => ⟨x0, x1, x2, x3, x4, y0, y1, y2, hQ _ _ q⟩
theorem M_Flow_copied : MonoP G_Flow_copied := fun ds h Q Q' E E' hQ hE ⟨x0, x1, x2, x3, y0, y1, q⟩ => ⟨x0, x1, x2, x3, y0, y1, (fun z0 z1 z2 => hQ _ _ (q z0 z1 z2))⟩
theorem M_Flow_take_out : MonoP G_Flow_take_out := fun ds h Q Q' E E' hQ hE ⟨x0, x1, x2, x3, x4, x5, x6, x7, y0, y1, y2, y3, y4, q⟩ => ⟨x0, x1, x2, x3, x4, x5, x6, x7, y0, y1, y2, y3, y4, (fun z0 z1 z2 z3 z4 z5 z6 => hQ _ _ (q z0 z1 z2 z3 z4 z5 z6))⟩
theorem M_Flow_send : MonoP G_Flow_send := fun ds h Q Q' E E' hQ hE ⟨x0, x1, x2, x3, x4, y0, y1, y2, y3, y4, y5, q⟩ => ⟨x0, x1, x2, x3, x4, y0, y1, y2, y3, y4, y5, fsp_mono hQ q⟩
theorem M_Flow_lets : MonoP G_Flow_lets := fun ds h Q Q' E E' hQ hE ⟨x0, x1, x2, x3, y0, y1, y2, y3, q⟩ => ⟨x0, x1, x2, x3, y0, y1, y2, y3, hQ _ _ q⟩
theorem M_Flow_let_go : MonoP G_Flow_let_go := fun ds h Q Q' E E' hQ hE ⟨x0, x1, x2, x3, x4, x5, y0, y1, y2, y3, y4, q⟩ => ⟨x0, x1, x2, x3, x4, x5, y0, y1, y2, y3, y4, fsp_mono hQ q⟩
theorem M_Flow_put : MonoP G_Flow_put := fun ds h Q Q' E E' hQ hE ⟨x0, x1, x2, x3, x4, x5, x6, y0, y1, y2, y3, y4, y5, q⟩ => ⟨x0, x1, x2, x3, x4, x5, x6, y0, y1, y2, y3, y4, y5, fsp_mono hQ q⟩
theorem M_Flow_is_due : MonoP G_Flow_is_due := fun ds h Q Q' E E' hQ hE ⟨x0, x1, x2, x3, y0, y1, q⟩ => ⟨x0, x1, x2, x3, y0, y1, hQ _ _ q⟩
theorem M_Flow_leave : MonoP G_Flow_leave := fun ds h Q Q' E E' hQ hE ⟨x0, x1, x2, x3, x4, y0, y1, y2, y3, y4, q⟩ => ⟨x0, x1, x2, x3, x4, y0, y1, y2, y3, y4, fsp_mono hQ q⟩
theorem M_Flow_next_tick : MonoP G_Flow_next_tick := fun ds h Q Q' E E' hQ hE ⟨x0, x1, x2, y0, y1, y2, q⟩ => ⟨x0, x1, x2, y0, y1, y2, (fun z0 z1 z2 z3 z4 => hQ _ _ (q z0 z1 z2 z3 z4))⟩
theorem M_Flow_land : MonoP G_Flow_land := fun ds h Q Q' E E' hQ hE ⟨x0, x1, x2, x3, y0, y1, y2, q⟩ => ⟨x0, x1, x2, x3, y0, y1, y2, fsp_mono hQ q⟩
theorem M_Flow_begin : MonoP G_Flow_begin := fun ds h Q Q' E E' hQ hE ⟨x0, x1, x2, x3, x4, x5, y0, y1, y2, y3, y4, y5, q⟩ => ⟨x0, x1, x2, x3, x4, x5, y0, y1, y2, y3, y4, y5, fsp_mono hQ q⟩
theorem M_pass_ticks : MonoP G_pass_ticks := fun ds h Q Q' E E' hQ hE ⟨x0, x1, x2, x3, x4, x5, y0, y1, y2, y3, q⟩ => ⟨x0, x1, x2, x3, x4, x5, y0, y1, y2, y3, fsp_mono hQ q⟩
theorem M_flow_behind : MonoP G_flow_behind := fun ds h Q Q' E E' hQ hE ⟨x0, x1, x2, x3, x4, x5, x6, y0, y1, y2, y3, q⟩ => ⟨x0, x1, x2, x3, x4, x5, x6, y0, y1, y2, y3, (fun z0 z1 z2 => hQ _ _ (q z0 z1 z2))⟩
theorem M_Session_do_deed : MonoP G_Session_do_deed := fun ds h Q Q' E E' hQ hE ⟨x0, x1, x2, x3, x4, x5, x6, y0, y1, y2, y3, y4, q⟩ => ⟨x0, x1, x2, x3, x4, x5, x6, y0, y1, y2, y3, y4, (fun z0 z1 => hQ _ _ (q z0 z1))⟩
theorem M_Session_write : MonoP G_Session_write := fun ds h Q Q' E E' hQ hE ⟨x0, x1, x2, x3, x4, x5, x6, x7, y0, y1, y2, y3, y4, q⟩ => ⟨x0, x1, x2, x3, x4, x5, x6, x7, y0, y1, y2, y3, y4, (fun z0 z1 => hQ _ _ (q z0 z1))⟩
theorem M_Session_read : MonoP G_Session_read := fun ds h Q Q' E E' hQ hE ⟨x0, x1, x2, x3, x4, x5, x6, x7, y0, y1, y2, y3, y4, q⟩ => ⟨x0, x1, x2, x3, x4, x5, x6, x7, y0, y1, y2, y3, y4, (fun z0 z1 => hQ _ _ (q z0 z1))⟩
theorem M_Session_wait : MonoP G_Session_wait := fun ds h Q Q' E E' hQ hE ⟨x0, x1, x2, x3, x4, x5, x6, y0, y1, y2, y3, y4, q⟩ => ⟨x0, x1, x2, x3, x4, x5, x6, y0, y1, y2, y3, y4, (fun z0 z1 => hQ _ _ (q z0 z1))⟩
theorem M_law_call : MonoP G_law_call := fun ds h Q Q' E E' hQ hE ⟨x0, x1, x2, x3, x4, x5, x6, y0, y1, y2, y3, y4, q⟩ => ⟨x0, x1, x2, x3, x4, x5, x6, y0, y1, y2, y3, y4, (fun z0 z1 => hQ _ _ (q z0 z1))⟩
theorem M_Session_len : MonoP G_Session_len := fun ds h Q Q' E E' hQ hE ⟨x0, x1, x2, x3, y0, y1, q⟩ => ⟨x0, x1, x2, x3, y0, y1, hQ _ _ q⟩
theorem M_Session_repr : MonoP G_Session_repr := fun ds h Q Q' E E' hQ hE ⟨x0, x1, x2, x3, y0, y1, y2, y3, y4, q⟩ => ⟨x0, x1, x2, x3, y0, y1, y2, y3, y4, hQ _ _ q⟩
theorem M_law_shown : MonoP G_law_shown := fun ds h Q Q' E E' hQ hE ⟨x0, x1, x2, x3, y0, y1, y2, y3, y4, q⟩ => ⟨x0, x1, x2, x3, y0, y1, y2, y3, y4, hQ _ _ q⟩
theorem M_law_in_parts : MonoP G_law_in_parts := fun ds h Q Q' E E' hQ hE ⟨x0, x1, x2, x3, x4, x5, x6, x7, y0, y1, y2, y3, y4, y5, y6, y7, y8, q⟩ => ⟨x0, x1, x2, x3, x4, x5, x6, x7, y0, y1, y2, y3, y4, y5, y6, y7, y8, (fun z0 z1 z2 z3 => hQ _ _ (q z0 z1 z2 z3))⟩
theorem M_law : MonoP G_law := mono_law
end LL.K80
end

section
set_option Elab.async false
set_option linter.all false
set_option maxRecDepth 100000
set_option maxHeartbeats 0
namespace LL.K80
open PySem PySem.Spec PyProof.Rows L2 LL
structure Wd (w : World) (K : Frag) (mg : Str → Option Value) (h base : Heap) : Prop where
  kin : K.In h
  ns : h.Ns mainGlobals mg
  c : He.SaysX fa fn [] tf ex w h K
  tb : ∀ p ∈ tf, LamX.TabB base mg (He.cT K p).1 (He.cT K p).2
theorem tk0 {X : Cx} : Takes X NoW := LamX.takes0
section
variable {w : World} {K : Frag} {mg : Str → Option Value} {h base : Heap} (D : Wd w K mg h base)
include D
theorem Wd.ft (i : Nat) {f : He.Fa} (e : fa[i]? = some f := by rfl) : f.ok K = true := D.c.t.d.fact i e
theorem Wd.g_Flow : mg "Flow" = some (.ref (He.ga K "Flow")) := He.glo_ok D.kin D.ns (D.ft 0)
theorem Wd.g_Line : mg "Line" = some (.ref (He.ga K "Line")) := He.glo_ok D.kin D.ns (D.ft 1)
theorem Wd.g_RULES : mg "RULES" = some (.ref (He.ga K "RULES")) := He.glo_ok D.kin D.ns (D.ft 2)
theorem Wd.g_Session : mg "Session" = some (.ref (He.ga K "Session")) := He.glo_ok D.kin D.ns (D.ft 3)
theorem Wd.g_Setting : mg "Setting" = some (.ref (He.ga K "Setting")) := He.glo_ok D.kin D.ns (D.ft 4)
theorem Wd.g__law_call : mg "_law_call" = some (.ref (He.ga K "_law_call")) := He.glo_ok D.kin D.ns (D.ft 5)
theorem Wd.g__law_done : mg "_law_done" = some (.ref (He.ga K "_law_done")) := He.glo_ok D.kin D.ns (D.ft 6)
theorem Wd.g__law_draw : mg "_law_draw" = some (.ref (He.ga K "_law_draw")) := He.glo_ok D.kin D.ns (D.ft 7)
theorem Wd.g__law_free : mg "_law_free" = some (.ref (He.ga K "_law_free")) := He.glo_ok D.kin D.ns (D.ft 8)
theorem Wd.g__law_in_parts : mg "_law_in_parts" = some (.ref (He.ga K "_law_in_parts")) := He.glo_ok D.kin D.ns (D.ft 9)
theorem Wd.g__law_job : mg "_law_job" = some (.ref (He.ga K "_law_job")) := He.glo_ok D.kin D.ns (D.ft 10)
theorem Wd.g__law_land : mg "_law_land" = some (.ref (He.ga K "_law_land")) := He.glo_ok D.kin D.ns (D.ft 11)
theorem Wd.g__law_leave : mg "_law_leave" = some (.ref (He.ga K "_law_leave")) := He.glo_ok D.kin D.ns (D.ft 12)
theorem Wd.g__law_made : mg "_law_made" = some (.ref (He.ga K "_law_made")) := He.glo_ok D.kin D.ns (D.ft 13)
theorem Wd.g__law_new : mg "_law_new" = some (.ref (He.ga K "_law_new")) := He.glo_ok D.kin D.ns (D.ft 14)
theorem Wd.g__law_one_of : mg "_law_one_of" = some (.ref (He.ga K "_law_one_of")) := He.glo_ok D.kin D.ns (D.ft 15)
theorem Wd.g__law_right : mg "_law_right" = some (.ref (He.ga K "_law_right")) := He.glo_ok D.kin D.ns (D.ft 16)
theorem Wd.g__law_send : mg "_law_send" = some (.ref (He.ga K "_law_send")) := He.glo_ok D.kin D.ns (D.ft 17)
theorem Wd.g__law_shown : mg "_law_shown" = some (.ref (He.ga K "_law_shown")) := He.glo_ok D.kin D.ns (D.ft 18)
theorem Wd.g__law_told : mg "_law_told" = some (.ref (He.ga K "_law_told")) := He.glo_ok D.kin D.ns (D.ft 19)
theorem Wd.g__law_waited : mg "_law_waited" = some (.ref (He.ga K "_law_waited")) := He.glo_ok D.kin D.ns (D.ft 20)
theorem Wd.g__law_ways : mg "_law_ways" = some (.ref (He.ga K "_law_ways")) := He.glo_ok D.kin D.ns (D.ft 21)
theorem Wd.g__law_well : mg "_law_well" = some (.ref (He.ga K "_law_well")) := He.glo_ok D.kin D.ns (D.ft 22)
theorem Wd.g_check_deed : mg "check_deed" = some (.ref (He.ga K "check_deed")) := He.glo_ok D.kin D.ns (D.ft 23)
theorem Wd.g_check_line : mg "check_line" = some (.ref (He.ga K "check_line")) := He.glo_ok D.kin D.ns (D.ft 24)
theorem Wd.g_check_number : mg "check_number" = some (.ref (He.ga K "check_number")) := He.glo_ok D.kin D.ns (D.ft 25)
theorem Wd.g_check_setting : mg "check_setting" = some (.ref (He.ga K "check_setting")) := He.glo_ok D.kin D.ns (D.ft 26)
theorem Wd.g_check_side : mg "check_side" = some (.ref (He.ga K "check_side")) := He.glo_ok D.kin D.ns (D.ft 27)
theorem Wd.g_flow_behind : mg "flow_behind" = some (.ref (He.ga K "flow_behind")) := He.glo_ok D.kin D.ns (D.ft 28)
theorem Wd.g_is_between : mg "is_between" = some (.ref (He.ga K "is_between")) := He.glo_ok D.kin D.ns (D.ft 29)
theorem Wd.g_is_integer : mg "is_integer" = some (.ref (He.ga K "is_integer")) := He.glo_ok D.kin D.ns (D.ft 30)
theorem Wd.g_law : mg "law" = some (.ref (He.ga K "law")) := He.glo_ok D.kin D.ns (D.ft 31)
theorem Wd.g_pass_ticks : mg "pass_ticks" = some (.ref (He.ga K "pass_ticks")) := He.glo_ok D.kin D.ns (D.ft 32)
theorem Wd.u_abs : mg "abs" = none := He.free_ok D.kin D.ns (D.ft 33)
theorem Wd.u_all : mg "all" = none := He.free_ok D.kin D.ns (D.ft 34)
theorem Wd.u_bool : mg "bool" = none := He.free_ok D.kin D.ns (D.ft 35)
theorem Wd.u_divmod : mg "divmod" = none := He.free_ok D.kin D.ns (D.ft 36)
theorem Wd.u_int : mg "int" = none := He.free_ok D.kin D.ns (D.ft 37)
theorem Wd.u_isinstance : mg "isinstance" = none := He.free_ok D.kin D.ns (D.ft 38)
theorem Wd.u_len : mg "len" = none := He.free_ok D.kin D.ns (D.ft 39)
theorem Wd.u_list : mg "list" = none := He.free_ok D.kin D.ns (D.ft 40)
theorem Wd.u_max : mg "max" = none := He.free_ok D.kin D.ns (D.ft 41)
theorem Wd.u_min : mg "min" = none := He.free_ok D.kin D.ns (D.ft 42)
theorem Wd.u_range : mg "range" = none := He.free_ok D.kin D.ns (D.ft 43)
theorem Wd.u_repr : mg "repr" = none := He.free_ok D.kin D.ns (D.ft 44)
theorem Wd.u_sorted : mg "sorted" = none := He.free_ok D.kin D.ns (D.ft 45)
theorem Wd.u_str : mg "str" = none := He.free_ok D.kin D.ns (D.ft 46)
theorem Wd.u_sum : mg "sum" = none := He.free_ok D.kin D.ns (D.ft 47)
theorem Wd.u_tuple : mg "tuple" = none := He.free_ok D.kin D.ns (D.ft 48)
theorem Wd.i_MOST_BYTES : ∃ t, mg "MOST_BYTES" = some (.int 60 t) := He.int_ok D.kin D.ns (D.ft 49)
theorem Wd.i_MOST_DEEDS : ∃ t, mg "MOST_DEEDS" = some (.int 60 t) := He.int_ok D.kin D.ns (D.ft 50)
theorem Wd.i_MOST_DELAY : ∃ t, mg "MOST_DELAY" = some (.int 200 t) := He.int_ok D.kin D.ns (D.ft 51)
theorem Wd.i_MOST_EVERY : ∃ t, mg "MOST_EVERY" = some (.int 4 t) := He.int_ok D.kin D.ns (D.ft 52)
theorem Wd.i_MOST_SIZE : ∃ t, mg "MOST_SIZE" = some (.int 40 t) := He.int_ok D.kin D.ns (D.ft 53)
theorem Wd.i_MOST_WAY : ∃ t, mg "MOST_WAY" = some (.int 200 t) := He.int_ok D.kin D.ns (D.ft 54)
theorem Wd.c_Flow : Cls K (He.ga K "Flow") := He.cls_ok (D.ft 55)
theorem Wd.c_Line : Cls K (He.ga K "Line") := He.cls_ok (D.ft 56)
theorem Wd.c_Moment : Cls K (He.ga K "Moment") := He.cls_ok (D.ft 57)
theorem Wd.c_Session : Cls K (He.ga K "Session") := He.cls_ok (D.ft 58)
theorem Wd.c_Setting : Cls K (He.ga K "Setting") := He.cls_ok (D.ft 59)
theorem Wd.n_Session_bool : PySem.W.findIn K (.ref (He.ga K "Session")) "__bool__" = some none := He.eqO_ok (D.ft (f := .noat "Session" "__bool__") 101)
theorem Wd.m_Flow_begin : Meth K (He.ga K "Flow") "begin" (He.fAd K ("Flow", some "begin")) := He.meth_ok (D.ft 102)
theorem Wd.m_Flow_copied : Meth K (He.ga K "Flow") "copied" (He.fAd K ("Flow", some "copied")) := He.meth_ok (D.ft 103)
theorem Wd.m_Flow_fresh : Meth K (He.ga K "Flow") "fresh" (He.fAd K ("Flow", some "fresh")) := He.meth_ok (D.ft 104)
theorem Wd.m_Flow_is_due : Meth K (He.ga K "Flow") "is_due" (He.fAd K ("Flow", some "is_due")) := He.meth_ok (D.ft 105)
theorem Wd.m_Flow_kept : Meth K (He.ga K "Flow") "kept" (He.fAd K ("Flow", some "kept")) := He.meth_ok (D.ft 106)
theorem Wd.m_Flow_land : Meth K (He.ga K "Flow") "land" (He.fAd K ("Flow", some "land")) := He.meth_ok (D.ft 107)
theorem Wd.m_Flow_leave : Meth K (He.ga K "Flow") "leave" (He.fAd K ("Flow", some "leave")) := He.meth_ok (D.ft 108)
theorem Wd.m_Flow_let_go : Meth K (He.ga K "Flow") "let_go" (He.fAd K ("Flow", some "let_go")) := He.meth_ok (D.ft 109)
theorem Wd.m_Flow_lets : Meth K (He.ga K "Flow") "lets" (He.fAd K ("Flow", some "lets")) := He.meth_ok (D.ft 110)
theorem Wd.m_Flow_next_tick : Meth K (He.ga K "Flow") "next_tick" (He.fAd K ("Flow", some "next_tick")) := He.meth_ok (D.ft 111)
theorem Wd.m_Flow_put : Meth K (He.ga K "Flow") "put" (He.fAd K ("Flow", some "put")) := He.meth_ok (D.ft 112)
theorem Wd.m_Flow_send : Meth K (He.ga K "Flow") "send" (He.fAd K ("Flow", some "send")) := He.meth_ok (D.ft 113)
theorem Wd.m_Flow_take_out : Meth K (He.ga K "Flow") "take_out" (He.fAd K ("Flow", some "take_out")) := He.meth_ok (D.ft 114)
theorem Wd.m_Session_len : Meth K (He.ga K "Session") "__len__" (He.fAd K ("Session", some "__len__")) := He.meth_ok (D.ft 115)
theorem Wd.m_Session_repr : Meth K (He.ga K "Session") "__repr__" (He.fAd K ("Session", some "__repr__")) := He.meth_ok (D.ft 116)
theorem Wd.m_Session_check_free : Meth K (He.ga K "Session") "check_free" (He.fAd K ("Session", some "check_free")) := He.meth_ok (D.ft 117)
theorem Wd.m_Session_do_deed : Meth K (He.ga K "Session") "do_deed" (He.fAd K ("Session", some "do_deed")) := He.meth_ok (D.ft 118)
theorem Wd.m_Session_read : Meth K (He.ga K "Session") "read" (He.fAd K ("Session", some "read")) := He.meth_ok (D.ft 119)
theorem Wd.m_Session_show : Meth K (He.ga K "Session") "show" (He.fAd K ("Session", some "show")) := He.meth_ok (D.ft 120)
theorem Wd.m_Session_wait : Meth K (He.ga K "Session") "wait" (He.fAd K ("Session", some "wait")) := He.meth_ok (D.ft 121)
theorem Wd.m_Session_write : Meth K (He.ga K "Session") "write" (He.fAd K ("Session", some "write")) := He.meth_ok (D.ft 122)
theorem Wd.mk_Flow : Mk K (He.ga K "Flow") (He.fAd K ("Flow", some "__init__")) := He.mkr_ok (D.ft 123)
theorem Wd.mk_Line : Mk K (He.ga K "Line") (He.fAd K ("Line", some "__init__")) := He.mkr_ok (D.ft 124)
theorem Wd.mk_Session : Mk K (He.ga K "Session") (He.fAd K ("Session", some "__init__")) := He.mkr_ok (D.ft 125)
theorem Wd.mk_Setting : Mk K (He.ga K "Setting") (He.fAd K ("Setting", some "__init__")) := He.mkr_ok (D.ft 126)
theorem Wd.f_busy : ∀ C ∈ cs_busy, CF K C "busy" := by
  intro C hC
  simp only [cs_busy, List.mem_cons, List.not_mem_nil, or_false] at hC
  rcases hC with rfl
  · exact ⟨D.c_Session, He.noat_ok (D.ft 60)⟩
theorem Wd.f_come : ∀ C ∈ cs_come, CF K C "come" := by
  intro C hC
  simp only [cs_come, List.mem_cons, List.not_mem_nil, or_false] at hC
  rcases hC with rfl
  · exact ⟨D.c_Flow, He.noat_ok (D.ft 61)⟩
theorem Wd.f_delay : ∀ C ∈ cs_delay, CF K C "delay" := by
  intro C hC
  simp only [cs_delay, List.mem_cons, List.not_mem_nil, or_false] at hC
  rcases hC with rfl
  · exact ⟨D.c_Setting, He.noat_ok (D.ft 62)⟩
theorem Wd.f_every : ∀ C ∈ cs_every, CF K C "every" := by
  intro C hC
  simp only [cs_every, List.mem_cons, List.not_mem_nil, or_false] at hC
  rcases hC with rfl
  · exact ⟨D.c_Setting, He.noat_ok (D.ft 63)⟩
theorem Wd.f_far : ∀ C ∈ cs_far, CF K C "far" := by
  intro C hC
  simp only [cs_far, List.mem_cons, List.not_mem_nil, or_false] at hC
  rcases hC with rfl
  · exact ⟨D.c_Line, He.noat_ok (D.ft 64)⟩
theorem Wd.f_first : ∀ C ∈ cs_first, CF K C "first" := by
  intro C hC
  simp only [cs_first, List.mem_cons, List.not_mem_nil, or_false] at hC
  rcases hC with rfl
  · exact ⟨D.c_Flow, He.noat_ok (D.ft 65)⟩
theorem Wd.f_flight : ∀ C ∈ cs_flight, CF K C "flight" := by
  intro C hC
  simp only [cs_flight, List.mem_cons, List.not_mem_nil, or_false] at hC
  rcases hC with rfl
  · exact ⟨D.c_Flow, He.noat_ok (D.ft 66)⟩
theorem Wd.f_flow : ∀ C ∈ cs_flow, CF K C "flow" := by
  intro C hC
  simp only [cs_flow, List.mem_cons, List.not_mem_nil, or_false] at hC
  rcases hC with rfl | rfl
  · exact ⟨D.c_Moment, He.noat_ok (D.ft 67)⟩
  · exact ⟨D.c_Session, He.noat_ok (D.ft 68)⟩
theorem Wd.f_full : ∀ C ∈ cs_full, CF K C "full" := by
  intro C hC
  simp only [cs_full, List.mem_cons, List.not_mem_nil, or_false] at hC
  rcases hC with rfl
  · exact ⟨D.c_Flow, He.noat_ok (D.ft 69)⟩
theorem Wd.f_holding : ∀ C ∈ cs_holding, CF K C "holding" := by
  intro C hC
  simp only [cs_holding, List.mem_cons, List.not_mem_nil, or_false] at hC
  rcases hC with rfl | rfl
  · exact ⟨D.c_Moment, He.noat_ok (D.ft 70)⟩
  · exact ⟨D.c_Session, He.noat_ok (D.ft 71)⟩
theorem Wd.f_known : ∀ C ∈ cs_known, CF K C "known" := by
  intro C hC
  simp only [cs_known, List.mem_cons, List.not_mem_nil, or_false] at hC
  rcases hC with rfl
  · exact ⟨D.c_Flow, He.noat_ok (D.ft 72)⟩
theorem Wd.f_line : ∀ C ∈ cs_line, CF K C "line" := by
  intro C hC
  simp only [cs_line, List.mem_cons, List.not_mem_nil, or_false] at hC
  rcases hC with rfl | rfl
  · exact ⟨D.c_Flow, He.noat_ok (D.ft 73)⟩
  · exact ⟨D.c_Session, He.noat_ok (D.ft 74)⟩
theorem Wd.f_log : ∀ C ∈ cs_log, CF K C "log" := by
  intro C hC
  simp only [cs_log, List.mem_cons, List.not_mem_nil, or_false] at hC
  rcases hC with rfl
  · exact ⟨D.c_Flow, He.noat_ok (D.ft 75)⟩
theorem Wd.f_long : ∀ C ∈ cs_long, CF K C "long" := by
  intro C hC
  simp only [cs_long, List.mem_cons, List.not_mem_nil, or_false] at hC
  rcases hC with rfl
  · exact ⟨D.c_Flow, He.noat_ok (D.ft 76)⟩
theorem Wd.f_near : ∀ C ∈ cs_near, CF K C "near" := by
  intro C hC
  simp only [cs_near, List.mem_cons, List.not_mem_nil, or_false] at hC
  rcases hC with rfl
  · exact ⟨D.c_Line, He.noat_ok (D.ft 77)⟩
theorem Wd.f_now : ∀ C ∈ cs_now, CF K C "now" := by
  intro C hC
  simp only [cs_now, List.mem_cons, List.not_mem_nil, or_false] at hC
  rcases hC with rfl | rfl
  · exact ⟨D.c_Moment, He.noat_ok (D.ft 78)⟩
  · exact ⟨D.c_Session, He.noat_ok (D.ft 79)⟩
theorem Wd.f_out : ∀ C ∈ cs_out, CF K C "out" := by
  intro C hC
  simp only [cs_out, List.mem_cons, List.not_mem_nil, or_false] at hC
  rcases hC with rfl
  · exact ⟨D.c_Flow, He.noat_ok (D.ft 80)⟩
theorem Wd.f_past : ∀ C ∈ cs_past, CF K C "past" := by
  intro C hC
  simp only [cs_past, List.mem_cons, List.not_mem_nil, or_false] at hC
  rcases hC with rfl | rfl
  · exact ⟨D.c_Moment, He.noat_ok (D.ft 81)⟩
  · exact ⟨D.c_Session, He.noat_ok (D.ft 82)⟩
theorem Wd.f_pieces : ∀ C ∈ cs_pieces, CF K C "pieces" := by
  intro C hC
  simp only [cs_pieces, List.mem_cons, List.not_mem_nil, or_false] at hC
  rcases hC with rfl | rfl
  · exact ⟨D.c_Moment, He.noat_ok (D.ft 83)⟩
  · exact ⟨D.c_Session, He.noat_ok (D.ft 84)⟩
theorem Wd.f_rule : ∀ C ∈ cs_rule, CF K C "rule" := by
  intro C hC
  simp only [cs_rule, List.mem_cons, List.not_mem_nil, or_false] at hC
  rcases hC with rfl
  · exact ⟨D.c_Setting, He.noat_ok (D.ft 85)⟩
theorem Wd.f_settings : ∀ C ∈ cs_settings, CF K C "settings" := by
  intro C hC
  simp only [cs_settings, List.mem_cons, List.not_mem_nil, or_false] at hC
  rcases hC with rfl
  · exact ⟨D.c_Flow, He.noat_ok (D.ft 86)⟩
theorem Wd.f_size : ∀ C ∈ cs_size, CF K C "size" := by
  intro C hC
  simp only [cs_size, List.mem_cons, List.not_mem_nil, or_false] at hC
  rcases hC with rfl
  · exact ⟨D.c_Line, He.noat_ok (D.ft 87)⟩
theorem Wd.f_small : ∀ C ∈ cs_small, CF K C "small" := by
  intro C hC
  simp only [cs_small, List.mem_cons, List.not_mem_nil, or_false] at hC
  rcases hC with rfl
  · exact ⟨D.c_Flow, He.noat_ok (D.ft 88)⟩
theorem Wd.f_stock : ∀ C ∈ cs_stock, CF K C "stock" := by
  intro C hC
  simp only [cs_stock, List.mem_cons, List.not_mem_nil, or_false] at hC
  rcases hC with rfl
  · exact ⟨D.c_Flow, He.noat_ok (D.ft 89)⟩
theorem Wd.f_taken : ∀ C ∈ cs_taken, CF K C "taken" := by
  intro C hC
  simp only [cs_taken, List.mem_cons, List.not_mem_nil, or_false] at hC
  rcases hC with rfl
  · exact ⟨D.c_Flow, He.noat_ok (D.ft 90)⟩
theorem Wd.f_tick : ∀ C ∈ cs_tick, CF K C "tick" := by
  intro C hC
  simp only [cs_tick, List.mem_cons, List.not_mem_nil, or_false] at hC
  rcases hC with rfl
  · exact ⟨D.c_Flow, He.noat_ok (D.ft 91)⟩
theorem Wd.f_told : ∀ C ∈ cs_told, CF K C "told" := by
  intro C hC
  simp only [cs_told, List.mem_cons, List.not_mem_nil, or_false] at hC
  rcases hC with rfl | rfl
  · exact ⟨D.c_Setting, He.noat_ok (D.ft 92)⟩
  · exact ⟨D.c_Line, He.noat_ok (D.ft 93)⟩
theorem Wd.f_unanswered : ∀ C ∈ cs_unanswered, CF K C "unanswered" := by
  intro C hC
  simp only [cs_unanswered, List.mem_cons, List.not_mem_nil, or_false] at hC
  rcases hC with rfl | rfl
  · exact ⟨D.c_Moment, He.noat_ok (D.ft 94)⟩
  · exact ⟨D.c_Session, He.noat_ok (D.ft 95)⟩
theorem Wd.f_under_way : ∀ C ∈ cs_under_way, CF K C "under_way" := by
  intro C hC
  simp only [cs_under_way, List.mem_cons, List.not_mem_nil, or_false] at hC
  rcases hC with rfl | rfl
  · exact ⟨D.c_Moment, He.noat_ok (D.ft 96)⟩
  · exact ⟨D.c_Session, He.noat_ok (D.ft 97)⟩
theorem Wd.f_unread : ∀ C ∈ cs_unread, CF K C "unread" := by
  intro C hC
  simp only [cs_unread, List.mem_cons, List.not_mem_nil, or_false] at hC
  rcases hC with rfl | rfl
  · exact ⟨D.c_Moment, He.noat_ok (D.ft 98)⟩
  · exact ⟨D.c_Session, He.noat_ok (D.ft 99)⟩
theorem Wd.f_way : ∀ C ∈ cs_way, CF K C "way" := by
  intro C hC
  simp only [cs_way, List.mem_cons, List.not_mem_nil, or_false] at hC
  rcases hC with rfl
  · exact ⟨D.c_Line, He.noat_ok (D.ft 100)⟩
theorem Wd.tabsOk : tabsOk K = true := (He.ba D.c.more).1
theorem Wd.is_Line : is_Line.all (isB K (.cl "Line")) = true := (He.ba (He.ba D.c.more).2).1
theorem Wd.is_Setting : is_Setting.all (isB K (.cl "Setting")) = true := (He.ba (He.ba (He.ba D.c.more).2).2).1
theorem Wd.is_bool : is_bool.all (isB K (.bt "bool")) = true := (He.ba (He.ba (He.ba (He.ba D.c.more).2).2).2).1
theorem Wd.is_int : is_int.all (isB K (.bt "int")) = true := (He.ba (He.ba (He.ba (He.ba (He.ba D.c.more).2).2).2).2).1
theorem Wd.is_str : is_str.all (isB K (.bt "str")) = true := (He.ba (He.ba (He.ba (He.ba (He.ba (He.ba D.c.more).2).2).2).2).2).1
theorem Wd.t_RULES : ∀ H, SqT K H (He.ga K "RULES") [.str "plain", .str "hold", .str "few"] := fun H => He.tupB_ok (He.ba (He.ba (He.ba (He.ba (He.ba (He.ba D.c.more).2).2).2).2).2).2 H
omit D in
theorem Wd.r_RULES0 : ∀ ι H, RelDs K ι H [.str "plain", .str "hold", .str "few"] [.str "plain", .str "hold", .str "few"] := fun ι H => ⟨_, _, rfl, rfl, ⟨_, _, rfl, rfl, ⟨_, _, rfl, rfl, rfl⟩⟩⟩
theorem Wd.r_RULES : ∀ ι H, RelDs K ι H [.str "plain", .str "hold", .str "few"] [.str "plain", .str "hold", .str "few"] := Wd.r_RULES0
theorem Wd.fd_law_draw : ∃ fd, FunD K "_law_draw" "_law_draw" (defArgs (top 44)) (defBody (top 44)) (defScope (top 44)) [] [] (He.fAd K ("_law_draw", none)) fd := D.c.t.d.def_ 0 (d := d_law_draw) rfl
theorem Wd.k_law_draw : PySem.W.keepIn K (.ref (He.fAd K ("_law_draw", none))) = true := let ⟨_, F⟩ := D.fd_law_draw; F.kp
theorem Wd.fd_law_one_of : ∃ fd, FunD K "_law_one_of" "_law_one_of" (defArgs (top 45)) (defBody (top 45)) (defScope (top 45)) [] [] (He.fAd K ("_law_one_of", none)) fd := D.c.t.d.def_ 1 (d := d_law_one_of) rfl
theorem Wd.k_law_one_of : PySem.W.keepIn K (.ref (He.fAd K ("_law_one_of", none))) = true := let ⟨_, F⟩ := D.fd_law_one_of; F.kp
theorem Wd.fd_law_ways : ∃ fd, FunD K "_law_ways" "_law_ways" (defArgs (top 46)) (defBody (top 46)) (defScope (top 46)) [] [] (He.fAd K ("_law_ways", none)) fd := D.c.t.d.def_ 2 (d := d_law_ways) rfl
theorem Wd.k_law_ways : PySem.W.keepIn K (.ref (He.fAd K ("_law_ways", none))) = true := let ⟨_, F⟩ := D.fd_law_ways; F.kp
theorem Wd.fd_law_told : ∃ fd, FunD K "_law_told" "_law_told" (defArgs (top 47)) (defBody (top 47)) (defScope (top 47)) [] [] (He.fAd K ("_law_told", none)) fd := D.c.t.d.def_ 3 (d := d_law_told) rfl
theorem Wd.k_law_told : PySem.W.keepIn K (.ref (He.fAd K ("_law_told", none))) = true := let ⟨_, F⟩ := D.fd_law_told; F.kp
theorem Wd.fd_law_new : ∃ fd, FunD K "_law_new" "_law_new" (defArgs (top 49)) (defBody (top 49)) (defScope (top 49)) [] [] (He.fAd K ("_law_new", none)) fd := D.c.t.d.def_ 4 (d := d_law_new) rfl
theorem Wd.k_law_new : PySem.W.keepIn K (.ref (He.fAd K ("_law_new", none))) = true := let ⟨_, F⟩ := D.fd_law_new; F.kp
theorem Wd.fd_is_integer : ∃ fd, FunD K "is_integer" "is_integer" (defArgs (top 22)) (defBody (top 22)) (defScope (top 22)) [] [] (He.fAd K ("is_integer", none)) fd := D.c.t.d.def_ 5 (d := d_is_integer) rfl
theorem Wd.k_is_integer : PySem.W.keepIn K (.ref (He.fAd K ("is_integer", none))) = true := let ⟨_, F⟩ := D.fd_is_integer; F.kp
theorem Wd.fd_is_between : ∃ fd, FunD K "is_between" "is_between" (defArgs (top 23)) (defBody (top 23)) (defScope (top 23)) [] [] (He.fAd K ("is_between", none)) fd := D.c.t.d.def_ 6 (d := d_is_between) rfl
theorem Wd.k_is_between : PySem.W.keepIn K (.ref (He.fAd K ("is_between", none))) = true := let ⟨_, F⟩ := D.fd_is_between; F.kp
theorem Wd.fd_check_number : ∃ fd, FunD K "check_number" "check_number" (defArgs (top 24)) (defBody (top 24)) (defScope (top 24)) [] [] (He.fAd K ("check_number", none)) fd := D.c.t.d.def_ 7 (d := d_check_number) rfl
theorem Wd.k_check_number : PySem.W.keepIn K (.ref (He.fAd K ("check_number", none))) = true := let ⟨_, F⟩ := D.fd_check_number; F.kp
theorem Wd.fd_check_setting : ∃ fd, FunD K "check_setting" "check_setting" (defArgs (top 26)) (defBody (top 26)) (defScope (top 26)) [] [] (He.fAd K ("check_setting", none)) fd := D.c.t.d.def_ 8 (d := d_check_setting) rfl
theorem Wd.k_check_setting : PySem.W.keepIn K (.ref (He.fAd K ("check_setting", none))) = true := let ⟨_, F⟩ := D.fd_check_setting; F.kp
theorem Wd.fd_Line_init : ∃ fd, FunD K "__init__" "Line.__init__" (defArgs (inClass (top 27) 0)) (defBody (inClass (top 27) 0)) (defScope (inClass (top 27) 0)) [] [] (He.fAd K ("Line", some "__init__")) fd := D.c.t.d.def_ 9 (d := d_Line_init) rfl
theorem Wd.k_Line_init : PySem.W.keepIn K (.ref (He.fAd K ("Line", some "__init__"))) = true := let ⟨_, F⟩ := D.fd_Line_init; F.kp
theorem Wd.fd_Setting_init : ∃ fd, FunD K "__init__" "Setting.__init__" (defArgs (inClass (top 25) 0)) (defBody (inClass (top 25) 0)) (defScope (inClass (top 25) 0)) [] [] (He.fAd K ("Setting", some "__init__")) fd := D.c.t.d.def_ 10 (d := d_Setting_init) rfl
theorem Wd.k_Setting_init : PySem.W.keepIn K (.ref (He.fAd K ("Setting", some "__init__"))) = true := let ⟨_, F⟩ := D.fd_Setting_init; F.kp
theorem Wd.fd_law_made : ∃ fd, FunD K "_law_made" "_law_made" (defArgs (top 48)) (defBody (top 48)) (defScope (top 48)) [] [] (He.fAd K ("_law_made", none)) fd := D.c.t.d.def_ 11 (d := d_law_made) rfl
theorem Wd.k_law_made : PySem.W.keepIn K (.ref (He.fAd K ("_law_made", none))) = true := let ⟨_, F⟩ := D.fd_law_made; F.kp
theorem Wd.fd_check_line : ∃ fd, FunD K "check_line" "check_line" (defArgs (top 28)) (defBody (top 28)) (defScope (top 28)) [] [] (He.fAd K ("check_line", none)) fd := D.c.t.d.def_ 12 (d := d_check_line) rfl
theorem Wd.k_check_line : PySem.W.keepIn K (.ref (He.fAd K ("check_line", none))) = true := let ⟨_, F⟩ := D.fd_check_line; F.kp
theorem Wd.fd_Flow_kept : ∃ fd, FunD K "kept" "Flow.kept" (defArgs (inClass (top 38) 1)) (defBody (inClass (top 38) 1)) (defScope (inClass (top 38) 1)) [] [] (He.fAd K ("Flow", some "kept")) fd := D.c.t.d.def_ 13 (d := d_Flow_kept) rfl
theorem Wd.k_Flow_kept : PySem.W.keepIn K (.ref (He.fAd K ("Flow", some "kept"))) = true := let ⟨_, F⟩ := D.fd_Flow_kept; F.kp
theorem Wd.fd_Flow_fresh : ∃ fd, FunD K "fresh" "Flow.fresh" (defArgs (inClass (top 38) 2)) (defBody (inClass (top 38) 2)) (defScope (inClass (top 38) 2)) [] [] (He.fAd K ("Flow", some "fresh")) fd := D.c.t.d.def_ 14 (d := d_Flow_fresh) rfl
theorem Wd.k_Flow_fresh : PySem.W.keepIn K (.ref (He.fAd K ("Flow", some "fresh"))) = true := let ⟨_, F⟩ := D.fd_Flow_fresh; F.kp
theorem Wd.fd_Session_show : ∃ fd, FunD K "show" "Session.show" (defArgs (inClass (top 41) 1)) (defBody (inClass (top 41) 1)) (defScope (inClass (top 41) 1)) [] [] (He.fAd K ("Session", some "show")) fd := D.c.t.d.def_ 15 (d := d_Session_show) rfl
theorem Wd.k_Session_show : PySem.W.keepIn K (.ref (He.fAd K ("Session", some "show"))) = true := let ⟨_, F⟩ := D.fd_Session_show; F.kp
theorem Wd.fd_Flow_init : ∃ fd, FunD K "__init__" "Flow.__init__" (defArgs (inClass (top 38) 0)) (defBody (inClass (top 38) 0)) (defScope (inClass (top 38) 0)) [] [] (He.fAd K ("Flow", some "__init__")) fd := D.c.t.d.def_ 16 (d := d_Flow_init) rfl
theorem Wd.k_Flow_init : PySem.W.keepIn K (.ref (He.fAd K ("Flow", some "__init__"))) = true := let ⟨_, F⟩ := D.fd_Flow_init; F.kp
theorem Wd.fd_Session_init : ∃ fd, FunD K "__init__" "Session.__init__" (defArgs (inClass (top 41) 0)) (defBody (inClass (top 41) 0)) (defScope (inClass (top 41) 0)) [] [] (He.fAd K ("Session", some "__init__")) fd := D.c.t.d.def_ 17 (d := d_Session_init) rfl
theorem Wd.k_Session_init : PySem.W.keepIn K (.ref (He.fAd K ("Session", some "__init__"))) = true := let ⟨_, F⟩ := D.fd_Session_init; F.kp
theorem Wd.fd_law_job : ∃ fd, FunD K "_law_job" "_law_job" (defArgs (top 58)) (defBody (top 58)) (defScope (top 58)) [] [] (He.fAd K ("_law_job", none)) fd := D.c.t.d.def_ 18 (d := d_law_job) rfl
theorem Wd.k_law_job : PySem.W.keepIn K (.ref (He.fAd K ("_law_job", none))) = true := let ⟨_, F⟩ := D.fd_law_job; F.kp
theorem Wd.fd_law_send : ∃ fd, FunD K "_law_send" "_law_send" (defArgs (top 50)) (defBody (top 50)) (defScope (top 50)) [] [] (He.fAd K ("_law_send", none)) fd := D.c.t.d.def_ 19 (d := d_law_send) rfl
theorem Wd.k_law_send : PySem.W.keepIn K (.ref (He.fAd K ("_law_send", none))) = true := let ⟨_, F⟩ := D.fd_law_send; F.kp
theorem Wd.fd_law_leave : ∃ fd, FunD K "_law_leave" "_law_leave" (defArgs (top 53)) (defBody (top 53)) (defScope (top 53)) [] [] (He.fAd K ("_law_leave", none)) fd := D.c.t.d.def_ 20 (d := d_law_leave) rfl
theorem Wd.k_law_leave : PySem.W.keepIn K (.ref (He.fAd K ("_law_leave", none))) = true := let ⟨_, F⟩ := D.fd_law_leave; F.kp
theorem Wd.fd_law_land : ∃ fd, FunD K "_law_land" "_law_land" (defArgs (top 52)) (defBody (top 52)) (defScope (top 52)) [] [] (He.fAd K ("_law_land", none)) fd := D.c.t.d.def_ 21 (d := d_law_land) rfl
theorem Wd.k_law_land : PySem.W.keepIn K (.ref (He.fAd K ("_law_land", none))) = true := let ⟨_, F⟩ := D.fd_law_land; F.kp
theorem Wd.fd_law_free : ∃ fd, FunD K "_law_free" "_law_free" (defArgs (top 51)) (defBody (top 51)) (defScope (top 51)) [] [] (He.fAd K ("_law_free", none)) fd := D.c.t.d.def_ 22 (d := d_law_free) rfl
theorem Wd.k_law_free : PySem.W.keepIn K (.ref (He.fAd K ("_law_free", none))) = true := let ⟨_, F⟩ := D.fd_law_free; F.kp
theorem Wd.fd_law_waited : ∃ fd, FunD K "_law_waited" "_law_waited" (defArgs (top 54)) (defBody (top 54)) (defScope (top 54)) [] [] (He.fAd K ("_law_waited", none)) fd := D.c.t.d.def_ 23 (d := d_law_waited) rfl
theorem Wd.k_law_waited : PySem.W.keepIn K (.ref (He.fAd K ("_law_waited", none))) = true := let ⟨_, F⟩ := D.fd_law_waited; F.kp
theorem Wd.fd_law_done : ∃ fd, FunD K "_law_done" "_law_done" (defArgs (top 55)) (defBody (top 55)) (defScope (top 55)) [] [] (He.fAd K ("_law_done", none)) fd := D.c.t.d.def_ 24 (d := d_law_done) rfl
theorem Wd.k_law_done : PySem.W.keepIn K (.ref (He.fAd K ("_law_done", none))) = true := let ⟨_, F⟩ := D.fd_law_done; F.kp
theorem Wd.fd_Session_check_free : ∃ fd, FunD K "check_free" "Session.check_free" (defArgs (inClass (top 41) 2)) (defBody (inClass (top 41) 2)) (defScope (inClass (top 41) 2)) [] [] (He.fAd K ("Session", some "check_free")) fd := D.c.t.d.def_ 25 (d := d_Session_check_free) rfl
theorem Wd.k_Session_check_free : PySem.W.keepIn K (.ref (He.fAd K ("Session", some "check_free"))) = true := let ⟨_, F⟩ := D.fd_Session_check_free; F.kp
theorem Wd.fd_check_side : ∃ fd, FunD K "check_side" "check_side" (defArgs (top 31)) (defBody (top 31)) (defScope (top 31)) [] [] (He.fAd K ("check_side", none)) fd := D.c.t.d.def_ 26 (d := d_check_side) rfl
theorem Wd.k_check_side : PySem.W.keepIn K (.ref (He.fAd K ("check_side", none))) = true := let ⟨_, F⟩ := D.fd_check_side; F.kp
theorem Wd.fd_check_deed : ∃ fd, FunD K "check_deed" "check_deed" (defArgs (top 34)) (defBody (top 34)) (defScope (top 34)) [] [] (He.fAd K ("check_deed", none)) fd := D.c.t.d.def_ 27 (d := d_check_deed) rfl
theorem Wd.k_check_deed : PySem.W.keepIn K (.ref (He.fAd K ("check_deed", none))) = true := let ⟨_, F⟩ := D.fd_check_deed; F.kp
theorem Wd.fd_Flow_copied : ∃ fd, FunD K "copied" "Flow.copied" (defArgs (inClass (top 38) 13)) (defBody (inClass (top 38) 13)) (defScope (inClass (top 38) 13)) [] [] (He.fAd K ("Flow", some "copied")) fd := D.c.t.d.def_ 28 (d := d_Flow_copied) rfl
theorem Wd.k_Flow_copied : PySem.W.keepIn K (.ref (He.fAd K ("Flow", some "copied"))) = true := let ⟨_, F⟩ := D.fd_Flow_copied; F.kp
theorem Wd.fd_Flow_take_out : ∃ fd, FunD K "take_out" "Flow.take_out" (defArgs (inClass (top 38) 3)) (defBody (inClass (top 38) 3)) (defScope (inClass (top 38) 3)) [] [] (He.fAd K ("Flow", some "take_out")) fd := D.c.t.d.def_ 29 (d := d_Flow_take_out) rfl
theorem Wd.k_Flow_take_out : PySem.W.keepIn K (.ref (He.fAd K ("Flow", some "take_out"))) = true := let ⟨_, F⟩ := D.fd_Flow_take_out; F.kp
theorem Wd.fd_Flow_send : ∃ fd, FunD K "send" "Flow.send" (defArgs (inClass (top 38) 4)) (defBody (inClass (top 38) 4)) (defScope (inClass (top 38) 4)) [] [] (He.fAd K ("Flow", some "send")) fd := D.c.t.d.def_ 30 (d := d_Flow_send) rfl
theorem Wd.k_Flow_send : PySem.W.keepIn K (.ref (He.fAd K ("Flow", some "send"))) = true := let ⟨_, F⟩ := D.fd_Flow_send; F.kp
theorem Wd.fd_Flow_lets : ∃ fd, FunD K "lets" "Flow.lets" (defArgs (inClass (top 38) 5)) (defBody (inClass (top 38) 5)) (defScope (inClass (top 38) 5)) [] [] (He.fAd K ("Flow", some "lets")) fd := D.c.t.d.def_ 31 (d := d_Flow_lets) rfl
theorem Wd.k_Flow_lets : PySem.W.keepIn K (.ref (He.fAd K ("Flow", some "lets"))) = true := let ⟨_, F⟩ := D.fd_Flow_lets; F.kp
theorem Wd.fd_Flow_let_go : ∃ fd, FunD K "let_go" "Flow.let_go" (defArgs (inClass (top 38) 6)) (defBody (inClass (top 38) 6)) (defScope (inClass (top 38) 6)) [] [] (He.fAd K ("Flow", some "let_go")) fd := D.c.t.d.def_ 32 (d := d_Flow_let_go) rfl
theorem Wd.k_Flow_let_go : PySem.W.keepIn K (.ref (He.fAd K ("Flow", some "let_go"))) = true := let ⟨_, F⟩ := D.fd_Flow_let_go; F.kp
theorem Wd.fd_Flow_put : ∃ fd, FunD K "put" "Flow.put" (defArgs (inClass (top 38) 7)) (defBody (inClass (top 38) 7)) (defScope (inClass (top 38) 7)) [] [] (He.fAd K ("Flow", some "put")) fd := D.c.t.d.def_ 33 (d := d_Flow_put) rfl
theorem Wd.k_Flow_put : PySem.W.keepIn K (.ref (He.fAd K ("Flow", some "put"))) = true := let ⟨_, F⟩ := D.fd_Flow_put; F.kp
theorem Wd.fd_Flow_is_due : ∃ fd, FunD K "is_due" "Flow.is_due" (defArgs (inClass (top 38) 10)) (defBody (inClass (top 38) 10)) (defScope (inClass (top 38) 10)) [] [] (He.fAd K ("Flow", some "is_due")) fd := D.c.t.d.def_ 34 (d := d_Flow_is_due) rfl
theorem Wd.k_Flow_is_due : PySem.W.keepIn K (.ref (He.fAd K ("Flow", some "is_due"))) = true := let ⟨_, F⟩ := D.fd_Flow_is_due; F.kp
theorem Wd.fd_Flow_leave : ∃ fd, FunD K "leave" "Flow.leave" (defArgs (inClass (top 38) 11)) (defBody (inClass (top 38) 11)) (defScope (inClass (top 38) 11)) [] [] (He.fAd K ("Flow", some "leave")) fd := D.c.t.d.def_ 35 (d := d_Flow_leave) rfl
theorem Wd.k_Flow_leave : PySem.W.keepIn K (.ref (He.fAd K ("Flow", some "leave"))) = true := let ⟨_, F⟩ := D.fd_Flow_leave; F.kp
theorem Wd.fd_Flow_next_tick : ∃ fd, FunD K "next_tick" "Flow.next_tick" (defArgs (inClass (top 38) 12)) (defBody (inClass (top 38) 12)) (defScope (inClass (top 38) 12)) [] [] (He.fAd K ("Flow", some "next_tick")) fd := D.c.t.d.def_ 36 (d := d_Flow_next_tick) rfl
theorem Wd.k_Flow_next_tick : PySem.W.keepIn K (.ref (He.fAd K ("Flow", some "next_tick"))) = true := let ⟨_, F⟩ := D.fd_Flow_next_tick; F.kp
theorem Wd.fd_Flow_land : ∃ fd, FunD K "land" "Flow.land" (defArgs (inClass (top 38) 8)) (defBody (inClass (top 38) 8)) (defScope (inClass (top 38) 8)) [] [] (He.fAd K ("Flow", some "land")) fd := D.c.t.d.def_ 37 (d := d_Flow_land) rfl
theorem Wd.k_Flow_land : PySem.W.keepIn K (.ref (He.fAd K ("Flow", some "land"))) = true := let ⟨_, F⟩ := D.fd_Flow_land; F.kp
theorem Wd.fd_Flow_begin : ∃ fd, FunD K "begin" "Flow.begin" (defArgs (inClass (top 38) 9)) (defBody (inClass (top 38) 9)) (defScope (inClass (top 38) 9)) [] [] (He.fAd K ("Flow", some "begin")) fd := D.c.t.d.def_ 38 (d := d_Flow_begin) rfl
theorem Wd.k_Flow_begin : PySem.W.keepIn K (.ref (He.fAd K ("Flow", some "begin"))) = true := let ⟨_, F⟩ := D.fd_Flow_begin; F.kp
theorem Wd.fd_pass_ticks : ∃ fd, FunD K "pass_ticks" "pass_ticks" (defArgs (top 35)) (defBody (top 35)) (defScope (top 35)) [] [] (He.fAd K ("pass_ticks", none)) fd := D.c.t.d.def_ 39 (d := d_pass_ticks) rfl
theorem Wd.k_pass_ticks : PySem.W.keepIn K (.ref (He.fAd K ("pass_ticks", none))) = true := let ⟨_, F⟩ := D.fd_pass_ticks; F.kp
theorem Wd.fd_flow_behind : ∃ fd, FunD K "flow_behind" "flow_behind" (defArgs (top 36)) (defBody (top 36)) (defScope (top 36)) [] [] (He.fAd K ("flow_behind", none)) fd := D.c.t.d.def_ 40 (d := d_flow_behind) rfl
theorem Wd.k_flow_behind : PySem.W.keepIn K (.ref (He.fAd K ("flow_behind", none))) = true := let ⟨_, F⟩ := D.fd_flow_behind; F.kp
theorem Wd.fd_Session_do_deed : ∃ fd, FunD K "do_deed" "Session.do_deed" (defArgs (inClass (top 41) 3)) (defBody (inClass (top 41) 3)) (defScope (inClass (top 41) 3)) [] [] (He.fAd K ("Session", some "do_deed")) fd := D.c.t.d.def_ 41 (d := d_Session_do_deed) rfl
theorem Wd.k_Session_do_deed : PySem.W.keepIn K (.ref (He.fAd K ("Session", some "do_deed"))) = true := let ⟨_, F⟩ := D.fd_Session_do_deed; F.kp
theorem Wd.fd_Session_wait : ∃ fd, FunD K "wait" "Session.wait" (defArgs (inClass (top 41) 6)) (defBody (inClass (top 41) 6)) (defScope (inClass (top 41) 6)) [] [] (He.fAd K ("Session", some "wait")) fd := D.c.t.d.def_ 42 (d := d_Session_wait) rfl
theorem Wd.k_Session_wait : PySem.W.keepIn K (.ref (He.fAd K ("Session", some "wait"))) = true := let ⟨_, F⟩ := D.fd_Session_wait; F.kp
theorem Wd.fd_Session_write : ∃ fd, FunD K "write" "Session.write" (defArgs (inClass (top 41) 4)) (defBody (inClass (top 41) 4)) (defScope (inClass (top 41) 4)) [] [] (He.fAd K ("Session", some "write")) fd := D.c.t.d.def_ 43 (d := d_Session_write) rfl
theorem Wd.k_Session_write : PySem.W.keepIn K (.ref (He.fAd K ("Session", some "write"))) = true := let ⟨_, F⟩ := D.fd_Session_write; F.kp
theorem Wd.fd_Session_read : ∃ fd, FunD K "read" "Session.read" (defArgs (inClass (top 41) 5)) (defBody (inClass (top 41) 5)) (defScope (inClass (top 41) 5)) [] [] (He.fAd K ("Session", some "read")) fd := D.c.t.d.def_ 44 (d := d_Session_read) rfl
theorem Wd.k_Session_read : PySem.W.keepIn K (.ref (He.fAd K ("Session", some "read"))) = true := let ⟨_, F⟩ := D.fd_Session_read; F.kp
theorem Wd.fd_law_call : ∃ fd, FunD K "_law_call" "_law_call" (defArgs (top 57)) (defBody (top 57)) (defScope (top 57)) [] [] (He.fAd K ("_law_call", none)) fd := D.c.t.d.def_ 45 (d := d_law_call) rfl
theorem Wd.k_law_call : PySem.W.keepIn K (.ref (He.fAd K ("_law_call", none))) = true := let ⟨_, F⟩ := D.fd_law_call; F.kp
theorem Wd.fd_Session_len : ∃ fd, FunD K "__len__" "Session.__len__" (defArgs (inClass (top 41) 10)) (defBody (inClass (top 41) 10)) (defScope (inClass (top 41) 10)) [] [] (He.fAd K ("Session", some "__len__")) fd := D.c.t.d.def_ 46 (d := d_Session_len) rfl
theorem Wd.k_Session_len : PySem.W.keepIn K (.ref (He.fAd K ("Session", some "__len__"))) = true := let ⟨_, F⟩ := D.fd_Session_len; F.kp
theorem Wd.fd_Session_repr : ∃ fd, FunD K "__repr__" "Session.__repr__" (defArgs (inClass (top 41) 11)) (defBody (inClass (top 41) 11)) (defScope (inClass (top 41) 11)) [] [] (He.fAd K ("Session", some "__repr__")) fd := D.c.t.d.def_ 47 (d := d_Session_repr) rfl
theorem Wd.k_Session_repr : PySem.W.keepIn K (.ref (He.fAd K ("Session", some "__repr__"))) = true := let ⟨_, F⟩ := D.fd_Session_repr; F.kp
theorem Wd.fd_law_shown : ∃ fd, FunD K "_law_shown" "_law_shown" (defArgs (top 56)) (defBody (top 56)) (defScope (top 56)) [] [] (He.fAd K ("_law_shown", none)) fd := D.c.t.d.def_ 48 (d := d_law_shown) rfl
theorem Wd.k_law_shown : PySem.W.keepIn K (.ref (He.fAd K ("_law_shown", none))) = true := let ⟨_, F⟩ := D.fd_law_shown; F.kp
theorem Wd.fd_law_in_parts : ∃ fd, FunD K "_law_in_parts" "_law_in_parts" (defArgs (top 59)) (defBody (top 59)) (defScope (top 59)) [] [] (He.fAd K ("_law_in_parts", none)) fd := D.c.t.d.def_ 49 (d := d_law_in_parts) rfl
theorem Wd.k_law_in_parts : PySem.W.keepIn K (.ref (He.fAd K ("_law_in_parts", none))) = true := let ⟨_, F⟩ := D.fd_law_in_parts; F.kp
theorem Wd.fd_law_right : ∃ fd, FunD K "_law_right" "_law_right" (defArgs (top 60)) (defBody (top 60)) (defScope (top 60)) [] [] (He.fAd K ("_law_right", none)) fd := D.c.t.d.def_ 50 (d := d_law_right) rfl
theorem Wd.k_law_right : PySem.W.keepIn K (.ref (He.fAd K ("_law_right", none))) = true := let ⟨_, F⟩ := D.fd_law_right; F.kp
theorem Wd.fd_law_well : ∃ fd, FunD K "_law_well" "_law_well" (defArgs (top 43)) (defBody (top 43)) (defScope (top 43)) [] [] (He.fAd K ("_law_well", none)) fd := D.c.t.d.def_ 51 (d := d_law_well) rfl
theorem Wd.k_law_well : PySem.W.keepIn K (.ref (He.fAd K ("_law_well", none))) = true := let ⟨_, F⟩ := D.fd_law_well; F.kp
theorem Wd.fd_law : ∃ fd, FunD K "law" "law" (defArgs (top 61)) (defBody (top 61)) (defScope (top 61)) [] [] (He.fAd K ("law", none)) fd := D.c.t.d.def_ 52 (d := d_law) rfl
theorem Wd.k_law : PySem.W.keepIn K (.ref (He.fAd K ("law", none))) = true := let ⟨_, F⟩ := D.fd_law; F.kp
theorem Wd.lt_Session_show : PySem.W.codeHdIn K (He.cT K ("Session", some "show")).1 (He.cT K ("Session", some "show")).2 = true := D.c.hd _ (by simp [tf])
theorem Wd.tb_Session_show : LamX.TabB base mg (He.cT K ("Session", some "show")).1 (He.cT K ("Session", some "show")).2 := D.tb _ (by simp [tf])
end
theorem lam1_by {x : Str} {scope : Scope} (h : (decide (scope.kind = .function) && !scope.isCoroutine && !scope.isGenerator && decide (scope.names.lookup x = some .local) && scope.names.all fun y => !decide (y.2 = .cell)) = true) : Lam1 x scope := by
  simp only [Bool.and_eq_true, Bool.not_eq_true', decide_eq_true_eq, List.all_eq_true, decide_eq_false_iff_not] at h
  exact ⟨h.1.1.1.1, h.1.1.1.2, h.1.1.2, h.1.2, fun y hy => h.2 y hy⟩
end LL.K80
end

section
set_option Elab.async false
set_option linter.all false
set_option maxRecDepth 100000
namespace LL.K80
open PySem PySem.Spec PyProof.Rows L2 LL
abbrev N_law_draw : List Str := ["_law_well_here", "_law_many", "_law_digit", "_law_seed"]
def b_law_draw : LS :=
  (sSeq (sAsg (eOp oPlus (eOp oIx (eVar 0) (eC (.int 1))) (eC (.int 1))) (gSb (eVar 0) (eC (.int 1))))
  (sSeq (sIf (eTest (eOp oGt (eOp oIx (eVar 0) (eC (.int 2))) (eC (.int 0))))
  (sSeq (sAsg (eB bDivmod (eCons (eB bInt (eCons (eOp oIx (eVar 0) (eC (.int 2))) eNil)) (eCons (eVar 1) eNil))) (gTp 2 (gCs (gSb (eVar 0) (eC (.int 2))) (gCs (gNm 2) gNl))))
  (sRet (eVar 2)))
  sNil)
  (sSeq (sAsg (eB bInt (eCons (eOp oIx (eVar 0) (eC (.int 0))) eNil)) (gNm 3))
  (sSeq (sAsg (eOp oMod (eB bInt (eCons (eOp oPlus (eOp oPlus (eOp oMul (eVar 3) (eOp oPlus (eOp oMod (eB bInt (eCons (eVar 3) eNil)) (eC (.int 30011))) (eC (.int 40013)))) (eOp oMul (eC (.int 60013)) (eOp oIx (eVar 0) (eC (.int 1))))) (eC (.int 7))) eNil)) (eC (.int 2147483543))) (gSb (eVar 0) (eC (.int 0))))
  (sRet (eOp oMod (eB bInt (eCons (eOp oDiv (eOp oIx (eVar 0) (eC (.int 0))) (eC (.int 97))) eNil)) (eVar 1)))))))
abbrev N_law_one_of : List Str := ["_law_well_here", "_law_things"]
def b_law_one_of : LS :=
  (sRet (eOp oIx (eVar 1) (eCall G_law_draw 2 (eCons (eVar 0) (eCons (eB bLen (eCons (eVar 1) eNil)) eNil)))))
abbrev N_law_ways : List Str := ["_law_well_here", "_law_word"]
def b_law_ways : LS :=
  (sSeq (sAsg (eCall G_law_one_of 2 (eCons (eVar 0) (eCons (eLst (eCons (eC (.str "hold")) (eCons (eC (.str "plain")) (eCons (eC (.str "few")) (eCons (eC (.str "hold")) eNil))))) eNil))) (gNm 1))
  (sRet (eTup (eCons (eVar 1) (eCons (eOp oPlus (eC (.int 1)) (eCall G_law_draw 2 (eCons (eVar 0) (eCons (eC (.int 4)) eNil)))) (eCons (eCall G_law_one_of 2 (eCons (eVar 0) (eCons (eLst (eCons (eC (.int 0)) (eCons (eC (.int 1)) (eCons (eC (.int 2)) (eCons (eC (.int 5)) (eCons (eC (.int 12)) (eCons (eCall G_law_draw 2 (eCons (eVar 0) (eCons (eC (.int 41)) eNil))) eNil))))))) eNil))) eNil))))))
abbrev N_law_told : List Str := ["_law_well_here", "_law_big"]
def b_law_told : LS :=
  (sSeq (sAsg (eCall G_law_one_of 2 (eCons (eVar 0) (eCons (eLst (eCons (eC (.int 2)) (eCons (eC (.int 3)) (eCons (eC (.int 4)) (eCons (eC (.int 5)) (eCons (eC (.int 7)) (eCons (eC (.int 10)) (eCons (eC (.int 1)) (eCons (eOp oPlus (eC (.int 1)) (eCall G_law_draw 2 (eCons (eVar 0) (eCons (eC (.int 40)) eNil)))) eNil))))))))) eNil))) (gNm 1))
  (sRet (eTup (eCons (eVar 1) (eCons (eCall G_law_one_of 2 (eCons (eVar 0) (eCons (eLst (eCons (eC (.int 1)) (eCons (eC (.int 2)) (eCons (eC (.int 3)) (eCons (eC (.int 5)) (eCons (eOp oPlus (eC (.int 1)) (eCall G_law_draw 2 (eCons (eVar 0) (eCons (eC (.int 20)) eNil)))) eNil)))))) eNil))) (eCons (eCall G_law_ways 1 (eCons (eVar 0) eNil)) (eCons (eCall G_law_ways 1 (eCons (eVar 0) eNil)) eNil)))))))
abbrev N_law_new : List Str := ["_law_told_here"]
def b_law_new : LS :=
  (sRet (eLstM (eCons (eVar 0) (eCons (eC (.int 0)) (eCons (eLst (eCons (eLstM (eCons (eC (.int 0)) (eCons (eC (.int 0)) (eCons (eC (.int 0)) (eCons (eC (.int 0)) (eCons (eC (.int 0)) (eCons (eC (.int 0)) (eCons (eC (.int 0)) (eCons (eC .non) eNil))))))))) (eCons (eLstM (eCons (eC (.int 0)) (eCons (eC (.int 0)) (eCons (eC (.int 0)) (eCons (eC (.int 0)) (eCons (eC (.int 0)) (eCons (eC (.int 0)) (eCons (eC (.int 0)) (eCons (eC .non) eNil))))))))) eNil))) (eCons (eLstM eNil) (eCons (eLstM eNil) eNil)))))))
abbrev N_is_integer : List Str := ["value"]
def b_is_integer : LS :=
  (sRet (eAndV (eIsi is_int (eVar 0)) (eNotV (eIsi is_bool (eVar 0)))))
abbrev N_is_between : List Str := ["value", "low", "high"]
def b_is_between : LS :=
  (sRet (eAndV (eCall G_is_integer 1 (eCons (eVar 0) eNil)) (eChain oLe oLe (eVar 1) (eVar 0) (eVar 2))))
abbrev N_check_number : List Str := ["value", "low", "high"]
def b_check_number : LS :=
  (sIf (eNot (eTest (eCall G_is_between 3 (eCons (eVar 0) (eCons (eVar 1) (eCons (eVar 2) eNil))))))
  sNever
  sNil)
abbrev N_check_setting : List Str := ["value"]
def b_check_setting : LS :=
  (sIf (eNot (eTest (eIsi is_Setting (eVar 0))))
  sNever
  sNil)
abbrev N_Line_init : List Str := ["self", "size", "way", "near", "far"]
def b_Line_init : LS :=
  (sSeq (sExpr (eCall G_check_number 3 (eCons (eVar 1) (eCons (eC (.int 1)) (eCons (eC (.int 40)) eNil)))))
  (sSeq (sExpr (eCall G_check_number 3 (eCons (eVar 2) (eCons (eC (.int 1)) (eCons (eC (.int 200)) eNil)))))
  (sSeq (sExpr (eCall G_check_setting 1 (eCons (eVar 3) eNil)))
  (sSeq (sExpr (eCall G_check_setting 1 (eCons (eVar 4) eNil)))
  (sSeq (sFldA cs_size "size" (eVar 1) (eVar 0))
  (sSeq (sFldA cs_way "way" (eVar 2) (eVar 0))
  (sSeq (sFldA cs_near "near" (eVar 3) (eVar 0))
  (sSeq (sFldA cs_far "far" (eVar 4) (eVar 0))
  (sFldA cs_told "told" (eTup (eCons (eVar 1) (eCons (eVar 2) (eCons (eFld cs_told "told" (eVar 3)) (eCons (eFld cs_told "told" (eVar 4)) eNil))))) (eVar 0))))))))))
abbrev N_Setting_init : List Str := ["self", "rule", "every", "delay"]
def b_Setting_init : LS :=
  (sSeq (sIf (eOr (eNot (eTest (eIsi is_str (eVar 1)))) (eTest (eOp (oIn true) (eVar 1) (eC tup_RULES))))
  sNever
  sNil)
  (sSeq (sExpr (eCall G_check_number 3 (eCons (eVar 2) (eCons (eC (.int 1)) (eCons (eC (.int 4)) eNil)))))
  (sSeq (sExpr (eCall G_check_number 3 (eCons (eVar 3) (eCons (eC (.int 0)) (eCons (eC (.int 200)) eNil)))))
  (sSeq (sFldA cs_rule "rule" (eVar 1) (eVar 0))
  (sSeq (sFldA cs_every "every" (eVar 2) (eVar 0))
  (sSeq (sFldA cs_delay "delay" (eVar 3) (eVar 0))
  (sFldA cs_told "told" (eTup (eCons (eVar 1) (eCons (eVar 2) (eCons (eVar 3) eNil)))) (eVar 0))))))))
abbrev N_law_made : List Str := ["_law_told_here", "_law_a", "_law_b", "_law_c", "_law_d"]
def b_law_made : LS :=
  (sSeq (sAsg (eVar 0) (gTp 4 (gCs (gNm 1) (gCs (gNm 2) (gCs (gNm 3) (gCs (gNm 4) gNl))))))
  (sRet (eFrz0 (eMake "Line" G_Line_init 5 (eCons (eVar 1) (eCons (eVar 2) (eCons (eFrz0 (eMake "Setting" G_Setting_init 4 (eCons (eOp oIx (eVar 3) (eC (.int 0))) (eCons (eOp oIx (eVar 3) (eC (.int 1))) (eCons (eOp oIx (eVar 3) (eC (.int 2))) eNil))))) (eCons (eFrz0 (eMake "Setting" G_Setting_init 4 (eCons (eOp oIx (eVar 4) (eC (.int 0))) (eCons (eOp oIx (eVar 4) (eC (.int 1))) (eCons (eOp oIx (eVar 4) (eC (.int 2))) eNil))))) eNil))))))))
abbrev N_check_line : List Str := ["value"]
def b_check_line : LS :=
  (sIf (eNot (eTest (eIsi is_Line (eVar 0))))
  sNever
  sNil)
abbrev N_Flow_kept : List Str := ["self", "side", "amount", "tick"]
def b_Flow_kept : LS :=
  (sRet (eB bSum (eCons (eLC (iSeq (eOp oIx (eFld cs_stock "stock" (eVar 0)) (eVar 1))) (.tp [2, 3]) eYes (eVar 2) [2, 3]) eNil)))
abbrev N_Flow_fresh : List Str := ["self", "side"]
def b_Flow_fresh : LS :=
  (sRet (eOp oSub (eOp oIx (eFld cs_come "come" (eVar 0)) (eVar 1)) (eOp oIx (eFld cs_taken "taken" (eVar 0)) (eVar 1))))
abbrev N_Session_show : List Str := ["self", "flow", "past"]
def b_Session_show : LS :=
  (sSeq (sFldA cs_flow "flow" (eVar 1) (eVar 0))
  (sSeq (sFldA cs_past "past" (eVar 2) (eVar 0))
  (sSeq (sFldA cs_now "now" (eFld cs_tick "tick" (eVar 1)) (eVar 0))
  (sSeq (sFldA cs_holding "holding" (eTup (eCons (eMeth "Flow" "kept" G_Flow_kept 2 (eVar 1) (eCons (eC (.int 0)) eNil)) (eCons (eMeth "Flow" "kept" G_Flow_kept 2 (eVar 1) (eCons (eC (.int 1)) eNil)) eNil))) (eVar 0))
  (sSeq (sFldA cs_unread "unread" (eTup (eCons (eMeth "Flow" "fresh" G_Flow_fresh 2 (eVar 1) (eCons (eC (.int 0)) eNil)) (eCons (eMeth "Flow" "fresh" G_Flow_fresh 2 (eVar 1) (eCons (eC (.int 1)) eNil)) eNil))) (eVar 0))
  (sSeq (sFldA cs_unanswered "unanswered" (eTup (eCons (eOp oSub (eOp oIx (eFld cs_out "out" (eVar 1)) (eC (.int 0))) (eOp oIx (eFld cs_known "known" (eVar 1)) (eC (.int 0)))) (eCons (eOp oSub (eOp oIx (eFld cs_out "out" (eVar 1)) (eC (.int 1))) (eOp oIx (eFld cs_known "known" (eVar 1)) (eC (.int 1)))) eNil))) (eVar 0))
  (sSeq (sFldA cs_pieces "pieces" (eB bTuple (eCons (eSort2 (eFld cs_log "log" (eVar 1))) eNil)) (eVar 0))
  (sFldA cs_under_way "under_way" (eB bLen (eCons (eFld cs_flight "flight" (eVar 1)) eNil)) (eVar 0)))))))))
abbrev N_Flow_init : List Str := ["self", "line"]
def b_Flow_init : LS :=
  (sSeq (sFldA cs_line "line" (eVar 1) (eVar 0))
  (sSeq (sFldA cs_settings "settings" (eTup (eCons (eFld cs_near "near" (eVar 1)) (eCons (eFld cs_far "far" (eVar 1)) eNil))) (eVar 0))
  (sSeq (sFldA cs_tick "tick" (eC (.int 0)) (eVar 0))
  (sSeq (sFldA cs_stock "stock" (eLst (eCons (eLstM eNil) (eCons (eLstM eNil) eNil))) (eVar 0))
  (sSeq (sFldA cs_out "out" (eLstM (eCons (eC (.int 0)) (eCons (eC (.int 0)) eNil))) (eVar 0))
  (sSeq (sFldA cs_known "known" (eLstM (eCons (eC (.int 0)) (eCons (eC (.int 0)) eNil))) (eVar 0))
  (sSeq (sFldA cs_small "small" (eLstM (eCons (eC (.int 0)) (eCons (eC (.int 0)) eNil))) (eVar 0))
  (sSeq (sFldA cs_come "come" (eLstM (eCons (eC (.int 0)) (eCons (eC (.int 0)) eNil))) (eVar 0))
  (sSeq (sFldA cs_taken "taken" (eLstM (eCons (eC (.int 0)) (eCons (eC (.int 0)) eNil))) (eVar 0))
  (sSeq (sFldA cs_full "full" (eLstM (eCons (eC (.int 0)) (eCons (eC (.int 0)) eNil))) (eVar 0))
  (sSeq (sFldA cs_first "first" (eLstM (eCons (eC .non) (eCons (eC .non) eNil))) (eVar 0))
  (sSeq (sFldA cs_long "long" (eLstM (eCons (eC (.int 0)) (eCons (eC (.int 0)) eNil))) (eVar 0))
  (sSeq (sFldA cs_flight "flight" (eLstM eNil) (eVar 0))
  (sFldA cs_log "log" (eLstM eNil) (eVar 0)))))))))))))))
abbrev N_Session_init : List Str := ["self", "line"]
def b_Session_init : LS :=
  (sSeq (sExpr (eCall G_check_line 1 (eCons (eVar 1) eNil)))
  (sSeq (sFldA cs_line "line" (eVar 1) (eVar 0))
  (sSeq (sFldA cs_busy "busy" (eC (.bl false)) (eVar 0))
  (sExpr (eMeth "Session" "show" G_Session_show 3 (eVar 0) (eCons (eFrz0 (eMake "Flow" G_Flow_init 2 (eCons (eVar 1) eNil))) (eCons (eLst eNil) eNil)))))))
abbrev N_law_job : List Str := ["_law_well_here", "_law_world", "_law_turn", "_law_k", "_law_there"]
def b_law_job : LS :=
  (sSeq (sPar 2 3 (eCons (eCall G_law_draw 2 (eCons (eVar 0) (eCons (eC (.int 10)) eNil))) (eCons (eCall G_law_draw 2 (eCons (eVar 0) (eCons (eC (.int 2)) eNil))) eNil)))
  (sSeq (sAsg (eOp oSub (eOp oIx (eOp oIx (eOp oIx (eVar 1) (eC (.int 2))) (eVar 3)) (eC (.int 4))) (eOp oIx (eOp oIx (eOp oIx (eVar 1) (eC (.int 2))) (eVar 3)) (eC (.int 5)))) (gNm 4))
  (sSeq (sIf (eAnd (eTest (eOp oLt (eVar 2) (eC (.int 3)))) (eTest (eOp oGt (eVar 4) (eC (.int 0)))))
  (sRet (eTup (eCons (eC (.str "read")) (eCons (eVar 3) (eCons (eOp oPlus (eC (.int 1)) (eCall G_law_draw 2 (eCons (eVar 0) (eCons (eB bMin2 (eCons (eVar 4) (eCons (eC (.int 60)) eNil))) eNil)))) eNil)))))
  sNil)
  (sSeq (sIf (eTest (eOp oLt (eVar 2) (eC (.int 6))))
  (sRet (eTup (eCons (eC (.str "write")) (eCons (eVar 3) (eCons (eOp oPlus (eC (.int 1)) (eCall G_law_draw 2 (eCons (eVar 0) (eCons (eCall G_law_one_of 2 (eCons (eVar 0) (eCons (eLst (eCons (eC (.int 3)) (eCons (eC (.int 6)) (eCons (eC (.int 12)) (eCons (eB bMin2 (eCons (eC (.int 60)) (eCons (eOp oMul (eC (.int 3)) (eOp oIx (eOp oIx (eVar 1) (eC (.int 0))) (eC (.int 0)))) eNil))) eNil))))) eNil))) eNil)))) eNil)))))
  sNil)
  (sRet (eTup (eCons (eC (.str "wait")) (eCons (eOp oPlus (eC (.int 1)) (eCall G_law_draw 2 (eCons (eVar 0) (eCons (eCall G_law_one_of 2 (eCons (eVar 0) (eCons (eLst (eCons (eC (.int 2)) (eCons (eC (.int 6)) (eCons (eC (.int 14)) (eCons (eC (.int 14)) (eCons (eC (.int 60)) eNil)))))) eNil))) eNil)))) eNil))))))))
abbrev N_law_send : List Str := ["_law_world", "_law_k", "_law_many", "_law_here"]
def b_law_send : LS :=
  (sSeq (sAsg (eOp oIx (eOp oIx (eVar 0) (eC (.int 2))) (eVar 1)) (gNm 3))
  (sSeq (sAsg (eOp oSub (eOp oIx (eVar 3) (eC (.int 0))) (eVar 2)) (gSb (eVar 3) (eC (.int 0))))
  (sSeq (sAsg (eOp oPlus (eOp oIx (eVar 3) (eC (.int 1))) (eVar 2)) (gSb (eVar 3) (eC (.int 1))))
  (sSeq (sIf (eTest (eChain oLt oLt (eC (.int 0)) (eVar 2) (eOp oIx (eOp oIx (eVar 0) (eC (.int 0))) (eC (.int 0)))))
  (sAsg (eOp oIx (eVar 3) (eC (.int 1))) (gSb (eVar 3) (eC (.int 3))))
  sNil)
  (sSeq (sAsg (eC (.int 0)) (gSb (eVar 3) (eC (.int 6))))
  (sSeq (sAsg (eC .non) (gSb (eVar 3) (eC (.int 7))))
  (sSeq (sExpr (eMt mAppend (eOp oIx (eVar 0) (eC (.int 3))) (eCons (eTup (eCons (eOp oIx (eVar 0) (eC (.int 1))) (eCons (eVar 1) (eCons (eVar 2) (eCons (eOp oIx (eVar 3) (eC (.int 4))) eNil))))) eNil)))
  (sExpr (eMt mAppend (eOp oIx (eVar 0) (eC (.int 4))) (eCons (eTup (eCons (eOp oIx (eVar 0) (eC (.int 1))) (eCons (eVar 1) (eCons (eVar 2) (eCons (eOp oIx (eVar 3) (eC (.int 4))) eNil))))) eNil))))))))))
abbrev N_law_leave : List Str := ["_law_world", "_law_k", "_law_here", "_law_ways_here"]
def b_law_leave : LS :=
  (sFor (iSeq (eLst (eCons (eC (.int 0)) (eCons (eC (.int 1)) eNil)))) (gNm 1)
  (sSeq (sPar 2 3 (eCons (eOp oIx (eOp oIx (eVar 0) (eC (.int 2))) (eVar 1)) (eCons (eOp oIx (eOp oIx (eVar 0) (eC (.int 0))) (eOp oPlus (eC (.int 2)) (eVar 1))) eNil)))
  (sIf (eOr (eTest (eOp oGe (eOp oIx (eVar 2) (eC (.int 6))) (eOp oIx (eVar 3) (eC (.int 1))))) (eAnd (eTest (eOp oNotN (eOp oIx (eVar 2) (eC (.int 7))) (eC .non))) (eTest (eOp oGe (eOp oIx (eVar 0) (eC (.int 1))) (eOp oPlus (eOp oIx (eVar 2) (eC (.int 7))) (eOp oIx (eVar 3) (eC (.int 2))))))))
  (sExpr (eCall G_law_send 3 (eCons (eVar 0) (eCons (eVar 1) (eCons (eC (.int 0)) eNil)))))
  sNil)))
abbrev N_law_land : List Str := ["_law_world", "_law_born", "_law_piece", "_law_there", "_law_each"]
def b_law_land : LS :=
  (sSeq (sAsg (eOp oSub (eOp oIx (eVar 0) (eC (.int 1))) (eOp oIx (eOp oIx (eVar 0) (eC (.int 0))) (eC (.int 1)))) (gNm 1))
  (sSeq (sFor (iSeq (eLC (iSeq (eOp oIx (eVar 0) (eC (.int 3)))) (.nm 4) (eTest (eOp oLe (eOp oIx (eVar 4) (eC (.int 0))) (eVar 1))) (eVar 4) [4])) (gNm 2)
  (sSeq (sAsg (eOp oIx (eOp oIx (eVar 0) (eC (.int 2))) (eOp oSub (eC (.int 1)) (eOp oIx (eVar 2) (eC (.int 1))))) (gNm 3))
  (sSeq (sAsg (eB bMax2 (eCons (eOp oIx (eVar 3) (eC (.int 2))) (eCons (eOp oIx (eVar 2) (eC (.int 3))) eNil))) (gSb (eVar 3) (eC (.int 2))))
  (sSeq (sAsg (eOp oPlus (eOp oIx (eVar 3) (eC (.int 4))) (eOp oIx (eVar 2) (eC (.int 2)))) (gSb (eVar 3) (eC (.int 4))))
  (sSeq (sAsg (eOp oPlus (eOp oIx (eVar 3) (eC (.int 6))) (eB bInt (eCons (eOp oEqD (eOp oIx (eVar 2) (eC (.int 2))) (eOp oIx (eOp oIx (eVar 0) (eC (.int 0))) (eC (.int 0)))) eNil))) (gSb (eVar 3) (eC (.int 6))))
  (sIf (eAnd (eTest (eOp oGt (eOp oIx (eVar 2) (eC (.int 2))) (eC (.int 0)))) (eTest (eOp oIsN (eOp oIx (eVar 3) (eC (.int 7))) (eC .non))))
  (sAsg (eOp oIx (eVar 0) (eC (.int 1))) (gSb (eVar 3) (eC (.int 7))))
  sNil))))))
  (sAsg (eLCM (iSeq (eOp oIx (eVar 0) (eC (.int 3)))) (.nm 4) (eTest (eOp oGt (eOp oIx (eVar 4) (eC (.int 0))) (eVar 1))) (eVar 4) [4]) (gSb (eVar 0) (eC (.int 3))))))
abbrev N_law_free : List Str := ["_law_world", "_law_k", "_law_here", "_law_word", "_law_again", "_law_open_here"]
def b_law_free : LS :=
  (sSeq (sPar 2 3 (eCons (eOp oIx (eOp oIx (eVar 0) (eC (.int 2))) (eVar 1)) (eCons (eOp oIx (eOp oIx (eOp oIx (eVar 0) (eC (.int 0))) (eOp oPlus (eC (.int 2)) (eVar 1))) (eC (.int 0))) eNil)))
  (sSeq (sFor (iRangeN 1 (eCons (eOp oDiv (eOp oIx (eVar 2) (eC (.int 0))) (eOp oIx (eOp oIx (eVar 0) (eC (.int 0))) (eC (.int 0)))) eNil)) (gNm 4)
  (sExpr (eCall G_law_send 3 (eCons (eVar 0) (eCons (eVar 1) (eCons (eOp oIx (eOp oIx (eVar 0) (eC (.int 0))) (eC (.int 0))) eNil))))))
  (sSeq (sAsg (eOp oLt (eOp oIx (eVar 2) (eC (.int 2))) (eIf (eTest (eOp oEqD (eVar 3) (eC (.str "hold")))) (eOp oIx (eVar 2) (eC (.int 1))) (eOp oIx (eVar 2) (eC (.int 3))))) (gNm 5))
  (sIf (eAnd (eTest (eOp oGt (eOp oIx (eVar 2) (eC (.int 0))) (eC (.int 0)))) (eOr (eTest (eOp oEqD (eVar 3) (eC (.str "plain")))) (eNot (eTru (eVar 5)))))
  (sExpr (eCall G_law_send 3 (eCons (eVar 0) (eCons (eVar 1) (eCons (eOp oIx (eVar 2) (eC (.int 0))) eNil)))))
  sNil))))
abbrev N_law_waited : List Str := ["_law_world", "_law_many", "_law_again"]
def b_law_waited : LS :=
  (sFor (iRangeN 1 (eCons (eVar 1) eNil)) (gNm 2)
  (sSeq (sExpr (eCall G_law_leave 1 (eCons (eVar 0) eNil)))
  (sSeq (sAsg (eOp oPlus (eOp oIx (eVar 0) (eC (.int 1))) (eC (.int 1))) (gSb (eVar 0) (eC (.int 1))))
  (sSeq (sExpr (eCall G_law_land 1 (eCons (eVar 0) eNil)))
  (sSeq (sExpr (eCall G_law_free 2 (eCons (eVar 0) (eCons (eC (.int 0)) eNil))))
  (sExpr (eCall G_law_free 2 (eCons (eVar 0) (eCons (eC (.int 1)) eNil)))))))))
abbrev N_law_done : List Str := ["_law_world", "_law_job_here", "_law_here"]
def b_law_done : LS :=
  (sSeq (sIf (eTest (eOp oEqD (eOp oIx (eVar 1) (eC (.int 0))) (eC (.str "wait"))))
  (sSeq (sExpr (eCall G_law_waited 2 (eCons (eVar 0) (eCons (eOp oIx (eVar 1) (eC (.int 1))) eNil))))
  (sRet (eOp oIx (eVar 0) (eC (.int 1)))))
  sNil)
  (sSeq (sAsg (eOp oIx (eOp oIx (eVar 0) (eC (.int 2))) (eOp oIx (eVar 1) (eC (.int 1)))) (gNm 2))
  (sSeq (sIf (eTest (eOp oEqD (eOp oIx (eVar 1) (eC (.int 0))) (eC (.str "write"))))
  (sSeq (sAsg (eOp oPlus (eOp oIx (eVar 2) (eC (.int 0))) (eOp oIx (eVar 1) (eC (.int 2)))) (gSb (eVar 2) (eC (.int 0))))
  (sSeq (sExpr (eCall G_law_free 2 (eCons (eVar 0) (eCons (eOp oIx (eVar 1) (eC (.int 1))) eNil))))
  (sRet (eOp oIx (eVar 2) (eC (.int 0))))))
  sNil)
  (sSeq (sAsg (eOp oPlus (eOp oIx (eVar 2) (eC (.int 5))) (eOp oIx (eVar 1) (eC (.int 2)))) (gSb (eVar 2) (eC (.int 5))))
  (sRet (eOp oSub (eOp oIx (eVar 2) (eC (.int 4))) (eOp oIx (eVar 2) (eC (.int 5)))))))))
abbrev N_Session_check_free : List Str := ["self"]
def b_Session_check_free : LS :=
  (sIf (eTru (eFld cs_busy "busy" (eVar 0)))
  sNever
  sNil)
abbrev N_check_side : List Str := ["value"]
def b_check_side : LS :=
  (sIf (eNot (eTest (eCall G_is_between 3 (eCons (eVar 0) (eCons (eC (.int 0)) (eCons (eC (.int 1)) eNil))))))
  sNever
  sNil)
abbrev N_check_deed : List Str := ["flow", "deed"]
def b_check_deed : LS :=
  (sSeq (sIf (eTest (eOp oNeD (eOp oIx (eVar 1) (eC (.int 0))) (eC (.str "wait"))))
  (sExpr (eCall G_check_side 1 (eCons (eOp oIx (eVar 1) (eC (.int 1))) eNil)))
  sNil)
  (sSeq (sExpr (eCall G_check_number 3 (eCons (eOp oIx (eVar 1) (eNeg (eC (.int 1)))) (eCons (eC (.int 1)) (eCons (eC (.int 60)) eNil)))))
  (sIf (eAnd (eTest (eOp oEqD (eOp oIx (eVar 1) (eC (.int 0))) (eC (.str "read")))) (eTest (eOp oLt (eMeth "Flow" "fresh" G_Flow_fresh 2 (eVar 0) (eCons (eOp oIx (eVar 1) (eC (.int 1))) eNil)) (eOp oIx (eVar 1) (eC (.int 2))))))
  sNever
  sNil)))
abbrev N_Flow_copied : List Str := ["self", "other"]
def b_Flow_copied : LS :=
  (sSeq (sAsg (eMake "Flow" G_Flow_init 2 (eCons (eFld cs_line "line" (eVar 0)) eNil)) (gNm 1))
  (sSeq (sFldA cs_tick "tick" (eFld cs_tick "tick" (eVar 0)) (eVar 1))
  (sSeq (sFldA cs_stock "stock" (eLst (eCons (eB bListM (eCons (eOp oIx (eFld cs_stock "stock" (eVar 0)) (eC (.int 0))) eNil)) (eCons (eB bListM (eCons (eOp oIx (eFld cs_stock "stock" (eVar 0)) (eC (.int 1))) eNil)) eNil))) (eVar 1))
  (sSeq (sAsg (eTup (eCons (eB bListM (eCons (eFld cs_out "out" (eVar 0)) eNil)) (eCons (eB bListM (eCons (eFld cs_known "known" (eVar 0)) eNil)) (eCons (eB bListM (eCons (eFld cs_small "small" (eVar 0)) eNil)) eNil)))) (gTp 3 (gCs (gFd cs_out "out" (eVar 1)) (gCs (gFd cs_known "known" (eVar 1)) (gCs (gFd cs_small "small" (eVar 1)) gNl)))))
  (sSeq (sAsg (eTup (eCons (eB bListM (eCons (eFld cs_come "come" (eVar 0)) eNil)) (eCons (eB bListM (eCons (eFld cs_taken "taken" (eVar 0)) eNil)) (eCons (eB bListM (eCons (eFld cs_full "full" (eVar 0)) eNil)) eNil)))) (gTp 3 (gCs (gFd cs_come "come" (eVar 1)) (gCs (gFd cs_taken "taken" (eVar 1)) (gCs (gFd cs_full "full" (eVar 1)) gNl)))))
  (sSeq (sAsg (eTup (eCons (eB bListM (eCons (eFld cs_first "first" (eVar 0)) eNil)) (eCons (eB bListM (eCons (eFld cs_long "long" (eVar 0)) eNil)) eNil))) (gTp 2 (gCs (gFd cs_first "first" (eVar 1)) (gCs (gFd cs_long "long" (eVar 1)) gNl))))
  (sSeq (sAsg (eTup (eCons (eB bListM (eCons (eFld cs_flight "flight" (eVar 0)) eNil)) (eCons (eB bListM (eCons (eFld cs_log "log" (eVar 0)) eNil)) eNil))) (gTp 2 (gCs (gFd cs_flight "flight" (eVar 1)) (gCs (gFd cs_log "log" (eVar 1)) gNl))))
  (sRet (eVar 1)))))))))
abbrev N_Flow_take_out : List Str := ["self", "side", "amount", "left", "first", "tick"]
def b_Flow_take_out : LS :=
  (sSeq (sAsg (eVar 2) (gNm 3))
  (sWhile (eTest (eOp oGt (eVar 3) (eC (.int 0))))
  (sSeq (sAsg (eOp oIx (eOp oIx (eFld cs_stock "stock" (eVar 0)) (eVar 1)) (eC (.int 0))) (gTp 2 (gCs (gNm 4) (gCs (gNm 5) gNl))))
  (sSeq (sAsg (eB bMax2 (eCons (eOp oIx (eFld cs_long "long" (eVar 0)) (eVar 1)) (eCons (eOp oSub (eFld cs_tick "tick" (eVar 0)) (eVar 5)) eNil))) (gSb (eFld cs_long "long" (eVar 0)) (eVar 1)))
  (sSeq (sIf (eTest (eOp oGt (eVar 4) (eVar 3)))
  (sAsg (eTup (eCons (eOp oSub (eVar 4) (eVar 3)) (eCons (eVar 5) eNil))) (gSb (eOp oIx (eFld cs_stock "stock" (eVar 0)) (eVar 1)) (eC (.int 0))))
  (sDel (eOp oIx (eFld cs_stock "stock" (eVar 0)) (eVar 1)) (eC (.int 0))))
  (sAug 3 (eB bMin2 (eCons (eVar 4) (eCons (eVar 3) eNil))) (fun i j => i - j)))))))
abbrev N_Flow_send : List Str := ["self", "side", "amount"]
def b_Flow_send : LS :=
  (sSeq (sExpr (eMeth "Flow" "take_out" G_Flow_take_out 3 (eVar 0) (eCons (eVar 1) (eCons (eVar 2) eNil))))
  (sSeq (sAugS (eFld cs_out "out" (eVar 0)) (eVar 1) (eVar 2) (fun i j => i + j))
  (sSeq (sIf (eTest (eChain oLt oLt (eC (.int 0)) (eVar 2) (eFld cs_size "size" (eFld cs_line "line" (eVar 0)))))
  (sAsg (eOp oIx (eFld cs_out "out" (eVar 0)) (eVar 1)) (gSb (eFld cs_small "small" (eVar 0)) (eVar 1)))
  sNil)
  (sSeq (sExpr (eMt mAppend (eFld cs_log "log" (eVar 0)) (eCons (eTup (eCons (eFld cs_tick "tick" (eVar 0)) (eCons (eVar 1) (eCons (eVar 2) (eCons (eOp oIx (eFld cs_come "come" (eVar 0)) (eVar 1)) eNil))))) eNil)))
  (sSeq (sExpr (eMt mAppend (eFld cs_flight "flight" (eVar 0)) (eCons (eTup (eCons (eOp oPlus (eFld cs_tick "tick" (eVar 0)) (eFld cs_way "way" (eFld cs_line "line" (eVar 0)))) (eCons (eVar 1) (eCons (eVar 2) (eCons (eOp oIx (eFld cs_come "come" (eVar 0)) (eVar 1)) eNil))))) eNil)))
  (sSeq (sAsg (eC (.int 0)) (gSb (eFld cs_full "full" (eVar 0)) (eVar 1)))
  (sAsg (eC .non) (gSb (eFld cs_first "first" (eVar 0)) (eVar 1)))))))))
abbrev N_Flow_lets : List Str := ["self", "side", "rule"]
def b_Flow_lets : LS :=
  (sSeq (sAsg (eFld cs_rule "rule" (eOp oIx (eFld cs_settings "settings" (eVar 0)) (eVar 1))) (gNm 2))
  (sSeq (sIf (eTest (eOp oEqD (eVar 2) (eC (.str "hold"))))
  (sRet (eOp oEqD (eOp oIx (eFld cs_out "out" (eVar 0)) (eVar 1)) (eOp oIx (eFld cs_known "known" (eVar 0)) (eVar 1))))
  sNil)
  (sRet (eOrV (eOp oEqD (eVar 2) (eC (.str "plain"))) (eOp oLe (eOp oIx (eFld cs_small "small" (eVar 0)) (eVar 1)) (eOp oIx (eFld cs_known "known" (eVar 0)) (eVar 1)))))))
abbrev N_Flow_let_go : List Str := ["self", "side", "amount"]
def b_Flow_let_go : LS :=
  (sSeq (sWhile (eTest (eOp oGe (eMeth "Flow" "kept" G_Flow_kept 2 (eVar 0) (eCons (eVar 1) eNil)) (eFld cs_size "size" (eFld cs_line "line" (eVar 0)))))
  (sExpr (eMeth "Flow" "send" G_Flow_send 3 (eVar 0) (eCons (eVar 1) (eCons (eFld cs_size "size" (eFld cs_line "line" (eVar 0))) eNil)))))
  (sSeq (sAsg (eMeth "Flow" "kept" G_Flow_kept 2 (eVar 0) (eCons (eVar 1) eNil)) (gNm 2))
  (sIf (eAnd (eTest (eOp oGt (eVar 2) (eC (.int 0)))) (eTest (eMeth "Flow" "lets" G_Flow_lets 2 (eVar 0) (eCons (eVar 1) eNil))))
  (sExpr (eMeth "Flow" "send" G_Flow_send 3 (eVar 0) (eCons (eVar 1) (eCons (eVar 2) eNil))))
  sNil)))
abbrev N_Flow_put : List Str := ["self", "side", "amount"]
def b_Flow_put : LS :=
  (sSeq (sExpr (eMt mAppend (eOp oIx (eFld cs_stock "stock" (eVar 0)) (eVar 1)) (eCons (eTup (eCons (eVar 2) (eCons (eFld cs_tick "tick" (eVar 0)) eNil))) eNil)))
  (sExpr (eMeth "Flow" "let_go" G_Flow_let_go 2 (eVar 0) (eCons (eVar 1) eNil))))
abbrev N_Flow_is_due : List Str := ["self", "side", "setting"]
def b_Flow_is_due : LS :=
  (sSeq (sAsg (eOp oIx (eFld cs_settings "settings" (eVar 0)) (eVar 1)) (gNm 2))
  (sSeq (sIf (eTest (eOp oGe (eOp oIx (eFld cs_full "full" (eVar 0)) (eVar 1)) (eFld cs_every "every" (eVar 2))))
  (sRet (eC (.bl true)))
  sNil)
  (sRet (eAndV (eOp oNotN (eOp oIx (eFld cs_first "first" (eVar 0)) (eVar 1)) (eC .non)) (eOp oGe (eFld cs_tick "tick" (eVar 0)) (eOp oPlus (eOp oIx (eFld cs_first "first" (eVar 0)) (eVar 1)) (eFld cs_delay "delay" (eVar 2))))))))
abbrev N_Flow_leave : List Str := ["self", "side"]
def b_Flow_leave : LS :=
  (sFor (iSeq (eTup (eCons (eC (.int 0)) (eCons (eC (.int 1)) eNil)))) (gNm 1)
  (sIf (eTest (eMeth "Flow" "is_due" G_Flow_is_due 2 (eVar 0) (eCons (eVar 1) eNil)))
  (sExpr (eMeth "Flow" "send" G_Flow_send 3 (eVar 0) (eCons (eVar 1) (eCons (eC (.int 0)) eNil))))
  sNil))
abbrev N_Flow_next_tick : List Str := ["self", "ticks", "side", "piece"]
def b_Flow_next_tick : LS :=
  (sSeq (sAsg (eLCM (iSeq (eFld cs_flight "flight" (eVar 0))) (.nm 3) eYes (eOp oIx (eVar 3) (eC (.int 0))) [3]) (gNm 1))
  (sSeq (sFor (iSeq (eTup (eCons (eC (.int 0)) (eCons (eC (.int 1)) eNil)))) (gNm 2)
  (sIf (eTest (eOp oNotN (eOp oIx (eFld cs_first "first" (eVar 0)) (eVar 2)) (eC .non)))
  (sExpr (eMt mAppend (eVar 1) (eCons (eOp oPlus (eOp oIx (eFld cs_first "first" (eVar 0)) (eVar 2)) (eFld cs_delay "delay" (eOp oIx (eFld cs_settings "settings" (eVar 0)) (eVar 2)))) eNil)))
  sNil))
  (sRet (eIf (eTest (eOp oGt (eB bLen (eCons (eVar 1) eNil)) (eC (.int 0)))) (eB bMin (eCons (eVar 1) eNil)) (eC .non)))))
abbrev N_Flow_land : List Str := ["self", "sender", "amount", "answered", "side"]
def b_Flow_land : LS :=
  (sSeq (sAsg (eOp oSub (eC (.int 1)) (eVar 1)) (gNm 4))
  (sSeq (sAsg (eB bMax2 (eCons (eOp oIx (eFld cs_known "known" (eVar 0)) (eVar 4)) (eCons (eVar 3) eNil))) (gSb (eFld cs_known "known" (eVar 0)) (eVar 4)))
  (sIf (eTest (eOp oGt (eVar 2) (eC (.int 0))))
  (sSeq (sAugS (eFld cs_come "come" (eVar 0)) (eVar 4) (eVar 2) (fun i j => i + j))
  (sSeq (sIf (eTest (eOp oEqD (eVar 2) (eFld cs_size "size" (eFld cs_line "line" (eVar 0)))))
  (sAugS (eFld cs_full "full" (eVar 0)) (eVar 4) (eC (.int 1)) (fun i j => i + j))
  sNil)
  (sIf (eTest (eOp oIsN (eOp oIx (eFld cs_first "first" (eVar 0)) (eVar 4)) (eC .non)))
  (sAsg (eFld cs_tick "tick" (eVar 0)) (gSb (eFld cs_first "first" (eVar 0)) (eVar 4)))
  sNil)))
  sNil)))
abbrev N_Flow_begin : List Str := ["self", "tick", "landing", "there", "sender", "amount", "answered", "side", "piece"]
def b_Flow_begin : LS :=
  (sSeq (sFldA cs_tick "tick" (eVar 1) (eVar 0))
  (sSeq (sAsg (eLC (iSeq (eFld cs_flight "flight" (eVar 0))) (.nm 8) (eTest (eOp oLe (eOp oIx (eVar 8) (eC (.int 0))) (eVar 1))) (eVar 8) [8]) (gNm 2))
  (sSeq (sFldA cs_flight "flight" (eLCM (iSeq (eFld cs_flight "flight" (eVar 0))) (.nm 8) (eTest (eOp oGt (eOp oIx (eVar 8) (eC (.int 0))) (eVar 1))) (eVar 8) [8]) (eVar 0))
  (sSeq (sFor (iSeq (eVar 2)) (gTp 4 (gCs (gNm 3) (gCs (gNm 4) (gCs (gNm 5) (gCs (gNm 6) gNl)))))
  (sExpr (eMeth "Flow" "land" G_Flow_land 4 (eVar 0) (eCons (eVar 4) (eCons (eVar 5) (eCons (eVar 6) eNil))))))
  (sFor (iSeq (eTup (eCons (eC (.int 0)) (eCons (eC (.int 1)) eNil)))) (gNm 7)
  (sExpr (eMeth "Flow" "let_go" G_Flow_let_go 2 (eVar 0) (eCons (eVar 7) eNil))))))))
abbrev N_pass_ticks : List Str := ["flow", "ticks", "goal", "after"]
def b_pass_ticks : LS :=
  (sSeq (sAsg (eOp oPlus (eFld cs_tick "tick" (eVar 0)) (eVar 1)) (gNm 2))
  (sSeq (sExpr (eMeth "Flow" "leave" G_Flow_leave 1 (eVar 0) eNil))
  (sSeq (sAsg (eMeth "Flow" "next_tick" G_Flow_next_tick 1 (eVar 0) eNil) (gNm 3))
  (sSeq (sWhile (eAnd (eTest (eOp oNotN (eVar 3) (eC .non))) (eTest (eOp oLt (eVar 3) (eVar 2))))
  (sSeq (sExpr (eMeth "Flow" "begin" G_Flow_begin 2 (eVar 0) (eCons (eVar 3) eNil)))
  (sSeq (sExpr (eMeth "Flow" "leave" G_Flow_leave 1 (eVar 0) eNil))
  (sAsg (eMeth "Flow" "next_tick" G_Flow_next_tick 1 (eVar 0) eNil) (gNm 3)))))
  (sExpr (eMeth "Flow" "begin" G_Flow_begin 2 (eVar 0) (eCons (eVar 2) eNil)))))))
abbrev N_flow_behind : List Str := ["flow", "deed", "found"]
def b_flow_behind : LS :=
  (sSeq (sAsg (eMeth "Flow" "copied" G_Flow_copied 1 (eVar 0) eNil) (gNm 2))
  (sSeq (sIf (eTest (eOp oEqD (eOp oIx (eVar 1) (eC (.int 0))) (eC (.str "write"))))
  (sExpr (eMeth "Flow" "put" G_Flow_put 3 (eVar 2) (eCons (eOp oIx (eVar 1) (eC (.int 1))) (eCons (eOp oIx (eVar 1) (eC (.int 2))) eNil))))
  (sIf (eTest (eOp oEqD (eOp oIx (eVar 1) (eC (.int 0))) (eC (.str "read"))))
  (sAugS (eFld cs_taken "taken" (eVar 2)) (eOp oIx (eVar 1) (eC (.int 1))) (eOp oIx (eVar 1) (eC (.int 2))) (fun i j => i + j))
  (sExpr (eCall G_pass_ticks 2 (eCons (eVar 2) (eCons (eOp oIx (eVar 1) (eC (.int 1))) eNil))))))
  (sRet (eVar 2))))
abbrev N_Session_do_deed : List Str := ["self", "deed"]
def b_Session_do_deed : LS :=
  (sSeq (sExpr (eCall G_check_deed 2 (eCons (eFld cs_flow "flow" (eVar 0)) (eCons (eVar 1) eNil))))
  (sSeq (sIf (eTest (eOp oGe (eB bLen (eCons (eFld cs_past "past" (eVar 0)) eNil)) (eC (.int 60))))
  sNever
  sNil)
  (sExpr (eMeth "Session" "show" G_Session_show 3 (eVar 0) (eCons (eCall G_flow_behind 2 (eCons (eFld cs_flow "flow" (eVar 0)) (eCons (eVar 1) eNil))) (eCons (eOp oPlus (eFld cs_past "past" (eVar 0)) (eLst (eCons (eFld cs_flow "flow" (eVar 0)) eNil))) eNil))))))
abbrev N_Session_wait : List Str := ["self", "n"]
def b_Session_wait : LS :=
  (sSeq (sExpr (eMeth "Session" "check_free" G_Session_check_free 1 (eVar 0) eNil))
  (sSeq (sExpr (eMeth "Session" "do_deed" G_Session_do_deed 2 (eVar 0) (eCons (eTup (eCons (eC (.str "wait")) (eCons (eVar 1) eNil))) eNil)))
  (sRet (eFld cs_now "now" (eVar 0)))))
abbrev N_Session_write : List Str := ["self", "side", "n"]
def b_Session_write : LS :=
  (sSeq (sExpr (eMeth "Session" "check_free" G_Session_check_free 1 (eVar 0) eNil))
  (sSeq (sExpr (eMeth "Session" "do_deed" G_Session_do_deed 2 (eVar 0) (eCons (eTup (eCons (eC (.str "write")) (eCons (eVar 1) (eCons (eVar 2) eNil)))) eNil)))
  (sRet (eOp oIx (eFld cs_holding "holding" (eVar 0)) (eVar 1)))))
abbrev N_Session_read : List Str := ["self", "side", "n"]
def b_Session_read : LS :=
  (sSeq (sExpr (eMeth "Session" "check_free" G_Session_check_free 1 (eVar 0) eNil))
  (sSeq (sExpr (eMeth "Session" "do_deed" G_Session_do_deed 2 (eVar 0) (eCons (eTup (eCons (eC (.str "read")) (eCons (eVar 1) (eCons (eVar 2) eNil)))) eNil)))
  (sRet (eOp oIx (eFld cs_unread "unread" (eVar 0)) (eVar 1)))))
abbrev N_law_call : List Str := ["_law_box", "_law_job_here"]
def b_law_call : LS :=
  (sSeq (sIf (eTest (eOp oEqD (eOp oIx (eVar 1) (eC (.int 0))) (eC (.str "wait"))))
  (sRet (eMeth "Session" "wait" G_Session_wait 2 (eVar 0) (eCons (eOp oIx (eVar 1) (eC (.int 1))) eNil)))
  sNil)
  (sRet (eIf (eTest (eOp oEqD (eOp oIx (eVar 1) (eC (.int 0))) (eC (.str "write")))) (eMeth "Session" "write" G_Session_write 3 (eVar 0) (eCons (eOp oIx (eVar 1) (eC (.int 1))) (eCons (eOp oIx (eVar 1) (eC (.int 2))) eNil))) (eMeth "Session" "read" G_Session_read 3 (eVar 0) (eCons (eOp oIx (eVar 1) (eC (.int 1))) (eCons (eOp oIx (eVar 1) (eC (.int 2))) eNil))))))
abbrev N_Session_len : List Str := ["self"]
def b_Session_len : LS :=
  (sRet (eB bLen (eCons (eFld cs_pieces "pieces" (eVar 0)) eNil)))
abbrev N_Session_repr : List Str := ["self"]
def b_Session_repr : LS :=
  (sRet (eFstr [(eC (.str "Session(tick ")), (eFmt (eFld cs_now "now" (eVar 0))), (eC (.str ", ")), (eFmt (eB bLen (eCons (eFld cs_pieces "pieces" (eVar 0)) eNil))), (eC (.str " pieces)"))]))
abbrev N_law_shown : List Str := ["_law_box", "_law_found"]
def b_law_shown : LS :=
  (sSeq (sAsg (eLst (eCons (eFld cs_now "now" (eVar 0)) (eCons (eFld cs_holding "holding" (eVar 0)) (eCons (eFld cs_unread "unread" (eVar 0)) (eCons (eFld cs_unanswered "unanswered" (eVar 0)) (eCons (eFld cs_pieces "pieces" (eVar 0)) (eCons (eFld cs_under_way "under_way" (eVar 0)) (eCons (eFld cs_busy "busy" (eVar 0)) (eCons (eB (bOwn "Session" G_Session_len pLen) (eCons (eVar 0) eNil)) eNil))))))))) (gNm 1))
  (sRet (eOp oPlus (eVar 1) (eLst (eCons (eB (bOwn "Session" G_Session_repr pRepr) (eCons (eVar 0) eNil)) (eCons (eB (bOwn "Session" G_Session_len pBool) (eCons (eVar 0) eNil)) eNil))))))
abbrev N_law_in_parts : List Str := ["_law_well_here", "_law_box", "_law_ticks", "_law_left", "_law_again", "_law_more", "_law_before", "_law_at", "_law_older", "_law_each"]
def b_law_in_parts : LS :=
  (sSeq (sAsg (eVar 2) (gNm 3))
  (sSeq (sFor (iRangeN 1 (eCons (eVar 2) eNil)) (gNm 4)
  (sIf (eTest (eOp oGt (eVar 3) (eC (.int 0))))
  (sSeq (sAsg (eIf (eOr (eTest (eOp oLt (eVar 4) (eC (.int 2)))) (eTest (eOp oEqD (eVar 3) (eC (.int 1))))) (eC (.int 1)) (eOp oPlus (eC (.int 1)) (eCall G_law_draw 2 (eCons (eVar 0) (eCons (eVar 3) eNil))))) (gNm 5))
  (sSeq (sIf (eTest (eOp oGt (eVar 4) (eC (.int 2))))
  (sAsg (eVar 3) (gNm 5))
  sNil)
  (sSeq (sAsg (eTup (eCons (eFld cs_pieces "pieces" (eVar 1)) (eCons (eFld cs_now "now" (eVar 1)) eNil))) (gTp 2 (gCs (gNm 6) (gCs (gNm 7) gNl))))
  (sSeq (sIf (eOr (eTest (eOp oNeD (eMeth "Session" "wait" G_Session_wait 2 (eVar 1) (eCons (eVar 5) eNil)) (eOp oPlus (eVar 7) (eVar 5)))) (eTest (eOp oNeD (eFld cs_now "now" (eVar 1)) (eOp oPlus (eVar 7) (eVar 5)))))
  (sRet (eC (.bl false)))
  sNil)
  (sSeq (sAsg (eOp oSub (eVar 3) (eVar 5)) (gNm 3))
  (sSeq (sAsg (eLC (iSeq (eFld cs_pieces "pieces" (eVar 1))) (.nm 9) (eTest (eOp oLt (eOp oIx (eVar 9) (eC (.int 0))) (eVar 7))) (eVar 9) [9]) (gNm 8))
  (sSeq (sIf (eOr (eTest (eOp oNeD (eVar 8) (eLC (iSeq (eVar 6)) (.nm 9) (eTest (eOp oLt (eOp oIx (eVar 9) (eC (.int 0))) (eVar 7))) (eVar 9) [9]))) (eNot (eTest (eB bAll (eCons (eLC (iSeq (eVar 6)) (.nm 9) eYes (eOp (oInD false) (eVar 9) (eFld cs_pieces "pieces" (eVar 1))) [9]) eNil)))))
  (sRet (eC (.bl false)))
  sNil)
  (sIf (eTest (eOp oNeD (eB bReprD (eCons (eCall G_law_shown 1 (eCons (eVar 1) eNil)) eNil)) (eB bReprD (eCons (eCall G_law_shown 1 (eCons (eVar 1) eNil)) eNil))))
  (sRet (eC (.bl false)))
  sNil))))))))
  sNil))
  (sRet (eC (.bl true)))))
abbrev N_law_right : List Str := ["_law_well_here", "_law_told_here", "_law_made_here", "_law_world", "_law_box", "_law_twin", "_law_at", "_law_turn", "_law_job_here", "_law_gave"]
def b_law_right : LS :=
  (sSeq (sAsg (eCall G_law_told 1 (eCons (eVar 0) eNil)) (gNm 1))
  (sSeq (sPar 2 3 (eCons (eCall G_law_made 1 (eCons (eVar 1) eNil)) (eCons (eCall G_law_new 1 (eCons (eVar 1) eNil)) eNil)))
  (sSeq (sPar3 4 5 6 (eCons (eMake "Session" G_Session_init 2 (eCons (eVar 2) eNil)) (eCons (eMake "Session" G_Session_init 2 (eCons (eVar 2) eNil)) (eCons (eC (.int 0)) eNil))))
  (sSeq (sFor (iRangeN 1 (eCons (eC (.int 10)) eNil)) (gNm 7)
  (sSeq (sAsg (eCall G_law_job 2 (eCons (eVar 0) (eCons (eVar 3) eNil))) (gNm 8))
  (sSeq (sExpr (eCall G_law_done 2 (eCons (eVar 3) (eCons (eVar 8) eNil))))
  (sSeq (sAsg (eCall G_law_call 2 (eCons (eVar 4) (eCons (eVar 8) eNil))) (gNm 9))
  (sSeq (sIf (eTest (eOp oEqD (eOp oIx (eVar 8) (eC (.int 0))) (eC (.str "wait"))))
  (sSeq (sAsg (eOp oPlus (eVar 6) (eOp oIx (eVar 8) (eC (.int 1)))) (gNm 6))
  (sIf (eOr (eTest (eOp oNeD (eVar 9) (eVar 6))) (eNot (eTest (eCall G_law_in_parts 3 (eCons (eVar 0) (eCons (eVar 5) (eCons (eOp oIx (eVar 8) (eC (.int 1))) eNil)))))))
  (sRet (eC (.bl false)))
  sNil))
  (sIf (eTest (eOp oNeD (eCall G_law_call 2 (eCons (eVar 5) (eCons (eVar 8) eNil))) (eVar 9)))
  (sRet (eC (.bl false)))
  sNil))
  (sIf (eOr (eTest (eOp oNeD (eB bReprD (eCons (eCall G_law_shown 1 (eCons (eVar 4) eNil)) eNil)) (eB bReprD (eCons (eCall G_law_shown 1 (eCons (eVar 5) eNil)) eNil)))) (eTest (eOp oNeD (eFld cs_now "now" (eVar 4)) (eVar 6))))
  (sRet (eC (.bl false)))
  sNil))))))
  (sRet (eC (.bl true)))))))
abbrev N_law_well : List Str := ["_law_script", "_law_k", "_law_own", "_law_mixed", "_law_entry"]
def b_law_well : LS :=
  (sSeq (sAsg (eIf (eTest (eOp oLt (eVar 1) (eB bLen (eCons (eVar 0) eNil)))) (eB bInt (eCons (eOp oIx (eVar 0) (eVar 1)) eNil)) (eOp oPlus (eOp oMul (eC (.int 37)) (eVar 1)) (eC (.int 11)))) (gNm 2))
  (sSeq (sAsg (eOp oPlus (eC (.int 90017)) (eOp oMul (eC (.int 2503)) (eVar 1))) (gNm 3))
  (sSeq (sFor (iSeq (eSl (eVar 0) eNoPart (eSomePart (eC (.int 9))))) (gNm 4)
  (sAsg (eOp oMod (eB bInt (eCons (eOp oPlus (eOp oMul (eVar 3) (eC (.int 31337))) (eB bInt (eCons (eVar 4) eNil))) eNil)) (eC (.int 2147483543))) (gNm 3)))
  (sRet (eLstM (eCons (eOp oMod (eB bInt (eCons (eOp oPlus (eVar 3) (eOp oMul (eVar 2) (eC (.int 7919)))) eNil)) (eC (.int 2147483543))) (eCons (eC (.int 0)) (eCons (eIf (eOr (eTest (eOp oLt (eVar 2) (eC (.int 0)))) (eTest (eOp oGe (eVar 2) (eOp oPow (eC (.int 10)) (eC (.int 18)))))) (eB bAbs (eCons (eVar 2) eNil)) (eC (.int 0))) eNil))))))))
abbrev N_law : List Str := ["_law_script", "_law_k"]
def b_law : LS :=
  (sRet (eB bAll (eCons (eLC (iRangeN 1 (eCons (eB bMax2 (eCons (eC (.int 2)) (eCons (eB bMin2 (eCons (eB bLen (eCons (eVar 0) eNil)) (eCons (eC (.int 5)) eNil))) eNil))) eNil)) (.nm 1) eYes (eCall G_law_right 1 (eCons (eCall G_law_well 2 (eCons (eVar 0) (eCons (eVar 1) eNil))) eNil)) [1]) eNil)))
end LL.K80
end

section
set_option Elab.async false
set_option linter.all false
set_option maxRecDepth 100000
/-! K80Sim: simp rules for pairs and for how the state stands in the heap. -/
namespace LL.K80
open PySem LL
theorem b2i_cases (i : Int) (h0 : 0 ≤ i) (h1 : i < 2) : ∃ s, i = b2i s := by
  by_cases z : i = 0
  · exact ⟨false, z⟩
  · exact ⟨true, by unfold b2i; simp; omega⟩
@[simp] theorem b2i_nn (s : Bool) : 0 ≤ b2i s := by cases s <;> decide
@[simp] theorem b2i_lt (s : Bool) : b2i s < 2 := by cases s <;> decide
@[simp] theorem b2i_le (s : Bool) : b2i s ≤ 1 := by cases s <;> decide
@[simp] theorem b2i_f : b2i false = 0 := (rfl)
@[simp] theorem b2i_t : b2i true = 1 := (rfl)
@[simp] theorem one_sub_b2i (s : Bool) : 1 - b2i s = b2i (!s) := by cases s <;> rfl
@[simp] theorem b2i_nat (s : Bool) : (b2i s).toNat = cond s 1 0 := by cases s <;> rfl
@[simp] theorem b2i_inj (s t : Bool) : b2i s = b2i t ↔ s = t := by cases s <;> cases t <;> decide
section
variable {f : Bool → D} {s t : Bool} {v : D} {n : Nat} {h : LH} {R : LH → Prop}
@[simp] theorem prD_len : (prD f).length = 2 := (rfl)
@[simp] theorem prD_at : L2.atI (prD f) (b2i s) = some (f s) := by cases s <;> rfl
@[simp] theorem prD_at0 : L2.atI (prD f) 0 = some (f false) := (rfl)
@[simp] theorem prD_at1 : L2.atI (prD f) 1 = some (f true) := (rfl)
@[simp] theorem prD_ix : L2.ixN 2 (b2i s) = some (cond s 1 0) := by cases s <;> rfl
@[simp] theorem prD_ix0 : L2.ixN 2 0 = some 0 := (rfl)
@[simp] theorem prD_ix1 : L2.ixN 2 1 = some 1 := (rfl)
@[simp] theorem prD_set : (prD f).set (cond s 1 0) v = prD (upR f s v) := by cases s <;> rfl
@[simp] theorem prD_set0 : (prD f).set 0 v = prD (upR f false v) := (rfl)
@[simp] theorem prD_set1 : (prD f).set 1 v = prD (upR f true v) := (rfl)
@[simp] theorem prD_at0' : (prD f)[0]? = some (f false) := (rfl)
@[simp] theorem prD_at1' : (prD f)[1]? = some (f true) := (rfl)
@[simp] theorem prD_get0 {e : 0 < (prD f).length} : (prD f)[0]'e = f false := (rfl)
@[simp] theorem prD_get1 {e : 1 < (prD f).length} : (prD f)[1]'e = f true := (rfl)
@[simp] theorem prD_getb' : (prD f)[cond s 0 1]? = some (f (!s)) := by cases s <;> rfl
@[simp] theorem prD_set' : (prD f).set (cond s 0 1) v = prD (upR f (!s) v) := by cases s <;> rfl
@[simp] theorem prD_getb : (prD f)[cond s 1 0]? = some (f s) := by cases s <;> rfl
@[simp] theorem prD_all {p : D → Bool} : (prD f).all p = (p (f false) && p (f true)) := by simp [prD]
@[simp] theorem upR_f {α : Type} {f : Bool → α} {r : α} : upR f false r true = f true := (rfl)
@[simp] theorem upR_t {α : Type} {f : Bool → α} {r : α} : upR f true r false = f false := (rfl)
theorem upR_fn {α β : Type} {g : Bool → α} {k : α → β} {x : α} : upR (fun t => k (g t)) s (k x) = fun t => k (upR g s x t) := by
  funext t
  unfold upR
  split <;> rfl
@[simp] theorem upR_int {g : Bool → Int} {x : Int} : upR (fun t => D.int (g t)) s (.int x) = fun t => .int (upR g s x t) := upR_fn
@[simp] theorem upR_optN {g : Bool → Option Int} : upR (fun t => optD (g t)) s .non = fun t => optD (upR g s none t) := upR_fn (k := optD) (x := none)
@[simp] theorem upR_optI {g : Bool → Option Int} {x : Int} : upR (fun t => optD (g t)) s (.int x) = fun t => optD (upR g s (some x) t) := upR_fn (k := optD) (x := some x)
@[simp] theorem upR_self {α : Type} {g : Bool → α} : upR g s (g s) = g := by
  funext t
  unfold upR
  split
  · rename_i z; rw [z]
  · rfl
@[simp] theorem upR_upR {α : Type} {g : Bool → α} {x y : α} : upR (upR g s x) s y = upR g s y := by
  funext t
  unfold upR
  split <;> rfl
theorem row_kept {R : Bool → Row} {r : Row} : (upR R s r t).kept = upR (fun t => (R t).kept) s r.kept t := by unfold upR; split <;> rfl
theorem row_sent {R : Bool → Row} {r : Row} : (upR R s r t).sent = upR (fun t => (R t).sent) s r.sent t := by unfold upR; split <;> rfl
theorem row_known {R : Bool → Row} {r : Row} : (upR R s r t).known = upR (fun t => (R t).known) s r.known t := by unfold upR; split <;> rfl
theorem row_small {R : Bool → Row} {r : Row} : (upR R s r t).small = upR (fun t => (R t).small) s r.small t := by unfold upR; split <;> rfl
theorem row_come {R : Bool → Row} {r : Row} : (upR R s r t).come = upR (fun t => (R t).come) s r.come t := by unfold upR; split <;> rfl
theorem row_taken {R : Bool → Row} {r : Row} : (upR R s r t).taken = upR (fun t => (R t).taken) s r.taken t := by unfold upR; split <;> rfl
theorem row_full {R : Bool → Row} {r : Row} : (upR R s r t).full = upR (fun t => (R t).full) s r.full t := by unfold upR; split <;> rfl
theorem row_first {R : Bool → Row} {r : Row} : (upR R s r t).first = upR (fun t => (R t).first) s r.first t := by unfold upR; split <;> rfl
end
/-! addresses in a Flow -/
section
variable {n k : Nat} {s t : Bool}
@[simp] theorem sAt_self : (sAt n s = n) = False := by unfold sAt; simp; cases s <;> simp <;> omega
@[simp] theorem sAt_self' : (n = sAt n s) = False := by unfold sAt; simp; cases s <;> simp <;> omega
@[simp] theorem sAt_inj : (sAt n s = sAt n t) = (s = t) := by unfold sAt; cases s <;> cases t <;> simp
theorem sAt_lt : n + 12 < sAt n s ∧ sAt n s < n + 15 := by unfold sAt; cases s <;> simp
theorem sAt_ne (h : 14 < k) : (sAt n s = n + k) = False := by have := sAt_lt (n := n) (s := s); simp; omega
theorem sAt_ne' (h : 14 < k) : (n + k = sAt n s) = False := by have := sAt_lt (n := n) (s := s); simp; omega
@[simp] theorem sAt_n15 : (sAt n s = n + 15) = False := sAt_ne (by decide)
@[simp] theorem sAt_m15 : (n + 15 = sAt n s) = False := sAt_ne' (by decide)
@[simp] theorem sAt_n16 : (sAt n s = n + 16) = False := sAt_ne (by decide)
@[simp] theorem sAt_m16 : (n + 16 = sAt n s) = False := sAt_ne' (by decide)
@[simp] theorem sAt_n17 : (sAt n s = n + 17) = False := sAt_ne (by decide)
@[simp] theorem sAt_m17 : (n + 17 = sAt n s) = False := sAt_ne' (by decide)
@[simp] theorem sAt_n18 : (sAt n s = n + 18) = False := sAt_ne (by decide)
@[simp] theorem sAt_m18 : (n + 18 = sAt n s) = False := sAt_ne' (by decide)
@[simp] theorem sAt_n19 : (sAt n s = n + 19) = False := sAt_ne (by decide)
@[simp] theorem sAt_m19 : (n + 19 = sAt n s) = False := sAt_ne' (by decide)
@[simp] theorem sAt_n20 : (sAt n s = n + 20) = False := sAt_ne (by decide)
@[simp] theorem sAt_m20 : (n + 20 = sAt n s) = False := sAt_ne' (by decide)
@[simp] theorem sAt_n21 : (sAt n s = n + 21) = False := sAt_ne (by decide)
@[simp] theorem sAt_m21 : (n + 21 = sAt n s) = False := sAt_ne' (by decide)
@[simp] theorem sAt_n22 : (sAt n s = n + 22) = False := sAt_ne (by decide)
@[simp] theorem sAt_m22 : (n + 22 = sAt n s) = False := sAt_ne' (by decide)
@[simp] theorem sAt_n23 : (sAt n s = n + 23) = False := sAt_ne (by decide)
@[simp] theorem sAt_m23 : (n + 23 = sAt n s) = False := sAt_ne' (by decide)
@[simp] theorem sAt_n24 : (sAt n s = n + 24) = False := sAt_ne (by decide)
@[simp] theorem sAt_m24 : (n + 24 = sAt n s) = False := sAt_ne' (by decide)
end
end LL.K80
end

section
set_option Elab.async false
set_option linter.all false
set_option maxRecDepth 100000
/-! K80Val0: the well. -/
namespace LL.K80
open PySem LL
theorem V_law_draw : ∀ ds h Q E, ds.length = 2 → G_law_draw ds h Q E → b_law_draw (startD N_law_draw ds) h (bodyK Q E) := by
  rintro ds h Q E _ ⟨w, m, rfl, h0, h1, ⟨a, c, b, hw⟩, q⟩
  show b_law_draw [some (.ref w), some (.int m), none, none] h _
  refine byK fun κ kr kn ke => ?_
  unfold wellO at hw
  unfold b_law_draw
  simp [hw]
  split
  · exact ⟨⟨h0, h1⟩, kr _ _ (q _ _ _ _ ⟨_, rfl, mod_nn h0, mod_lt' h0⟩)⟩
  · exact ⟨.inr ⟨by omega, by omega⟩, h0, kr _ _ (q _ _ _ _ ⟨_, rfl, mod_nn h0, mod_lt' h0⟩)⟩
theorem V_law_one_of : ∀ ds h Q E, ds.length = 2 → G_law_one_of ds h Q E → b_law_one_of (startD N_law_one_of ds) h (bodyK Q E) := by
  rintro ds h Q E _ ⟨w, xs, rfl, h0, h1, hw, q⟩
  show b_law_one_of [some (.ref w), some (.lst xs)] h _
  refine byK fun κ kr kn ke => ?_
  unfold b_law_one_of
  simp
  refine ⟨w, _, rfl, by omega, by omega, hw, ?_⟩
  rintro r a c b ⟨i, rfl, i0, i1⟩
  simp [i0, i1]
  exact kr _ _ (q _ _ _ _ (List.getElem_mem _))
theorem wellAt_set {w : Nat} {h : LH} {a b c : Int} (hw : WellAt w h) : WellAt w (h.set w (wellO a c b)) := by
  obtain ⟨a', c', b', e⟩ := hw
  exact ⟨a, c, b, set_get e⟩
theorem wsp_of {w : Nat} {R : D → Prop} {h : LH} {Q : D → LH → Prop} {a b c : Int} (hw : WellAt w h) (q : ∀ r a c b, R r → Q r (h.set w (wellO a c b))) : wsp w R (h.set w (wellO a c b)) Q :=
  ⟨wellAt_set hw, fun r a' c' b' hr => by rw [List.set_set]; exact q _ _ _ _ hr⟩
theorem V_law_ways : ∀ ds h Q E, ds.length = 1 → G_law_ways ds h Q E → b_law_ways (startD N_law_ways ds) h (bodyK Q E) := by
  rintro ds h Q E _ ⟨w, rfl, hw, q⟩
  show b_law_ways [some (.ref w), none] h _
  refine byK fun κ kr kn ke => ?_
  unfold b_law_ways
  simp
  refine ⟨w, _, rfl, by simp, by simp, hw, ?_⟩
  intro r a c b hr
  refine ⟨w, 4, rfl, by omega, by omega, wsp_of hw ?_⟩
  rintro r1 a c b ⟨e, rfl, e0, e1⟩
  simp
  refine ⟨w, 41, rfl, by omega, by omega, wsp_of hw ?_⟩
  rintro r2 a c b ⟨d, rfl, d0, d1⟩
  refine ⟨w, _, rfl, by simp, by simp, wsp_of hw ?_⟩
  rintro r3 a c b hr3
  refine kr _ _ (q _ _ _ _ ?_)
  have hk : ∃ k, k < 3 ∧ r = .str (ruleS k) := by
    simp only [List.mem_cons, List.not_mem_nil, or_false] at hr
    rcases hr with rfl | rfl | rfl | rfl
    · exact ⟨1, by omega, rfl⟩
    · exact ⟨0, by omega, rfl⟩
    · exact ⟨2, by omega, rfl⟩
    · exact ⟨1, by omega, rfl⟩
  obtain ⟨k, hk, rfl⟩ := hk
  simp only [List.mem_cons, List.not_mem_nil, or_false] at hr3
  have hl : ∃ l, r3 = .int l ∧ 0 ≤ l ∧ l ≤ 40 := by
    rcases hr3 with rfl | rfl | rfl | rfl | rfl | rfl <;> exact ⟨_, rfl, by omega, by omega⟩
  obtain ⟨l, rfl, l0, l1⟩ := hl
  exact ⟨k, 1 + e, l, rfl, hk, by omega, by omega, l0, l1⟩
def parOf (z w : Int) (k0 k1 : Nat) (e0 e1 d0 d1 : Int) : Par := ⟨z, w, fun s => if s then k1 else k0, fun s => if s then e1 else e0, fun s => if s then d1 else d0⟩
theorem V_law_told : ∀ ds h Q E, ds.length = 1 → G_law_told ds h Q E → b_law_told (startD N_law_told ds) h (bodyK Q E) := by
  rintro ds h Q E _ ⟨w, rfl, hw, q⟩
  show b_law_told [some (.ref w), none] h _
  refine byK fun κ kr kn ke => ?_
  unfold b_law_told
  simp
  refine ⟨w, 40, rfl, by omega, by omega, hw, ?_⟩
  rintro r a c b ⟨z0, rfl, z1, z2⟩
  simp
  refine ⟨w, _, rfl, by simp, by simp, wsp_of hw ?_⟩
  intro r a c b hr
  refine ⟨w, 20, rfl, by omega, by omega, wsp_of hw ?_⟩
  rintro r1 a c b ⟨y0, rfl, y1, y2⟩
  simp
  refine ⟨w, _, rfl, by simp, by simp, wsp_of hw ?_⟩
  intro r2 a c b hr2
  refine ⟨w, rfl, wsp_of hw ?_⟩
  rintro r3 a c b ⟨k0, e0, d0, rfl, h1, h2, h3, h4, h5⟩
  refine ⟨w, rfl, wsp_of hw ?_⟩
  rintro r4 a c b ⟨k1, e1, d1, rfl, g1, g2, g3, g4, g5⟩
  refine kr _ _ (q _ _ _ _ ?_)
  simp only [List.mem_cons, List.not_mem_nil, or_false] at hr hr2
  have hl : ∃ l, r = .int l ∧ 1 ≤ l ∧ l ≤ 40 := by
    rcases hr with rfl | rfl | rfl | rfl | rfl | rfl | rfl | rfl <;> exact ⟨_, rfl, by omega, by omega⟩
  obtain ⟨z, rfl, z3, z4⟩ := hl
  have hl : ∃ l, r2 = .int l ∧ 1 ≤ l ∧ l ≤ 20 := by
    rcases hr2 with rfl | rfl | rfl | rfl | rfl <;> exact ⟨_, rfl, by omega, by omega⟩
  obtain ⟨y, rfl, y3, y4⟩ := hl
  refine ⟨parOf z y k0 k1 e0 e1 d0 d1, ⟨z3, z4, y3, by show y ≤ 200; omega, ?_, ?_, ?_, ?_, ?_⟩, rfl⟩ <;> intro s <;> cases s <;> simp [parOf] <;> omega

theorem WorldAt.set {A : WIx} {P : Par} {S : St} {h : LH} {w : Nat} {o : O} (W : WorldAt A P S h) (n : ¬ A.own w) : WorldAt A P S (h.set w o) := by
  simp only [WIx.own, not_or, not_exists] at n
  refine ⟨W.ok, ?_, fun s => ?_, ?_, ?_⟩
  · rw [List.getElem?_set_ne n.1]; exact W.w
  · rw [List.getElem?_set_ne (n.2.1 s)]; exact W.r s
  · rw [List.getElem?_set_ne n.2.2.1]; exact W.fl
  · rw [List.getElem?_set_ne n.2.2.2]; exact W.lg
theorem V_law_job : ∀ ds h Q E, ds.length = 2 → G_law_job ds h Q E → b_law_job (startD N_law_job ds) h (bodyK Q E) := by
  rintro ds h Q E _ ⟨w, A, P, S, rfl, W, hP, no, hw, q⟩
  show b_law_job [some (.ref w), some (.ref A.w), none, none, none] h _
  refine byK fun κ kr kn ke => ?_
  unfold b_law_job
  simp
  refine ⟨w, 10, rfl, by omega, by omega, hw, ?_⟩
  rintro r a c b ⟨t, rfl, t0, t1⟩
  refine ⟨w, 2, rfl, by omega, by omega, wsp_of hw ?_⟩
  rintro r a c b ⟨k, rfl, k0, k1⟩
  obtain ⟨s, rfl⟩ := b2i_cases k k0 k1
  have W1 := W.set (o := wellO a c b) no
  have e1 := W1.w
  have e2 := W1.r s
  simp [e1, e2, rowD]
  have rest : if t < 6 then
    seqA (toldD P) (List.set h w (wellO a c b)) fun ds =>
      ∃ d,
        L2.atI ds 0 = some d ∧
          oMul (D.int 3) d (List.set h w (wellO a c b)) fun x h1 =>
            bMin2 [D.int 60, x] h1 fun x h1 =>
              G_law_one_of [D.ref w, D.lst [D.int 3, D.int 6, D.int 12, x]] h1
                (fun x h1 =>
                  G_law_draw [D.ref w, x] h1
                    (fun y h2 =>
                      oPlus (D.int 1) y h2 fun x h1 => κ.rt (D.tup [D.str (Str.ofString "write"), D.int (b2i s), x]) h1)
                    fun cl fs h => κ.ex cl fs [some (D.ref w), some (D.ref A.w), some (D.int t), some (D.int (b2i s)), some (D.int ((S.row s).come - (S.row s).taken))] h)
                fun cl fs h => κ.ex cl fs [some (D.ref w), some (D.ref A.w), some (D.int t), some (D.int (b2i s)), some (D.int ((S.row s).come - (S.row s).taken))] h
  else
    G_law_one_of [D.ref w, D.lst [D.int 2, D.int 6, D.int 14, D.int 14, D.int 60]] (List.set h w (wellO a c b))
      (fun x h1 =>
        G_law_draw [D.ref w, x] h1
          (fun y h2 => oPlus (D.int 1) y h2 fun x h1 => κ.rt (D.tup [D.str (Str.ofString "wait"), x]) h1) fun cl fs h =>
          κ.ex cl fs [some (D.ref w), some (D.ref A.w), some (D.int t), some (D.int (b2i s)), some (D.int ((S.row s).come - (S.row s).taken))] h)
      fun cl fs h => κ.ex cl fs [some (D.ref w), some (D.ref A.w), some (D.int t), some (D.int (b2i s)), some (D.int ((S.row s).come - (S.row s).taken))] h := by
    have p1 := hP.s1
    have p2 := hP.s2
    split
    · simp [toldD]
      refine ⟨w, _, rfl, by simp, by simp, wsp_of hw ?_⟩
      intro r a c b hr
      simp only [List.mem_cons, List.not_mem_nil, or_false] at hr
      have : ∃ m, r = .int m ∧ 0 < m ∧ m ≤ 60 := by
        rcases hr with rfl | rfl | rfl | rfl <;> exact ⟨_, rfl, by omega, by omega⟩
      obtain ⟨m, rfl, m0, m1⟩ := this
      refine ⟨w, m, rfl, by omega, by omega, wsp_of hw ?_⟩
      rintro r a c b ⟨k, rfl, k0, k1⟩
      simp
      exact kr _ _ (q _ _ _ _ ⟨.write s (1 + k), ⟨by omega, by omega⟩, rfl⟩)
    · refine ⟨w, _, rfl, by simp, by simp, wsp_of hw ?_⟩
      intro r a c b hr
      simp only [List.mem_cons, List.not_mem_nil, or_false] at hr
      have : ∃ m, r = .int m ∧ 0 < m ∧ m ≤ 60 := by
        rcases hr with rfl | rfl | rfl | rfl | rfl <;> exact ⟨_, rfl, by omega, by omega⟩
      obtain ⟨m, rfl, m0, m1⟩ := this
      refine ⟨w, m, rfl, by omega, by omega, wsp_of hw ?_⟩
      rintro r a c b ⟨k, rfl, k0, k1⟩
      simp
      exact kr _ _ (q _ _ _ _ ⟨.wait (1 + k), ⟨by omega, by omega⟩, rfl⟩)
  split
  · split
    · refine ⟨w, _, rfl, ?_, ?_, wsp_of hw ?_⟩
      · split <;> omega
      · split <;> omega
      rintro r a c b ⟨m, rfl, m0, m1⟩
      simp
      refine kr _ _ (q _ _ _ _ ⟨.read s (1 + m), ⟨by omega, ?_, ?_⟩, rfl⟩)
      · split at m1 <;> omega
      · split at m1 <;> omega
    · exact rest
  · exact rest
theorem V_law_new : ∀ ds h Q E, ds.length = 1 → G_law_new ds h Q E → b_law_new (startD N_law_new ds) h (bodyK Q E) := by
  rintro ds h Q E _ ⟨P, rfl, q⟩
  show b_law_new [some (toldD P)] h _
  refine byK fun κ kr kn ke => ?_
  unfold b_law_new
  simp
  exact kr _ _ q
theorem V_law_well : ∀ ds h Q E, ds.length = 2 → G_law_well ds h Q E → b_law_well (startD N_law_well ds) h (bodyK Q E) := by
  rintro ds h Q E _ ⟨ns, k, rfl, hl, q⟩
  show b_law_well [some (.lst (ns.map .int)), some (.int k), none, none, none] h _
  refine byK fun κ kr kn ke => ?_
  unfold b_law_well
  simp
  have go : ∀ (o : Int) (K : LK), (∀ m z, K.nx [some (D.lst (List.map D.int ns)), some (D.int ↑k), some (D.int o), some (.int m), z] h) → forAt { items := cutD (List.map D.int ns) none (some 9), ok := fun x => True } (gNm 4)
      (sAsg (eOp oMod (eB bInt (eCons (eOp oPlus (eOp oMul (eVar 3) (eC (D.int 31337))) (eB bInt (eCons (eVar 4) eNil))) eNil)) (eC (D.int 2147483543))) (gNm 3))
      [some (D.lst (List.map D.int ns)), some (D.int ↑k), some (D.int o), some (D.int (90017 + 2503 * ↑k)), none] h K := by
    intro o K hK
    refine ⟨fun _ σ' h' => ∃ m z, σ' = [some (D.lst (List.map D.int ns)), some (D.int ↑k), some (D.int o), some (.int m), z] ∧ h' = h, ⟨_, _, rfl, rfl⟩, fun _ _ _ _ _ => trivial, ?_, ?_⟩
    · rintro i x σ' h' e ⟨m, z, rfl, rfl⟩
      have hx : x ∈ cutD (ns.map D.int) none (some 9) := List.mem_of_getElem? e
      have hx : x ∈ ns.map D.int := by
        unfold cutD at hx
        exact List.mem_of_mem_drop (List.mem_of_mem_take hx)
      obtain ⟨y, _, rfl⟩ := List.mem_map.mp hx
      simp
    · rintro σ' h' ⟨m, z, rfl, rfl⟩
      exact hK m z
  split
  · rename_i z
    simp [z]
    refine go _ _ fun m z => ?_
    simp
    (repeat' split) <;> exact kr _ _ (q _ _ _)
  · refine go _ _ fun m z => ?_
    simp
    (repeat' split) <;> exact kr _ _ (q _ _ _)
end LL.K80
end

section
set_option Elab.async false
set_option linter.all false
set_option maxRecDepth 100000
/-! K80Val1: the Flow. -/
namespace LL.K80
open PySem LL
theorem sum_len : ∀ {xs : List (Int × Int)}, (∀ x ∈ xs, 0 < x.1) → (xs.length : Int) ≤ sumA xs
  | [], _ => by simp [sumA]
  | x :: xs, h => by
    have a := sum_len (xs := xs) fun y hy => h y (List.mem_cons_of_mem _ hy)
    have b := h x List.mem_cons_self
    simp only [sumA, List.map_cons, List.sum_cons, List.length_cons] at *
    omega
theorem Stock.len {S : St} {stk : Stk} (k : Stock S stk) (s : Bool) : ((stk s).length : Int) ≤ (S.row s).kept := by
  rw [← k.sum s]; exact sum_len (k.pos s)
@[simp] theorem fm_stD (xs : List (Int × Int)) : ((xs.map stD).filterMap fun d => match d with | .tup [a, b] => some a | _ => none) = (xs.map (·.1)).map D.int := by
  induction xs with
  | nil => rfl
  | cons x xs ih => simp [stD, ih]
theorem V_Flow_kept : ∀ ds h Q E, ds.length = 2 → G_Flow_kept ds h Q E → b_Flow_kept (startD N_Flow_kept ds) h (bodyK Q E) := by
  rintro ds h Q E _ ⟨d, P, S, s, rfl, hF, hk, q⟩
  show b_Flow_kept [some d, some (.int (b2i s)), none, none] h _
  refine byK fun κ kr kn ke => ?_
  unfold b_Flow_kept
  have key : ∀ (stk : Stk), Stock S stk → ∀ J : LIt, J.items = (stk s).map stD → J.ok h → compAt J (.tp [2, 3]) eYes (eVar 2) [2, 3] [some d, some (.int (b2i s)), none, none] h (fun acc h1 => bSum [.lst acc] h1 κ.rt) := by
    intro stk K J hJ ok
    refine comp_pure (fun d => match d with | .tup [a, b] => some a | _ => none) ok ?_ ?_ ?_
    · rw [hJ, List.length_map]
      have := K.len s
      unfold sizeLine; omega
    · rw [hJ]
      intro x hx R hR
      obtain ⟨y, hy, rfl⟩ := List.mem_map.mp hx
      simp [stD] at hR ⊢
      exact hR
    · rw [hJ]
      have := K.sum s
      unfold sumA at this
      simp only [fm_stD, bSum_lst]
      exact ⟨_, rfl, by rw [this]; exact kr _ _ q⟩
  rcases hF with ⟨n, rfl, fl, stk, lng, F, K⟩ | ⟨stk, lng, rfl, K⟩
  · have e0 := F.self
    have e1 := F.st s
    have k := key stk K ⟨(stk s).map stD, fun h' => h'[sAt n s]? = some (.lst ((stk s).map stD))⟩ rfl e1
    simp [e0, e1, flowFs]
    exact k
  · have k := key stk K ⟨(stk s).map stD, fun _ => True⟩ rfl trivial
    simp [flowD, flowNs, flowDs]
    exact k
theorem V_Flow_fresh : ∀ ds h Q E, ds.length = 2 → G_Flow_fresh ds h Q E → b_Flow_fresh (startD N_Flow_fresh ds) h (bodyK Q E) := by
  rintro ds h Q E _ ⟨d, P, S, s, rfl, hF, q⟩
  show b_Flow_fresh [some d, some (.int (b2i s))] h _
  refine byK fun κ kr kn ke => ?_
  unfold b_Flow_fresh
  rcases hF with ⟨n, rfl, fl, stk, lng, F, K⟩ | ⟨stk, lng, rfl, K⟩
  · have e0 := F.self
    have e1 := F.come
    have e2 := F.taken
    simp [e0, e1, e2, flowFs]
    exact kr _ _ q
  · simp [flowD, flowNs, flowDs]
    exact kr _ _ q
end LL.K80
end

section
set_option Elab.async false
set_option linter.all false
set_option maxRecDepth 100000
/-! K80Val2: the Flow, made and copied. -/
namespace LL.K80
open PySem LL
theorem V_Flow_init : ∀ ds h Q E, ds.length = 2 → G_Flow_init ds h Q E → b_Flow_init (startD N_Flow_init ds) h (bodyK Q E) := by
  rintro ds h Q E _ ⟨pre, P, rfl, rfl, q⟩
  show b_Flow_init [some (.ref pre.length), some (lineD P)] _ _
  refine byK fun κ kr kn ke => ?_
  unfold b_Flow_init
  simp [-Bool.forall_bool, -Bool.exists_bool, lineD, lineNs, lineDs]
  exact kn _ _ q
theorem V_Flow_copied : ∀ ds h Q E, ds.length = 1 → G_Flow_copied ds h Q E → b_Flow_copied (startD N_Flow_copied ds) h (bodyK Q E) := by
  rintro ds h Q E _ ⟨P, S, stk, lng, rfl, K, q⟩
  show b_Flow_copied [some (flowD P S stk lng), none] _ _
  refine byK fun κ kr kn ke => ?_
  unfold b_Flow_copied
  simp [-Bool.forall_bool, -Bool.exists_bool, flowD, flowNs, flowDs]
  refine ⟨h, P, rfl, rfl, ?_⟩
  simp [-Bool.forall_bool, -Bool.exists_bool, newF, flowFs]
  refine kr _ _ (q _ ⟨h.length + 23, stk, lng, ⟨?_, fun s => ?_, ?_, ?_, ?_, ?_, ?_, ?_, ?_, ?_, ?_, ?_, .inl rfl⟩, K⟩ ?_)
  · simp [-Bool.forall_bool, -Bool.exists_bool, flowFs, prD, sAt]
  · cases s
    · simp [-Bool.forall_bool, -Bool.exists_bool, sAt]
    · exact app_new (k := 14)
  all_goals simp [-Bool.forall_bool, -Bool.exists_bool, Bel]
theorem bel_refl (n : Nat) (h : LH) : Bel n h h := rfl
theorem bel_trans {n : Nat} {a b c : LH} (p : Bel n a b) (q : Bel n b c) : Bel n a c := Eq.trans q p
theorem bel_set {n i : Nat} {a b : LH} {o : O} (p : Bel n a b) (hi : n ≤ i) : Bel n a (b.set i o) := by
  unfold Bel at *
  rw [List.take_set_of_le hi]; exact p
theorem bel_app {n : Nat} {a b l : LH} (p : Bel n a b) (hi : n ≤ b.length) : Bel n a (b ++ l) := by
  unfold Bel at *
  rw [List.take_append_of_le_length hi]; exact p
theorem sumA_nil : sumA [] = 0 := rfl
theorem sumA_cons {x : Int × Int} {xs : List (Int × Int)} : sumA (x :: xs) = x.1 + sumA xs := by simp [-Bool.forall_bool, -Bool.exists_bool, sumA]
/-- between two rounds of take_out: k is left -/
def TO (n fl : Nat) (P : Par) (S : St) (s : Bool) (m : Int) (h : LH) (k : Nat) (σ' : LV) (h' : LH) : Prop := ∃ stk' lng' u v, σ' = [some (.ref n), some (.int (b2i s)), some (.int m), some (.int k), u, v] ∧ FlowAt n fl P S stk' lng' h' ∧ (∀ t, sumA (stk' t) = (S.row t).kept - if t = s then m - k else 0) ∧ (∀ t, ∀ x ∈ stk' t, 0 < x.1) ∧ Bel n h h'
theorem FlowAt.toLong {n fl : Nat} {P : Par} {S : St} {stk : Stk} {lng lng' : Bool → Int} {h : LH} (F : FlowAt n fl P S stk lng h) : FlowAt n fl P S stk lng' (h.set (n + 22) (.lst (two lng'))) := by
  obtain ⟨a0, a1, a2, a3, a4, a5, a6, a7, a8, a9, a10, a11, ix⟩ := F
  have i1 : n + 22 ≠ fl := by omega
  refine ⟨?_, fun s => ?_, ?_, ?_, ?_, ?_, ?_, ?_, ?_, ?_, ?_, ?_, ix⟩
  all_goals simp [-Bool.forall_bool, -Bool.exists_bool, *]
theorem FlowAt.toStk {n fl : Nat} {P : Par} {S : St} {stk : Stk} {lng : Bool → Int} {h : LH} {s : Bool} {xs : List (Int × Int)} (F : FlowAt n fl P S stk lng h) : FlowAt n fl P S (upR stk s xs) lng (h.set (sAt n s) (.lst (xs.map stD))) := by
  obtain ⟨a0, a1, a2, a3, a4, a5, a6, a7, a8, a9, a10, a11, ix⟩ := F
  have i1 : sAt n s ≠ fl := by have := sAt_lt (n := n) (s := s); omega
  refine ⟨?_, fun t => ?_, ?_, ?_, ?_, ?_, ?_, ?_, ?_, ?_, ?_, ?_, ix⟩
  rotate_left
  · by_cases z : t = s
    · subst z; simp [-Bool.forall_bool, -Bool.exists_bool, a1 t]
    · rw [upR_ne z, List.getElem?_set_ne (by intro e; rw [sAt_inj] at e; exact z e.symm)]; exact a1 t
  all_goals simp [-Bool.forall_bool, -Bool.exists_bool, *]
theorem V_Flow_take_out : ∀ ds h Q E, ds.length = 3 → G_Flow_take_out ds h Q E → b_Flow_take_out (startD N_Flow_take_out ds) h (bodyK Q E) := by
  rintro ds h Q E _ ⟨n, fl, P, S, stk, lng, s, m, rfl, F, K, m0, m1, q⟩
  show b_Flow_take_out [some (.ref n), some (.int (b2i s)), some (.int m), none, none, none] h _
  refine byK fun κ kr kn ke => ?_
  unfold b_Flow_take_out
  simp [-Bool.forall_bool, -Bool.exists_bool]
  refine whileT (TO n fl P S s m h) m.toNat ⟨stk, lng, none, none, ?_, F, fun t => ?_, K.pos, rfl⟩ ?_
  · rw [Int.toNat_of_nonneg m0]
  · rw [Int.toNat_of_nonneg m0, K.sum t]; split <;> omega
  rintro k σ' h' ⟨stk', lng', u, v, rfl, F', hs, hp, hb⟩
  refine ⟨decide (0 < k), fun Qb E hq => by simpa [-Bool.forall_bool, -Bool.exists_bool] using hq, fun kp => ?_, fun kp => ?_⟩
  · have kp := of_decide_eq_true kp
    have e0 := F'.self
    have e1 := F'.st s
    have e2 := F'.long
    have ss := hs s
    simp [-Bool.forall_bool, -Bool.exists_bool] at ss
    obtain ⟨x, xs, hx⟩ : ∃ x xs, stk' s = x :: xs := by
      cases z : stk' s with
      | nil => rw [z, sumA_nil] at ss; omega
      | cons x xs => exact ⟨x, xs, rfl⟩
    have px := hp s x (by rw [hx]; exact List.mem_cons_self)
    rw [hx, List.map_cons] at e1
    rw [hx, sumA_cons] at ss
    have hpx : ∀ y ∈ xs, 0 < y.1 := fun y hy => hp s y (by rw [hx]; exact List.mem_cons_of_mem _ hy)
    have so : ∀ ys t, sumA (upR stk' s ys t) = if t = s then sumA ys else sumA (stk' t) := by
      intro ys t
      by_cases z : t = s
      · subst z; simp [-Bool.forall_bool, -Bool.exists_bool]
      · rw [upR_ne z, if_neg z]
    simp (maxDischargeDepth := 6) [-Bool.forall_bool, -Bool.exists_bool, e0, e1, e2, flowFs, stD]
    split
    · rename_i z
      refine ⟨0, kp, upR stk' s ((x.1 - k, x.2) :: xs), upR lng' s (if lng' s < S.tick - x.2 then S.tick - x.2 else lng' s), some (.int x.1), some (.int x.2), by rw [Int.sub_self]; rfl, ?_, fun t => ?_, fun t y hy => ?_, ?_⟩
      · exact F'.toLong.toStk
      · rw [so, sumA_cons, hs t]
        split
        · rename_i zt
          subst zt
          simp [-Bool.forall_bool, -Bool.exists_bool]; omega
        · rfl
      · by_cases zt : t = s
        · subst zt
          rw [upR_same] at hy
          rcases List.mem_cons.mp hy with rfl | hy
          · show 0 < x.1 - k; omega
          · exact hpx y hy
        · rw [upR_ne zt] at hy; exact hp t y hy
      · exact bel_set (bel_set hb (by omega)) (by have := sAt_lt (n := n) (s := s); omega)
    · rename_i z
      refine ⟨0, by simp [-Bool.forall_bool, -Bool.exists_bool, seqIndex?], (k - x.1).toNat, by omega, upR stk' s xs, upR lng' s (if lng' s < S.tick - x.2 then S.tick - x.2 else lng' s), some (.int x.1), some (.int x.2), ?_, F'.toLong.toStk, fun t => ?_, fun t y hy => ?_, ?_⟩
      · rw [Int.toNat_of_nonneg (by omega)]
      · rw [so, hs t]
        split
        · rename_i zt
          subst zt
          simp [-Bool.forall_bool, -Bool.exists_bool]; omega
        · rfl
      · by_cases zt : t = s
        · subst zt
          rw [upR_same] at hy
          exact hpx y hy
        · rw [upR_ne zt] at hy; exact hp t y hy
      · exact bel_set (bel_set hb (by omega)) (by have := sAt_lt (n := n) (s := s); omega)
  · have kp := of_decide_eq_false kp
    simp [-Bool.forall_bool, -Bool.exists_bool] at kp
    subst kp
    refine kn _ _ (q stk' lng' h' F' ?_ hp hb)
    intro t
    rw [hs t]; simp [-Bool.forall_bool, -Bool.exists_bool]
end LL.K80
end

section
set_option Elab.async false
set_option linter.all false
set_option maxRecDepth 100000
/-! K80Val3: the Flow, pieces are sent. -/
namespace LL.K80
open PySem LL
theorem V_Flow_send : ∀ ds h Q E, ds.length = 3 → G_Flow_send ds h Q E → b_Flow_send (startD N_Flow_send ds) h (bodyK Q E) := by
  rintro ds h Q E _ ⟨n, P, S, s, m, rfl, hP, m0, m1, l1, l2, ⟨fl, stk, lng, F, K⟩, q⟩
  show b_Flow_send [some (.ref n), some (.int (b2i s)), some (.int m)] h _
  refine byK fun κ kr kn ke => ?_
  unfold b_Flow_send
  have e0 := F.self
  simp (maxDischargeDepth := 6) [-Bool.forall_bool, -Bool.exists_bool, e0, flowFs]
  refine ⟨n, fl, P, S, stk, lng, s, m, rfl, F, K, m0, m1, fun stk' lng' h' F hs hp hb => ?_⟩
  obtain ⟨a0, a1, a2, a3, a4, a5, a6, a7, a8, a9, a10, a11, ix⟩ := F
  have i0 : fl ≠ n := by omega
  have i1 : fl ≠ n + 15 := by omega
  have i2 : fl ≠ n + 16 := by omega
  have i3 : fl ≠ n + 17 := by omega
  have i4 : fl ≠ n + 18 := by omega
  have i5 : fl ≠ n + 19 := by omega
  have i6 : fl ≠ n + 20 := by omega
  have i7 : fl ≠ n + 21 := by omega
  have i8 : fl ≠ n + 22 := by omega
  have i9 : fl ≠ n + 24 := by omega
  have i10 : ∀ s, fl ≠ sAt n s := fun s => by have := sAt_lt (n := n) (s := s); omega
  have l1 : S.flight.length < 16777216 := by omega
  have l2 : S.log.length < 16777216 := by omega
  have st : Stock (send P s m S) stk' := by
    refine ⟨fun t => ?_, hp⟩
    rw [hs t]
    by_cases z : t = s
    · subst z; simp [-Bool.forall_bool, -Bool.exists_bool, send, sendR]
    · simp [-Bool.forall_bool, -Bool.exists_bool, send, upR_ne z, z]
  simp (maxDischargeDepth := 6) [-Bool.forall_bool, -Bool.exists_bool, a0, a1, a2, a3, a4, a5, a6, a7, a8, a9, a10, a11, flowFs, lineD, lineNs, lineDs, i0, i1, i2, i3, i4, i5, i6, i7, i8, i9, i10, i0.symm, i1.symm, i2.symm, i3.symm, i4.symm, i5.symm, i6.symm, i7.symm, i8.symm, i9.symm, l1, l2]
  have lt := @sAt_lt n
  by_cases z1 : 0 < m
  · by_cases z2 : m < P.size
    · rw [if_pos z1, if_pos z2]
      refine kn _ _ (q _ ⟨fl, stk', lng', ⟨?_, ?_, ?_, ?_, ?_, ?_, ?_, ?_, ?_, ?_, ?_, ?_, ix⟩, st⟩ ?_)
      all_goals first | intro t | skip
      all_goals first | (simp (maxDischargeDepth := 6) [-Bool.forall_bool, -Bool.exists_bool, a0, a1, a2, a3, a4, a5, a6, a7, a8, a9, a10, a11, i0, i1, i2, i3, i4, i5, i6, i7, i8, i9, i10, i0.symm, i1.symm, i2.symm, i3.symm, i4.symm, i5.symm, i6.symm, i7.symm, i8.symm, i9.symm, send, sendR, row_sent, row_known, row_small, row_come, row_taken, row_full, row_first, z1, z2, pcD, pcF]; done) | skip
      exact bel_set (bel_set (bel_set (bel_set (bel_set (bel_set hb (by omega)) (by omega)) (by omega)) (by omega)) (by omega)) (by omega)
    · rw [if_pos z1, if_neg z2]
      refine kn _ _ (q _ ⟨fl, stk', lng', ⟨?_, ?_, ?_, ?_, ?_, ?_, ?_, ?_, ?_, ?_, ?_, ?_, ix⟩, st⟩ ?_)
      all_goals first | intro t | skip
      all_goals first | (simp (maxDischargeDepth := 6) [-Bool.forall_bool, -Bool.exists_bool, a0, a1, a2, a3, a4, a5, a6, a7, a8, a9, a10, a11, i0, i1, i2, i3, i4, i5, i6, i7, i8, i9, i10, i0.symm, i1.symm, i2.symm, i3.symm, i4.symm, i5.symm, i6.symm, i7.symm, i8.symm, i9.symm, send, sendR, row_sent, row_known, row_small, row_come, row_taken, row_full, row_first, z1, z2, pcD, pcF]; done) | skip
      exact bel_set (bel_set (bel_set (bel_set (bel_set hb (by omega)) (by omega)) (by omega)) (by omega)) (by omega)
  · by_cases z2 : True
    · rw [if_neg z1]
      refine kn _ _ (q _ ⟨fl, stk', lng', ⟨?_, ?_, ?_, ?_, ?_, ?_, ?_, ?_, ?_, ?_, ?_, ?_, ix⟩, st⟩ ?_)
      all_goals first | intro t | skip
      all_goals first | (simp (maxDischargeDepth := 6) [-Bool.forall_bool, -Bool.exists_bool, a0, a1, a2, a3, a4, a5, a6, a7, a8, a9, a10, a11, i0, i1, i2, i3, i4, i5, i6, i7, i8, i9, i10, i0.symm, i1.symm, i2.symm, i3.symm, i4.symm, i5.symm, i6.symm, i7.symm, i8.symm, i9.symm, send, sendR, row_sent, row_known, row_small, row_come, row_taken, row_full, row_first, z1, pcD, pcF]; done) | skip
      exact bel_set (bel_set (bel_set (bel_set (bel_set hb (by omega)) (by omega)) (by omega)) (by omega)) (by omega)
    · exact absurd trivial z2
end LL.K80
end

section
set_option Elab.async false
set_option linter.all false
set_option maxRecDepth 100000
/-! K80Val4: the Flow: rules, releases, answers. -/
namespace LL.K80
open PySem LL
variable {P : Par} {S : St} {s : Bool} {B L : Int}
theorem ruleS_hold {k : Nat} (h : k < 3) : (ruleS k = Str.ofString "hold") = (k = 1) := by
  have : k = 0 ∨ k = 1 ∨ k = 2 := by omega
  rcases this with rfl | rfl | rfl <;> simp [-Bool.forall_bool, -Bool.exists_bool, ruleS]
theorem ruleS_plain {k : Nat} (h : k < 3) : (ruleS k = Str.ofString "plain") = (k = 0) := by
  have : k = 0 ∨ k = 1 ∨ k = 2 := by omega
  rcases this with rfl | rfl | rfl <;> simp [-Bool.forall_bool, -Bool.exists_bool, ruleS]
theorem V_Flow_lets : ∀ ds h Q E, ds.length = 2 → G_Flow_lets ds h Q E → b_Flow_lets (startD N_Flow_lets ds) h (bodyK Q E) := by
  rintro ds h Q E _ ⟨n, P, S, s, rfl, hP, ⟨fl, stk, lng, F, K⟩, hk, q⟩
  show b_Flow_lets [some (.ref n), some (.int (b2i s)), none] h _
  refine byK fun κ kr kn ke => ?_
  unfold b_Flow_lets
  obtain ⟨a0, a1, a2, a3, a4, a5, a6, a7, a8, a9, a10, a11, ix⟩ := F
  have r := hP.r s
  simp (maxDischargeDepth := 6) [-Bool.forall_bool, -Bool.exists_bool, a0, a1, a2, a3, a4, a5, a6, a7, a8, a9, a10, a11, flowFs, lineD, lineNs, lineDs, setD, setNs, setDs, ruleS_hold r, ruleS_plain r]
  unfold letsR at q
  split
  · rename_i z
    have e : (decide (P.rule s = 0) || !decide ((S.row s).known < if P.rule s = 1 then (S.row s).sent else (S.row s).small)) = decide ((S.row s).sent = (S.row s).known) := by
      rw [z]; simp [-Bool.forall_bool, -Bool.exists_bool]
      have : ((S.row s).known < (S.row s).sent) = ¬ ((S.row s).sent = (S.row s).known) := propext ⟨fun a => by omega, fun a => by omega⟩
      simp [-Bool.forall_bool, -Bool.exists_bool, this]
    rw [e] at q
    exact kr _ _ q
  · rename_i z
    split
    · rename_i z0
      rw [z0] at q
      exact kr _ _ q
    · rename_i z0
      have e : (decide (P.rule s = 0) || !decide ((S.row s).known < if P.rule s = 1 then (S.row s).sent else (S.row s).small)) = decide ((S.row s).small ≤ (S.row s).known) := by
        simp [-Bool.forall_bool, -Bool.exists_bool, z, z0]
        by_cases y : (S.row s).small ≤ (S.row s).known
        · simp [-Bool.forall_bool, -Bool.exists_bool, y, show ¬ (S.row s).known < (S.row s).small by omega]
        · simp [-Bool.forall_bool, -Bool.exists_bool, y, show (S.row s).known < (S.row s).small by omega]
      rw [e] at q
      exact kr _ _ q
theorem V_Flow_is_due : ∀ ds h Q E, ds.length = 2 → G_Flow_is_due ds h Q E → b_Flow_is_due (startD N_Flow_is_due ds) h (bodyK Q E) := by
  rintro ds h Q E _ ⟨n, P, S, s, rfl, ⟨fl, stk, lng, F, K⟩, q⟩
  show b_Flow_is_due [some (.ref n), some (.int (b2i s)), none] h _
  refine byK fun κ kr kn ke => ?_
  unfold b_Flow_is_due
  obtain ⟨a0, a1, a2, a3, a4, a5, a6, a7, a8, a9, a10, a11, ix⟩ := F
  simp (maxDischargeDepth := 6) [-Bool.forall_bool, -Bool.exists_bool, a0, a1, a2, a3, a4, a5, a6, a7, a8, a9, a10, a11, flowFs, lineD, lineNs, lineDs, setD, setNs, setDs]
  unfold dueR at q
  split
  · rename_i z
    have e : decide ((S.row s).full ≥ P.every s) = true := by simpa [-Bool.forall_bool, -Bool.exists_bool] using z
    rw [e] at q
    exact kr _ _ q
  · rename_i z
    have e : decide ((S.row s).full ≥ P.every s) = false := by simpa [-Bool.forall_bool, -Bool.exists_bool] using z
    rw [e, Bool.false_or] at q
    cases zf : (S.row s).first with
    | none =>
      rw [zf] at q
      simp [-Bool.forall_bool, -Bool.exists_bool, optD]
      exact kr _ _ q
    | some f =>
      rw [zf] at q
      simp [-Bool.forall_bool, -Bool.exists_bool, optD]
      exact kr _ _ q
theorem sends_room (hP : P.Ok) (g : Good P B L S) {i : Nat} (hi : i ≤ ((S.row s).kept / P.size).toNat) : i * P.size ≤ (S.row s).kept := by
  have d := div_rest (g.k0 s) hP.s1
  have s1 := hP.s1
  have a : (i : Int) ≤ (((S.row s).kept / P.size).toNat : Int) := by omega
  have b : (i : Int) * P.size ≤ (((S.row s).kept / P.size).toNat : Int) * P.size := Int.mul_le_mul_of_nonneg_right a (by omega)
  omega
theorem sends_test (hP : P.Ok) (g : Good P B L S) {i : Nat} (hi : i ≤ ((S.row s).kept / P.size).toNat) : P.size ≤ ((sends P s i S).row s).kept ↔ i < ((S.row s).kept / P.size).toNat := by
  have d := div_rest (g.k0 s) hP.s1
  rw [sends_kept]
  have s1 := hP.s1
  generalize ((S.row s).kept / P.size).toNat = N at *
  constructor
  · intro h
    by_cases z : i = N
    · subst z; omega
    · omega
  · intro h
    have b : ((i + 1 : Nat) : Int) * P.size ≤ (N : Int) * P.size := Int.mul_le_mul_of_nonneg_right (by omega) (by omega)
    rw [Int.natCast_succ, Int.add_mul] at b
    omega
theorem bound_of (g : Good P B L S) (hB : B ≤ 100000) (hL : L ≤ 100000) : (∀ s, (S.row s).kept ≤ 1000000) ∧ S.flight.length < 1000000 ∧ S.log.length < 1000000 := by
  have a := g.log_lt hB hL
  have b := g.fl
  exact ⟨fun s => by have := g.kb s; have := g.s0 s; omega, by omega, by omega⟩
theorem V_Flow_let_go : ∀ ds h Q E, ds.length = 2 → G_Flow_let_go ds h Q E → b_Flow_let_go (startD N_Flow_let_go ds) h (bodyK Q E) := by
  rintro ds h Q E _ ⟨n, P, S, s, B, L, rfl, hP, g, hB, hL, hF, q⟩
  show b_Flow_let_go [some (.ref n), some (.int (b2i s)), none] h _
  refine byK fun κ kr kn ke => ?_
  unfold b_Flow_let_go
  simp [-Bool.forall_bool, -Bool.exists_bool]
  have s1 := hP.s1
  generalize hN : ((S.row s).kept / P.size).toNat = N
  refine whileT (fun m σ' h' => ∃ i : Nat, i ≤ N ∧ m = N - i ∧ σ' = [some (.ref n), some (.int (b2i s)), none] ∧ FlowOk n P (sends P s i S) h' ∧ Bel n h h') N ⟨0, by omega, rfl, rfl, hF, rfl⟩ ?_
  rintro m σ' h' ⟨i, hi, rfl, rfl, hF', hb⟩
  have rm := sends_room (s := s) hP g (i := i) (by omega)
  have g' := g.sends hP i rm
  have bd := bound_of g' hB hL
  have te := sends_test (s := s) hP g (i := i) (by omega)
  rw [hN] at te
  obtain ⟨fl, stk, lng, F, K⟩ := id hF'
  have e0 := F.self
  refine ⟨decide (i < N), fun Qb E hq => ?_, fun kp => ?_, fun kp => ?_⟩
  · simp [-Bool.forall_bool, -Bool.exists_bool, e0, flowFs]
    refine ⟨_, P, _, s, rfl, .inl ⟨n, rfl, hF'⟩, bd.1 s, ?_⟩
    simp [-Bool.forall_bool, -Bool.exists_bool, e0, flowFs, lineD, lineNs, lineDs, te]
    exact hq
  · have kp := of_decide_eq_true kp
    simp [-Bool.forall_bool, -Bool.exists_bool, e0, flowFs, lineD, lineNs, lineDs]
    refine ⟨n, P, _, s, _, rfl, hP, by omega, te.mpr kp, bd.2.1, bd.2.2, hF', fun h2 hF2 hb2 => ?_⟩
    exact ⟨N - (i + 1), by omega, i + 1, by omega, rfl, rfl, hF2, bel_trans hb hb2⟩
  · have kp := of_decide_eq_false kp
    have : i = N := by omega
    subst this
    simp [-Bool.forall_bool, -Bool.exists_bool, e0, flowFs]
    refine ⟨_, P, _, s, rfl, .inl ⟨n, rfl, hF'⟩, bd.1 s, ?_⟩
    unfold free at q
    simp only [hN] at q
    simp [-Bool.forall_bool, -Bool.exists_bool]
    split
    · rename_i k0
      simp [-Bool.forall_bool, -Bool.exists_bool, e0, flowFs]
      refine ⟨n, P, _, s, rfl, hP, hF', g'.kn s, ?_⟩
      simp [-Bool.forall_bool, -Bool.exists_bool]
      split
      · rename_i kl
        simp [-Bool.forall_bool, -Bool.exists_bool, e0, flowFs]
        refine ⟨n, P, _, s, _, rfl, hP, by omega, Int.le_refl _, bd.2.1, bd.2.2, hF', fun h2 hF2 hb2 => ?_⟩
        rw [if_pos ⟨k0, kl⟩] at q
        exact kn _ _ (q _ hF2 (bel_trans hb hb2))
      · rename_i kl
        rw [if_neg (fun z => kl z.2)] at q
        exact kn _ _ (q _ hF' hb)
    · rename_i k0
      rw [if_neg (fun z => k0 z.1)] at q
      exact kn _ _ (q _ hF' hb)
theorem V_Flow_put : ∀ ds h Q E, ds.length = 3 → G_Flow_put ds h Q E → b_Flow_put (startD N_Flow_put ds) h (bodyK Q E) := by
  rintro ds h Q E _ ⟨n, P, S, s, m, B, L, rfl, hP, g, hB, hL, hm, ⟨fl, stk, lng, F, K⟩, q⟩
  show b_Flow_put [some (.ref n), some (.int (b2i s)), some (.int m)] h _
  refine byK fun κ kr kn ke => ?_
  unfold b_Flow_put
  have a0 := F.self
  have a1 := F.st s
  have kl := K.len s
  have bd := g.kb s
  have s0 := g.s0 s
  have l1 : (stk s).length < 16777216 := by omega
  simp (maxDischargeDepth := 6) [-Bool.forall_bool, -Bool.exists_bool, a0, a1, flowFs, l1]
  refine ⟨n, P, wrote s m S, s, B + m, L, rfl, hP, g.wrote (by omega), hB, hL, ⟨fl, upR stk s (stk s ++ [(m, S.tick)]), lng, ?_, ?_⟩, fun h2 hF2 hb2 => kn _ _ (q _ hF2 (bel_trans (bel_set rfl (by have := sAt_lt (n := n) (s := s); omega)) hb2))⟩
  · have F2 := F.toStk (s := s) (xs := stk s ++ [(m, S.tick)])
    obtain ⟨a0, a1, a2, a3, a4, a5, a6, a7, a8, a9, a10, a11, ix⟩ := F2
    simp only [List.map_append, List.map_cons, List.map_nil, stD] at *
    refine ⟨a0, a1, ?_, ?_, ?_, ?_, ?_, ?_, ?_, a9, a10, a11, ix⟩
    all_goals simp [-Bool.forall_bool, -Bool.exists_bool, wrote, row_sent, row_known, row_small, row_come, row_taken, row_full, row_first, *]
  · refine ⟨fun t => ?_, fun t x hx => ?_⟩
    · by_cases z : t = s
      · subst z
        have := K.sum t
        simp [-Bool.forall_bool, -Bool.exists_bool, wrote, sumA] at *
        omega
      · rw [upR_ne z, K.sum t]; simp [-Bool.forall_bool, -Bool.exists_bool, wrote, upR_ne z]
    · by_cases z : t = s
      · subst z
        rw [upR_same] at hx
        rcases List.mem_append.mp hx with hx | hx
        · exact K.pos t x hx
        · obtain rfl := List.mem_singleton.mp hx; exact hm
      · rw [upR_ne z] at hx; exact K.pos t x hx
end LL.K80
end

section
set_option Elab.async false
set_option linter.all false
set_option maxRecDepth 100000
/-! K80Val5: the Flow: ticks. -/
namespace LL.K80
open PySem LL
variable {P : Par} {S : St} {s : Bool} {B L : Int}
theorem V_Flow_leave : ∀ ds h Q E, ds.length = 1 → G_Flow_leave ds h Q E → b_Flow_leave (startD N_Flow_leave ds) h (bodyK Q E) := by
  rintro ds h Q E _ ⟨n, P, S, B, L, rfl, hP, g, hB, hL, hF, q⟩
  show b_Flow_leave [some (.ref n), none] h _
  refine byK fun κ kr kn ke => ?_
  unfold b_Flow_leave
  -- one side
  have one : ∀ (s : Bool) (S : St) (B L : Int) (v : Option D) (h : LH) (K : LK), Good P B L S → B ≤ 100000 → L ≤ 100010 → FlowOk n P S h → (∀ h', FlowOk n P (leave1 P s S) h' → Bel n h h' → K.nx [some (.ref n), some (.int (b2i s))] h') →
      gNm 1 (.int (b2i s)) [some (.ref n), v] h (fun σ2 h2 => (sIf (eTest (eMeth "Flow" "is_due" G_Flow_is_due 2 (eVar 0) (eCons (eVar 1) eNil)))
        (sExpr (eMeth "Flow" "send" G_Flow_send 3 (eVar 0) (eCons (eVar 1) (eCons (eC (.int 0)) eNil)))) sNil) σ2 h2 K) (exOf K [some (.ref n), v]) := by
    intro s S B L v h K g hB hL hF hK
    have a := g.lg
    have b := g.fl
    have c := g.sentLe false
    have c2 := g.sentLe true
    obtain ⟨fl, stk, lng, F, Kk⟩ := id hF
    have e0 := F.self
    simp [-Bool.forall_bool, -Bool.exists_bool, e0, flowFs]
    refine ⟨n, P, S, s, rfl, hF, ?_⟩
    simp [-Bool.forall_bool, -Bool.exists_bool]
    split
    · rename_i z
      simp [-Bool.forall_bool, -Bool.exists_bool, e0, flowFs]
      refine ⟨n, P, S, s, 0, rfl, hP, Int.le_refl _, g.k0 s, by omega, by omega, hF, fun h' hF' hb => hK h' ?_ hb⟩
      unfold leave1
      rw [if_pos z]; exact hF'
    · rename_i z
      refine hK h ?_ rfl
      unfold leave1
      rw [if_neg z]; exact hF
  simp [-Bool.forall_bool, -Bool.exists_bool]
  refine forAt_two (fun _ => trivial) ?_
  refine one false S B L none h _ g hB (by omega) hF fun h1 hF1 hb1 => ?_
  refine one true _ B (L + 1) _ h1 _ g.leave1 hB (by omega) hF1 fun h2 hF2 hb2 => ?_
  exact kn _ _ (q _ hF2 (bel_trans hb1 hb2))
theorem V_Flow_land : ∀ ds h Q E, ds.length = 4 → G_Flow_land ds h Q E → b_Flow_land (startD N_Flow_land ds) h (bodyK Q E) := by
  rintro ds h Q E _ ⟨n, P, S, p, rfl, hP, hm, ⟨fl, stk, lng, F, K⟩, q⟩
  show b_Flow_land [some (.ref n), some (.int (b2i p.side)), some (.int p.amt), some (.int p.ans), none] h _
  refine byK fun κ kr kn ke => ?_
  unfold b_Flow_land
  obtain ⟨a0, a1, a2, a3, a4, a5, a6, a7, a8, a9, a10, a11, ix⟩ := F
  have i0 : fl ≠ n := by omega
  have i1 : fl ≠ n + 15 := by omega
  have i2 : fl ≠ n + 16 := by omega
  have i3 : fl ≠ n + 17 := by omega
  have i4 : fl ≠ n + 18 := by omega
  have i5 : fl ≠ n + 19 := by omega
  have i6 : fl ≠ n + 20 := by omega
  have i7 : fl ≠ n + 21 := by omega
  have i8 : fl ≠ n + 22 := by omega
  have i9 : fl ≠ n + 24 := by omega
  have st : Stock (landOne P S p) stk := by
    refine ⟨fun t => ?_, K.pos⟩
    rw [K.sum t]
    simp [-Bool.forall_bool, -Bool.exists_bool, landOne, row_kept, landR]
  have oN : ∀ o : Option Int, (optD o).isNon = decide (o = none) := by intro o; cases o <;> rfl
  have fi : ∀ k, FlowAt n fl P (landOne P S p) stk lng k → Bel n h k → κ.nx [some (.ref n), some (.int (b2i p.side)), some (.int p.amt), some (.int p.ans), some (.int (b2i (!p.side)))] k := fun k F b => kn _ _ (q _ ⟨fl, stk, lng, F, st⟩ b)
  have c1 : ∀ a b c : Int, (if a < b then b else a) = if b > a then b else a := by intro a b c; rfl
  simp (maxDischargeDepth := 6) [-Bool.forall_bool, -Bool.exists_bool, a0, a1, a2, a3, a4, a5, a6, a7, a8, a9, a10, a11, flowFs, lineD, lineNs, lineDs, i0, i1, i2, i3, i4, i5, i6, i7, i8, i9, i0.symm, i1.symm, i2.symm, i3.symm, i4.symm, i5.symm, i6.symm, i7.symm, i8.symm, i9.symm, oN]
  by_cases z1 : 0 < p.amt
  · rw [if_pos z1]
    by_cases z2 : p.amt = P.size
    · rw [if_pos z2]
      by_cases z3 : (S.row !p.side).first = none
      · rw [if_pos z3]
        refine fi _ ⟨?_, ?_, ?_, ?_, ?_, ?_, ?_, ?_, ?_, ?_, ?_, ?_, ix⟩ ?_
        all_goals first | intro t | skip
        all_goals first | (simp (maxDischargeDepth := 6) [-Bool.forall_bool, -Bool.exists_bool, a0, a1, a2, a3, a4, a5, a6, a7, a8, a9, a10, a11, i0, i1, i2, i3, i4, i5, i6, i7, i8, i9, i0.symm, i1.symm, i2.symm, i3.symm, i4.symm, i5.symm, i6.symm, i7.symm, i8.symm, i9.symm, landOne, landR, row_sent, row_known, row_small, row_come, row_taken, row_full, row_first, z1, if_pos z2, z3]; done) | skip
        exact (bel_set (bel_set (bel_set (bel_set rfl (by omega)) (by omega)) (by omega)) (by omega))
      · rw [if_neg z3]
        refine fi _ ⟨?_, ?_, ?_, ?_, ?_, ?_, ?_, ?_, ?_, ?_, ?_, ?_, ix⟩ ?_
        all_goals first | intro t | skip
        all_goals first | (simp (maxDischargeDepth := 6) [-Bool.forall_bool, -Bool.exists_bool, a0, a1, a2, a3, a4, a5, a6, a7, a8, a9, a10, a11, i0, i1, i2, i3, i4, i5, i6, i7, i8, i9, i0.symm, i1.symm, i2.symm, i3.symm, i4.symm, i5.symm, i6.symm, i7.symm, i8.symm, i9.symm, landOne, landR, row_sent, row_known, row_small, row_come, row_taken, row_full, row_first, z1, if_pos z2, z3]; done) | skip
        exact (bel_set (bel_set (bel_set rfl (by omega)) (by omega)) (by omega))
    · rw [if_neg z2]
      by_cases z3 : (S.row !p.side).first = none
      · rw [if_pos z3]
        refine fi _ ⟨?_, ?_, ?_, ?_, ?_, ?_, ?_, ?_, ?_, ?_, ?_, ?_, ix⟩ ?_
        all_goals first | intro t | skip
        all_goals first | (simp (maxDischargeDepth := 6) [-Bool.forall_bool, -Bool.exists_bool, a0, a1, a2, a3, a4, a5, a6, a7, a8, a9, a10, a11, i0, i1, i2, i3, i4, i5, i6, i7, i8, i9, i0.symm, i1.symm, i2.symm, i3.symm, i4.symm, i5.symm, i6.symm, i7.symm, i8.symm, i9.symm, landOne, landR, row_sent, row_known, row_small, row_come, row_taken, row_full, row_first, z1, z2, z3]; done) | skip
        exact (bel_set (bel_set (bel_set rfl (by omega)) (by omega)) (by omega))
      · rw [if_neg z3]
        refine fi _ ⟨?_, ?_, ?_, ?_, ?_, ?_, ?_, ?_, ?_, ?_, ?_, ?_, ix⟩ ?_
        all_goals first | intro t | skip
        all_goals first | (simp (maxDischargeDepth := 6) [-Bool.forall_bool, -Bool.exists_bool, a0, a1, a2, a3, a4, a5, a6, a7, a8, a9, a10, a11, i0, i1, i2, i3, i4, i5, i6, i7, i8, i9, i0.symm, i1.symm, i2.symm, i3.symm, i4.symm, i5.symm, i6.symm, i7.symm, i8.symm, i9.symm, landOne, landR, row_sent, row_known, row_small, row_come, row_taken, row_full, row_first, z1, z2, z3]; done) | skip
        exact (bel_set (bel_set rfl (by omega)) (by omega))
  · rw [if_neg z1]
    have z4 : p.amt = 0 := by omega
    have s1 := hP.s1
    have z5 : ¬ (0 = P.size) := by omega
    refine fi _ ⟨?_, ?_, ?_, ?_, ?_, ?_, ?_, ?_, ?_, ?_, ?_, ?_, ix⟩ ?_
    all_goals first | intro t | skip
    all_goals first | (simp (maxDischargeDepth := 6) [-Bool.forall_bool, -Bool.exists_bool, a0, a1, a2, a3, a4, a5, a6, a7, a8, a9, a10, a11, i0, i1, i2, i3, i4, i5, i6, i7, i8, i9, i0.symm, i1.symm, i2.symm, i3.symm, i4.symm, i5.symm, i6.symm, i7.symm, i8.symm, i9.symm, landOne, landR, row_sent, row_known, row_small, row_come, row_taken, row_full, row_first, z4, z5]; done) | skip
    exact (bel_set rfl (by omega))
theorem V_Flow_next_tick : ∀ ds h Q E, ds.length = 1 → G_Flow_next_tick ds h Q E → b_Flow_next_tick (startD N_Flow_next_tick ds) h (bodyK Q E) := by
  rintro ds h Q E _ ⟨n, P, S, rfl, ⟨fl, stk, lng, F, K⟩, hl, q⟩
  show b_Flow_next_tick [some (.ref n), none, none, none] h _
  refine byK fun κ kr kn ke => ?_
  unfold b_Flow_next_tick
  obtain ⟨a0, a1, a2, a3, a4, a5, a6, a7, a8, a9, a10, a11, ix⟩ := id F
  simp (maxDischargeDepth := 6) [-Bool.forall_bool, -Bool.exists_bool, a0, a1, a2, a3, a4, a5, a6, a7, a8, a9, a10, a11, flowFs, lineD, lineNs, lineDs]
  refine comp_pure (fun d => match d with | .tup (x :: _) => some x | _ => none) a10 (by simp [-Bool.forall_bool, -Bool.exists_bool]; exact lt_sizeLine (by omega)) ?_ ?_
  · intro x hx R hR
    obtain ⟨p, hp, rfl⟩ := List.mem_map.mp hx
    simp [-Bool.forall_bool, -Bool.exists_bool, pcF] at hR ⊢
    exact hR
  have fm : ∀ ps : List Pc, ((ps.map (pcF P)).filterMap fun d => match d with | .tup (x :: _) => some x | _ => none) = (ps.map fun p => p.born + P.way).map D.int := by
    intro ps
    induction ps with
    | nil => rfl
    | cons p ps ih => simp [-Bool.forall_bool, -Bool.exists_bool, pcF, ih]
  simp only [fm]
  -- one side
  have one : ∀ (s : Bool) (xs : List Int) (v : Option D) (κ : LK), xs.length < 2000000 → κ.nx [some (.ref n), some (.ref h.length), some (.int (b2i s)), none] (h ++ [.lst ((xs ++ tickF P S s).map .int)]) →
      gNm 2 (.int (b2i s)) [some (.ref n), some (.ref h.length), v, none] (h ++ [.lst (xs.map .int)]) (fun σ2 h2 => (sIf (eTest (eOp oNotN (eOp oIx (eFld cs_first "first" (eVar 0)) (eVar 2)) (eC .non)))
  (sExpr (eMt mAppend (eVar 1) (eCons (eOp oPlus (eOp oIx (eFld cs_first "first" (eVar 0)) (eVar 2)) (eFld cs_delay "delay" (eOp oIx (eFld cs_settings "settings" (eVar 0)) (eVar 2)))) eNil)))
  sNil) σ2 h2 κ) (exOf κ [some (.ref n), some (.ref h.length), v, none]) := by
    intro s xs v κ hx q
    have oN : ∀ o : Option Int, (optD o).isNon = decide (o = none) := by intro o; cases o <;> rfl
    unfold tickF at q
    cases zf : (S.row s).first with
    | none =>
      rw [zf] at q
      simp (maxDischargeDepth := 6) [-Bool.forall_bool, -Bool.exists_bool, a0, a8, flowFs, oN, zf]
      simpa [-Bool.forall_bool, -Bool.exists_bool] using q
    | some f =>
      rw [zf] at q
      have hx : xs.length < sizeLine := lt_sizeLine (by omega)
      simp (maxDischargeDepth := 6) [-Bool.forall_bool, -Bool.exists_bool, a0, a8, flowFs, oN, zf, optD, setD, setNs, setDs, hx]
      simpa [-Bool.forall_bool, -Bool.exists_bool] using q
  refine forAt_two (fun _ => trivial) ?_
  refine one false _ _ _ (by rw [List.length_map]; omega) ?_
  refine one true _ _ _ ?_ ?_
  · rw [List.length_append, List.length_map]
    have : (tickF P S false).length ≤ 1 := by unfold tickF; split <;> simp [-Bool.forall_bool, -Bool.exists_bool]
    omega
  have te : S.flight.map (fun p => p.born + P.way) ++ tickF P S false ++ tickF P S true = ticks P S := rfl
  rw [te]
  have FO : FlowOk n P S (h ++ [.lst ((ticks P S).map .int)]) := by
    refine ⟨fl, stk, lng, ⟨?_, fun s => ?_, ?_, ?_, ?_, ?_, ?_, ?_, ?_, ?_, ?_, ?_, ix⟩, K⟩
    all_goals simp [-Bool.forall_bool, -Bool.exists_bool, *]
  have hb : Bel n h (h ++ [.lst ((ticks P S).map .int)]) := bel_app rfl (by have := (List.getElem?_eq_some_iff.mp a0).1; omega)
  by_cases z : ticks P S = []
  · rw [z] at FO hb ⊢
    simp [-Bool.forall_bool, -Bool.exists_bool]
    exact kr _ _ (q _ _ FO hb (.inl ⟨rfl, z⟩))
  · have z' : 0 < (ticks P S).length := List.length_pos_iff.mpr z
    simp [-Bool.forall_bool, -Bool.exists_bool, z']
    exact ⟨_, rfl, z', fun m hm hy => kr _ _ (q _ _ FO hb (.inr ⟨m, rfl, hm, hy⟩))⟩
end LL.K80
end

section
set_option Elab.async false
set_option linter.all false
set_option maxRecDepth 100000
/-! K80Val6: the Flow: begin, waits, deeds. -/
namespace LL.K80
open PySem LL
variable {P : Par} {S : St} {s : Bool} {B L : Int}
theorem fold_fl (fl : List Pc) : ∀ (ps : List Pc) (S : St), ps.foldl (landOne P) { S with flight := fl } = { ps.foldl (landOne P) S with flight := fl }
  | [], _ => rfl
  | p :: ps, S => fold_fl fl ps (landOne P S p)
theorem FlowAt.tickTo {n fl : Nat} {stk : Stk} {lng : Bool → Int} {h : LH} (F : FlowAt n fl P S stk lng h) (t : Int) : FlowAt n fl P (at_ t S) stk lng (h.set n (.ins "Flow" (flowFs P t (sAt n) (n + 15) (n + 16) (n + 17) (n + 18) (n + 19) (n + 20) (n + 21) (n + 22) fl (n + 24)))) := by
  obtain ⟨a0, a1, a2, a3, a4, a5, a6, a7, a8, a9, a10, a11, ix⟩ := F
  have i1 : n ≠ fl := by omega
  refine ⟨?_, fun s => ?_, ?_, ?_, ?_, ?_, ?_, ?_, ?_, ?_, ?_, ?_, ix⟩
  all_goals simp [-Bool.forall_bool, -Bool.exists_bool, *, at_]
theorem FlowAt.flTo {n fl : Nat} {stk : Stk} {lng : Bool → Int} {h : LH} {ps : List Pc} (F : FlowAt n fl P S stk lng h) : FlowAt n h.length P { S with flight := ps } stk lng ((h ++ [O.lst (ps.map (pcF P))]).set n (.ins "Flow" (flowFs P S.tick (sAt n) (n + 15) (n + 16) (n + 17) (n + 18) (n + 19) (n + 20) (n + 21) (n + 22) h.length (n + 24)))) := by
  obtain ⟨a0, a1, a2, a3, a4, a5, a6, a7, a8, a9, a10, a11, ix⟩ := F
  have l0 := (List.getElem?_eq_some_iff.mp a0).1
  have l1 := (List.getElem?_eq_some_iff.mp a11).1
  have i1 : n ≠ h.length := by omega
  rw [app_setOld l0]
  refine ⟨?_, fun s => ?_, ?_, ?_, ?_, ?_, ?_, ?_, ?_, ?_, ?_, ?_, .inr l1⟩
  rotate_left 10
  · rw [List.getElem?_append_right (by simp [-Bool.forall_bool, -Bool.exists_bool])]; simp [-Bool.forall_bool, -Bool.exists_bool]
  all_goals first | exact app_old (by simp [-Bool.forall_bool, -Bool.exists_bool, a0, a1, a2, a3, a4, a5, a6, a7, a8, a9, a10, a11]) | skip
theorem V_Flow_begin : ∀ ds h Q E, ds.length = 2 → G_Flow_begin ds h Q E → b_Flow_begin (startD N_Flow_begin ds) h (bodyK Q E) := by
  rintro ds h Q E _ ⟨n, P, S, t, B, L, rfl, hP, g, hB, hL, ht, ⟨fl, stk, lng, F, K⟩, q⟩
  show b_Flow_begin [some (.ref n), some (.int t), none, none, none, none, none, none, none] h _
  refine byK fun κ kr kn ke => ?_
  unfold b_Flow_begin
  have bd := bound_of g hB hL
  have F1 := F.tickTo t
  have a0 := F.self
  simp (maxDischargeDepth := 6) [-Bool.forall_bool, -Bool.exists_bool, a0, flowFs]
  generalize hh : h.set n (.ins "Flow" _) = h1
  have e1 : h1 = h.set n (.ins "Flow" (flowFs P t (sAt n) (n + 15) (n + 16) (n + 17) (n + 18) (n + 19) (n + 20) (n + 21) (n + 22) fl (n + 24))) := hh.symm
  rw [← e1] at F1
  have b0 := F1.self
  have b10 := F1.flight
  simp (maxDischargeDepth := 6) [-Bool.forall_bool, -Bool.exists_bool, b0, b10, flowFs, at_]
  have st1 : Stock { at_ t S with flight := away P t S.flight } stk := ⟨K.sum, K.pos⟩
  refine comp_pure (fun d => match d with | .tup (.int b :: _) => if b ≤ t then some d else none | _ => none) b10 (by simp [-Bool.forall_bool, -Bool.exists_bool]; exact lt_sizeLine (by omega)) ?_ ?_
  · intro x hx R hR
    obtain ⟨p, hp, rfl⟩ := List.mem_map.mp hx
    simp [-Bool.forall_bool, -Bool.exists_bool, pcF] at hR ⊢
    split
    · rename_i z; rw [if_pos z] at hR; exact hR
    · rename_i z; rw [if_neg z] at hR; exact hR
  have fm1 : ∀ ps : List Pc, ((ps.map (pcF P)).filterMap fun d => match d with | .tup (.int b :: _) => if b ≤ t then some d else none | _ => none) = (here P t ps).map (pcF P) := by
    intro ps
    induction ps with
    | nil => rfl
    | cons p ps ih =>
      unfold here at *
      rw [List.map_cons, List.filterMap_cons, ih, List.filter_cons]
      by_cases z : p.born + P.way ≤ t
      · have z' : p.born ≤ t - P.way := by omega
        simp [-Bool.forall_bool, -Bool.exists_bool, pcF, z, z']
      · have z' : ¬ p.born ≤ t - P.way := by omega
        simp [-Bool.forall_bool, -Bool.exists_bool, pcF, z, z']
  simp only [fm1]
  simp (maxDischargeDepth := 6) [-Bool.forall_bool, -Bool.exists_bool, b0, b10, flowFs, at_]
  refine comp_pure (fun d => match d with | .tup (.int b :: _) => if t < b then some d else none | _ => none) b10 (by simp [-Bool.forall_bool, -Bool.exists_bool]; exact lt_sizeLine (by omega)) ?_ ?_
  · intro x hx R hR
    obtain ⟨p, hp, rfl⟩ := List.mem_map.mp hx
    simp [-Bool.forall_bool, -Bool.exists_bool, pcF] at hR ⊢
    split
    · rename_i z; rw [if_pos z] at hR; exact hR
    · rename_i z; rw [if_neg z] at hR; exact hR
  have fm2 : ∀ ps : List Pc, ((ps.map (pcF P)).filterMap fun d => match d with | .tup (.int b :: _) => if t < b then some d else none | _ => none) = (away P t ps).map (pcF P) := by
    intro ps
    induction ps with
    | nil => rfl
    | cons p ps ih =>
      unfold away at *
      rw [List.map_cons, List.filterMap_cons, ih, List.filter_cons]
      by_cases z : t < p.born + P.way
      · have z' : p.born > t - P.way := by omega
        simp [-Bool.forall_bool, -Bool.exists_bool, pcF, z, z']
      · have z' : ¬ p.born > t - P.way := by omega
        simp [-Bool.forall_bool, -Bool.exists_bool, pcF, z, z']
  simp only [fm2]
  have F2 := F1.flTo (ps := away P t S.flight)
  have hb2 : Bel n h ((h1 ++ [O.lst ((away P t S.flight).map (pcF P))]).set n (.ins "Flow" (flowFs P t (sAt n) (n + 15) (n + 16) (n + 17) (n + 18) (n + 19) (n + 20) (n + 21) (n + 22) h1.length (n + 24)))) := by
    refine bel_set (bel_app ?_ (by have := (List.getElem?_eq_some_iff.mp b0).1; omega)) (Nat.le_refl n)
    rw [e1]
    exact bel_set rfl (Nat.le_refl n)
  simp (maxDischargeDepth := 6) [-Bool.forall_bool, -Bool.exists_bool, b0, flowFs]
  have F3 : FlowAt n h1.length P { at_ t S with flight := away P t S.flight } stk lng ((h1 ++ [O.lst ((away P t S.flight).map (pcF P))]).set n (.ins "Flow" (flowFs P t (sAt n) (n + 15) (n + 16) (n + 17) (n + 18) (n + 19) (n + 20) (n + 21) (n + 22) h1.length (n + 24)))) := F2
  suffices loop : ∀ h3, FlowOk n P { at_ t S with flight := away P t S.flight } h3 → Bel n h h3 → forAt ⟨List.map (pcF P) (here P t S.flight), fun _ => True⟩ (gTp 4 (gCs (gNm 3) (gCs (gNm 4) (gCs (gNm 5) (gCs (gNm 6) gNl))))) (sExpr (eMeth "Flow" "land" G_Flow_land 4 (eVar 0) (eCons (eVar 4) (eCons (eVar 5) (eCons (eVar 6) eNil)))))
      [some (.ref n), some (.int t), some (.lst ((here P t S.flight).map (pcF P))), none, none, none, none, none, none] h3 { nx := seqK (sFor (iSeq (eTup (eCons (eC (.int 0)) (eCons (eC (.int 1)) eNil)))) (gNm 7) (sExpr (eMeth "Flow" "let_go" G_Flow_let_go 2 (eVar 0) (eCons (eVar 7) eNil)))) κ, rt := κ.rt, bk := κ.bk, ct := κ.ct, ex := κ.ex } from loop _ ⟨_, stk, lng, F3, st1⟩ hb2
  intro h3 FO3 hb2
  obtain ⟨I, hI⟩ : ∃ I : Nat → LV → LH → Prop, I = (fun i σ' h' => ∃ a b c d, σ' = [some (.ref n), some (.int t), some (.lst ((here P t S.flight).map (pcF P))), a, b, c, d, none, none] ∧ FlowOk n P (((here P t S.flight).take i).foldl (landOne P) { at_ t S with flight := away P t S.flight }) h' ∧ Bel n h h') := ⟨_, rfl⟩
  refine forBy I (by rw [hI]; exact ⟨_, _, _, _, rfl, FO3, hb2⟩) (fun _ _ _ _ _ => trivial) ?_ ?_
  · intro i x σ' h' hx hh
    rw [hI] at hh
    obtain ⟨a, b, c, d, rfl, FO, hb⟩ := hh
    rw [List.getElem?_map] at hx
    obtain ⟨p, hp, rfl⟩ := Option.map_eq_some_iff.mp hx
    have hpm : p ∈ S.flight := (List.mem_filter.mp (List.mem_of_getElem? hp)).1
    obtain ⟨fl', stk', lng', F', K'⟩ := id FO
    have c0 := F'.self
    simp [-Bool.forall_bool, -Bool.exists_bool, pcF, c0, flowFs]
    refine ⟨n, P, _, p, rfl, hP, g.am p hpm, FO, fun h'' FO' hb' => ?_⟩
    rw [hI]
    refine ⟨_, _, _, _, rfl, ?_, bel_trans hb hb'⟩
    rw [List.take_succ, hp, List.foldl_append]
    exact FO'
  intro σ' h' hh
  rw [hI] at hh
  obtain ⟨a, b, c, d, rfl, FO, hb⟩ := hh
  rw [show ((⟨List.map (pcF P) (here P t S.flight), fun _ => True⟩ : LIt).items).length = (here P t S.flight).length by simp [-Bool.forall_bool, -Bool.exists_bool], List.take_length, fold_fl] at FO
  have eL : ({ (here P t S.flight).foldl (landOne P) (at_ t S) with flight := away P t S.flight } : St) = land P (at_ t S) := rfl
  rw [eL] at FO
  have gl : Good P B L (land P (at_ t S)) := (g.at ht).land
  -- one side
  have one : ∀ (s : Bool) (S2 : St) (v : Option D) (h : LH) (K : LK), Good P B L S2 → FlowOk n P S2 h → (∀ h', FlowOk n P (free P s S2) h' → Bel n h h' → K.nx [some (.ref n), some (.int t), some (.lst ((here P t S.flight).map (pcF P))), a, b, c, d, some (.int (b2i s)), none] h') →
      gNm 7 (.int (b2i s)) [some (.ref n), some (.int t), some (.lst ((here P t S.flight).map (pcF P))), a, b, c, d, v, none] h (fun σ2 h2 => (sExpr (eMeth "Flow" "let_go" G_Flow_let_go 2 (eVar 0) (eCons (eVar 7) eNil))) σ2 h2 K) (exOf K [some (.ref n), some (.int t), some (.lst ((here P t S.flight).map (pcF P))), a, b, c, d, v, none]) := by
    intro s S2 v h K g hF hK
    obtain ⟨fl', stk', lng', F', K'⟩ := id hF
    have c0 := F'.self
    simp [-Bool.forall_bool, -Bool.exists_bool, c0, flowFs]
    exact ⟨n, P, S2, s, B, L, rfl, hP, g, hB, hL, hF, hK⟩
  simp [-Bool.forall_bool, -Bool.exists_bool]
  refine forAt_two (fun _ => trivial) ?_
  refine one false _ none h' _ gl FO fun h1 hF1 hb1 => ?_
  refine one true _ _ h1 _ (gl.free hP) hF1 fun h2 hF2 hb2 => ?_
  exact kn _ _ (q _ hF2 (bel_trans hb (bel_trans hb1 hb2)))
theorem V_pass_ticks : ∀ ds h Q E, ds.length = 2 → G_pass_ticks ds h Q E → b_pass_ticks (startD N_pass_ticks ds) h (bodyK Q E) := by
  rintro ds h Q E _ ⟨n, P, S, B, L, k, rfl, fin, k1, k60, hF, q⟩
  show b_pass_ticks [some (.ref n), some (.int k), none, none] h _
  refine byK fun κ kr kn ke => ?_
  unfold b_pass_ticks
  have hP := fin.p
  have hB := fin.b
  have hL := fin.l
  obtain ⟨fl, stk, lng, F, K⟩ := id hF
  have a0 := F.self
  simp [-Bool.forall_bool, -Bool.exists_bool, a0, flowFs]
  refine ⟨n, P, S, B, L, rfl, hP, fin.g, by omega, by omega, hF, fun h1 hF1 hb1 => ?_⟩
  obtain ⟨fl1, stk1, lng1, F1, K1⟩ := id hF1
  have b0 := F1.self
  simp [-Bool.forall_bool, -Bool.exists_bool, b0, flowFs]
  have bd := bound_of fin.g.leave (by omega) (by omega)
  -- behind next_tick
  refine ⟨n, P, _, rfl, hF1, bd.2.1, fun h2 d hF2 hb2 hd => ?_⟩
  simp [-Bool.forall_bool, -Bool.exists_bool]
  obtain ⟨I, hI⟩ : ∃ I : Nat → LV → LH → Prop, I = (fun m σ' h' => ∃ j d, j < k ∧ m = k - j ∧ σ' = [some (.ref n), some (.int k), some (.int (S.tick + k)), some d] ∧ FlowOk n P (leave P (waited P j S)) h' ∧ Bel n h h' ∧ ((d = .non ∧ ticks P (leave P (waited P j S)) = []) ∨ ∃ a, d = .int a ∧ a ∈ ticks P (leave P (waited P j S)) ∧ ∀ y ∈ ticks P (leave P (waited P j S)), a ≤ y)) := ⟨_, rfl⟩
  refine whileT I k (by rw [hI]; exact ⟨0, d, by omega, by omega, rfl, hF2, bel_trans hb1 hb2, hd⟩) ?_
  intro m σ' h' hh
  rw [hI] at hh
  obtain ⟨j, d, hj, rfl, rfl, hF', hb', hd'⟩ := hh
  obtain ⟨fl', stk', lng', F', K'⟩ := id hF'
  have c0 := F'.self
  have gw : ∀ i : Nat, i ≤ 60 → Good P B (L + 2 * 60) (waited P i S) := fun i hi => (fin.g.waited hP i).more (by omega)
  have ek : (S.tick + (k : Int)) = S.tick + ((k : Nat) : Int) := rfl
  -- the end: begin at the goal
  have last : (∀ y ∈ ticks P (leave P (waited P j S)), S.tick + (k : Int) ≤ y) → κ.nx [some (.ref n), some (.int k), some (.int (S.tick + k)), some d] = κ.nx [some (.ref n), some (.int k), some (.int (S.tick + k)), some d] := fun _ => rfl
  have fin2 : (∀ y ∈ ticks P (leave P (waited P j S)), S.tick + (k : Int) ≤ y) → seqK (sExpr (eMeth "Flow" "begin" G_Flow_begin 2 (eVar 0) (eCons (eVar 2) eNil))) κ [some (.ref n), some (.int k), some (.int (S.tick + k)), some d] h' := by
    intro hy
    simp [-Bool.forall_bool, -Bool.exists_bool, c0, flowFs]
    refine ⟨n, P, _, _, B, L + 2 * 60 + 2, rfl, hP, (gw j (by omega)).leave, by omega, by omega, ?_, hF', fun h2 hF2 hb2 => kn _ _ (q _ ?_ (bel_trans hb' hb2))⟩
    · rw [leave_tick, waited_tick]; omega
    · rw [jump hP fin.set rfl hj hy] at hF2
      exact hF2
  rcases hd' with ⟨rfl, ht⟩ | ⟨a, rfl, ha, hm⟩
  · refine ⟨false, fun Qb E hq => by simpa [-Bool.forall_bool, -Bool.exists_bool] using hq, fun hc => (nomatch hc), fun _ => ?_⟩
    exact fin2 (by rw [ht]; intro y hy; cases hy)
  · refine ⟨decide (a < S.tick + k), fun Qb E hq => by simpa [-Bool.forall_bool, -Bool.exists_bool] using hq, fun hc => ?_, fun hc => ?_⟩
    · have hc := of_decide_eq_true hc
      obtain ⟨j', j1, j2, rfl, j4⟩ := jump_next hP fin.set fin.lat rfl ha hm hc
      simp [-Bool.forall_bool, -Bool.exists_bool, c0, flowFs]
      refine ⟨n, P, _, _, B, L + 2 * 60 + 2, rfl, hP, (gw j (by omega)).leave, by omega, by omega, ?_, hF', fun h3 hF3 hb3 => ?_⟩
      · rw [leave_tick, waited_tick]; omega
      rw [j4] at hF3
      obtain ⟨fl3, stk3, lng3, F3, K3⟩ := id hF3
      have d0 := F3.self
      simp [-Bool.forall_bool, -Bool.exists_bool, d0, flowFs]
      refine ⟨n, P, _, B, L + 2 * 60, rfl, hP, gw j' (by omega), by omega, by omega, hF3, fun h4 hF4 hb4 => ?_⟩
      obtain ⟨fl4, stk4, lng4, F4, K4⟩ := id hF4
      have e0 := F4.self
      simp [-Bool.forall_bool, -Bool.exists_bool, e0, flowFs]
      have bd4 := bound_of (gw j' (by omega)).leave (by omega) (by omega)
      refine ⟨n, P, _, rfl, hF4, bd4.2.1, fun h5 d hF5 hb5 hd5 => ?_⟩
      rw [hI]
      exact ⟨k - j', by omega, j', d, j2, rfl, rfl, hF5, bel_trans hb' (bel_trans hb3 (bel_trans hb4 hb5)), hd5⟩
    · have hc := of_decide_eq_false hc
      exact fin2 fun y hy => by have := hm y hy; omega
end LL.K80
end

section
set_option Elab.async false
set_option linter.all false
set_option maxRecDepth 100000
/-! K80Val7: frozen flows, checks, lines. -/
namespace LL.K80
open PySem LL
variable {P : Par} {S : St} {s : Bool} {B L : Int}
theorem frzs_old {h : LH} {k : Nat} : ∀ {ds : List D}, D.bels k ds = true → Frzs h k ds ds
  | [], _ => .nil
  | d :: ds, b => by
    simp only [D.bels, Bool.and_eq_true] at b
    exact .cons (.old b.1) (frzs_old b.2)
@[simp] theorem bel_non {k : Nat} : D.bel k .non = true := by simp [-Bool.forall_bool, -Bool.exists_bool, -List.lookup_eq_none_iff, D.bel]
@[simp] theorem bel_bl {k : Nat} {b : Bool} : D.bel k (.bl b) = true := by simp [-Bool.forall_bool, -Bool.exists_bool, -List.lookup_eq_none_iff, D.bel]
@[simp] theorem bel_int {k : Nat} {b : Int} : D.bel k (.int b) = true := by simp [-Bool.forall_bool, -Bool.exists_bool, -List.lookup_eq_none_iff, D.bel]
@[simp] theorem bel_str {k : Nat} {b : Str} : D.bel k (.str b) = true := by simp [-Bool.forall_bool, -Bool.exists_bool, -List.lookup_eq_none_iff, D.bel]
@[simp] theorem bel_tup {k : Nat} {ds : List D} : D.bel k (.tup ds) = D.bels k ds := by simp [-Bool.forall_bool, -Bool.exists_bool, -List.lookup_eq_none_iff, D.bel]
@[simp] theorem bel_lst {k : Nat} {ds : List D} : D.bel k (.lst ds) = D.bels k ds := by simp [-Bool.forall_bool, -Bool.exists_bool, -List.lookup_eq_none_iff, D.bel]
@[simp] theorem bel_ob {k : Nat} {C : Str} {ns : List Str} {ds : List D} : D.bel k (.ob C ns ds) = D.bels k ds := by simp [-Bool.forall_bool, -Bool.exists_bool, -List.lookup_eq_none_iff, D.bel]
@[simp] theorem bels_nil {k : Nat} : D.bels k [] = true := by simp [-Bool.forall_bool, -Bool.exists_bool, -List.lookup_eq_none_iff, D.bels]
@[simp] theorem bels_cons {k : Nat} {d : D} {ds : List D} : D.bels k (d :: ds) = (D.bel k d && D.bels k ds) := by simp [-Bool.forall_bool, -Bool.exists_bool, -List.lookup_eq_none_iff, D.bels]
theorem bels_map {α : Type} {k : Nat} {f : α → D} (hf : ∀ a, D.bel k (f a) = true) : ∀ {xs : List α}, D.bels k (xs.map f) = true
  | [] => by simp [-Bool.forall_bool, -Bool.exists_bool, -List.lookup_eq_none_iff]
  | x :: xs => by simp [-Bool.forall_bool, -Bool.exists_bool, -List.lookup_eq_none_iff, hf x, bels_map hf (xs := xs)]
@[simp] theorem bel_opt {k : Nat} {o : Option Int} : D.bel k (optD o) = true := by cases o <;> simp [-Bool.forall_bool, -Bool.exists_bool, -List.lookup_eq_none_iff, optD]
@[simp] theorem bels_pr {k : Nat} {f : Bool → D} : D.bels k (prD f) = (D.bel k (f false) && D.bel k (f true)) := by simp [-Bool.forall_bool, -Bool.exists_bool, -List.lookup_eq_none_iff, prD]
@[simp] theorem bel_st {k : Nat} {x : Int × Int} : D.bel k (stD x) = true := by simp [-Bool.forall_bool, -Bool.exists_bool, -List.lookup_eq_none_iff, stD]
@[simp] theorem bel_pc {k : Nat} {p : Pc} : D.bel k (pcD p) = true := by simp [-Bool.forall_bool, -Bool.exists_bool, -List.lookup_eq_none_iff, pcD]
@[simp] theorem bel_pcF {k : Nat} {p : Pc} : D.bel k (pcF P p) = true := by simp [-Bool.forall_bool, -Bool.exists_bool, -List.lookup_eq_none_iff, pcF]
@[simp] theorem bel_set' {k : Nat} : D.bel k (setD P s) = true := by simp [-Bool.forall_bool, -Bool.exists_bool, -List.lookup_eq_none_iff, setD, setDs, wayD]
@[simp] theorem bel_line {k : Nat} : D.bel k (lineD P) = true := by simp [-Bool.forall_bool, -Bool.exists_bool, -List.lookup_eq_none_iff, lineD, lineDs, toldD, wayD]
theorem frz_new {h : LH} {k n : Nat} {ds : List D} (e : h[n]? = some (.lst ds)) (l : k ≤ n) (b : D.bels k ds = true) : Frz h k (.ref n) (.lst ds) := .newL l e (frzs_old b)
theorem frz_flow {n fl k : Nat} {stk : Stk} {lng : Bool → Int} {h : LH} (F : FlowAt n fl P S stk lng h) (hk : k ≤ n) : Frz h k (.ref n) (flowD P S stk lng) := by
  have ix := F.ix
  have la := @sAt_lt n
  refine .newI hk F.self (.cons (.old (by simp [-Bool.forall_bool, -Bool.exists_bool, -List.lookup_eq_none_iff])) (.cons (.old (by simp [-Bool.forall_bool, -Bool.exists_bool, -List.lookup_eq_none_iff])) (.cons (.old (by simp [-Bool.forall_bool, -Bool.exists_bool, -List.lookup_eq_none_iff])) (.cons (.lst (.cons (frz_new (F.st false) (by have := @la false; omega) (bels_map (by simp [-Bool.forall_bool, -Bool.exists_bool, -List.lookup_eq_none_iff]))) (.cons (frz_new (F.st true) (by have := @la true; omega) (bels_map (by simp [-Bool.forall_bool, -Bool.exists_bool, -List.lookup_eq_none_iff]))) .nil))) ?_))))
  refine .cons (frz_new F.out (by omega) (by simp [-Bool.forall_bool, -Bool.exists_bool, -List.lookup_eq_none_iff])) (.cons (frz_new F.known (by omega) (by simp [-Bool.forall_bool, -Bool.exists_bool, -List.lookup_eq_none_iff])) (.cons (frz_new F.small (by omega) (by simp [-Bool.forall_bool, -Bool.exists_bool, -List.lookup_eq_none_iff])) (.cons (frz_new F.come (by omega) (by simp [-Bool.forall_bool, -Bool.exists_bool, -List.lookup_eq_none_iff])) (.cons (frz_new F.taken (by omega) (by simp [-Bool.forall_bool, -Bool.exists_bool, -List.lookup_eq_none_iff])) (.cons (frz_new F.full (by omega) (by simp [-Bool.forall_bool, -Bool.exists_bool, -List.lookup_eq_none_iff])) ?_)))))
  exact .cons (frz_new F.first (by omega) (by simp [-Bool.forall_bool, -Bool.exists_bool, -List.lookup_eq_none_iff])) (.cons (frz_new F.long (by omega) (by simp [-Bool.forall_bool, -Bool.exists_bool, -List.lookup_eq_none_iff])) (.cons (frz_new F.flight (by omega) (bels_map (by simp [-Bool.forall_bool, -Bool.exists_bool, -List.lookup_eq_none_iff]))) (.cons (frz_new F.log (by omega) (bels_map (by simp [-Bool.forall_bool, -Bool.exists_bool, -List.lookup_eq_none_iff]))) .nil)))
theorem V_flow_behind : ∀ ds h Q E, ds.length = 2 → G_flow_behind ds h Q E → b_flow_behind (startD N_flow_behind ds) h (bodyK (frz0K h Q) E) := by
  rintro ds h Q E _ ⟨P, S, stk, lng, B, L, j, rfl, K, fin, hj, q⟩
  show b_flow_behind [some (flowD P S stk lng), some (jobD j), none] h _
  refine byK fun κ kr kn ke => ?_
  unfold b_flow_behind
  have hP := fin.p
  have hB := fin.b
  have hL := fin.l
  simp [-Bool.forall_bool, -Bool.exists_bool, -List.lookup_eq_none_iff, flowD, flowNs, flowDs]
  refine ⟨P, S, stk, lng, rfl, K, fun h1 hF1 hb1 => ?_⟩
  have done_ : ∀ h2 σ, σ = [some (flowD P S stk lng), some (jobD j), some (D.ref h.length)] → FlowOk h.length P (j.run P S) h2 → Bel h.length h1 h2 → seqK (sRet (eVar 2)) κ σ h2 := by
    rintro h2 σ rfl ⟨fl, stk', lng', F, K'⟩ hb2
    simp [-Bool.forall_bool, -Bool.exists_bool, -List.lookup_eq_none_iff]
    refine kr _ _ ⟨_, frz_flow F (Nat.le_refl _), ?_, q _ _ K'⟩
    have := bel_trans hb1 hb2
    unfold Bel at this
    rw [this, List.take_length]
  obtain ⟨fl, stk', lng', F, K'⟩ := id hF1
  have a0 := F.self
  have a6 := F.taken
  cases j with
  | write s m =>
    obtain ⟨m1, m2⟩ := hj
    simp [-Bool.forall_bool, -Bool.exists_bool, -List.lookup_eq_none_iff, jobD, a0, flowFs]
    exact ⟨_, P, S, s, m, B, L, rfl, hP, fin.g, by omega, by omega, by omega, hF1, fun h2 hF2 hb2 => done_ h2 _ rfl hF2 hb2⟩
  | read s m =>
    simp [-Bool.forall_bool, -Bool.exists_bool, -List.lookup_eq_none_iff, jobD, a0, a6, flowFs]
    refine done_ _ _ rfl ⟨fl, stk', lng', ?_, ?_⟩ (bel_set rfl (by omega))
    · obtain ⟨a0, a1, a2, a3, a4, a5, a6, a7, a8, a9, a10, a11, ix⟩ := F
      have i1 : h.length + 19 ≠ fl := by omega
      refine ⟨?_, fun s => ?_, ?_, ?_, ?_, ?_, ?_, ?_, ?_, ?_, ?_, ?_, ix⟩
      all_goals simp [-Bool.forall_bool, -Bool.exists_bool, -List.lookup_eq_none_iff, Job.run, readS, row_sent, row_known, row_small, row_come, row_taken, row_full, row_first, a0, a1, a2, a3, a4, a5, a6, a7, a8, a9, a10, a11, i1]
    · refine ⟨fun t => ?_, K'.pos⟩
      rw [K'.sum t]; simp [-Bool.forall_bool, -Bool.exists_bool, -List.lookup_eq_none_iff, Job.run, readS, row_kept]
  | wait m =>
    obtain ⟨m1, m2⟩ := hj
    simp [-Bool.forall_bool, -Bool.exists_bool, -List.lookup_eq_none_iff, jobD, a0, flowFs]
    have e : (m.toNat : Int) = m := Int.toNat_of_nonneg (by omega)
    refine ⟨_, P, S, B, L, m.toNat, by rw [e], fin, by omega, by omega, hF1, fun h2 hF2 hb2 => done_ h2 _ rfl hF2 hb2⟩
theorem V_check_line : ∀ ds h Q E, ds.length = 1 → G_check_line ds h Q E → b_check_line (startD N_check_line ds) h (bodyK Q E) := by
  rintro ds h Q E _ ⟨P, rfl, q⟩
  show b_check_line [some (lineD P)] h _
  refine byK fun κ kr kn ke => ?_
  unfold b_check_line
  simp [-Bool.forall_bool, -Bool.exists_bool, -List.lookup_eq_none_iff, lineD]
  exact ⟨true, rfl, rfl, kn _ _ q⟩
theorem V_check_setting : ∀ ds h Q E, ds.length = 1 → G_check_setting ds h Q E → b_check_setting (startD N_check_setting ds) h (bodyK Q E) := by
  rintro ds h Q E _ ⟨P, s, rfl, q⟩
  show b_check_setting [some (setD P s)] h _
  refine byK fun κ kr kn ke => ?_
  unfold b_check_setting
  simp [-Bool.forall_bool, -Bool.exists_bool, -List.lookup_eq_none_iff, setD]
  exact ⟨true, rfl, rfl, kn _ _ q⟩
theorem V_is_integer : ∀ ds h Q E, ds.length = 1 → G_is_integer ds h Q E → b_is_integer (startD N_is_integer ds) h (bodyK Q E) := by
  rintro ds h Q E _ ⟨i, rfl, q⟩
  show b_is_integer [some (.int i)] h _
  refine byK fun κ kr kn ke => ?_
  unfold b_is_integer
  simp [-Bool.forall_bool, -Bool.exists_bool, -List.lookup_eq_none_iff]
  refine ⟨true, rfl, ?_⟩
  simp [-Bool.forall_bool, -Bool.exists_bool, -List.lookup_eq_none_iff]
  exact ⟨false, rfl, kr _ _ q⟩
theorem V_is_between : ∀ ds h Q E, ds.length = 3 → G_is_between ds h Q E → b_is_between (startD N_is_between ds) h (bodyK Q E) := by
  rintro ds h Q E _ ⟨i, l, u, rfl, q⟩
  show b_is_between [some (.int i), some (.int l), some (.int u)] h _
  refine byK fun κ kr kn ke => ?_
  unfold b_is_between
  simp [-Bool.forall_bool, -Bool.exists_bool, -List.lookup_eq_none_iff]
  refine ⟨i, rfl, ?_⟩
  simp [-Bool.forall_bool, -Bool.exists_bool, -List.lookup_eq_none_iff]
  have q := kr _ _ q
  split
  · rename_i z
    simpa [-Bool.forall_bool, -Bool.exists_bool, -List.lookup_eq_none_iff, z] using q
  · rename_i z
    simpa [-Bool.forall_bool, -Bool.exists_bool, -List.lookup_eq_none_iff, z] using q
theorem V_check_number : ∀ ds h Q E, ds.length = 3 → G_check_number ds h Q E → b_check_number (startD N_check_number ds) h (bodyK Q E) := by
  rintro ds h Q E _ ⟨i, l, u, rfl, h1, h2, q⟩
  show b_check_number [some (.int i), some (.int l), some (.int u)] h _
  refine byK fun κ kr kn ke => ?_
  unfold b_check_number
  simp [-Bool.forall_bool, -Bool.exists_bool, -List.lookup_eq_none_iff]
  refine ⟨i, l, u, rfl, ?_⟩
  simp [-Bool.forall_bool, -Bool.exists_bool, -List.lookup_eq_none_iff, h1, h2]
  exact kn _ _ q
theorem V_check_side : ∀ ds h Q E, ds.length = 1 → G_check_side ds h Q E → b_check_side (startD N_check_side ds) h (bodyK Q E) := by
  rintro ds h Q E _ ⟨s, rfl, q⟩
  show b_check_side [some (.int (b2i s))] h _
  refine byK fun κ kr kn ke => ?_
  unfold b_check_side
  simp [-Bool.forall_bool, -Bool.exists_bool, -List.lookup_eq_none_iff]
  refine ⟨_, _, _, rfl, ?_⟩
  simp [-Bool.forall_bool, -Bool.exists_bool, -List.lookup_eq_none_iff]
  exact kn _ _ q
theorem V_Setting_init : ∀ ds h Q E, ds.length = 4 → G_Setting_init ds h Q E → b_Setting_init (startD N_Setting_init ds) h (bodyK Q E) := by
  rintro ds h Q E _ ⟨pre, P, s, hP, rfl, rfl, q⟩
  show b_Setting_init [some (.ref pre.length), some (.str (ruleS (P.rule s))), some (.int (P.every s)), some (.int (P.delay s))] _ _
  refine byK fun κ kr kn ke => ?_
  unfold b_Setting_init
  have e1 := hP.e1 s
  have e2 := hP.e2 s
  have d1 := hP.d1 s
  have d2 := hP.d2 s
  have r := hP.r s
  have hr : P.rule s = 0 ∨ P.rule s = 1 ∨ P.rule s = 2 := by omega
  have inR : inD (.str (ruleS (P.rule s))) [.str "plain", .str "hold", .str "few"] = true := by
    rcases hr with h | h | h <;> rw [h] <;> decide +kernel
  simp [-Bool.forall_bool, -Bool.exists_bool, -List.lookup_eq_none_iff]
  refine ⟨true, rfl, rfl, ?_⟩
  simp [-Bool.forall_bool, -Bool.exists_bool, -List.lookup_eq_none_iff, tup_RULES, inR, flD]
  refine ⟨_, _, _, rfl, e1, e2, ?_⟩
  simp [-Bool.forall_bool, -Bool.exists_bool, -List.lookup_eq_none_iff]
  refine ⟨_, _, _, rfl, d1, d2, ?_⟩
  simp [-Bool.forall_bool, -Bool.exists_bool, -List.lookup_eq_none_iff]
  exact kn _ _ q
theorem V_Line_init : ∀ ds h Q E, ds.length = 5 → G_Line_init ds h Q E → b_Line_init (startD N_Line_init ds) h (bodyK Q E) := by
  rintro ds h Q E _ ⟨pre, P, hP, rfl, rfl, q⟩
  show b_Line_init [some (.ref pre.length), some (.int P.size), some (.int P.way), some (setD P false), some (setD P true)] _ _
  refine byK fun κ kr kn ke => ?_
  unfold b_Line_init
  simp [-Bool.forall_bool, -Bool.exists_bool, -List.lookup_eq_none_iff]
  refine ⟨_, _, _, rfl, hP.s1, hP.s2, ?_⟩
  simp [-Bool.forall_bool, -Bool.exists_bool, -List.lookup_eq_none_iff]
  refine ⟨_, _, _, rfl, hP.w1, hP.w2, ?_⟩
  simp [-Bool.forall_bool, -Bool.exists_bool, -List.lookup_eq_none_iff]
  refine ⟨P, false, rfl, ?_⟩
  simp [-Bool.forall_bool, -Bool.exists_bool, -List.lookup_eq_none_iff]
  refine ⟨P, true, rfl, ?_⟩
  simp [-Bool.forall_bool, -Bool.exists_bool, -List.lookup_eq_none_iff, setD, setNs, setDs]
  exact kn _ _ q
theorem V_law_made : ∀ ds h Q E, ds.length = 1 → G_law_made ds h Q E → b_law_made (startD N_law_made ds) h (bodyK Q E) := by
  rintro ds h Q E _ ⟨P, hP, rfl, q⟩
  show b_law_made [some (toldD P), none, none, none, none] _ _
  refine byK fun κ kr kn ke => ?_
  unfold b_law_made
  simp [-Bool.forall_bool, -Bool.exists_bool, -List.lookup_eq_none_iff, toldD, wayD]
  refine ⟨h, P, false, hP, rfl, rfl, rfl, setD P false, .newI (C := "Setting") (fs := setNs.zip (setDs P false)) (Nat.le_refl _) (by rw [app_new0]; rfl) (frzs_old (by simp [-Bool.forall_bool, -Bool.exists_bool, -List.lookup_eq_none_iff, setNs, setDs, wayD])), by simp [-Bool.forall_bool, -Bool.exists_bool, -List.lookup_eq_none_iff], ?_⟩
  refine ⟨h, P, true, hP, rfl, rfl, rfl, setD P true, .newI (C := "Setting") (fs := setNs.zip (setDs P true)) (Nat.le_refl _) (by rw [app_new0]; rfl) (frzs_old (by simp [-Bool.forall_bool, -Bool.exists_bool, -List.lookup_eq_none_iff, setNs, setDs, wayD])), by simp [-Bool.forall_bool, -Bool.exists_bool, -List.lookup_eq_none_iff], ?_⟩
  refine ⟨h, P, hP, rfl, rfl, rfl, lineD P, .newI (C := "Line") (fs := lineNs.zip (lineDs P)) (Nat.le_refl _) (by rw [app_new0]; rfl) (frzs_old (by simp [-Bool.forall_bool, -Bool.exists_bool, -List.lookup_eq_none_iff, lineNs, lineDs, toldD, wayD])), by simp [-Bool.forall_bool, -Bool.exists_bool, -List.lookup_eq_none_iff], ?_⟩
  exact kr _ _ q
theorem V_check_deed : ∀ ds h Q E, ds.length = 2 → G_check_deed ds h Q E → b_check_deed (startD N_check_deed ds) h (bodyK Q E) := by
  rintro ds h Q E _ ⟨P, S, stk, lng, j, rfl, K, hj, q⟩
  show b_check_deed [some (flowD P S stk lng), some (jobD j)] _ _
  refine byK fun κ kr kn ke => ?_
  unfold b_check_deed
  cases j with
  | write s m =>
    obtain ⟨m1, m2⟩ := hj
    simp [-Bool.forall_bool, -Bool.exists_bool, -List.lookup_eq_none_iff, jobD, flowD]
    refine ⟨s, rfl, ?_⟩
    simp [-Bool.forall_bool, -Bool.exists_bool, -List.lookup_eq_none_iff]
    refine ⟨m, _, _, rfl, m1, m2, ?_⟩
    simp [-Bool.forall_bool, -Bool.exists_bool, -List.lookup_eq_none_iff]
    exact kn _ _ q
  | read s m =>
    obtain ⟨m1, m2, m3⟩ := hj
    simp [-Bool.forall_bool, -Bool.exists_bool, -List.lookup_eq_none_iff, jobD, flowD, flowNs, flowDs]
    refine ⟨s, rfl, ?_⟩
    simp [-Bool.forall_bool, -Bool.exists_bool, -List.lookup_eq_none_iff]
    refine ⟨m, _, _, rfl, m1, m2, ?_⟩
    refine ⟨_, P, S, s, rfl, .inr ⟨stk, lng, rfl, K⟩, ?_⟩
    have : ¬ unr S s < m := by unfold unr; omega
    simp [-Bool.forall_bool, -Bool.exists_bool, -List.lookup_eq_none_iff, this]
    exact kn _ _ q
  | wait m =>
    obtain ⟨m1, m2⟩ := hj
    simp [-Bool.forall_bool, -Bool.exists_bool, -List.lookup_eq_none_iff, jobD, flowD]
    refine ⟨m, _, _, rfl, m1, m2, ?_⟩
    simp [-Bool.forall_bool, -Bool.exists_bool, -List.lookup_eq_none_iff]
    exact kn _ _ q
end LL.K80
end

section
set_option Elab.async false
set_option linter.all false
set_option maxRecDepth 100000
/-! K80Val8: the session. -/
namespace LL.K80
open PySem LL
variable {P : Par} {S : St} {s : Bool} {B L : Int}
theorem k2_pc (p : Pc) : k2 (pcD p) = (p.born, b2i p.side) := rfl
theorem le2_pc (a b : Pc) : le2 (pcD a) (pcD b) = le2P a b := rfl
theorem sort_map (ps : List Pc) : (ps.map pcD).mergeSort le2 = (sorted ps).map pcD := by
  unfold sorted
  rw [← List.map_mergeSort]
  · intro a _ b _; exact (le2_pc a b).symm
theorem is2_map (ps : List Pc) : (ps.map pcD).all is2 = true := by
  rw [List.all_eq_true]
  intro d hd
  obtain ⟨p, _, rfl⟩ := List.mem_map.mp hd
  rfl
theorem V_Session_show : ∀ ds h Q E, ds.length = 3 → G_Session_show ds h Q E → b_Session_show (startD N_Session_show ds) h (bodyK Q E) := by
  rintro ds h Q E _ ⟨b, P, S, stk, lng, past, fs, rfl, K, hb, hfs, hk, hl, q⟩
  show b_Session_show [some (.ref b), some (flowD P S stk lng), some (.lst past)] _ _
  refine byK fun κ kr kn ke => ?_
  unfold b_Session_show
  have hF : FlowIs (flowD P S stk lng) P S h := .inr ⟨stk, lng, rfl, K⟩
  have lt := (List.getElem?_eq_some_iff.mp hb).1
  have isF : ∀ h' m, (flowNs.zip (flowDs P S stk lng)).lookup m = none → isIns "Flow" m (flowD P S stk lng) h' := fun h' m e => ⟨rfl, e⟩
  rcases hfs with rfl | ⟨S', stk', lng', past', rfl⟩
  all_goals
    simp [-Bool.forall_bool, -Bool.exists_bool, -List.lookup_eq_none_iff, hb, sessFs0, sessFs, flowD, flowNs, flowDs]
    refine ⟨_, P, S, false, rfl, .inr ⟨stk, lng, rfl, K⟩, hk false, ?_⟩
    simp [-Bool.forall_bool, -Bool.exists_bool, -List.lookup_eq_none_iff]
    refine ⟨_, P, S, true, rfl, .inr ⟨stk, lng, rfl, K⟩, hk true, ?_⟩
    simp [-Bool.forall_bool, -Bool.exists_bool, -List.lookup_eq_none_iff, hb, lt]
    refine ⟨_, P, S, false, rfl, .inr ⟨stk, lng, rfl, K⟩, ?_⟩
    simp [-Bool.forall_bool, -Bool.exists_bool, -List.lookup_eq_none_iff]
    refine ⟨_, P, S, true, rfl, .inr ⟨stk, lng, rfl, K⟩, ?_⟩
    simp [-Bool.forall_bool, -Bool.exists_bool, -List.lookup_eq_none_iff, hb, lt, sort_map]
    exact ⟨fun _ _ => rfl, kn _ _ q⟩
theorem V_Session_check_free : ∀ ds h Q E, ds.length = 1 → G_Session_check_free ds h Q E → b_Session_check_free (startD N_Session_check_free ds) h (bodyK Q E) := by
  rintro ds h Q E _ ⟨b, P, S, k, rfl, ⟨o, ho, stk, lng, past, K, hp, rfl⟩, q⟩
  show b_Session_check_free [some (.ref b)] _ _
  refine byK fun κ kr kn ke => ?_
  unfold b_Session_check_free
  simp [-Bool.forall_bool, -Bool.exists_bool, -List.lookup_eq_none_iff, ho, sessFs]
  exact kn _ _ q
theorem V_Session_init : ∀ ds h Q E, ds.length = 2 → G_Session_init ds h Q E → b_Session_init (startD N_Session_init ds) h (bodyK Q E) := by
  rintro ds h Q E _ ⟨pre, P, rfl, rfl, q⟩
  show b_Session_init [some (.ref pre.length), some (lineD P)] _ _
  refine byK fun κ kr kn ke => ?_
  unfold b_Session_init
  simp [-Bool.forall_bool, -Bool.exists_bool, -List.lookup_eq_none_iff]
  refine ⟨P, rfl, ?_⟩
  simp [-Bool.forall_bool, -Bool.exists_bool, -List.lookup_eq_none_iff]
  generalize hp : pre ++ [O.ins "Session" [("line", lineD P), ("busy", .bl false)]] = pr
  have lp : pr.length = pre.length + 1 := by rw [← hp]; simp [-Bool.forall_bool, -Bool.exists_bool, -List.lookup_eq_none_iff]
  refine ⟨pr, P, by rw [lp], by rw [← hp]; simp [-Bool.forall_bool, -Bool.exists_bool, -List.lookup_eq_none_iff], rfl, flowD P init (fun _ => []) (fun _ => 0), ?_, by simp [-Bool.forall_bool, -Bool.exists_bool, -List.lookup_eq_none_iff], ?_⟩
  · rw [← lp]
    have old : ∀ i (o : O), (newF P pr.length)[i]? = some o → (pr ++ newF P pr.length)[pr.length + i]? = some o := fun i o e => by rw [app_new]; exact e
    refine .newI (C := "Flow") (fs := flowFs P 0 (fun s => pr.length + 1 + cond s 1 0) (pr.length + 3) (pr.length + 4) (pr.length + 5) (pr.length + 6) (pr.length + 7) (pr.length + 8) (pr.length + 9) (pr.length + 10) (pr.length + 11) (pr.length + 12)) (Nat.le_refl _) (old 0 _ rfl) ?_
    refine .cons (.old (by simp [-Bool.forall_bool, -Bool.exists_bool, -List.lookup_eq_none_iff])) (.cons (.old (by simp [-Bool.forall_bool, -Bool.exists_bool, -List.lookup_eq_none_iff])) (.cons (.old (by simp [-Bool.forall_bool, -Bool.exists_bool, -List.lookup_eq_none_iff])) (.cons (.lst (.cons (frz_new (old 1 _ rfl) (by first | (simp [-Bool.forall_bool, -Bool.exists_bool, -List.lookup_eq_none_iff]; done) | (simp [-Bool.forall_bool, -Bool.exists_bool, -List.lookup_eq_none_iff]; omega)) bels_nil) (.cons (frz_new (old 2 _ rfl) (by first | (simp [-Bool.forall_bool, -Bool.exists_bool, -List.lookup_eq_none_iff]; done) | (simp [-Bool.forall_bool, -Bool.exists_bool, -List.lookup_eq_none_iff]; omega)) bels_nil) .nil))) ?_)))
    refine .cons (frz_new (old 3 _ rfl) (by omega) (by simp [-Bool.forall_bool, -Bool.exists_bool, -List.lookup_eq_none_iff])) (.cons (frz_new (old 4 _ rfl) (by omega) (by simp [-Bool.forall_bool, -Bool.exists_bool, -List.lookup_eq_none_iff])) (.cons (frz_new (old 5 _ rfl) (by omega) (by simp [-Bool.forall_bool, -Bool.exists_bool, -List.lookup_eq_none_iff])) (.cons (frz_new (old 6 _ rfl) (by omega) (by simp [-Bool.forall_bool, -Bool.exists_bool, -List.lookup_eq_none_iff])) (.cons (frz_new (old 7 _ rfl) (by omega) (by simp [-Bool.forall_bool, -Bool.exists_bool, -List.lookup_eq_none_iff])) (.cons (frz_new (old 8 _ rfl) (by omega) (by simp [-Bool.forall_bool, -Bool.exists_bool, -List.lookup_eq_none_iff])) ?_)))))
    exact .cons (frz_new (old 9 _ rfl) (by omega) (by simp [-Bool.forall_bool, -Bool.exists_bool, -List.lookup_eq_none_iff])) (.cons (frz_new (old 10 _ rfl) (by omega) (by simp [-Bool.forall_bool, -Bool.exists_bool, -List.lookup_eq_none_iff])) (.cons (frz_new (old 11 _ rfl) (by omega) bels_nil) (.cons (frz_new (old 12 _ rfl) (by omega) bels_nil) .nil)))
  refine ⟨pre.length, P, init, fun _ => [], fun _ => 0, [], sessFs0 P, rfl, ⟨fun _ => rfl, fun _ x hx => by cases hx⟩, by rw [← hp]; simp [-Bool.forall_bool, -Bool.exists_bool, -List.lookup_eq_none_iff, sessFs0], .inl rfl, fun _ => by show (0 : Int) ≤ _; omega, by show (0 : Nat) ≤ _; omega, ?_⟩
  refine kn _ _ ?_
  rw [← hp]
  simp [-Bool.forall_bool, -Bool.exists_bool, -List.lookup_eq_none_iff]
  exact q _ ⟨_, _, [], ⟨fun _ => rfl, fun _ x hx => by cases hx⟩, rfl, rfl⟩
/-- what a deed leads to -/
theorem Fine.bd (fin : Fine P S B L) : (∀ s, (S.row s).kept ≤ 1000000) ∧ S.flight.length < 1000000 ∧ S.log.length < 1000000 := bound_of fin.g (by have := fin.b; omega) (by have := fin.l; omega)
theorem run_bd (fin : Fine P S B L) {j : Job} (hj : j.Ok S) : (∀ s, ((j.run P S).row s).kept ≤ 1000000) ∧ (j.run P S).flight.length < 1000000 ∧ (j.run P S).log.length < 1000000 := by
  have hB := fin.b
  have hL := fin.l
  cases j with
  | write s m => exact bound_of ((fin.g.wrote (s := s) (m := m) (by have := hj.1; omega)).free fin.p) (by have := hj.2; omega) (by omega)
  | read s m => exact bound_of fin.g.readS (by omega) (by omega)
  | wait m => exact bound_of (fin.g.waited fin.p m.toNat) (by omega) (by have := hj.2; omega)
theorem V_Session_do_deed : ∀ ds h Q E, ds.length = 2 → G_Session_do_deed ds h Q E → b_Session_do_deed (startD N_Session_do_deed ds) h (bodyK Q E) := by
  rintro ds h Q E _ ⟨b, P, S, k, B, L, j, rfl, ⟨o, ho, stk, lng, past, K, hp, rfl⟩, hk, fin, hj, q⟩
  show b_Session_do_deed [some (.ref b), some (jobD j)] _ _
  refine byK fun κ kr kn ke => ?_
  unfold b_Session_do_deed
  simp [-Bool.forall_bool, -Bool.exists_bool, -List.lookup_eq_none_iff, ho, sessFs]
  refine ⟨P, S, stk, lng, j, rfl, K, hj, ?_⟩
  simp [-Bool.forall_bool, -Bool.exists_bool, -List.lookup_eq_none_iff, ho, sessFs]
  refine ⟨by omega, P, S, stk, lng, B, L, j, rfl, K, fin, hj, fun stk' lng' K' => ?_⟩
  have h1 : past.length + 1 ≤ sizeLine := le_sizeLine (by omega)
  have bd := run_bd fin hj
  simp [-Bool.forall_bool, -Bool.exists_bool, -List.lookup_eq_none_iff, ho, sessFs, h1]
  refine ⟨b, P, _, stk', lng', past ++ [flowD P S stk lng], _, rfl, K', ho, .inr ⟨S, stk, lng, past, rfl⟩, bd.1, by omega, ?_⟩
  exact kn _ _ (q _ ⟨stk', lng', _, K', by rw [List.length_append, hp]; rfl, rfl⟩)
theorem sess_set {b k : Nat} {h : LH} {o o' : O} (ho : h[b]? = some o') (h1 : SessO P S k o) : SessAt b P S k (h.set b o) := ⟨o, set_get ho, h1⟩
theorem V_Session_write : ∀ ds h Q E, ds.length = 3 → G_Session_write ds h Q E → b_Session_write (startD N_Session_write ds) h (bodyK Q E) := by
  rintro ds h Q E _ ⟨b, P, S, k, B, L, s, m, rfl, ⟨o, ho, so⟩, hk, fin, hj, q⟩
  show b_Session_write [some (.ref b), some (.int (b2i s)), some (.int m)] _ _
  refine byK fun κ kr kn ke => ?_
  unfold b_Session_write
  obtain ⟨stk, lng, past, K, hp, rfl⟩ := id so
  simp [-Bool.forall_bool, -Bool.exists_bool, -List.lookup_eq_none_iff, ho, sessFs]
  refine ⟨b, P, S, k, rfl, ⟨_, ho, so⟩, ?_⟩
  simp [-Bool.forall_bool, -Bool.exists_bool, -List.lookup_eq_none_iff, ho, sessFs]
  refine ⟨b, P, S, k, B, L, .write s m, rfl, ⟨_, ho, so⟩, hk, fin, hj, fun o so' => ?_⟩
  have q := kr _ _ (q o so')
  obtain ⟨stk', lng', past', K', hp', rfl⟩ := so'
  have lt := (List.getElem?_eq_some_iff.mp ho).1
  simp [-Bool.forall_bool, -Bool.exists_bool, -List.lookup_eq_none_iff, ho, sessFs, lt]
  exact q
theorem V_Session_read : ∀ ds h Q E, ds.length = 3 → G_Session_read ds h Q E → b_Session_read (startD N_Session_read ds) h (bodyK Q E) := by
  rintro ds h Q E _ ⟨b, P, S, k, B, L, s, m, rfl, ⟨o, ho, so⟩, hk, fin, hj, q⟩
  show b_Session_read [some (.ref b), some (.int (b2i s)), some (.int m)] _ _
  refine byK fun κ kr kn ke => ?_
  unfold b_Session_read
  obtain ⟨stk, lng, past, K, hp, rfl⟩ := id so
  simp [-Bool.forall_bool, -Bool.exists_bool, -List.lookup_eq_none_iff, ho, sessFs]
  refine ⟨b, P, S, k, rfl, ⟨_, ho, so⟩, ?_⟩
  simp [-Bool.forall_bool, -Bool.exists_bool, -List.lookup_eq_none_iff, ho, sessFs]
  refine ⟨b, P, S, k, B, L, .read s m, rfl, ⟨_, ho, so⟩, hk, fin, hj, fun o so' => ?_⟩
  have q := kr _ _ (q o so')
  obtain ⟨stk', lng', past', K', hp', rfl⟩ := so'
  have lt := (List.getElem?_eq_some_iff.mp ho).1
  simp [-Bool.forall_bool, -Bool.exists_bool, -List.lookup_eq_none_iff, ho, sessFs, lt]
  exact q
theorem V_Session_wait : ∀ ds h Q E, ds.length = 2 → G_Session_wait ds h Q E → b_Session_wait (startD N_Session_wait ds) h (bodyK Q E) := by
  rintro ds h Q E _ ⟨b, P, S, k, B, L, m, rfl, ⟨o, ho, so⟩, hk, fin, hj, q⟩
  show b_Session_wait [some (.ref b), some (.int m)] _ _
  refine byK fun κ kr kn ke => ?_
  unfold b_Session_wait
  obtain ⟨stk, lng, past, K, hp, rfl⟩ := id so
  simp [-Bool.forall_bool, -Bool.exists_bool, -List.lookup_eq_none_iff, ho, sessFs]
  refine ⟨b, P, S, k, rfl, ⟨_, ho, so⟩, ?_⟩
  simp [-Bool.forall_bool, -Bool.exists_bool, -List.lookup_eq_none_iff, ho, sessFs]
  refine ⟨b, P, S, k, B, L, .wait m, rfl, ⟨_, ho, so⟩, hk, fin, hj, fun o so' => ?_⟩
  have q := kr _ _ (q o so')
  obtain ⟨stk', lng', past', K', hp', rfl⟩ := so'
  have lt := (List.getElem?_eq_some_iff.mp ho).1
  simp [-Bool.forall_bool, -Bool.exists_bool, -List.lookup_eq_none_iff, ho, sessFs, lt]
  exact q
theorem V_law_call : ∀ ds h Q E, ds.length = 2 → G_law_call ds h Q E → b_law_call (startD N_law_call ds) h (bodyK Q E) := by
  rintro ds h Q E _ ⟨b, P, S, k, B, L, j, rfl, ⟨o, ho, so⟩, hk, fin, hj, q⟩
  show b_law_call [some (.ref b), some (jobD j)] _ _
  refine byK fun κ kr kn ke => ?_
  unfold b_law_call
  obtain ⟨stk, lng, past, K, hp, rfl⟩ := id so
  cases j with
  | write s m =>
    simp [-Bool.forall_bool, -Bool.exists_bool, -List.lookup_eq_none_iff, jobD, ho, sessFs]
    exact ⟨b, P, S, k, B, L, s, m, rfl, ⟨_, ho, so⟩, hk, fin, hj, fun o so' => kr _ _ (q o so')⟩
  | read s m =>
    simp [-Bool.forall_bool, -Bool.exists_bool, -List.lookup_eq_none_iff, jobD, ho, sessFs]
    exact ⟨b, P, S, k, B, L, s, m, rfl, ⟨_, ho, so⟩, hk, fin, hj, fun o so' => kr _ _ (q o so')⟩
  | wait m =>
    simp [-Bool.forall_bool, -Bool.exists_bool, -List.lookup_eq_none_iff, jobD, ho, sessFs]
    exact ⟨b, P, S, k, B, L, m, rfl, ⟨_, ho, so⟩, hk, fin, hj, fun o so' => kr _ _ (q o so')⟩
theorem V_Session_len : ∀ ds h Q E, ds.length = 1 → G_Session_len ds h Q E → b_Session_len (startD N_Session_len ds) h (bodyK Q E) := by
  rintro ds h Q E _ ⟨b, P, S, k, rfl, ⟨o, ho, stk, lng, past, K, hp, rfl⟩, q⟩
  show b_Session_len [some (.ref b)] _ _
  refine byK fun κ kr kn ke => ?_
  unfold b_Session_len
  simp [-Bool.forall_bool, -Bool.exists_bool, -List.lookup_eq_none_iff, ho, sessFs]
  have : (sorted S.log).length = S.log.length := List.length_mergeSort _
  rw [this]
  exact kr _ _ q
theorem log2_small {i : Int} (h0 : 0 ≤ i) (h1 : i ≤ 1000000) : i.natAbs.log2 < 1920 :=
  Nat.lt_of_lt_of_le (PySem.Flt.log2_lt_of (k := 20) (by decide) (by have : i.natAbs ≤ 1000000 := by omega
                                                                     have e : (2 : Nat) ^ 20 = 1048576 := by decide
                                                                     omega)) (by decide)
/-- the parts of a session's name fit -/
theorem name_fits {t : Int} {n : Nat} (h0 : 0 ≤ t) (h1 : t ≤ 100000) (hn : n ≤ 1000000) {R : Prop} (q : R) : (Str.empty ++ Str.ofString "Session(tick ").length ≤ sizeLine ∧
    t.natAbs.log2 < 1920 ∧ (Str.empty ++ Str.ofString "Session(tick " ++ Str.ofString t.repr).length ≤ sizeLine ∧
        (Str.empty ++ Str.ofString "Session(tick " ++ Str.ofString t.repr ++ Str.ofString ", ").length ≤ sizeLine ∧
          n.log2 < 1920 ∧ (Str.empty ++ Str.ofString "Session(tick " ++ Str.ofString t.repr ++ Str.ofString ", " ++ Str.ofString ((n : Int).repr)).length ≤ sizeLine ∧
              (Str.empty ++ Str.ofString "Session(tick " ++ Str.ofString t.repr ++ Str.ofString ", " ++ Str.ofString ((n : Int).repr) ++ Str.ofString " pieces)").length ≤ sizeLine ∧ R := by
  have l1 : (Str.ofString t.repr).length ≤ 100002 := by
    have := PyProof.Rows.len_str_of_int t
    have e : toString t = t.repr := rfl
    rw [e] at this; omega
  have l2 : (Str.ofString ((n : Int).repr)).length ≤ 1000002 := by
    have := PyProof.Rows.len_str_of_int (n : Int)
    have e : toString (n : Int) = (n : Int).repr := rfl
    rw [e] at this; omega
  have a0 : (Str.empty ++ Str.ofString "Session(tick ").length ≤ 100 := by decide +kernel
  have a1 : (Str.ofString ", ").length ≤ 100 := by decide +kernel
  have a2 : (Str.ofString " pieces)").length ≤ 100 := by decide +kernel
  generalize Str.empty ++ Str.ofString "Session(tick " = x0 at *
  have z : sizeLine = 16777216 := rfl
  rw [z]
  refine ⟨by omega, log2_small h0 (by omega), ?_, ?_, log2_small (i := (n : Int)) (by omega) (by omega), ?_, ?_, q⟩
  all_goals simp only [Str.length_append]; omega
theorem V_Session_repr : ∀ ds h Q E, ds.length = 1 → G_Session_repr ds h Q E → b_Session_repr (startD N_Session_repr ds) h (bodyK Q E) := by
  rintro ds h Q E _ ⟨b, P, S, k, rfl, ⟨o, ho, stk, lng, past, K, hp, rfl⟩, t0, t1, hl, q⟩
  show b_Session_repr [some (.ref b)] _ _
  refine byK fun κ kr kn ke => ?_
  unfold b_Session_repr
  simp [-Bool.forall_bool, -Bool.exists_bool, -List.lookup_eq_none_iff, ho, sessFs]
  have e : (sorted S.log).length = S.log.length := List.length_mergeSort _
  rw [e]
  exact name_fits t0 t1 hl (kr _ _ q)
theorem V_law_shown : ∀ ds h Q E, ds.length = 1 → G_law_shown ds h Q E → b_law_shown (startD N_law_shown ds) h (bodyK Q E) := by
  rintro ds h Q E _ ⟨b, P, S, k, rfl, sa, t0, t1, hl, q⟩
  show b_law_shown [some (.ref b), none] _ _
  refine byK fun κ kr kn ke => ?_
  unfold b_law_shown
  obtain ⟨o, ho, stk, lng, past, K, hp, rfl⟩ := id sa
  simp [-Bool.forall_bool, -Bool.exists_bool, -List.lookup_eq_none_iff, ho, sessFs]
  refine ⟨b, P, S, k, rfl, sa, ?_⟩
  have z : (S.log.length : Int) < 9223372036854775808 := by omega
  simp [-Bool.forall_bool, -Bool.exists_bool, -List.lookup_eq_none_iff, ho, sessFs, z]
  refine ⟨b, P, S, k, rfl, sa, t0, t1, hl, ?_⟩
  simp [-Bool.forall_bool, -Bool.exists_bool, -List.lookup_eq_none_iff, ho, sessFs, z]
  refine ⟨b, P, S, k, rfl, sa, ?_⟩
  simp [-Bool.forall_bool, -Bool.exists_bool, -List.lookup_eq_none_iff, ho, sessFs, z]
  have e : ((S.log.length : Int) != 0) = decide (S.log ≠ []) := by
    cases S.log with
    | nil => rfl
    | cons x xs => simp [-Bool.forall_bool, -Bool.exists_bool, -List.lookup_eq_none_iff]; omega
  rw [e]
  exact kr _ _ q
end LL.K80
end

section
set_option Elab.async false
set_option linter.all false
set_option maxRecDepth 100000
/-! K80Val9: the law's own walk. -/
namespace LL.K80
open PySem LL
variable {P : Par} {S : St} {s : Bool} {B L : Int}
theorem fr_refl (own : Nat → Prop) (h : LH) : Fr own h h := ⟨Nat.le_refl _, fun _ _ _ => rfl⟩
theorem fr_set {own : Nat → Prop} {a b : LH} {i : Nat} {o : O} (f : Fr own a b) (hi : own i) : Fr own a (b.set i o) := by
  refine ⟨by rw [List.length_set]; exact f.len, fun j hj hn => ?_⟩
  rw [List.getElem?_set_ne (by rintro rfl; exact hn hi)]
  exact f.same j hj hn
theorem own_w (A : WIx) : A.own A.w := .inl rfl
theorem own_r (A : WIx) (s : Bool) : A.own (A.r s) := .inr (.inl ⟨s, rfl⟩)
theorem own_fl (A : WIx) : A.own A.fl := .inr (.inr (.inl rfl))
theorem own_lg (A : WIx) : A.own A.lg := .inr (.inr (.inr rfl))
@[simp] theorem told_at (P : Par) (s : Bool) : L2.atI [D.int P.size, .int P.way, wayD P false, wayD P true] (2 + b2i s) = some (wayD P s) := by cases s <;> rfl
/-- the parts of a world are apart -/
structure Apart (A : WIx) (s : Bool) : Prop where
  a1 : A.w ≠ A.r s
  a2 : A.r s ≠ A.w
  a3 : A.w ≠ A.fl
  a4 : A.fl ≠ A.w
  a5 : A.w ≠ A.lg
  a6 : A.lg ≠ A.w
  a7 : A.r s ≠ A.fl
  a8 : A.fl ≠ A.r s
  a9 : A.r s ≠ A.lg
  a10 : A.lg ≠ A.r s
  a11 : A.fl ≠ A.lg
  a12 : A.lg ≠ A.fl
theorem WIx.Ok.apart {A : WIx} (o : A.Ok) (s : Bool) : Apart A s := ⟨o.wr s, (o.wr s).symm, o.wf, o.wf.symm, o.wl, o.wl.symm, o.rf s, (o.rf s).symm, o.rl s, (o.rl s).symm, o.fl, o.fl.symm⟩
theorem row_ne {A : WIx} (o : A.Ok) {s t : Bool} (h : t ≠ s) : A.r s ≠ A.r t := by
  have : t = !s := by cases s <;> cases t <;> simp_all [-Bool.forall_bool, -Bool.exists_bool, -List.lookup_eq_none_iff]
  subst this
  exact o.rr s
theorem WorldAt.rowS {A : WIx} {h : LH} (W : WorldAt A P S h) (r : Row) : WorldAt A P { S with row := upR S.row s r } (h.set (A.r s) (.lst (rowD r))) := by
  refine ⟨W.ok, ?_, fun t => ?_, ?_, ?_⟩
  · rw [List.getElem?_set_ne (W.ok.wr s).symm]; exact W.w
  · by_cases z : t = s
    · subst z
      show _ = some (O.lst (rowD (upR S.row t r t)))
      rw [upR_same]
      exact set_get (W.r t)
    · rw [List.getElem?_set_ne (row_ne W.ok z)]
      show _ = some (O.lst (rowD (upR S.row s r t)))
      rw [upR_ne z]; exact W.r t
  · rw [List.getElem?_set_ne (W.ok.rf s)]; exact W.fl
  · rw [List.getElem?_set_ne (W.ok.rl s)]; exact W.lg
theorem WorldAt.flS {A : WIx} {h : LH} (W : WorldAt A P S h) (ps : List Pc) : WorldAt A P { S with flight := ps } (h.set A.fl (.lst (ps.map pcD))) := by
  refine ⟨W.ok, ?_, fun t => ?_, ?_, ?_⟩
  · rw [List.getElem?_set_ne W.ok.wf.symm]; exact W.w
  · rw [List.getElem?_set_ne (W.ok.rf t).symm]; exact W.r t
  · exact set_get W.fl
  · rw [List.getElem?_set_ne W.ok.fl]; exact W.lg
theorem WorldAt.lgS {A : WIx} {h : LH} (W : WorldAt A P S h) (ps : List Pc) : WorldAt A P { S with log := ps } (h.set A.lg (.lst (ps.map pcD))) := by
  refine ⟨W.ok, ?_, fun t => ?_, ?_, ?_⟩
  · rw [List.getElem?_set_ne W.ok.wl.symm]; exact W.w
  · rw [List.getElem?_set_ne (W.ok.rl t).symm]; exact W.r t
  · rw [List.getElem?_set_ne W.ok.fl.symm]; exact W.fl
  · exact set_get W.lg
theorem WorldAt.tickS {A : WIx} {h : LH} (W : WorldAt A P S h) (t : Int) : WorldAt A P (at_ t S) (h.set A.w (.lst [toldD P, .int t, .lst (prD fun s => .ref (A.r s)), .ref A.fl, .ref A.lg])) := by
  refine ⟨W.ok, ?_, fun t => ?_, ?_, ?_⟩
  · exact set_get W.w
  · rw [List.getElem?_set_ne (W.ok.wr t)]; exact W.r t
  · rw [List.getElem?_set_ne W.ok.wf]; exact W.fl
  · rw [List.getElem?_set_ne W.ok.wl]; exact W.lg
theorem WorldAt.lt {A : WIx} {h : LH} (W : WorldAt A P S h) {i : Nat} (hi : A.own i) : i < h.length := by
  rcases hi with rfl | ⟨s, rfl⟩ | rfl | rfl
  · exact (List.getElem?_eq_some_iff.mp W.w).1
  · exact (List.getElem?_eq_some_iff.mp (W.r s)).1
  · exact (List.getElem?_eq_some_iff.mp W.fl).1
  · exact (List.getElem?_eq_some_iff.mp W.lg).1
theorem later_trans {A : WIx} {S' S'' : St} {a b c : LH} {fl : Nat} (W : WorldAt A P S a) (h1 : fl = A.fl ∨ a.length ≤ fl) (W' : WorldAt { A with fl := fl } P S' b) (f1 : Fr A.own a b) (h2 : WorldLater { A with fl := fl } P S'' b c) : WorldLater A P S'' a c := by
  obtain ⟨fl2, e2, W2, f2⟩ := h2
  refine ⟨fl2, ?_, W2, Nat.le_trans f1.len f2.len, fun i hi hn => ?_⟩
  · rcases e2 with e2 | e2
    · rw [e2]; exact h1
    · exact .inr (Nat.le_trans f1.len e2)
  · rw [f2.same i (Nat.lt_of_lt_of_le hi f1.len) ?_, f1.same i hi hn]
    intro z
    rcases z with z | ⟨s, z⟩ | z | z
    · exact hn (.inl z)
    · exact hn (.inr (.inl ⟨s, z⟩))
    · have z : i = fl := z
      rcases h1 with h1 | h1
      · exact hn (.inr (.inr (.inl (z.trans h1))))
      · omega
    · exact hn (.inr (.inr (.inr z)))
theorem later_refl {A : WIx} {h : LH} (W : WorldAt A P S h) : WorldLater A P S h h := ⟨A.fl, .inl rfl, W, fr_refl _ _⟩
theorem V_law_send : ∀ ds h Q E, ds.length = 3 → G_law_send ds h Q E → b_law_send (startD N_law_send ds) h (bodyK Q E) := by
  rintro ds h Q E _ ⟨A, P, S, s, m, rfl, W, l1, l2, q⟩
  show b_law_send [some (.ref A.w), some (.int (b2i s)), some (.int m), none] h _
  refine byK fun κ kr kn ke => ?_
  unfold b_law_send
  obtain ⟨a1, a2, a3, a4, a5, a6, a7, a8, a9, a10, a11, a12⟩ := W.ok.apart s
  have e0 := W.w
  have e1 := W.r s
  have e2 := W.fl
  have e3 := W.lg
  have l1 : S.flight.length < 16777216 := by omega
  have l2 : S.log.length < 16777216 := by omega
  have W' := ((W.rowS (s := s) (sendR P m (S.row s))).flS (S.flight ++ [⟨S.tick, s, m, (S.row s).come⟩])).lgS (S.log ++ [⟨S.tick, s, m, (S.row s).come⟩])
  have f := fr_set (fr_set (fr_set (fr_refl A.own h) (own_r A s) (o := .lst (rowD (sendR P m (S.row s))))) (own_fl A) (o := .lst ((S.flight ++ [(⟨S.tick, s, m, (S.row s).come⟩ : Pc)]).map pcD))) (own_lg A) (o := .lst ((S.log ++ [(⟨S.tick, s, m, (S.row s).come⟩ : Pc)]).map pcD))
  have q := kn [some (.ref A.w), some (.int (b2i s)), some (.int m), some (.ref (A.r s))] _ (q _ ⟨A.fl, .inl rfl, W', f⟩)
  simp (maxDischargeDepth := 6) [-Bool.forall_bool, -Bool.exists_bool, -List.lookup_eq_none_iff, e0, e1, e2, e3, rowD, toldD, a1, a2, a3, a4, a5, a6, a7, a8, a9, a10, a11, a12, l1, l2]
  simp only [List.map_append, List.map_cons, List.map_nil, rowD, sendR, optD, pcD] at q
  by_cases z1 : 0 < m
  · by_cases z2 : m < P.size
    · simpa [-Bool.forall_bool, -Bool.exists_bool, -List.lookup_eq_none_iff, z1, z2] using q
    · simpa [-Bool.forall_bool, -Bool.exists_bool, -List.lookup_eq_none_iff, z1, z2] using q
  · simpa [-Bool.forall_bool, -Bool.exists_bool, -List.lookup_eq_none_iff, z1] using q
theorem V_law_leave : ∀ ds h Q E, ds.length = 1 → G_law_leave ds h Q E → b_law_leave (startD N_law_leave ds) h (bodyK Q E) := by
  rintro ds h Q E _ ⟨A, P, S, B, L, rfl, W, hP, g, hB, hL, q⟩
  show b_law_leave [some (.ref A.w), none, none, none] h _
  refine byK fun κ kr kn ke => ?_
  unfold b_law_leave
  have one : ∀ (s : Bool) (A : WIx) (S : St) (B L : Int) (u v w : Option D) (h : LH) (K : LK), Good P B L S → B ≤ 100000 → L ≤ 100010 → WorldAt A P S h → (∀ h' v w, WorldLater A P (leave1 P s S) h h' → K.nx [some (.ref A.w), some (.int (b2i s)), v, w] h') →
      gNm 1 (.int (b2i s)) [some (.ref A.w), u, v, w] h (fun σ2 h2 => (sSeq (sPar 2 3 (eCons (eOp oIx (eOp oIx (eVar 0) (eC (.int 2))) (eVar 1)) (eCons (eOp oIx (eOp oIx (eVar 0) (eC (.int 0))) (eOp oPlus (eC (.int 2)) (eVar 1))) eNil)))
  (sIf (eOr (eTest (eOp oGe (eOp oIx (eVar 2) (eC (.int 6))) (eOp oIx (eVar 3) (eC (.int 1))))) (eAnd (eTest (eOp oNotN (eOp oIx (eVar 2) (eC (.int 7))) (eC .non))) (eTest (eOp oGe (eOp oIx (eVar 0) (eC (.int 1))) (eOp oPlus (eOp oIx (eVar 2) (eC (.int 7))) (eOp oIx (eVar 3) (eC (.int 2))))))))
  (sExpr (eCall G_law_send 3 (eCons (eVar 0) (eCons (eVar 1) (eCons (eC (.int 0)) eNil)))))
  sNil)) σ2 h2 K) (exOf K [some (.ref A.w), u, v, w]) := by
    intro s A S B L u v w h K g hB hL W hK
    have bd := g.lg
    have b2 := g.fl
    have c := g.sentLe false
    have c2 := g.sentLe true
    have e0 := W.w
    have e1 := W.r s
    have dn : ∀ w, dueR P s S.tick (S.row s) = true → G_law_send [.ref A.w, .int (b2i s), .int 0] h (fun x h1 => K.nx [some (.ref A.w), some (.int (b2i s)), some (.ref (A.r s)), w] h1) (fun cl fs h => K.ex cl fs [some (.ref A.w), some (.int (b2i s)), some (.ref (A.r s)), w] h) := by
      intro w z
      refine ⟨A, P, S, s, 0, rfl, W, by omega, by omega, fun h' l => hK h' _ _ ?_⟩
      unfold leave1
      rw [if_pos z]; exact l
    have dd : ∀ w, dueR P s S.tick (S.row s) = false → K.nx [some (.ref A.w), some (.int (b2i s)), some (.ref (A.r s)), w] h := by
      intro w z
      refine hK h _ _ ?_
      unfold leave1
      rw [if_neg (by rw [z]; decide)]; exact later_refl W
    simp [-Bool.forall_bool, -Bool.exists_bool, -List.lookup_eq_none_iff, e0, e1, rowD, toldD]
    simp [-Bool.forall_bool, -Bool.exists_bool, -List.lookup_eq_none_iff, e0, e1, rowD, wayD]
    have oN : ∀ o : Option Int, (optD o).isNon = decide (o = none) := by intro o; cases o <;> rfl
    unfold dueR at dn dd
    split
    · rename_i z
      exact dn _ (by simp [-Bool.forall_bool, -Bool.exists_bool, -List.lookup_eq_none_iff, z])
    · rename_i z
      rw [oN]
      cases zf : (S.row s).first with
      | none => simpa [-Bool.forall_bool, -Bool.exists_bool, -List.lookup_eq_none_iff] using dd _ (by rw [zf]; simp [-Bool.forall_bool, -Bool.exists_bool, -List.lookup_eq_none_iff]; omega)
      | some f =>
        simp [-Bool.forall_bool, -Bool.exists_bool, -List.lookup_eq_none_iff, optD]
        rw [zf] at dn dd
        split
        · rename_i z2
          exact dn _ (by simp [-Bool.forall_bool, -Bool.exists_bool, -List.lookup_eq_none_iff, z2])
        · rename_i z2
          exact dd _ (by simp [-Bool.forall_bool, -Bool.exists_bool, -List.lookup_eq_none_iff]; omega)
  simp [-Bool.forall_bool, -Bool.exists_bool, -List.lookup_eq_none_iff]
  refine forAt_two (fun _ => trivial) ?_
  refine one false A S B L none none none h _ g hB (by omega) W fun h1 v1 w1 l1 => ?_
  obtain ⟨fl, efl, W1, f1⟩ := l1
  refine one true { A with fl := fl } _ B (L + 1) _ v1 w1 h1 _ g.leave1 hB (by omega) W1 fun h2 v2 w2 l2 => ?_
  exact kn _ _ (q _ (later_trans W efl W1 f1 l2))
theorem WorldAt.newFl {A : WIx} {h : LH} (W : WorldAt A P S h) (ps : List Pc) : WorldAt { A with fl := h.length } P { S with flight := ps } ((h.set A.w (.lst [toldD P, .int S.tick, .lst (prD fun s => .ref (A.r s)), .ref h.length, .ref A.lg])) ++ [O.lst (ps.map pcD)]) := by
  have lw := W.lt (own_w A)
  have lr := fun s => W.lt (own_r A s)
  have ll := W.lt (own_lg A)
  have o := W.ok
  refine ⟨⟨o.wr, by show A.w ≠ h.length; omega, o.wl, o.rr, fun s => by show A.r s ≠ h.length; have := lr s; omega, o.rl, by show h.length ≠ A.lg; omega⟩, ?_, fun t => ?_, ?_, ?_⟩
  · exact app_old (set_get W.w)
  · exact app_old (by rw [List.getElem?_set_ne (o.wr t)]; exact W.r t)
  · show (_ ++ [O.lst (ps.map pcD)])[h.length]? = _
    rw [List.getElem?_append_right (by simp [-Bool.forall_bool, -Bool.exists_bool, -List.lookup_eq_none_iff])]; simp [-Bool.forall_bool, -Bool.exists_bool, -List.lookup_eq_none_iff]
  · exact app_old (by rw [List.getElem?_set_ne o.wl]; exact W.lg)
theorem V_law_land : ∀ ds h Q E, ds.length = 1 → G_law_land ds h Q E → b_law_land (startD N_law_land ds) h (bodyK Q E) := by
  rintro ds h Q E _ ⟨A, P, S, B, L, rfl, W, hP, g, hB, hL, q⟩
  show b_law_land [some (.ref A.w), none, none, none, none] h _
  refine byK fun κ kr kn ke => ?_
  unfold b_law_land
  have bd := bound_of g hB hL
  have e0 := W.w
  have e2 := W.fl
  simp [-Bool.forall_bool, -Bool.exists_bool, -List.lookup_eq_none_iff, e0, e2, toldD]
  refine comp_pure (fun d => match d with | .tup (.int b :: _) => if b ≤ S.tick - P.way then some d else none | _ => none) e2 (by simp [-Bool.forall_bool, -Bool.exists_bool, -List.lookup_eq_none_iff]; exact lt_sizeLine (by omega)) ?_ ?_
  · intro x hx R hR
    obtain ⟨p, hp, rfl⟩ := List.mem_map.mp hx
    simp [-Bool.forall_bool, -Bool.exists_bool, -List.lookup_eq_none_iff, pcD] at hR ⊢
    split
    · rename_i z; rw [if_pos z] at hR; exact hR
    · rename_i z; rw [if_neg z] at hR; exact hR
  have fm1 : ∀ ps : List Pc, ((ps.map pcD).filterMap fun d => match d with | .tup (.int b :: _) => if b ≤ S.tick - P.way then some d else none | _ => none) = (here P S.tick ps).map pcD := by
    intro ps
    induction ps with
    | nil => rfl
    | cons p ps ih =>
      unfold here at *
      rw [List.map_cons, List.filterMap_cons, ih, List.filter_cons]
      by_cases z : p.born ≤ S.tick - P.way
      · simp [-Bool.forall_bool, -Bool.exists_bool, -List.lookup_eq_none_iff, pcD, z]
      · simp [-Bool.forall_bool, -Bool.exists_bool, -List.lookup_eq_none_iff, pcD, z]
  simp only [fm1]
  obtain ⟨I, hI⟩ : ∃ I : Nat → LV → LH → Prop, I = (fun i σ' h' => ∃ a b, σ' = [some (.ref A.w), some (.int (S.tick - P.way)), a, b, none] ∧ WorldAt A P (((here P S.tick S.flight).take i).foldl (landOne P) S) h' ∧ Fr A.own h h') := ⟨_, rfl⟩
  refine forBy I (by rw [hI]; exact ⟨_, _, rfl, W, fr_refl _ _⟩) (fun _ _ _ _ _ => trivial) ?_ ?_
  · intro i x σ' h' hx hh
    rw [hI] at hh
    obtain ⟨a, b, rfl, W', f⟩ := hh
    rw [List.getElem?_map] at hx
    obtain ⟨p, hp, rfl⟩ := Option.map_eq_some_iff.mp hx
    have c0 := W'.w
    have c1 := W'.r (!p.side)
    obtain ⟨a1, a2, a3, a4, a5, a6, a7, a8, a9, a10, a11, a12⟩ := W.ok.apart (!p.side)
    have oN : ∀ o : Option Int, (optD o).isNon = decide (o = none) := by intro o; cases o <;> rfl
    have tk : (((here P S.tick S.flight).take i).foldl (landOne P) S).tick = S.tick := fold_land.1
    have st : ((here P S.tick S.flight).take (i + 1)).foldl (landOne P) S = landOne P (((here P S.tick S.flight).take i).foldl (landOne P) S) p := by
      rw [List.take_succ, hp, List.foldl_append]; rfl
    generalize hS : ((here P S.tick S.flight).take i).foldl (landOne P) S = S1 at *
    have fin : ∀ h2 v, h2 = h'.set (A.r !p.side) (.lst (rowD (landR P S1.tick p (S1.row !p.side)))) → opq I (i + 1) [some (.ref A.w), some (.int (S.tick - P.way)), some (pcD p), v, none] h2 := by
      rintro h2 v rfl
      show I _ _ _
      rw [hI]
      refine ⟨_, _, rfl, ?_, fr_set f (own_r A _)⟩
      rw [st]
      exact W'.rowS _
    simp [-Bool.forall_bool, -Bool.exists_bool, -List.lookup_eq_none_iff, c0, c1, rowD, pcD, toldD, oN, a1, a2, set_get c1]
    by_cases z1 : 0 < p.amt
    · rw [if_pos z1]
      by_cases z3 : (S1.row !p.side).first = none
      · rw [if_pos z3]
        exact fin _ _ (by simp [-Bool.forall_bool, -Bool.exists_bool, -List.lookup_eq_none_iff, rowD, landR, z1, z3, optD])
      · rw [if_neg z3]
        exact fin _ _ (by simp [-Bool.forall_bool, -Bool.exists_bool, -List.lookup_eq_none_iff, rowD, landR, z3])
    · rw [if_neg z1]
      exact fin _ _ (by simp [-Bool.forall_bool, -Bool.exists_bool, -List.lookup_eq_none_iff, rowD, landR, z1])
  intro σ' h' hh
  rw [hI] at hh
  obtain ⟨a, b, rfl, W', f⟩ := hh
  rw [show ((⟨List.map pcD (here P S.tick S.flight), fun _ => True⟩ : LIt).items).length = (here P S.tick S.flight).length by simp [-Bool.forall_bool, -Bool.exists_bool, -List.lookup_eq_none_iff], List.take_length] at W'
  have c0 := W'.w
  have c2 := W'.fl
  have ef : (List.foldl (landOne P) S (here P S.tick S.flight)).flight = S.flight := fold_land.2.1
  have et : (List.foldl (landOne P) S (here P S.tick S.flight)).tick = S.tick := fold_land.1
  rw [ef] at c2
  simp [-Bool.forall_bool, -Bool.exists_bool, -List.lookup_eq_none_iff, c0, c2]
  refine comp_pure (fun d => match d with | .tup (.int b :: _) => if S.tick - P.way < b then some d else none | _ => none) c2 (by simp [-Bool.forall_bool, -Bool.exists_bool, -List.lookup_eq_none_iff]; exact lt_sizeLine (by omega)) ?_ ?_
  · intro x hx R hR
    obtain ⟨p, hp, rfl⟩ := List.mem_map.mp hx
    simp [-Bool.forall_bool, -Bool.exists_bool, -List.lookup_eq_none_iff, pcD] at hR ⊢
    split
    · rename_i z; rw [if_pos z] at hR; exact hR
    · rename_i z; rw [if_neg z] at hR; exact hR
  have fm2 : ∀ ps : List Pc, ((ps.map pcD).filterMap fun d => match d with | .tup (.int b :: _) => if S.tick - P.way < b then some d else none | _ => none) = (away P S.tick ps).map pcD := by
    intro ps
    induction ps with
    | nil => rfl
    | cons p ps ih =>
      unfold away at *
      rw [List.map_cons, List.filterMap_cons, ih, List.filter_cons]
      by_cases z : S.tick - P.way < p.born
      · simp [-Bool.forall_bool, -Bool.exists_bool, -List.lookup_eq_none_iff, pcD, z]
      · simp [-Bool.forall_bool, -Bool.exists_bool, -List.lookup_eq_none_iff, pcD, z]
  simp only [fm2]
  have W2 := W'.newFl (away P S.tick S.flight)
  have lw := W'.lt (own_w A)
  have q := kn [some (.ref A.w), some (.int (S.tick - P.way)), a, b, none] _ (q _ ⟨h'.length, .inr f.len, W2, ?_⟩)
  · simp [-Bool.forall_bool, -Bool.exists_bool, -List.lookup_eq_none_iff, c0, lw, app_setOld]
    exact q
  · have f2 := fr_set f (own_w A) (o := .lst [toldD P, .int S.tick, .lst (prD fun s => .ref (A.r s)), .ref h'.length, .ref A.lg])
    rw [et]
    refine ⟨by rw [List.length_append]; have := f2.len; omega, fun i hi hn => ?_⟩
    rw [List.getElem?_append_left (Nat.lt_of_lt_of_le hi f2.len)]
    exact f2.same i hi hn
end LL.K80
end

section
set_option Elab.async false
set_option linter.all false
set_option maxRecDepth 100000
/-! K80ValA: the law's own walk, continued. -/
namespace LL.K80
open PySem LL
variable {P : Par} {S : St} {s : Bool} {B L : Int}
theorem V_law_free : ∀ ds h Q E, ds.length = 2 → G_law_free ds h Q E → b_law_free (startD N_law_free ds) h (bodyK Q E) := by
  rintro ds h Q E _ ⟨A, P, S, s, B, L, rfl, W, hP, g, hB, hL, q⟩
  show b_law_free [some (.ref A.w), some (.int (b2i s)), none, none, none, none] h _
  refine byK fun κ kr kn ke => ?_
  unfold b_law_free
  have e0 := W.w
  have e1 := W.r s
  have s1 := hP.s1
  have s2 := hP.s2
  have k0 := g.k0 s
  have kb := g.kb s
  have ks := g.s0 s
  have d0 : 0 ≤ (S.row s).kept / P.size := Int.ediv_nonneg k0 (by omega)
  have d1 : (S.row s).kept / P.size ≤ (S.row s).kept := Int.ediv_le_self _ k0
  have dv : L2.CDiv (S.row s).kept P.size := ⟨by omega, by omega⟩
  simp [-Bool.forall_bool, -Bool.exists_bool, -List.lookup_eq_none_iff, e0, e1, toldD, rowD]
  simp [-Bool.forall_bool, -Bool.exists_bool, -List.lookup_eq_none_iff, wayD, dv]
  refine ⟨by omega, by omega, ?_⟩
  generalize hN : ((S.row s).kept / P.size).toNat = N
  obtain ⟨I, hI⟩ : ∃ I : Nat → LV → LH → Prop, I = (fun i σ' h' => ∃ a, σ' = [some (.ref A.w), some (.int (b2i s)), some (.ref (A.r s)), some (.str (ruleS (P.rule s))), a, none] ∧ WorldLater A P (sends P s i S) h h') := ⟨_, rfl⟩
  refine forBy I (by rw [hI]; exact ⟨_, rfl, later_refl W⟩) (fun _ _ _ _ _ => trivial) ?_ ?_
  · intro i x σ' h' hx hh
    rw [hI] at hh
    obtain ⟨a, rfl, fl, efl, W', f⟩ := hh
    obtain ⟨hi, rfl⟩ := rngD_get hx
    have rm := sends_room (s := s) hP g (i := i) (by omega)
    have bd := bound_of (g.sends hP i rm) hB hL
    have c0 : h'[A.w]? = _ := W'.w
    simp [-Bool.forall_bool, -Bool.exists_bool, -List.lookup_eq_none_iff, c0, toldD]
    refine ⟨{ A with fl := fl }, P, _, s, P.size, rfl, W', bd.2.1, bd.2.2, fun h2 l => ?_⟩
    show I _ _ _
    rw [hI]
    exact ⟨_, rfl, later_trans W efl W' f l⟩
  intro σ' h' hh
  rw [hI] at hh
  obtain ⟨a, rfl, fl, efl, W', f⟩ := hh
  simp only [rngD_len] at W'
  have rm := sends_room (s := s) hP g (i := N) (by omega)
  have g' := g.sends hP N rm
  have bd := bound_of g' hB hL
  have c0 : h'[A.w]? = _ := W'.w
  have c1 : h'[A.r s]? = _ := W'.r s
  have r := hP.r s
  unfold free at q
  simp only [hN] at q
  generalize hS : sends P s N S = S1 at *
  have go : letsR P s (S1.row s) = true → 0 < (S1.row s).kept → ∀ v, G_law_send [.ref A.w, .int (b2i s), .int (S1.row s).kept] h' (fun x h1 => κ.nx [some (.ref A.w), some (.int (b2i s)), some (.ref (A.r s)), some (.str (ruleS (P.rule s))), a, v] h1) (fun cl fs h => κ.ex cl fs [some (.ref A.w), some (.int (b2i s)), some (.ref (A.r s)), some (.str (ruleS (P.rule s))), a, v] h) := by
    intro z1 z2 v
    rw [if_pos ⟨z2, z1⟩] at q
    exact ⟨{ A with fl := fl }, P, S1, s, _, rfl, W', bd.2.1, bd.2.2, fun h2 l => kn _ _ (q _ (later_trans W efl W' f l))⟩
  have stay : ¬ (0 < (S1.row s).kept ∧ letsR P s (S1.row s) = true) → ∀ v, κ.nx [some (.ref A.w), some (.int (b2i s)), some (.ref (A.r s)), some (.str (ruleS (P.rule s))), a, v] h' := by
    intro z v
    rw [if_neg z] at q
    exact kn _ _ (q _ ⟨fl, efl, W', f⟩)
  unfold letsR at go stay
  simp [-Bool.forall_bool, -Bool.exists_bool, -List.lookup_eq_none_iff, c0, c1, toldD, rowD, ruleS_hold r, ruleS_plain r]
  (repeat' split) <;> first | (refine go ?_ (by assumption) _; simp [-Bool.forall_bool, -Bool.exists_bool, -List.lookup_eq_none_iff, *]; done) | (refine go ?_ (by assumption) _; simp [-Bool.forall_bool, -Bool.exists_bool, -List.lookup_eq_none_iff, *]; omega) | (refine stay ?_ _; simp [-Bool.forall_bool, -Bool.exists_bool, -List.lookup_eq_none_iff, *]; done)
theorem V_law_waited : ∀ ds h Q E, ds.length = 2 → G_law_waited ds h Q E → b_law_waited (startD N_law_waited ds) h (bodyK Q E) := by
  rintro ds h Q E _ ⟨A, P, S, B, L, n, rfl, W, hP, g, hB, hL, hn, q⟩
  show b_law_waited [some (.ref A.w), some (.int n), none] h _
  refine byK fun κ kr kn ke => ?_
  unfold b_law_waited
  simp [-Bool.forall_bool, -Bool.exists_bool, -List.lookup_eq_none_iff]
  refine ⟨by omega, ?_⟩
  obtain ⟨I, hI⟩ : ∃ I : Nat → LV → LH → Prop, I = (fun i σ' h' => ∃ a, σ' = [some (.ref A.w), some (.int n), a] ∧ WorldLater A P (waited P i S) h h') := ⟨_, rfl⟩
  refine forBy I (by rw [hI]; exact ⟨_, rfl, later_refl W⟩) (fun _ _ _ _ _ => trivial) ?_ ?_
  · intro i x σ' h' hx hh
    rw [hI] at hh
    obtain ⟨a, rfl, fl, efl, W', f⟩ := hh
    obtain ⟨hi, rfl⟩ := rngD_get hx
    have gw : Good P B (L + 2 * i) (waited P i S) := g.waited hP i
    simp [-Bool.forall_bool, -Bool.exists_bool, -List.lookup_eq_none_iff]
    refine ⟨{ A with fl := fl }, P, _, B, L + 2 * i, rfl, W', hP, gw, hB, by omega, fun h1 l1 => ?_⟩
    obtain ⟨fl1, efl1, W1, f1⟩ := later_trans W efl W' f l1
    have c0 : h1[A.w]? = _ := W1.w
    simp [-Bool.forall_bool, -Bool.exists_bool, -List.lookup_eq_none_iff, c0]
    have W2 := W1.tickS ((waited P i S).tick + 1)
    have f2 := fr_set f1 (own_w A) (o := .lst [toldD P, .int ((waited P i S).tick + 1), .lst (prD fun s => .ref (A.r s)), .ref fl1, .ref A.lg])
    have g2 : Good P B (L + 2 * i + 2) (at_ ((waited P i S).tick + 1) (leave P (waited P i S))) := gw.leave.at (by rw [leave_tick]; omega)
    refine ⟨{ A with fl := fl1 }, P, _, B, L + 2 * i + 2, rfl, W2, hP, g2, hB, by omega, fun h3 l3 => ?_⟩
    obtain ⟨fl3, efl3, W3, f3⟩ := later_trans W efl1 W2 f2 l3
    refine ⟨{ A with fl := fl3 }, P, _, false, B, L + 2 * i + 2, rfl, W3, hP, g2.land, hB, by omega, fun h4 l4 => ?_⟩
    obtain ⟨fl4, efl4, W4, f4⟩ := later_trans W efl3 W3 f3 l4
    refine ⟨{ A with fl := fl4 }, P, _, true, B, L + 2 * i + 2, rfl, W4, hP, g2.land.free hP, hB, by omega, fun h5 l5 => ?_⟩
    show I _ _ _
    rw [hI]
    exact ⟨_, rfl, later_trans W efl4 W4 f4 l5⟩
  intro σ' h' hh
  rw [hI] at hh
  obtain ⟨a, rfl, l⟩ := hh
  simp only [rngD_len, Int.toNat_natCast] at l
  exact kn _ _ (q _ l)
theorem V_law_done : ∀ ds h Q E, ds.length = 2 → G_law_done ds h Q E → b_law_done (startD N_law_done ds) h (bodyK Q E) := by
  rintro ds h Q E _ ⟨A, P, S, B, L, j, rfl, W, fin, hj, q⟩
  show b_law_done [some (.ref A.w), some (jobD j), none] h _
  refine byK fun κ kr kn ke => ?_
  unfold b_law_done
  have hP := fin.p
  have hB := fin.b
  have hL := fin.l
  have e0 := W.w
  cases j with
  | wait m =>
    obtain ⟨m1, m2⟩ := hj
    have e : (m.toNat : Int) = m := Int.toNat_of_nonneg (by omega)
    simp [-Bool.forall_bool, -Bool.exists_bool, -List.lookup_eq_none_iff, jobD]
    refine ⟨A, P, S, B, L, m.toNat, by rw [e], W, hP, fin.g, by omega, by omega, by omega, fun h1 l => ?_⟩
    obtain ⟨fl, efl, W1, f1⟩ := id l
    have c0 : h1[A.w]? = _ := W1.w
    simp [-Bool.forall_bool, -Bool.exists_bool, -List.lookup_eq_none_iff, c0]
    exact kr _ _ (q _ l)
  | write s m =>
    obtain ⟨m1, m2⟩ := hj
    have e1 := W.r s
    simp [-Bool.forall_bool, -Bool.exists_bool, -List.lookup_eq_none_iff, jobD, e0, e1, rowD]
    have W1 := W.rowS (s := s) { S.row s with kept := (S.row s).kept + m }
    have f1 := fr_set (fr_refl A.own h) (own_r A s) (o := .lst (rowD { S.row s with kept := (S.row s).kept + m }))
    refine ⟨A, P, wrote s m S, s, B + m, L, rfl, W1, hP, fin.g.wrote (by omega), by omega, by omega, fun h2 l => ?_⟩
    have l2 := later_trans W (.inl rfl) W1 f1 l
    obtain ⟨fl, efl, W2, f2⟩ := id l2
    have c1 : h2[A.r s]? = _ := W2.r s
    simp [-Bool.forall_bool, -Bool.exists_bool, -List.lookup_eq_none_iff, c1, rowD]
    exact kr _ _ (q _ l2)
  | read s m =>
    have e1 := W.r s
    simp [-Bool.forall_bool, -Bool.exists_bool, -List.lookup_eq_none_iff, jobD, e0, e1, rowD]
    have W1 := W.rowS (s := s) { S.row s with taken := (S.row s).taken + m }
    have f1 := fr_set (fr_refl A.own h) (own_r A s) (o := .lst (rowD { S.row s with taken := (S.row s).taken + m }))
    have l2 : WorldLater A P (Job.run P S (.read s m)) h _ := ⟨A.fl, .inl rfl, W1, f1⟩
    have q := kr _ _ (q _ l2)
    simp [-Bool.forall_bool, -Bool.exists_bool, -List.lookup_eq_none_iff, Job.ans, Job.run, readS] at q
    exact q
theorem leS_pc (a b : Pc) : leS (pcD a) (pcD b) = le2P a b := by
  show decide (a.born * 2 + b2i a.side ≤ b.born * 2 + b2i b.side) = decide _
  have h1 := b2i_nn a.side
  have h2 := b2i_le a.side
  have h3 := b2i_nn b.side
  have h4 := b2i_le b.side
  by_cases z : a.born * 2 + b2i a.side ≤ b.born * 2 + b2i b.side
  · rw [decide_eq_true z, eq_comm, decide_eq_true_eq]; omega
  · rw [decide_eq_false z, eq_comm, decide_eq_false_iff_not]; omega
theorem sortS_map (ps : List Pc) : (ps.map pcD).mergeSort leS = (sorted ps).map pcD := by
  unfold sorted
  rw [← List.map_mergeSort]
  · intro a _ b _; exact (leS_pc a b).symm
end LL.K80
end

section
set_option Elab.async false
set_option linter.all false
set_option maxRecDepth 100000
/-! K80ValB: what is shown, the law. -/
namespace LL.K80
open PySem LL
variable {P : Par} {S : St} {s : Bool} {B L : Int}
theorem comp_pr {J : LIt} {p : Pt} {e : LE} {vs : List Nat} {σ : LV} {h : LH} {Q : List D → LH → Prop} {f : Bool → D} (g : Bool → D) (hJ : J.items = prD f) (hok : J.ok h)
    (hst : ∀ s, ∀ R : D → LH → Prop, R (g s) h → p.st (f s) (lwipe σ vs) fun σ2 => e σ2 h R (fun _ _ _ => False)) (q : Q (prD g) h) : compAt J p eYes e vs σ h Q := by
  refine ⟨fun i acc h' => acc = (prD g).take i ∧ h' = h, ⟨rfl, rfl⟩, fun i acc h' _ hI => by rw [hI.2]; exact hok, ?_, ?_⟩
  · rintro i x acc h' hx ⟨rfl, rfl⟩
    rw [hJ] at hx
    have hi := (List.getElem?_eq_some_iff.mp hx).1
    have : i = 0 ∨ i = 1 := by rw [prD_len] at hi; omega
    rcases this with rfl | rfl
    · cases hx
      have := hst false (fun y h3 => ((prD g).take 0).length < sizeLine ∧ (prD g).take 0 ++ [y] = (prD g).take (0 + 1) ∧ h3 = h') ⟨lt_sizeLine (by simp [-Bool.forall_bool, -Bool.exists_bool, -List.lookup_eq_none_iff, prD]), rfl, rfl⟩
      simpa [-Bool.forall_bool, -Bool.exists_bool, -List.lookup_eq_none_iff, eYes] using this
    · cases hx
      have := hst true (fun y h3 => ((prD g).take 1).length < sizeLine ∧ (prD g).take 1 ++ [y] = (prD g).take (1 + 1) ∧ h3 = h') ⟨lt_sizeLine (by simp [-Bool.forall_bool, -Bool.exists_bool, -List.lookup_eq_none_iff, prD]), rfl, rfl⟩
      simpa [-Bool.forall_bool, -Bool.exists_bool, -List.lookup_eq_none_iff, eYes] using this
  · rintro acc h' ⟨rfl, rfl⟩
    rw [hJ]; exact q
/-- pieces as data -/
def pcPy (p : Pc) : PyData := .tuple [.int p.born, .int (b2i p.side), .int p.amt, .int p.ans]
theorem dPy_pc (p : Pc) : dPy (pcD p) = some (pcPy p) := rfl
theorem dPys_pc : ∀ ps : List Pc, dPys (ps.map pcD) = some (ps.map pcPy)
  | [] => rfl
  | p :: ps => by rw [List.map_cons, dPys, dPy_pc, dPys_pc ps]; rfl
theorem lay_pc : ∀ ps : List Pc, PyData.canLayAll0 (ps.map pcPy) = true
  | [] => rfl
  | p :: ps => by rw [List.map_cons, PyData.canLayAll0, lay_pc ps]; rfl
theorem depth_pc : ∀ ps : List Pc, PyData.depthAll (ps.map pcPy) ≤ 1
  | [] => by decide
  | p :: ps => by
    rw [List.map_cons, PyData.depthAll]
    have := depth_pc ps
    have e : PyData.depth (pcPy p) = 1 := rfl
    omega
theorem shaped_pc (ps : List Pc) : SeqAt.shaped (.list (ps.map pcPy)) = true := by
  unfold SeqAt.shaped
  have := depth_pc ps
  have e : PyData.depth (.list (ps.map pcPy)) = PyData.depthAll (ps.map pcPy) + 1 := rfl
  rw [e, Bool.and_eq_true]
  exact ⟨lay_pc ps, by simp [-Bool.forall_bool, -Bool.exists_bool, -List.lookup_eq_none_iff]; omega⟩
theorem eqv_nil (ps : List Pc) : (!PyData.eqv (.list (ps.map pcPy)) (.list [])) = decide (ps ≠ []) := by
  cases ps with
  | nil => rfl
  | cons p ps => rfl
/-! ### the texts -/
def pyTwo (f : Bool → Int) : PyData := .tuple [.int (f false), .int (f true)]
def pyShown (S : St) : PyData := .list [.int S.tick, pyTwo (kpt S), pyTwo (unr S), pyTwo (una S), .tuple ((sorted S.log).map pcPy), .int S.flight.length, .bool false, .int S.log.length, .str (nameS S), .bool (decide (S.log ≠ []))]
theorem py_shown (S : St) : dPy (shownD S) = some (pyShown S) := by
  have e : dPy (.tup ((sorted S.log).map pcD)) = some (.tuple ((sorted S.log).map pcPy)) := by rw [dPy, dPys_pc]; rfl
  simp only [shownD, pyShown, dPy, dPys, dPys_pc, prD, pyTwo, Option.map]
/-- a number of few figures -/
theorem int_shown {i : Int} (h0 : 0 ≤ i) (h1 : i < 100000) : (PyData.shown (.int i)).length ≤ 8 := by
  have := PyProof.Rows.toString_length_le (v := i) h0 (k := 5) (by decide) (by omega)
  show (Str.ofString (toString i)).length ≤ 8
  omega
theorem int_weight {i : Int} (h0 : 0 ≤ i) (h1 : i < 100000) : PyData.weight (.int i) ≤ 17 := by
  have : i.natAbs < 2 ^ 17 := by
    have e : (2 : Nat) ^ 17 = 131072 := by decide
    omega
  show (if i == 0 then 0 else i.natAbs.log2 + 1) ≤ 17
  split
  · omega
  · have := PySem.Flt.log2_lt_of (k := 17) (by decide) this
    omega
theorem int_showable {i : Int} (h0 : 0 ≤ i) (h1 : i < 100000) : PyData.showable (.int i) = true := by
  show decide (i.natAbs.log2 < 1920) = true
  exact decide_eq_true (log2_small h0 (by omega))
def small (i : Int) : Prop := 0 ≤ i ∧ i < 100000
structure PcS (p : Pc) : Prop where
  a : small p.born
  c : small p.amt
  d : small p.ans
theorem b2i_small (s : Bool) : small (b2i s) := by cases s <;> (unfold small; decide)
theorem pcs_short : ∀ {ps : List Pc}, (∀ p ∈ ps, PcS p) → PyData.leavesShortAll 8 (ps.map pcPy) = true ∧ PyData.showableAll (ps.map pcPy) = true ∧ PyData.weightAll (ps.map pcPy) ≤ 73 * ps.length
  | [], _ => ⟨rfl, rfl, Nat.le_refl _⟩
  | p :: ps, h => by
    obtain ⟨i1, i2, i3⟩ := pcs_short (ps := ps) fun q hq => h q (List.mem_cons_of_mem _ hq)
    obtain ⟨⟨a0, a1⟩, ⟨c0, c1⟩, ⟨d0, d1⟩⟩ := h p List.mem_cons_self
    obtain ⟨b0, b1⟩ := b2i_small p.side
    refine ⟨?_, ?_, ?_⟩
    · rw [List.map_cons, PyData.leavesShortAll, i1, Bool.and_true]
      simp [-Bool.forall_bool, -Bool.exists_bool, -List.lookup_eq_none_iff, pcPy, PyData.leavesShort, PyData.leavesShortAll, int_shown a0 a1, int_shown b0 b1, int_shown c0 c1, int_shown d0 d1]
    · rw [List.map_cons, PyData.showableAll, i2, Bool.and_true]
      simp only [pcPy, PyData.showable, PyData.showableAll]
      have e1 := int_showable a0 a1
      have e2 := int_showable b0 b1
      have e3 := int_showable c0 c1
      have e4 := int_showable d0 d1
      simp only [PyData.showable] at e1 e2 e3 e4
      simp only [e1, e2, e3, e4, Bool.and_true]
    · rw [List.map_cons, PyData.weightAll, List.length_cons]
      have w1 := int_weight a0 a1
      have w2 := int_weight b0 b1
      have w3 := int_weight c0 c1
      have w4 := int_weight d0 d1
      have e : PyData.weight (pcPy p) = PyData.weight (.int p.born) + 1 + (PyData.weight (.int (b2i p.side)) + 1 + (PyData.weight (.int p.amt) + 1 + (PyData.weight (.int p.ans) + 1 + 0))) := rfl
      omega
end LL.K80
end

section
set_option Elab.async false
set_option linter.all false
set_option maxRecDepth 100000
/-! K80ValC: what stays true from deed to deed; the law. -/
namespace LL.K80
open PySem LL
variable {P : Par} {S : St} {s : Bool} {B L : Int}
theorem Tk.up {r : Row} {fl lg : List Pc} {t : Int} (k : Tk S) (h : 0 ≤ r.taken ∧ r.taken ≤ r.come ∧ 0 ≤ r.known) : Tk ⟨t, upR S.row s r, fl, lg⟩ := by
  intro u
  by_cases z : u = s
  · subst z; show 0 ≤ (upR S.row u r u).taken ∧ (upR S.row u r u).taken ≤ (upR S.row u r u).come ∧ 0 ≤ (upR S.row u r u).known; rw [upR_same]; exact h
  · show 0 ≤ (upR S.row s r u).taken ∧ (upR S.row s r u).taken ≤ (upR S.row s r u).come ∧ 0 ≤ (upR S.row s r u).known; rw [upR_ne z]; exact k u
theorem Tk.send {m : Int} (k : Tk S) : Tk (send P s m S) := k.up (k s)
theorem Tk.sends (k : Tk S) : ∀ n, Tk (sends P s n S)
  | 0 => k
  | n + 1 => (Tk.sends k n).send
theorem Tk.free (k : Tk S) : Tk (free P s S) := by
  unfold LL.K80.free
  simp only
  split
  · exact (k.sends _).send
  · exact k.sends _
theorem Tk.leave1 (k : Tk S) : Tk (leave1 P s S) := by
  unfold LL.K80.leave1
  split
  · exact k.send
  · exact k
theorem Tk.leave (k : Tk S) : Tk (leave P S) := k.leave1.leave1
theorem Tk.fold : ∀ {ps : List Pc} {S : St}, Tk S → (∀ p ∈ ps, 0 ≤ p.amt) → Tk (ps.foldl (landOne P) S)
  | [], _, k, _ => k
  | p :: ps, S, k, h => by
    refine Tk.fold (S := landOne P S p) ?_ fun q hq => h q (List.mem_cons_of_mem _ hq)
    have a := h p List.mem_cons_self
    have b := k (!p.side)
    refine k.up ⟨b.1, ?_, ?_⟩
    · show (S.row !p.side).taken ≤ (S.row !p.side).come + p.amt; omega
    · show 0 ≤ (if p.ans > (S.row !p.side).known then p.ans else (S.row !p.side).known)
      split <;> omega
theorem Tk.land (k : Tk S) (g : Good P B L S) : Tk (land P S) := Tk.fold k fun p hp => g.am p (List.mem_filter.mp hp).1
theorem Tk.begin {t : Int} (k : Tk S) (g : Good P B L S) (h : S.tick ≤ t) : Tk (begin_ P t S) := ((Tk.land (S := at_ t S) k (g.at h)).free).free
theorem Tk.waited (hP : P.Ok) (k : Tk S) (g : Good P B L S) : ∀ n, Tk (waited P n S)
  | 0 => k
  | n + 1 => ((Tk.waited hP k g n).leave).begin (B := B) (L := L + 2 * n + 2) ((g.waited hP n).leave) (by rw [leave_tick]; omega)
/-- a deed leads from what is fine to what is fine -/
theorem Fine.run (fin : Fine P S B L) {j : Job} (hj : j.Ok S) (hB : B + 60 ≤ 3000) (hL : L + 120 ≤ 6000) : Fine P (j.run P S) (B + 60) (L + 120) := by
  have hP := fin.p
  have moreB : ∀ {S : St} {B B' L : Int}, Good P B L S → B ≤ B' → Good P B' L S := fun g h => ⟨g.t0, g.k0, g.s0, g.c0, g.kn, fun s => Int.le_trans (g.kb s) h, g.eq, g.am, g.an, g.lg, g.fl, fun p hp => by
    obtain ⟨a, b, c, d, e, f⟩ := g.lp p hp
    exact ⟨a, b, c, Int.le_trans d h, e, Int.le_trans f h⟩⟩
  cases j with
  | write s m =>
    obtain ⟨m1, m2⟩ := hj
    have g := fin.g.wrote (s := s) (m := m) (by omega)
    have oth : ∀ t, t ≠ s → (wrote s m S).row t = S.row t := fun t h => upR_ne h
    refine ⟨hP, fun t => ?_, later_free hP (S := wrote s m S) fin.lat, (moreB (g.free hP) (by omega)).more (by omega), ?_, hB, hL⟩
    · by_cases z : t = s
      · subst z; exact free_settles hP (g.k0 t)
      · have : t = !s := by cases s <;> cases t <;> simp_all [-Bool.forall_bool, -Bool.exists_bool, -List.lookup_eq_none_iff]
        subst this
        refine settled_of (S := S) ?_ (fin.set _)
        show S.row (!s) = (free P s (wrote s m S)).row (!s)
        rw [free_other]; exact (oth _ z).symm
    · have k : Tk (wrote s m S) := fin.tk.up (fin.tk s)
      exact k.free
  | read s m =>
    obtain ⟨m1, m2, m3⟩ := hj
    refine ⟨hP, fun t => ?_, fin.lat, (moreB fin.g.readS (by omega)).more (by omega), fin.tk.up ?_, hB, hL⟩
    · have f := fin.set t
      unfold Settled letsR at *
      have e1 : ((Job.run P S (.read s m)).row t).kept = (S.row t).kept := by simp [-Bool.forall_bool, -Bool.exists_bool, -List.lookup_eq_none_iff, Job.run, readS, row_kept]
      have e2 : ((Job.run P S (.read s m)).row t).known = (S.row t).known := by simp [-Bool.forall_bool, -Bool.exists_bool, -List.lookup_eq_none_iff, Job.run, readS, row_known]
      have e3 : ((Job.run P S (.read s m)).row t).sent = (S.row t).sent := by simp [-Bool.forall_bool, -Bool.exists_bool, -List.lookup_eq_none_iff, Job.run, readS, row_sent]
      have e4 : ((Job.run P S (.read s m)).row t).small = (S.row t).small := by simp [-Bool.forall_bool, -Bool.exists_bool, -List.lookup_eq_none_iff, Job.run, readS, row_small]
      rw [e1, e2, e3, e4]; exact f
    · have := fin.tk s
      exact ⟨by show 0 ≤ (S.row s).taken + m; omega, by show (S.row s).taken + m ≤ (S.row s).come; omega, this.2.2⟩
  | wait m =>
    obtain ⟨m1, m2⟩ := hj
    exact ⟨hP, waited_settled hP fin.set _, waited_later hP fin.lat _, (moreB (fin.g.waited hP m.toNat) (by omega)).more (by omega), Tk.waited hP fin.tk fin.g _, hB, hL⟩
theorem cps_small (x : String) : (Str.ofString x).cps.toList.all (fun c => decide (c < 16 ^ 8)) = true := by
  rw [Str.ofString_eq_toList, List.all_eq_true]
  intro c hc
  simp only [List.toList_toArray] at hc
  obtain ⟨d, _, rfl⟩ := List.mem_map.mp hc
  have e : (16 : Nat) ^ 8 = 2 ^ 32 := by decide
  rw [e]
  exact decide_eq_true (UInt32.toNat_lt d.val)
theorem cps_app (x y : Str) : (x ++ y).cps.toList = x.cps.toList ++ y.cps.toList := by
  show (x.cps ++ y.cps).toList = _
  simp [-Bool.forall_bool, -Bool.exists_bool, -List.lookup_eq_none_iff]
theorem name_short (S : St) : PyData.leavesShort 8 (.str (nameS S)) = true := by
  have e : PyData.leavesShort 8 (.str (nameS S)) = (nameS S).cps.toList.all (fun c => decide (c < 16 ^ 8)) := by rw [PyData.leavesShort]
  rw [e]
  unfold nameS
  have z : Str.empty.cps.toList.all (fun c => decide (c < 16 ^ 8)) = true := rfl
  simp only [cps_app, List.all_append, cps_small, z, Bool.and_true]
theorem name_weight (t0 : 0 ≤ S.tick) (t1 : S.tick ≤ 100000) (hl : S.log.length ≤ 1000000) : PyData.weight (.str (nameS S)) ≤ 50 := by
  show (nameS S).length ≤ 50
  unfold nameS
  have a0 : (Str.empty ++ Str.ofString "Session(tick ").length ≤ 13 := by decide +kernel
  have a1 : (Str.ofString ", ").length ≤ 2 := by decide +kernel
  have a2 : (Str.ofString " pieces)").length ≤ 8 := by decide +kernel
  have l1 := PyProof.Rows.toString_length_le (v := S.tick) t0 (k := 6) (by decide) (by omega)
  have l2 := PyProof.Rows.toString_length_le (v := (S.log.length : Int)) (by omega) (k := 7) (by decide) (by omega)
  generalize Str.empty ++ Str.ofString "Session(tick " = x0 at *
  simp only [Str.length_append]
  omega
theorem Fine.shown (fin : Fine P S B L) (ht : S.tick < 100000) : (pyShown S).showable = true ∧ (pyShown S).shown.length ≤ sizeLine ∧ (pyShown S).depth ≤ 60 := by
  have g := fin.g
  have hB := fin.b
  have hL := fin.l
  have bd := fin.bd
  have lg := g.lg
  have sl0 := g.sentLe false
  have sl1 := g.sentLe true
  have n1 : (S.log.length : Int) ≤ 12000 := by omega
  have mem : ∀ p ∈ sorted S.log, PcS p := by
    intro p hp
    have hp : p ∈ S.log := by unfold sorted at hp; exact (List.mem_mergeSort).mp hp
    obtain ⟨a, b, c, d, e, f⟩ := g.lp p hp
    exact ⟨⟨a, by omega⟩, ⟨c, by omega⟩, ⟨e, by omega⟩⟩
  obtain ⟨p1, p2, p3⟩ := pcs_short mem
  have len : (sorted S.log).length = S.log.length := List.length_mergeSort _
  rw [len] at p3
  have kp : ∀ s, small (kpt S s) := fun s => ⟨g.k0 s, by show (S.row s).kept < 100000; have := g.kb s; have := g.s0 s; omega⟩
  have un : ∀ s, small (unr S s) := fun s => by
    have a := fin.tk s
    have b := g.comeLe s
    have c := g.sentLe (!s)
    exact ⟨by show 0 ≤ (S.row s).come - (S.row s).taken; omega, by show (S.row s).come - (S.row s).taken < 100000; omega⟩
  have ua : ∀ s, small (una S s) := fun s => by
    have a := fin.tk s
    have b := g.kn s
    have c := g.sentLe s
    exact ⟨by show 0 ≤ (S.row s).sent - (S.row s).known; omega, by show (S.row s).sent - (S.row s).known < 100000; omega⟩
  have tk : small S.tick := ⟨g.t0, ht⟩
  have fl : small (S.flight.length : Int) := ⟨by omega, by have := g.fl; omega⟩
  have lgS : small (S.log.length : Int) := ⟨by omega, by omega⟩
  have sh : ∀ {i : Int}, small i → PyData.showable (.int i) = true := fun h => int_showable h.1 h.2
  have ls : ∀ {i : Int}, small i → PyData.leavesShort 8 (.int i) = true := fun h => decide_eq_true (int_shown h.1 h.2)
  have ws : ∀ {i : Int}, small i → PyData.weight (.int i) ≤ 17 := fun h => int_weight h.1 h.2
  have two_sh : ∀ {f : Bool → Int}, (∀ s, small (f s)) → PyData.showable (pyTwo f) = true := fun h => by
    show (PyData.showable (.int _) && (PyData.showable (.int _) && true)) = true
    rw [sh (h false), sh (h true)]; rfl
  have two_ls : ∀ {f : Bool → Int}, (∀ s, small (f s)) → PyData.leavesShort 8 (pyTwo f) = true := fun h => by
    show (PyData.leavesShort 8 (.int _) && (PyData.leavesShort 8 (.int _) && true)) = true
    rw [ls (h false), ls (h true)]; rfl
  have two_w : ∀ {f : Bool → Int}, (∀ s, small (f s)) → PyData.weight (pyTwo f) ≤ 36 := fun {f} h => by
    have a := ws (h false)
    have b := ws (h true)
    show PyData.weight (.int (f false)) + 1 + (PyData.weight (.int (f true)) + 1 + 0) ≤ 36
    omega
  refine ⟨?_, PyData.shown_fits (B := 8) (by decide) (by decide) ?_ ?_, ?_⟩
  · show (PyData.showable (.int S.tick) && (PyData.showable (pyTwo (kpt S)) && (PyData.showable (pyTwo (unr S)) && (PyData.showable (pyTwo (una S)) && (PyData.showableAll ((sorted S.log).map pcPy) && (PyData.showable (.int S.flight.length) && (true && (PyData.showable (.int S.log.length) && (true && (true && true)))))))))) = true
    rw [sh tk, two_sh kp, two_sh un, two_sh ua, p2, sh fl, sh lgS]; rfl
  · show (PyData.leavesShort 8 (.int S.tick) && (PyData.leavesShort 8 (pyTwo (kpt S)) && (PyData.leavesShort 8 (pyTwo (unr S)) && (PyData.leavesShort 8 (pyTwo (una S)) && (PyData.leavesShortAll 8 ((sorted S.log).map pcPy) && (PyData.leavesShort 8 (.int S.flight.length) && (true && (PyData.leavesShort 8 (.int S.log.length) && (PyData.leavesShort 8 (.str (nameS S)) && (true && true)))))))))) = true
    rw [ls tk, two_ls kp, two_ls un, two_ls ua, p1, ls fl, ls lgS, name_short]; rfl
  · have e : PyData.weight (pyShown S) = PyData.weight (.int S.tick) + 1 + (PyData.weight (pyTwo (kpt S)) + 1 + (PyData.weight (pyTwo (unr S)) + 1 + (PyData.weight (pyTwo (una S)) + 1 + (PyData.weightAll ((sorted S.log).map pcPy) + 1 + (PyData.weight (.int S.flight.length) + 1 + (0 + 1 + (PyData.weight (.int S.log.length) + 1 + (PyData.weight (.str (nameS S)) + 1 + (0 + 1 + 0))))))))) := rfl
    rw [e]
    have w1 := ws tk
    have w2 := two_w kp
    have w3 := two_w un
    have w4 := two_w ua
    have w5 := ws fl
    have w6 := ws lgS
    have w7 := name_weight (S := S) g.t0 (by omega) (by omega)
    have z : (2 : Nat) ^ 20 = 1048576 := by decide
    omega
  · have e : PyData.depth (pyShown S) = max (PyData.depth (.int S.tick)) (max (PyData.depth (pyTwo (kpt S))) (max (PyData.depth (pyTwo (unr S))) (max (PyData.depth (pyTwo (una S))) (max (PyData.depthAll ((sorted S.log).map pcPy) + 1) (max (PyData.depth (.int S.flight.length)) (max 0 (max (PyData.depth (.int S.log.length)) (max 0 (max 0 0))))))))) + 1 := rfl
    rw [e]
    have := depth_pc (sorted S.log)
    have e0 : ∀ i, PyData.depth (.int i) = 0 := fun _ => rfl
    have e1 : ∀ f, PyData.depth (pyTwo f) = 1 := fun _ => rfl
    rw [e0, e0, e0, e1, e1, e1]
    omega
end LL.K80
end

section
set_option Elab.async false
set_option linter.all false
set_option maxRecDepth 100000
/-! K80ValD: deeds, tellings, the law's def. -/
namespace LL.K80
open PySem LL
variable {P : Par} {S : St} {s : Bool} {B L : Int}
theorem fine_init (hP : P.Ok) : Fine P init 0 0 := by
  refine ⟨hP, fun s => ⟨Int.le_refl _, ?_, fun z => by have := z.1; simp [-Bool.forall_bool, -Bool.exists_bool, -List.lookup_eq_none_iff, init] at this⟩, fun p hp => (nomatch hp), ?_, fun s => ⟨Int.le_refl _, Int.le_refl _, Int.le_refl _⟩, by omega, by omega⟩
  · show (0 : Int) < P.size
    have := hP.s1; omega
  · exact ⟨Int.le_refl _, fun _ => Int.le_refl _, fun _ => Int.le_refl _, fun _ => Int.le_refl _, fun _ => Int.le_refl _, fun _ => Int.le_refl _, fun s => by rw [show init.flight = [] from rfl, amts_nil]; rfl, fun p hp => (nomatch hp), fun p hp => (nomatch hp), by decide, Nat.le_refl _, fun p hp => (nomatch hp)⟩
theorem run_tick {j : Job} (hj : j.Ok S) : (j.run P S).tick ≤ S.tick + 60 ∧ S.tick ≤ (j.run P S).tick := by
  cases j with
  | write s m => 
    have : (Job.run P S (.write s m)).tick = S.tick := free_tick
    omega
  | read s m => 
    have : (Job.run P S (.read s m)).tick = S.tick := rfl
    omega
  | wait m =>
    have : (Job.run P S (.wait m)).tick = S.tick + m.toNat := waited_tick
    obtain ⟨m1, m2⟩ := hj
    omega
theorem ans_small (fin : Fine P S B L) (ht : S.tick < 100000) (j : Job) : small (j.ans S) := by
  have g := fin.g
  have hB := fin.b
  cases j with
  | write s m => exact ⟨g.k0 s, by show (S.row s).kept < 100000; have := g.kb s; have := g.s0 s; omega⟩
  | read s m =>
    have a := fin.tk s
    have b := g.comeLe s
    have c := g.sentLe (!s)
    exact ⟨by show 0 ≤ (S.row s).come - (S.row s).taken; omega, by show (S.row s).come - (S.row s).taken < 100000; omega⟩
  | wait m => exact ⟨g.t0, ht⟩
def pyWay (P : Par) (s : Bool) : PyData := .tuple [.str (ruleS (P.rule s)), .int (P.every s), .int (P.delay s)]
def pyTold (P : Par) : PyData := .tuple [.int P.size, .int P.way, pyWay P false, pyWay P true]
theorem py_told (P : Par) : dPy (toldD P) = some (pyTold P) := rfl
theorem ruleS_ok {k : Nat} (h : k < 3) : PyData.strOk (ruleS k) = true := by
  have : k = 0 ∨ k = 1 ∨ k = 2 := by omega
  rcases this with rfl | rfl | rfl <;> decide +kernel
theorem told_shaped (hP : P.Ok) : SeqAt.shaped (pyTold P) = true := by
  have a := ruleS_ok (hP.r false)
  have b := ruleS_ok (hP.r true)
  unfold SeqAt.shaped
  rw [Bool.and_eq_true]
  refine ⟨?_, rfl⟩
  simp [-Bool.forall_bool, -Bool.exists_bool, -List.lookup_eq_none_iff, pyTold, pyWay, PyData.canLay0, PyData.canLayAll0, a, b]
theorem told_eqv (hP : P.Ok) : PyData.eqv (pyTold P) (pyTold P) = true := by
  have h := told_shaped hP
  unfold SeqAt.shaped at h
  rw [Bool.and_eq_true] at h
  exact SeqAt.eqv_refl _ h.1
theorem V_law : ∀ ds h Q E, ds.length = 1 → G_law ds h Q E → b_law (startD N_law ds) h (bodyK Q E) := by
  rintro ds h Q E _ ⟨ns, rfl, rfl, hl, hb, q⟩
  show b_law [some (.lst (ns.map .int)), none] _ _
  refine byK fun κ kr kn ke => ?_
  unfold b_law
  simp [-Bool.forall_bool, -Bool.exists_bool, -List.lookup_eq_none_iff]
  refine ⟨by split <;> split <;> omega, by split <;> split <;> omega, ?_⟩
  have h5 : (if 2 < if 5 < (ns.length : Int) then 5 else (ns.length : Int) then if 5 < (ns.length : Int) then 5 else (ns.length : Int) else 2).toNat ≤ 5 := by split <;> split <;> omega
  generalize (if 2 < if 5 < (ns.length : Int) then 5 else (ns.length : Int) then if 5 < (ns.length : Int) then 5 else (ns.length : Int) else 2).toNat = N at *
  refine ⟨fun i acc _ => acc = List.replicate i (.bl true), rfl, fun _ _ _ _ _ => trivial, ?_, ?_⟩
  · rintro i x acc h hx rfl
    obtain ⟨hi, rfl⟩ := rngD_get hx
    have hi5 : i < 16777216 := by omega
    simp [-Bool.forall_bool, -Bool.exists_bool, -List.lookup_eq_none_iff]
    refine ⟨ns, i, rfl, hl, fun a c b => ?_⟩
    refine ⟨_, rfl, ⟨a, c, b, by simp [-Bool.forall_bool, -Bool.exists_bool, -List.lookup_eq_none_iff]⟩, fun h' => ?_⟩
    exact ⟨lt_sizeLine hi5, by rw [List.replicate_succ']⟩
  · rintro acc h rfl
    rw [rngD_len]
    refine ⟨List.replicate N true, by simp [-Bool.forall_bool, -Bool.exists_bool, -List.lookup_eq_none_iff], ?_⟩
    simp [-Bool.forall_bool, -Bool.exists_bool, -List.lookup_eq_none_iff]
    exact kr _ _ (q _ _ rfl)
end LL.K80
end

section
set_option Elab.async false
set_option linter.all false
set_option maxRecDepth 100000
/-! K80X0: sorting keeps the order of equals; what is left out. -/
namespace LL.K80
open PySem LL
section
variable {α : Type} {le : α → α → Bool}
def eqv (le : α → α → Bool) (x y : α) : Bool := le x y && le y x
theorem sorted_uniq (tr : ∀ a b c, le a b = true → le b c = true → le a c = true) (rf : ∀ a, le a a = true) : ∀ {a b : List α}, a.Pairwise (fun x y => le x y = true) → b.Pairwise (fun x y => le x y = true) → (∀ x, a.filter (eqv le x) = b.filter (eqv le x)) → a = b
  | [], [], _, _, _ => rfl
  | [], y :: b, _, _, h => by
    have := h y
    rw [List.filter_cons_of_pos (by simp [eqv, rf])] at this
    cases this
  | x :: a, [], _, _, h => by
    have := h x
    rw [List.filter_cons_of_pos (by simp [eqv, rf])] at this
    cases this
  | x :: a, y :: b, ha, hb, h => by
    have mem : ∀ z, z ∈ x :: a ↔ z ∈ y :: b := fun z => by
      have hz : ∀ l : List α, z ∈ l ↔ z ∈ l.filter (eqv le z) := fun l => by simp [List.mem_filter, eqv, rf]
      rw [hz (x :: a), hz (y :: b), h z]
    have l1 : le x y = true := by
      rcases List.mem_cons.mp ((mem y).mpr List.mem_cons_self) with e | e
      · rw [e]; exact rf _
      · exact (List.pairwise_cons.mp ha).1 y e
    have l2 : le y x = true := by
      rcases List.mem_cons.mp ((mem x).mp List.mem_cons_self) with e | e
      · rw [e]; exact rf _
      · exact (List.pairwise_cons.mp hb).1 x e
    have hx := h x
    rw [List.filter_cons_of_pos (by simp [eqv, rf]), List.filter_cons_of_pos (by simp [eqv, l1, l2])] at hx
    injection hx with e1 e2
    subst e1
    congr 1
    refine sorted_uniq tr rf (List.pairwise_cons.mp ha).2 (List.pairwise_cons.mp hb).2 fun z => ?_
    have hz := h z
    by_cases q : eqv le z x = true
    · rw [List.filter_cons_of_pos q, List.filter_cons_of_pos q] at hz
      injection hz
    · rw [List.filter_cons_of_neg q, List.filter_cons_of_neg q] at hz
      exact hz
theorem stable (tr : ∀ a b c, le a b = true → le b c = true → le a c = true) (tot : ∀ a b, (le a b || le b a) = true) (l : List α) (x : α) : (l.mergeSort le).filter (eqv le x) = l.filter (eqv le x) := by
  have pw : (l.filter (eqv le x)).Pairwise (fun a b => le a b = true) := by
    refine List.pairwise_of_forall_mem_list fun a ha b hb => ?_
    have h1 := (List.mem_filter.mp ha).2
    have h2 := (List.mem_filter.mp hb).2
    simp only [eqv, Bool.and_eq_true] at h1 h2
    exact tr a x b h1.2 h2.1
  have sub := List.sublist_mergeSort (le := le) tr tot pw (List.filter_sublist (l := l) (p := eqv le x))
  have sub2 := sub.filter (eqv le x)
  rw [List.filter_filter] at sub2
  simp only [Bool.and_self] at sub2
  refine (sub2.eq_of_length ?_).symm
  exact ((List.mergeSort_perm l le).symm.filter _).length_eq
/-- sorting and leaving out may be exchanged -/
theorem sort_filter (tr : ∀ a b c, le a b = true → le b c = true → le a c = true) (tot : ∀ a b, (le a b || le b a) = true) (p : α → Bool) (l : List α) : (l.mergeSort le).filter p = (l.filter p).mergeSort le := by
  have rf : ∀ a, le a a = true := fun a => by simpa using tot a a
  refine sorted_uniq tr rf ((List.pairwise_mergeSort tr tot l).sublist List.filter_sublist) (List.pairwise_mergeSort tr tot _) fun x => ?_
  rw [stable tr tot, List.filter_filter, List.filter_filter]
  have : ∀ m : List α, m.filter (fun a => eqv le x a && p a) = (m.filter (eqv le x)).filter p := fun m => by
    rw [List.filter_filter]; congr 1; funext a; exact Bool.and_comm _ _
  have e2 : ∀ m : List α, m.filter (fun a => p a && eqv le x a) = (m.filter (eqv le x)).filter p := fun m => by
    rw [List.filter_filter]
  first
  | rw [this, this, stable tr tot]
  | rw [this, e2, stable tr tot]
  | rw [e2, this, stable tr tot]
  | rw [e2, e2, stable tr tot]
end
theorem le2P_tr (a b c : Pc) (h1 : le2P a b = true) (h2 : le2P b c = true) : le2P a c = true := by
  simp only [le2P, decide_eq_true_eq] at *
  omega
theorem le2P_tot (a b : Pc) : (le2P a b || le2P b a) = true := by
  simp only [le2P, Bool.or_eq_true, decide_eq_true_eq]
  omega
end LL.K80
end

section
set_option Elab.async false
set_option linter.all false
set_option maxRecDepth 100000
/-! K80X1: waits in parts. -/
namespace LL.K80
open PySem LL
variable {P : Par} {S : St} {s : Bool} {B L : Int}
theorem waited_add (a : Nat) : ∀ b : Nat, waited P b (waited P a S) = waited P (a + b) S
  | 0 => rfl
  | b + 1 => by
    show step P (waited P b (waited P a S)) = _
    rw [waited_add a b]; rfl
/-- what comes later is put behind -/
def Grow (S S' : St) : Prop := S.tick ≤ S'.tick ∧ ∃ l, S'.log = S.log ++ l ∧ ∀ p ∈ l, S.tick ≤ p.born
theorem Grow.rfl' : Grow S S := ⟨Int.le_refl _, [], by simp [-Bool.forall_bool, -Bool.exists_bool, -List.lookup_eq_none_iff], fun p hp => (nomatch hp)⟩
theorem Grow.trans {A C D : St} (h : Grow A C) (k : Grow C D) : Grow A D := by
  obtain ⟨h1, l, h2, h3⟩ := h
  obtain ⟨k1, m, k2, k3⟩ := k
  refine ⟨Int.le_trans h1 k1, l ++ m, by rw [k2, h2, List.append_assoc], fun p hp => ?_⟩
  rcases List.mem_append.mp hp with hp | hp
  · exact h3 p hp
  · exact Int.le_trans h1 (k3 p hp)
theorem Grow.send {m : Int} : Grow S (send P s m S) := ⟨Int.le_refl _, [⟨S.tick, s, m, (S.row s).come⟩], rfl, fun p hp => by obtain rfl := List.mem_singleton.mp hp; exact Int.le_refl _⟩
theorem Grow.sends : ∀ n, Grow S (sends P s n S)
  | 0 => .rfl'
  | n + 1 => (Grow.sends n).trans .send
theorem Grow.free : Grow S (free P s S) := by
  unfold LL.K80.free
  simp only
  split
  · exact (Grow.sends _).trans .send
  · exact Grow.sends _
theorem Grow.leave1 : Grow S (leave1 P s S) := by
  unfold LL.K80.leave1
  split
  · exact .send
  · exact .rfl'
theorem Grow.leave : Grow S (leave P S) := Grow.leave1.trans Grow.leave1
theorem Grow.land : Grow S (land P S) := ⟨by rw [land_tick]; exact Int.le_refl _, [], by rw [List.append_nil]; exact fold_land.2.2, fun p hp => (nomatch hp)⟩
theorem Grow.at {t : Int} (h : S.tick ≤ t) : Grow S (at_ t S) := ⟨h, [], by rw [List.append_nil]; rfl, fun p hp => (nomatch hp)⟩
theorem Grow.step : Grow S (step P S) := Grow.leave.trans (((Grow.at (by rw [leave_tick]; omega)).trans Grow.land).trans (Grow.free.trans Grow.free))
theorem Grow.waited : ∀ n, Grow S (waited P n S)
  | 0 => .rfl'
  | n + 1 => (Grow.waited n).trans Grow.step
theorem older_same (g : Grow S S') : (sorted S'.log).filter (fun p => decide (p.born < S.tick)) = (sorted S.log).filter (fun p => decide (p.born < S.tick)) := by
  obtain ⟨_, l, e, h⟩ := g
  unfold sorted
  rw [sort_filter le2P_tr le2P_tot, sort_filter le2P_tr le2P_tot, e, List.filter_append]
  have : l.filter (fun p => decide (p.born < S.tick)) = [] := by
    rw [List.filter_eq_nil_iff]
    intro p hp
    have := h p hp
    simp [-Bool.forall_bool, -Bool.exists_bool, -List.lookup_eq_none_iff]; omega
  rw [this, List.append_nil]
theorem mem_grow (g : Grow S S') {p : Pc} (hp : p ∈ sorted S.log) : p ∈ sorted S'.log := by
  obtain ⟨_, l, e, _⟩ := g
  unfold sorted at *
  rw [List.mem_mergeSort] at *
  rw [e]; exact List.mem_append_left _ hp
theorem Fine.wait (fin : Fine P S B L) (n : Nat) (h : L + 2 * n ≤ 6000) : Fine P (waited P n S) B (L + 2 * n) :=
  ⟨fin.p, waited_settled fin.p fin.set _, waited_later fin.p fin.lat _, fin.g.waited fin.p n, Tk.waited fin.p fin.tk fin.g _, fin.b, h⟩
theorem fm_lt (t : Int) : ∀ ps : List Pc, ((ps.map pcD).filterMap fun d => match d with | .tup (.int b :: _) => if b < t then some d else none | _ => none) = (ps.filter fun p => decide (p.born < t)).map pcD := by
  intro ps
  induction ps with
  | nil => rfl
  | cons p ps ih =>
    rw [List.map_cons, List.filterMap_cons, ih, List.filter_cons]
    by_cases z : p.born < t
    · simp [-Bool.forall_bool, -Bool.exists_bool, -List.lookup_eq_none_iff, pcD, z]
    · simp [-Bool.forall_bool, -Bool.exists_bool, -List.lookup_eq_none_iff, pcD, z]
theorem pc_eqv (p : Pc) : PyData.eqv (pcPy p) (pcPy p) = true := SeqAt.eqv_refl _ (by rfl)
theorem pcs_eqv (ps : List Pc) : PyData.eqv (.list (ps.map pcPy)) (.list (ps.map pcPy)) = true := SeqAt.eqv_refl _ (lay_pc ps)
theorem pc_shaped (p : Pc) : SeqAt.shaped (pcPy p) = true := rfl
theorem pc_in {p : Pc} {ps : List Pc} (h : p ∈ ps) : ((ps.map pcPy).any fun z => PyData.eqv z (pcPy p)) = true := by
  rw [List.any_eq_true]
  exact ⟨pcPy p, List.mem_map.mpr ⟨p, h, rfl⟩, pc_eqv p⟩
theorem V_law_in_parts : ∀ ds h Q E, ds.length = 3 → G_law_in_parts ds h Q E → b_law_in_parts (startD N_law_in_parts ds) h (bodyK Q E) := by
  rintro ds h Q E _ ⟨w, b, P, S, k, B, L, n, rfl, hw, sa, nwb, fin, hL, ht, hn, hk, q⟩
  show b_law_in_parts [some (.ref w), some (.ref b), some (.int n), none, none, none, none, none, none, none] h _
  refine byK fun κ kr kn ke => ?_
  unfold b_law_in_parts
  simp [-Bool.forall_bool, -Bool.exists_bool, -List.lookup_eq_none_iff]
  refine ⟨by omega, ?_⟩
  obtain ⟨I, hI⟩ : ∃ I : Nat → LV → LH → Prop, I = (fun i σ' h' => ∃ (m k' : Nat) (c d e f g x : Option D), σ' = [some (.ref w), some (.ref b), some (.int n), some (.int ((n : Int) - m)), c, d, e, f, g, x] ∧ m ≤ n ∧ n - m ≤ n - i ∧ (4 ≤ i → m = n) ∧ k' ≤ k + i ∧ k' ≤ k + 4 ∧ Parts w b P (waited P m S) k' h h') := ⟨_, rfl⟩
  refine forBy I (by rw [hI]; exact ⟨0, k, _, _, _, _, _, _, by rw [show ((n : Int) - (0 : Nat)) = n by omega], by omega, by omega, by omega, by omega, by omega, fr_refl _ _, hw, sa⟩) (fun _ _ _ _ _ => trivial) ?_ ?_
  · intro i y σ' h' hy hh
    rw [hI] at hh
    obtain ⟨m, k', c, d, e, f, g, x, rfl, m1, m2, m3, k1, k2, fr, hw, sa⟩ := hh
    obtain ⟨hi, rfl⟩ := rngD_get hy
    by_cases z : m < n
    · simp [-Bool.forall_bool, -Bool.exists_bool, -List.lookup_eq_none_iff, -seqK_run, z]
      have nn : (n : Int) - (m : Int) = ((n - m : Nat) : Int) := by omega
      generalize hR : seqK _ _ = R
      -- behind the choice of how many
      have key : ∀ (mo : Nat) (h2 : LH), 1 ≤ mo → mo ≤ n - m → Parts w b P (waited P m S) k' h h2 → R [some (.ref w), some (.ref b), some (.int n), some (.int ((n : Int) - m)), some (.int i), some (.int mo), e, f, g, x] h2 := by
        intro mo0 h2 b1 b2 pa
        subst hR
        rw [seqK_run]
        simp [-Bool.forall_bool, -Bool.exists_bool, -List.lookup_eq_none_iff, -seqK_run]
        generalize hR : seqK _ _ = R
        have key2 : ∀ (mo : Nat), 1 ≤ mo → mo ≤ n - m → (3 ≤ i → mo = n - m) → R [some (.ref w), some (.ref b), some (.int n), some (.int ((n : Int) - m)), some (.int i), some (.int mo), e, f, g, x] h2 := by
          intro mo b1 b2 b3
          subst hR
          rw [seqK_run]
          obtain ⟨fr, hw, o, ho, so⟩ := pa
          obtain ⟨stk, lng, past, K, hp, rfl⟩ := id so
          have finm := fin.wait m (by omega)
          simp [-Bool.forall_bool, -Bool.exists_bool, -List.lookup_eq_none_iff, -seqK_run, ho, sessFs]
          rw [seqK_run]
          simp [-Bool.forall_bool, -Bool.exists_bool, -List.lookup_eq_none_iff, -seqK_run, ho, sessFs]
          refine ⟨b, P, waited P m S, k', B, L + 2 * m, (mo : Int), rfl, ⟨_, ho, so⟩, by omega, finm, ⟨by omega, by omega⟩, fun o2 so2 => ?_⟩
          have er : (Job.wait (mo : Int)).run P (waited P m S) = waited P (m + mo) S := by
            show waited P (mo : Int).toNat (waited P m S) = _
            rw [Int.toNat_natCast, waited_add]
          rw [er] at so2
          have et : (waited P (m + mo) S).tick = (waited P m S).tick + mo := by rw [waited_tick, waited_tick]; omega
          have ea : (Job.wait (mo : Int)).ans ((Job.wait (mo : Int)).run P (waited P m S)) = (waited P m S).tick + mo := by rw [er]; exact et
          obtain ⟨stk2, lng2, past2, K2, hp2, rfl⟩ := id so2
          have ho2 := set_get (o' := O.ins "Session" (sessFs P (waited P (m + mo) S) stk2 lng2 past2)) ho
          have sa2 : SessAt b P (waited P (m + mo) S) (k' + 1) (h2.set b (O.ins "Session" (sessFs P (waited P (m + mo) S) stk2 lng2 past2))) := ⟨_, ho2, so2⟩
          have fr2 := fr_set fr (.inr rfl) (o := O.ins "Session" (sessFs P (waited P (m + mo) S) stk2 lng2 past2))
          have hw2 : WellAt w (h2.set b (O.ins "Session" (sessFs P (waited P (m + mo) S) stk2 lng2 past2))) := by
            obtain ⟨a, c, d, e⟩ := hw
            exact ⟨a, c, d, by rw [List.getElem?_set_ne nwb.symm]; exact e⟩
          generalize h2.set b (O.ins "Session" (sessFs P (waited P (m + mo) S) stk2 lng2 past2)) = h3 at *
          simp [-Bool.forall_bool, -Bool.exists_bool, -List.lookup_eq_none_iff, -seqK_run, ho2, sessFs, ea, et]
          rw [seqK_run]
          simp [-Bool.forall_bool, -Bool.exists_bool, -List.lookup_eq_none_iff, -seqK_run, ho2, sessFs]
          rw [seqK_run]
          simp [-Bool.forall_bool, -Bool.exists_bool, -List.lookup_eq_none_iff, -seqK_run, ho2, sessFs]
          have len1 : ((sorted (waited P (m + mo) S).log).map pcD).length < sizeLine := by
            have := (fin.wait (m + mo) (by omega)).bd.2.2
            have e : (sorted (waited P (m + mo) S).log).length = (waited P (m + mo) S).log.length := List.length_mergeSort _
            rw [List.length_map, e]
            exact lt_sizeLine (by omega)
          have len0 : ((sorted (waited P m S).log).map pcD).length < sizeLine := by
            have := finm.bd.2.2
            have e : (sorted (waited P m S).log).length = (waited P m S).log.length := List.length_mergeSort _
            rw [List.length_map, e]
            exact lt_sizeLine (by omega)
          have gr : Grow (waited P m S) (waited P (m + mo) S) := by rw [← waited_add]; exact Grow.waited mo
          have older := older_same gr
          refine comp_pure (fun d => match d with | .tup (.int b :: _) => if b < (waited P m S).tick then some d else none | _ => none) trivial len1 ?_ ?_
          · intro x hx R hR
            obtain ⟨p, hp, rfl⟩ := List.mem_map.mp hx
            simp [-Bool.forall_bool, -Bool.exists_bool, -List.lookup_eq_none_iff, pcD] at hR ⊢
            split
            · rename_i z; rw [if_pos z] at hR; exact hR
            · rename_i z; rw [if_neg z] at hR; exact hR
          rw [fm_lt, older, seqK_run]
          simp [-Bool.forall_bool, -Bool.exists_bool, -List.lookup_eq_none_iff, -seqK_run, ho2, sessFs]
          refine comp_pure (fun d => match d with | .tup (.int b :: _) => if b < (waited P m S).tick then some d else none | _ => none) trivial len0 ?_ ?_
          · intro x hx R hR
            obtain ⟨p, hp, rfl⟩ := List.mem_map.mp hx
            simp [-Bool.forall_bool, -Bool.exists_bool, -List.lookup_eq_none_iff, pcD] at hR ⊢
            split
            · rename_i z; rw [if_pos z] at hR; exact hR
            · rename_i z; rw [if_neg z] at hR; exact hR
          rw [fm_lt]
          generalize (sorted (waited P m S).log).filter (fun p => decide (p.born < (waited P m S).tick)) = old
          refine ⟨.list (old.map pcPy), .list (old.map pcPy), by show (dPys (old.map pcD)).map PyData.list = _; rw [dPys_pc]; rfl, by show (dPys (old.map pcD)).map PyData.list = _; rw [dPys_pc]; rfl, shaped_pc _, shaped_pc _, ?_⟩
          rw [pcs_eqv]
          simp [-Bool.forall_bool, -Bool.exists_bool, -List.lookup_eq_none_iff, -seqK_run]
          refine comp_pure (fun _ => some (.bl true)) trivial len0 ?_ ?_
          · intro x hx R hR
            obtain ⟨p, hp, rfl⟩ := List.mem_map.mp hx
            simp [-Bool.forall_bool, -Bool.exists_bool, -List.lookup_eq_none_iff, ho2, sessFs]
            refine ⟨pcPy p, (sorted (waited P (m + mo) S).log).map pcPy, dPy_pc p, .inr ?_, pc_shaped p, shaped_pc _, ?_⟩
            · show dPy (.tup ((sorted (waited P (m + mo) S).log).map pcD)) = _
              rw [dPy, dPys_pc]; rfl
            · rw [if_neg Bool.false_ne_true, pc_in (mem_grow gr hp)]
              exact hR
          refine ⟨List.replicate (sorted (waited P m S).log).length true, ?_, ?_⟩
          · rw [List.filterMap_map]
            generalize sorted (waited P m S).log = l
            induction l with
            | nil => rfl
            | cons x xs ih => rw [List.filterMap_cons, List.length_cons, List.replicate_succ, List.map_cons, ← ih]; rfl
          simp [-Bool.forall_bool, -Bool.exists_bool, -List.lookup_eq_none_iff]
          have fin3 := fin.wait (m + mo) (by omega)
          have t3 : (waited P (m + mo) S).tick = S.tick + (m + mo : Nat) := waited_tick
          obtain ⟨p1, p2, p3⟩ := fin3.shown (by omega)
          have t0 := fin3.g.t0
          have bd3 := fin3.bd
          refine ⟨b, P, _, k' + 1, rfl, sa2, t0, by omega, by omega, ?_⟩
          refine ⟨pyShown _, py_shown _, p1, p2, p3, ?_⟩
          refine ⟨b, P, _, k' + 1, rfl, sa2, t0, by omega, by omega, ?_⟩
          refine ⟨pyShown _, py_shown _, p1, p2, p3, ?_⟩
          rw [if_pos rfl]
          show I _ _ _
          rw [hI]
          exact ⟨m + mo, k' + 1, _, _, _, _, _, _, by rw [show (n : Int) - (m : Int) - (mo : Int) = (n : Int) - ((m + mo : Nat) : Int) by omega], by omega, by omega, fun h4 => by have := b3 (by omega); omega, by omega, by have := m3; by_cases h4 : 4 ≤ i <;> omega, fr2, hw2, sa2⟩
        split
        · rename_i hi2
          rw [nn] at *
          exact key2 (n - m) (by omega) (by omega) (fun _ => rfl)
        · exact key2 mo0 b1 b2 (fun _ => by omega)
      split
      · exact key 1 _ (by omega) (by omega) ⟨fr, hw, sa⟩
      · split
        · exact key 1 _ (by omega) (by omega) ⟨fr, hw, sa⟩
        · refine ⟨w, _, rfl, by omega, by omega, hw, ?_⟩
          rintro r a1 a2 a3 ⟨v, rfl, v0, v1⟩
          simp [-Bool.forall_bool, -Bool.exists_bool, -List.lookup_eq_none_iff]
          have e1 : 1 + v = ((1 + v.toNat : Nat) : Int) := by omega
          rw [e1]
          refine key _ _ (by omega) (by omega) ⟨fr_set fr (.inl rfl), wellAt_set hw, ?_⟩
          obtain ⟨o, ho, so⟩ := sa
          exact ⟨o, by rw [List.getElem?_set_ne nwb]; exact ho, so⟩
    · simp [-Bool.forall_bool, -Bool.exists_bool, -List.lookup_eq_none_iff, z]
      show I _ _ _
      rw [hI]
      exact ⟨m, k', _, _, _, _, _, _, rfl, m1, by omega, fun _ => by omega, by omega, k2, fr, hw, sa⟩
  · intro σ' h' hh
    rw [hI] at hh
    obtain ⟨m, k', c, d, e, f, g, x, rfl, m1, m2, m3, k1, k2, pa⟩ := hh
    simp [-Bool.forall_bool, -Bool.exists_bool, -List.lookup_eq_none_iff]
    simp [-Bool.forall_bool, -Bool.exists_bool, -List.lookup_eq_none_iff, rngD_len] at m2
    have : m = n := by omega
    subst this
    exact kr _ _ (q _ _ k2 pa)
end LL.K80
end

section
set_option Elab.async false
set_option linter.all false
set_option maxRecDepth 100000
/-! K80X2: the law's def. -/
namespace LL.K80
open PySem LL
variable {P : Par} {S : St} {s : Bool} {B L : Int}
theorem no_later {A : WIx} {fl n x : Nat} (e : fl = A.fl ∨ n ≤ fl) (hx : x < n) (no : ¬ A.own x) : ¬ ({ A with fl := fl } : WIx).own x := by
  rintro (z | ⟨s, z⟩ | z | z)
  · exact no (.inl z)
  · exact no (.inr (.inl ⟨s, z⟩))
  · have z : x = fl := z
    rcases e with e | e
    · exact no (.inr (.inr (.inl (z.trans e))))
    · omega
  · exact no (.inr (.inr (.inr z)))
theorem sess_ne {b k i : Nat} {h : LH} {o : O} (n : i ≠ b) (sa : SessAt b P S k h) : SessAt b P S k (h.set i o) := by
  obtain ⟨o', e, so⟩ := sa
  exact ⟨o', by rw [List.getElem?_set_ne n]; exact e, so⟩
theorem well_ne {w i : Nat} {h : LH} {o : O} (n : i ≠ w) (hw : WellAt w h) : WellAt w (h.set i o) := by
  obtain ⟨a, c, d, e⟩ := hw
  exact ⟨a, c, d, by rw [List.getElem?_set_ne n]; exact e⟩
theorem sess_fr {own : Nat → Prop} {b k : Nat} {h h' : LH} (f : Fr own h h') (no : ¬ own b) (sa : SessAt b P S k h) : SessAt b P S k h' := by
  obtain ⟨o', e, so⟩ := sa
  exact ⟨o', by rw [f.same b (List.getElem?_eq_some_iff.mp e).1 no]; exact e, so⟩
theorem well_fr {own : Nat → Prop} {w : Nat} {h h' : LH} (f : Fr own h h') (no : ¬ own w) (hw : WellAt w h) : WellAt w h' := by
  obtain ⟨a, c, d, e⟩ := hw
  exact ⟨a, c, d, by rw [f.same w (List.getElem?_eq_some_iff.mp e).1 no]; exact e⟩
theorem sess_lt {b k : Nat} {h : LH} (sa : SessAt b P S k h) : b < h.length := by
  obtain ⟨o', e, so⟩ := sa
  exact (List.getElem?_eq_some_iff.mp e).1
theorem well_lt {w : Nat} {h : LH} (hw : WellAt w h) : w < h.length := by
  obtain ⟨a, c, d, e⟩ := hw
  exact (List.getElem?_eq_some_iff.mp e).1
theorem world_fr {A : WIx} {own : Nat → Prop} {h h' : LH} (f : Fr own h h') (no : ∀ i, A.own i → ¬ own i) (W : WorldAt A P S h) : WorldAt A P S h' := by
  have g : ∀ i, A.own i → h'[i]? = h[i]? := fun i hi => f.same i (W.lt hi) (no i hi)
  exact ⟨W.ok, by rw [g _ (own_w A)]; exact W.w, fun s => by rw [g _ (own_r A s)]; exact W.r s, by rw [g _ (own_fl A)]; exact W.fl, by rw [g _ (own_lg A)]; exact W.lg⟩
/-- between two deeds -/
structure Two (w b1 b2 : Nat) (A : WIx) (P : Par) (S : St) (i : Nat) (h : LH) : Prop where
  hw : WellAt w h
  s1 : SessAt b1 P S i h
  s2 : ∃ k2, k2 ≤ 4 * i ∧ SessAt b2 P S k2 h
  W : ∃ fl, WorldAt { A with fl := fl } P S h ∧ ¬ ({ A with fl := fl } : WIx).own w ∧ ¬ ({ A with fl := fl } : WIx).own b1 ∧ ¬ ({ A with fl := fl } : WIx).own b2
  fin : Fine P S (60 * i) (120 * i)
  t : S.tick ≤ 60 * i
  n1 : w ≠ b1
  n2 : w ≠ b2
  n3 : b1 ≠ b2
theorem world_start (h1 : LH) (P : Par) : WorldAt ⟨h1.length + 4, fun s => h1.length + cond s 1 0, h1.length + 2, h1.length + 3⟩ P init (h1 ++ newW P h1.length) := by
  refine ⟨⟨fun s => by cases s <;> simp [-Bool.forall_bool, -Bool.exists_bool, -List.lookup_eq_none_iff], by simp [-Bool.forall_bool, -Bool.exists_bool, -List.lookup_eq_none_iff], by simp [-Bool.forall_bool, -Bool.exists_bool, -List.lookup_eq_none_iff], fun s => by cases s <;> simp [-Bool.forall_bool, -Bool.exists_bool, -List.lookup_eq_none_iff], fun s => by cases s <;> simp [-Bool.forall_bool, -Bool.exists_bool, -List.lookup_eq_none_iff], fun s => by cases s <;> simp [-Bool.forall_bool, -Bool.exists_bool, -List.lookup_eq_none_iff], by simp [-Bool.forall_bool, -Bool.exists_bool, -List.lookup_eq_none_iff]⟩, ?_, fun s => ?_, ?_, ?_⟩
  · exact (app_new (k := 4)).trans rfl
  · cases s
    · exact (app_new (k := 0)).trans rfl
    · exact (app_new (k := 1)).trans rfl
  · exact (app_new (k := 2)).trans rfl
  · exact (app_new (k := 3)).trans rfl
theorem WorldAt.app {A : WIx} {h l : LH} (W : WorldAt A P S h) : WorldAt A P S (h ++ l) := ⟨W.ok, app_old W.w, fun s => app_old (W.r s), app_old W.fl, app_old W.lg⟩
theorem V_law_right : ∀ ds h Q E, ds.length = 1 → G_law_right ds h Q E → b_law_right (startD N_law_right ds) h (bodyK Q E) := by
  rintro ds h Q E _ ⟨w, rfl, hw, q⟩
  show b_law_right [some (.ref w), none, none, none, none, none, none, none, none, none] h _
  refine byK fun κ kr kn ke => ?_
  unfold b_law_right
  simp [-Bool.forall_bool, -Bool.exists_bool, -List.lookup_eq_none_iff]
  refine ⟨w, rfl, hw, ?_⟩
  rintro r a1 a2 a3 ⟨P, hP, rfl⟩
  have hw := wellAt_set (a := a1) (b := a3) (c := a2) hw
  generalize h.set w (wellO a1 a2 a3) = h1 at *
  refine ⟨P, hP, rfl, ?_⟩
  simp [-Bool.forall_bool, -Bool.exists_bool, -List.lookup_eq_none_iff]
  refine ⟨P, rfl, ?_⟩
  have W := world_start h1 P
  have ln : (h1 ++ newW P h1.length).length = h1.length + 5 := by simp [-Bool.forall_bool, -Bool.exists_bool, -List.lookup_eq_none_iff, newW]
  have lw : w < h1.length := well_lt hw
  have hw : WellAt w (h1 ++ newW P h1.length) := by
    obtain ⟨a, c, d, e⟩ := hw
    exact ⟨a, c, d, app_old e⟩
  generalize hA : (⟨h1.length + 4, fun s => h1.length + cond s 1 0, h1.length + 2, h1.length + 3⟩ : WIx) = A at W
  have eA : h1.length + 4 = A.w := by rw [← hA]
  have lo : ∀ i, i < h1.length → ¬ A.own i := by
    intro i hi
    rw [← hA]
    rintro (z | ⟨s, z⟩ | z | z)
    · have z : i = h1.length + 4 := z; omega
    · have z : i = h1.length + cond s 1 0 := z; omega
    · have z : i = h1.length + 2 := z; omega
    · have z : i = h1.length + 3 := z; omega
  rw [eA]
  generalize h1 ++ newW P h1.length = H at *
  have hi : ∀ i, H.length ≤ i → ¬ A.own i := fun i hi z => by have := W.lt z; omega
  simp [-Bool.forall_bool, -Bool.exists_bool, -List.lookup_eq_none_iff, -List.append_assoc]
  refine ⟨H, P, rfl, rfl, fun o1 so1 => ⟨rfl, ?_⟩⟩
  refine ⟨H ++ [o1], P, rfl, rfl, fun o2 so2 => ⟨rfl, ?_⟩⟩
  have l1 : (H ++ [o1]).length = H.length + 1 := by simp [-Bool.forall_bool, -Bool.exists_bool, -List.lookup_eq_none_iff]
  have two : Two w H.length (H ++ [o1]).length A P init 0 (H ++ [o1] ++ [o2]) := by
    refine ⟨?_, ⟨o1, app_old (by simp [-Bool.forall_bool, -Bool.exists_bool, -List.lookup_eq_none_iff]), so1⟩, ⟨0, by omega, o2, by simp [-Bool.forall_bool, -Bool.exists_bool, -List.lookup_eq_none_iff], so2⟩, ⟨A.fl, W.app.app, lo _ lw, hi _ (Nat.le_refl _), hi _ (by omega)⟩, fine_init hP, by show (0 : Int) ≤ _; omega, by omega, by omega, by omega⟩
    obtain ⟨a, c, d, e⟩ := hw
    exact ⟨a, c, d, app_old (app_old e)⟩
  generalize H ++ [o1] ++ [o2] = h2 at *
  generalize (H ++ [o1]).length = b2 at *
  generalize H.length = b1 at *
  obtain ⟨I, hI⟩ : ∃ I : Nat → LV → LH → Prop, I = (fun i σ' h' => ∃ S a b c, σ' = [some (.ref w), some (toldD P), some (lineD P), some (.ref A.w), some (.ref b1), some (.ref b2), some (.int S.tick), a, b, c] ∧ Two w b1 b2 A P S i h') := ⟨_, rfl⟩
  refine forBy I (by rw [hI]; exact ⟨init, _, _, _, rfl, two⟩) (fun _ _ _ _ _ => trivial) ?_ ?_
  rotate_left
  · intro σ' h' hh
    rw [hI] at hh
    obtain ⟨S, a, b, c, rfl, _⟩ := hh
    simp [-Bool.forall_bool, -Bool.exists_bool, -List.lookup_eq_none_iff]
    exact kr _ _ (q _)
  intro i y σ' h3 hy hh
  rw [hI] at hh
  obtain ⟨S, a, b, c, rfl, hw, s1, ⟨k2, hk2, s2⟩, ⟨fl, W, no, no1, no2⟩, fin, ht, n1, n2, n3⟩ := hh
  have hi10 : i < 10 := by
    have := (List.getElem?_eq_some_iff.mp hy).1
    rw [rngD_len] at this
    omega
  simp [-Bool.forall_bool, -Bool.exists_bool, -List.lookup_eq_none_iff, -seqK_run]
  refine ⟨w, { A with fl := fl }, P, S, rfl, W, hP, no, hw, ?_⟩
  rintro r c1 c2 c3 ⟨j, hj, rfl⟩
  have hw := wellAt_set (a := c1) (b := c3) (c := c2) hw
  have W := W.set (o := wellO c1 c2 c3) no
  have s1 := sess_ne (o := wellO c1 c2 c3) n1 s1
  have s2 := sess_ne (o := wellO c1 c2 c3) n2 s2
  generalize h3.set w (wellO c1 c2 c3) = h4 at *
  rw [seqK_run]
  simp [-Bool.forall_bool, -Bool.exists_bool, -List.lookup_eq_none_iff, -seqK_run]
  refine ⟨{ A with fl := fl }, P, S, _, _, j, rfl, W, fin, hj, fun h5 l => ?_⟩
  obtain ⟨fl2, efl, W2, f2⟩ := l
  have W : WorldAt { A with fl := fl2 } P (j.run P S) h5 := W2
  have l1 := sess_lt s1
  have l2 := sess_lt s2
  have l3 := well_lt hw
  have hw := well_fr f2 no hw
  have s1 := sess_fr f2 no1 s1
  have s2 := sess_fr f2 no2 s2
  have no : ¬ ({ A with fl := fl2 } : WIx).own w := no_later (A := { A with fl := fl }) efl l3 no
  have no1 : ¬ ({ A with fl := fl2 } : WIx).own b1 := no_later (A := { A with fl := fl }) efl l1 no1
  have no2 : ¬ ({ A with fl := fl2 } : WIx).own b2 := no_later (A := { A with fl := fl }) efl l2 no2
  rw [seqK_run]
  simp [-Bool.forall_bool, -Bool.exists_bool, -List.lookup_eq_none_iff, -seqK_run]
  refine ⟨b1, P, S, i, _, _, j, rfl, s1, by omega, fin, hj, fun o so => ?_⟩
  have s1 : SessAt b1 P (j.run P S) (i + 1) (h5.set b1 o) := by
    obtain ⟨o', e, _⟩ := s1
    exact ⟨o, set_get e, so⟩
  have hw := well_ne (o := o) n1.symm hw
  have s2 := sess_ne (o := o) n3 s2
  have W := W.set (o := o) no1
  generalize h5.set b1 o = h6 at *
  have fin2 := fin.run hj (by omega) (by omega)
  have tk := run_tick (P := P) hj
  have fin2' : Fine P (j.run P S) (60 * (i + 1 : Nat)) (120 * (i + 1 : Nat)) := by
    have e1 : 60 * (i : Int) + 60 = 60 * ((i + 1 : Nat) : Int) := by omega
    have e2 : 120 * (i : Int) + 120 = 120 * ((i + 1 : Nat) : Int) := by omega
    rw [← e1, ← e2]; exact fin2
  -- the end of a round
  have last : ∀ (h7 : LH) (v x y : Option D), Two w b1 b2 A P (j.run P S) (i + 1) h7 → seqK (sIf (eOr (eTest (eOp oNeD (eB bReprD (eCons (eCall G_law_shown 1 (eCons (eVar 4) eNil)) eNil)) (eB bReprD (eCons (eCall G_law_shown 1 (eCons (eVar 5) eNil)) eNil)))) (eTest (eOp oNeD (eFld cs_now "now" (eVar 4)) (eVar 6))))
  (sRet (eC (.bl false)))
  sNil) { nx := opq I (i + 1), ct := opq I (i + 1), bk := seqK (sRet (eC (.bl true))) κ, rt := κ.rt, ex := κ.ex } [some (.ref w), some (toldD P), some (lineD P), some (.ref A.w), some (.ref b1), some (.ref b2), some (.int (j.run P S).tick), v, x, y] h7 := by
    intro h7 v x y two
    obtain ⟨hw, s1, ⟨k2, hk2, s2⟩, ww, fin, ht, n1, n2, n3⟩ := id two
    have t0 := fin.g.t0
    have bd := fin.bd
    obtain ⟨p1, p2, p3⟩ := fin.shown (by omega)
    rw [seqK_run]
    simp [-Bool.forall_bool, -Bool.exists_bool, -List.lookup_eq_none_iff, -seqK_run]
    refine ⟨b1, P, _, _, rfl, s1, t0, by omega, by omega, ?_⟩
    refine ⟨pyShown _, py_shown _, p1, p2, p3, ?_⟩
    refine ⟨b2, P, _, _, rfl, s2, t0, by omega, by omega, ?_⟩
    refine ⟨pyShown _, py_shown _, p1, p2, p3, ?_⟩
    obtain ⟨o, ho, stk, lng, past, K, hp, rfl⟩ := s1
    simp [-Bool.forall_bool, -Bool.exists_bool, -List.lookup_eq_none_iff, ho, sessFs]
    show I _ _ _
    rw [hI]
    exact ⟨_, _, _, _, rfl, two⟩
  show seqK _ _ _ _
  rw [seqK_run]
  cases j with
  | wait m =>
    obtain ⟨m1, m2⟩ := hj
    have em : (m.toNat : Int) = m := Int.toNat_of_nonneg (by omega)
    have er : (Job.wait m).run P S = waited P m.toNat S := rfl
    have et : ((Job.wait m).run P S).tick = S.tick + m := by rw [er, waited_tick, em]
    have ea : (Job.wait m).ans ((Job.wait m).run P S) = S.tick + m := et
    simp [-Bool.forall_bool, -Bool.exists_bool, -List.lookup_eq_none_iff, -seqK_run, jobD, ea]
    rw [seqK_run]
    simp [-Bool.forall_bool, -Bool.exists_bool, -List.lookup_eq_none_iff, -seqK_run]
    refine ⟨w, b2, P, S, k2, _, _, m.toNat, by rw [em], hw, s2, n2, fin, by omega, by omega, by omega, by omega, fun h7 k7 hk7 pa => ?_⟩
    obtain ⟨f7, hw7, s27⟩ := pa
    simp [-Bool.forall_bool, -Bool.exists_bool, -List.lookup_eq_none_iff, -seqK_run]
    have := last h7 (some y) (some (jobD (.wait m))) (some (.int (S.tick + m))) ⟨hw7, sess_fr f7 (by rintro (z | z); exact n1 z.symm; exact n3 z) s1, ⟨k7, by omega, s27⟩, ⟨fl2, world_fr f7 (fun x hx z => ?_) W, no, no1, no2⟩, fin2', by omega, n1, n2, n3⟩
    · rw [et] at this
      exact this
    · rcases z with rfl | rfl
      · exact no hx
      · exact no2 hx
  | write s m =>
    have et : ((Job.write s m).run P S).tick = S.tick := free_tick
    simp [-Bool.forall_bool, -Bool.exists_bool, -List.lookup_eq_none_iff, -seqK_run, jobD]
    refine ⟨b2, P, S, k2, _, _, .write s m, rfl, s2, by omega, fin, hj, fun o2 so2 => ?_⟩
    simp [-Bool.forall_bool, -Bool.exists_bool, -List.lookup_eq_none_iff, -seqK_run]
    have s2' : SessAt b2 P ((Job.write s m).run P S) (k2 + 1) (h6.set b2 o2) := by
      obtain ⟨o', e, _⟩ := s2
      exact ⟨o2, set_get e, so2⟩
    have := last (h6.set b2 o2) (some y) (some (jobD (.write s m))) (some (.int ((Job.write s m).ans ((Job.write s m).run P S)))) ⟨well_ne n2.symm hw, sess_ne n3.symm s1, ⟨k2 + 1, by omega, s2'⟩, ⟨fl2, W.set no2, no, no1, no2⟩, fin2', by omega, n1, n2, n3⟩
    rw [et] at this
    exact this
  | read s m =>
    have et : ((Job.read s m).run P S).tick = S.tick := rfl
    simp [-Bool.forall_bool, -Bool.exists_bool, -List.lookup_eq_none_iff, -seqK_run, jobD]
    refine ⟨b2, P, S, k2, _, _, .read s m, rfl, s2, by omega, fin, hj, fun o2 so2 => ?_⟩
    simp [-Bool.forall_bool, -Bool.exists_bool, -List.lookup_eq_none_iff, -seqK_run]
    have s2' : SessAt b2 P ((Job.read s m).run P S) (k2 + 1) (h6.set b2 o2) := by
      obtain ⟨o', e, _⟩ := s2
      exact ⟨o2, set_get e, so2⟩
    have := last (h6.set b2 o2) (some y) (some (jobD (.read s m))) (some (.int ((Job.read s m).ans ((Job.read s m).run P S)))) ⟨well_ne n2.symm hw, sess_ne n3.symm s1, ⟨k2 + 1, by omega, s2'⟩, ⟨fl2, W.set no2, no, no1, no2⟩, fin2', by omega, n1, n2, n3⟩
    rw [et] at this
    exact this
end LL.K80
end

section
set_option Elab.async false
set_option linter.all false
set_option maxRecDepth 100000
set_option maxHeartbeats 4000000
namespace LL.K80
open PySem PySem.Spec PyProof.Rows L2 LL
theorem S_law_draw : FnScope N_law_draw ["_law_well_here", "_law_many"] (defScope (top 44)) := ⟨rfl, rfl, rfl, by decide +kernel, rfl, by decide +kernel, by decide +kernel⟩
theorem J_law_draw {P : Program} {w : World} {K : Frag} {mg : Str → Option Value} {h base : Heap} (D : Wd w K mg h base) (cdv : Value) (A : Around) (outer : List Env) (s : Shared) (H : Hp) (E : XK) (hc : CodeAt K (He.fAd K ("_law_draw", none)) cdv) (hr : RoomG 1 (A.deeper (envOfC "_law_draw" (defScope (top 44)) s.heap.objs.size (He.fAd K ("_law_draw", none)) cdv))) :
    JSs (cxOf (L2.CX P w) P w K mg base N_law_draw "_law_draw" (defScope (top 44)) (He.fAd K ("_law_draw", none)) cdv A outer s H E) (fun cls d _ H => E cls d H) (defBody (top 44)) b_law_draw := by
  have S := S_law_draw
  exact (jss_cons (js_asg (je_plus (je_ix (je_var (pe_var (i := 0) rfl (.inl rfl))) je_int) je_int) (jg_sub (je_var (pe_var (i := 0) rfl (.inl rfl))) je_int))
  (jss_cons (js_if (jt_gt (je_ix (je_var (pe_var (i := 0) rfl (.inl rfl))) je_int) je_int)
  (jss_cons (js_asg (je_B call_divmod bsDivmod D.u_divmod rfl (ja_cons (je_BT call_int1 bsInt D.u_int rfl (ja_cons (je_ix (je_var (pe_var (i := 0) rfl (.inl rfl))) je_int) ja_nil)) (ja_cons (je_var (pe_var (i := 1) rfl (.inl rfl))) ja_nil))) (jg_tup rfl (jgs_cons (W := NoW) (jg_sub (je_var (pe_var (i := 0) rfl (.inl rfl))) je_int) (jgs_cons (W := NoW) (jg_name (i := 2) (pg_name S.nd rfl (.inl rfl))) jgs_nil))))
  (jss_one (js_ret (je_var (pe_var (i := 2) rfl (.inl rfl))))))
  jss_nil)
  (jss_cons (js_set (je_BT call_int1 bsInt D.u_int rfl (ja_cons (je_ix (je_var (pe_var (i := 0) rfl (.inl rfl))) je_int) ja_nil)) (fun h => ps_set (i := 3) S.nd rfl (.inl rfl) h))
  (jss_cons (js_asg (je_mod (je_BT call_int1 bsInt D.u_int rfl (ja_cons (je_plus (je_plus (je_mul (je_var (pe_var (i := 3) rfl (.inl rfl))) (je_plus (je_mod (je_BT call_int1 bsInt D.u_int rfl (ja_cons (je_var (pe_var (i := 3) rfl (.inl rfl))) ja_nil)) je_int) je_int)) (je_mul je_int (je_ix (je_var (pe_var (i := 0) rfl (.inl rfl))) je_int))) je_int) ja_nil)) je_int) (jg_sub (je_var (pe_var (i := 0) rfl (.inl rfl))) je_int))
  (jss_one (js_ret (je_mod (je_BT call_int1 bsInt D.u_int rfl (ja_cons (je_div (je_ix (je_var (pe_var (i := 0) rfl (.inl rfl))) je_int) je_int) ja_nil)) (je_var (pe_var (i := 1) rfl (.inl rfl))))))))))
theorem S_law_one_of : FnScope N_law_one_of ["_law_well_here", "_law_things"] (defScope (top 45)) := ⟨rfl, rfl, rfl, by decide +kernel, rfl, by decide +kernel, by decide +kernel⟩
theorem J_law_one_of {P : Program} {w : World} {K : Frag} {mg : Str → Option Value} {h base : Heap} (D : Wd w K mg h base) (h_law_draw : Keeps P w K mg base 2 (He.fAd K ("_law_draw", none)) 2 G_law_draw) (cdv : Value) (A : Around) (outer : List Env) (s : Shared) (H : Hp) (E : XK) (hc : CodeAt K (He.fAd K ("_law_one_of", none)) cdv) (hr : RoomG 2 (A.deeper (envOfC "_law_one_of" (defScope (top 45)) s.heap.objs.size (He.fAd K ("_law_one_of", none)) cdv))) :
    JSs (cxOf (L2.CX P w) P w K mg base N_law_one_of "_law_one_of" (defScope (top 45)) (He.fAd K ("_law_one_of", none)) cdv A outer s H E) (fun cls d _ H => E cls d H) (defBody (top 45)) b_law_one_of := by
  have S := S_law_one_of
  exact (jss_one (js_ret (je_ix (je_var (pe_var (i := 1) rfl (.inl rfl))) (je_call h_law_draw (hr.mono (by decide)) D.g__law_draw D.k_law_draw (takes_of rfl rfl rfl rfl) (ja_cons (je_var (pe_var (i := 0) rfl (.inl rfl))) (ja_cons (je_B (CallR.or call_len_seq call_len_str) bsLen D.u_len rfl (ja_cons (je_var (pe_var (i := 1) rfl (.inl rfl))) ja_nil)) ja_nil))))))
theorem S_law_ways : FnScope N_law_ways ["_law_well_here"] (defScope (top 46)) := ⟨rfl, rfl, rfl, by decide +kernel, rfl, by decide +kernel, by decide +kernel⟩
theorem J_law_ways {P : Program} {w : World} {K : Frag} {mg : Str → Option Value} {h base : Heap} (D : Wd w K mg h base) (h_law_one_of : Keeps P w K mg base 3 (He.fAd K ("_law_one_of", none)) 2 G_law_one_of) (h_law_draw : Keeps P w K mg base 2 (He.fAd K ("_law_draw", none)) 2 G_law_draw) (cdv : Value) (A : Around) (outer : List Env) (s : Shared) (H : Hp) (E : XK) (hc : CodeAt K (He.fAd K ("_law_ways", none)) cdv) (hr : RoomG 3 (A.deeper (envOfC "_law_ways" (defScope (top 46)) s.heap.objs.size (He.fAd K ("_law_ways", none)) cdv))) :
    JSs (cxOf (L2.CX P w) P w K mg base N_law_ways "_law_ways" (defScope (top 46)) (He.fAd K ("_law_ways", none)) cdv A outer s H E) (fun cls d _ H => E cls d H) (defBody (top 46)) b_law_ways := by
  have S := S_law_ways
  exact (jss_cons (js_set (je_call h_law_one_of (hr.mono (by decide)) D.g__law_one_of D.k_law_one_of (takes_of rfl rfl rfl rfl) (ja_cons (je_var (pe_var (i := 0) rfl (.inl rfl))) (ja_cons (je_lst (ja_cons je_str (ja_cons je_str (ja_cons je_str (ja_cons je_str ja_nil))))) ja_nil))) (fun h => ps_set (i := 1) S.nd rfl (.inl rfl) h))
  (jss_one (js_ret (je_tup (ja_cons (je_var (pe_var (i := 1) rfl (.inl rfl))) (ja_cons (je_plus je_int (je_call h_law_draw (hr.mono (by decide)) D.g__law_draw D.k_law_draw (takes_of rfl rfl rfl rfl) (ja_cons (je_var (pe_var (i := 0) rfl (.inl rfl))) (ja_cons je_int ja_nil)))) (ja_cons (je_call h_law_one_of (hr.mono (by decide)) D.g__law_one_of D.k_law_one_of (takes_of rfl rfl rfl rfl) (ja_cons (je_var (pe_var (i := 0) rfl (.inl rfl))) (ja_cons (je_lst (ja_cons je_int (ja_cons je_int (ja_cons je_int (ja_cons je_int (ja_cons je_int (ja_cons (je_call h_law_draw (hr.mono (by decide)) D.g__law_draw D.k_law_draw (takes_of rfl rfl rfl rfl) (ja_cons (je_var (pe_var (i := 0) rfl (.inl rfl))) (ja_cons je_int ja_nil))) ja_nil))))))) ja_nil))) ja_nil)))))))
theorem S_law_told : FnScope N_law_told ["_law_well_here"] (defScope (top 47)) := ⟨rfl, rfl, rfl, by decide +kernel, rfl, by decide +kernel, by decide +kernel⟩
theorem J_law_told {P : Program} {w : World} {K : Frag} {mg : Str → Option Value} {h base : Heap} (D : Wd w K mg h base) (h_law_one_of : Keeps P w K mg base 3 (He.fAd K ("_law_one_of", none)) 2 G_law_one_of) (h_law_draw : Keeps P w K mg base 2 (He.fAd K ("_law_draw", none)) 2 G_law_draw) (h_law_ways : Keeps P w K mg base 4 (He.fAd K ("_law_ways", none)) 1 G_law_ways) (cdv : Value) (A : Around) (outer : List Env) (s : Shared) (H : Hp) (E : XK) (hc : CodeAt K (He.fAd K ("_law_told", none)) cdv) (hr : RoomG 4 (A.deeper (envOfC "_law_told" (defScope (top 47)) s.heap.objs.size (He.fAd K ("_law_told", none)) cdv))) :
    JSs (cxOf (L2.CX P w) P w K mg base N_law_told "_law_told" (defScope (top 47)) (He.fAd K ("_law_told", none)) cdv A outer s H E) (fun cls d _ H => E cls d H) (defBody (top 47)) b_law_told := by
  have S := S_law_told
  exact (jss_cons (js_set (je_call h_law_one_of (hr.mono (by decide)) D.g__law_one_of D.k_law_one_of (takes_of rfl rfl rfl rfl) (ja_cons (je_var (pe_var (i := 0) rfl (.inl rfl))) (ja_cons (je_lst (ja_cons je_int (ja_cons je_int (ja_cons je_int (ja_cons je_int (ja_cons je_int (ja_cons je_int (ja_cons je_int (ja_cons (je_plus je_int (je_call h_law_draw (hr.mono (by decide)) D.g__law_draw D.k_law_draw (takes_of rfl rfl rfl rfl) (ja_cons (je_var (pe_var (i := 0) rfl (.inl rfl))) (ja_cons je_int ja_nil)))) ja_nil))))))))) ja_nil))) (fun h => ps_set (i := 1) S.nd rfl (.inl rfl) h))
  (jss_one (js_ret (je_tup (ja_cons (je_var (pe_var (i := 1) rfl (.inl rfl))) (ja_cons (je_call h_law_one_of (hr.mono (by decide)) D.g__law_one_of D.k_law_one_of (takes_of rfl rfl rfl rfl) (ja_cons (je_var (pe_var (i := 0) rfl (.inl rfl))) (ja_cons (je_lst (ja_cons je_int (ja_cons je_int (ja_cons je_int (ja_cons je_int (ja_cons (je_plus je_int (je_call h_law_draw (hr.mono (by decide)) D.g__law_draw D.k_law_draw (takes_of rfl rfl rfl rfl) (ja_cons (je_var (pe_var (i := 0) rfl (.inl rfl))) (ja_cons je_int ja_nil)))) ja_nil)))))) ja_nil))) (ja_cons (je_call h_law_ways (hr.mono (by decide)) D.g__law_ways D.k_law_ways (takes_of rfl rfl rfl rfl) (ja_cons (je_var (pe_var (i := 0) rfl (.inl rfl))) ja_nil)) (ja_cons (je_call h_law_ways (hr.mono (by decide)) D.g__law_ways D.k_law_ways (takes_of rfl rfl rfl rfl) (ja_cons (je_var (pe_var (i := 0) rfl (.inl rfl))) ja_nil)) ja_nil))))))))
theorem S_law_new : FnScope N_law_new ["_law_told_here"] (defScope (top 49)) := ⟨rfl, rfl, rfl, by decide +kernel, rfl, by decide +kernel, by decide +kernel⟩
theorem J_law_new {P : Program} {w : World} {K : Frag} {mg : Str → Option Value} {h base : Heap} (D : Wd w K mg h base) (cdv : Value) (A : Around) (outer : List Env) (s : Shared) (H : Hp) (E : XK) (hc : CodeAt K (He.fAd K ("_law_new", none)) cdv) (hr : RoomG 1 (A.deeper (envOfC "_law_new" (defScope (top 49)) s.heap.objs.size (He.fAd K ("_law_new", none)) cdv))) :
    JSs (cxOf (L2.CX P w) P w K mg base N_law_new "_law_new" (defScope (top 49)) (He.fAd K ("_law_new", none)) cdv A outer s H E) (fun cls d _ H => E cls d H) (defBody (top 49)) b_law_new := by
  have S := S_law_new
  exact (jss_one (js_ret (je_lstM (ja_cons (je_var (pe_var (i := 0) rfl (.inl rfl))) (ja_cons je_int (ja_cons (je_lst (ja_cons (je_lstM (ja_cons je_int (ja_cons je_int (ja_cons je_int (ja_cons je_int (ja_cons je_int (ja_cons je_int (ja_cons je_int (ja_cons je_non ja_nil))))))))) (ja_cons (je_lstM (ja_cons je_int (ja_cons je_int (ja_cons je_int (ja_cons je_int (ja_cons je_int (ja_cons je_int (ja_cons je_int (ja_cons je_non ja_nil))))))))) ja_nil))) (ja_cons (je_lstM ja_nil) (ja_cons (je_lstM ja_nil) ja_nil))))))))
theorem S_is_integer : FnScope N_is_integer ["value"] (defScope (top 22)) := ⟨rfl, rfl, rfl, by decide +kernel, rfl, by decide +kernel, by decide +kernel⟩
theorem J_is_integer {P : Program} {w : World} {K : Frag} {mg : Str → Option Value} {h base : Heap} (D : Wd w K mg h base) (cdv : Value) (A : Around) (outer : List Env) (s : Shared) (H : Hp) (E : XK) (hc : CodeAt K (He.fAd K ("is_integer", none)) cdv) (hr : RoomG 1 (A.deeper (envOfC "is_integer" (defScope (top 22)) s.heap.objs.size (He.fAd K ("is_integer", none)) cdv))) :
    JSs (cxOf (L2.CX P w) P w K mg base N_is_integer "is_integer" (defScope (top 22)) (He.fAd K ("is_integer", none)) cdv A outer s H E) (fun cls d _ H => E cls d H) (defBody (top 22)) b_is_integer := by
  have S := S_is_integer
  exact (jss_one (js_ret (je_and (je_isi (T := .bt "int") (je_var (pe_var (i := 0) rfl (.inl rfl))) (pe_tyn D.u_int rfl) (.ty _) D.is_int D.u_isinstance) (je_one (je_not (je_isi (T := .bt "bool") (je_var (pe_var (i := 0) rfl (.inl rfl))) (pe_tyn D.u_bool rfl) (.ty _) D.is_bool D.u_isinstance))))))
theorem S_is_between : FnScope N_is_between ["value", "low", "high"] (defScope (top 23)) := ⟨rfl, rfl, rfl, by decide +kernel, rfl, by decide +kernel, by decide +kernel⟩
theorem J_is_between {P : Program} {w : World} {K : Frag} {mg : Str → Option Value} {h base : Heap} (D : Wd w K mg h base) (h_is_integer : Keeps P w K mg base 2 (He.fAd K ("is_integer", none)) 1 G_is_integer) (cdv : Value) (A : Around) (outer : List Env) (s : Shared) (H : Hp) (E : XK) (hc : CodeAt K (He.fAd K ("is_between", none)) cdv) (hr : RoomG 2 (A.deeper (envOfC "is_between" (defScope (top 23)) s.heap.objs.size (He.fAd K ("is_between", none)) cdv))) :
    JSs (cxOf (L2.CX P w) P w K mg base N_is_between "is_between" (defScope (top 23)) (He.fAd K ("is_between", none)) cdv A outer s H E) (fun cls d _ H => E cls d H) (defBody (top 23)) b_is_between := by
  have S := S_is_between
  exact (jss_one (js_ret (je_and (je_call h_is_integer (hr.mono (by decide)) D.g_is_integer D.k_is_integer (takes_of rfl rfl rfl rfl) (ja_cons (je_var (pe_var (i := 0) rfl (.inl rfl))) ja_nil)) (je_one (je_chain op_le op_le oiLe oiLe (je_var (pe_var (i := 1) rfl (.inl rfl))) (je_var (pe_var (i := 0) rfl (.inl rfl))) (je_var (pe_var (i := 2) rfl (.inl rfl))) (by rfl))))))
theorem S_check_number : FnScope N_check_number ["value", "low", "high"] (defScope (top 24)) := ⟨rfl, rfl, rfl, by decide +kernel, rfl, by decide +kernel, by decide +kernel⟩
theorem J_check_number {P : Program} {w : World} {K : Frag} {mg : Str → Option Value} {h base : Heap} (D : Wd w K mg h base) (h_is_between : Keeps P w K mg base 3 (He.fAd K ("is_between", none)) 3 G_is_between) (cdv : Value) (A : Around) (outer : List Env) (s : Shared) (H : Hp) (E : XK) (hc : CodeAt K (He.fAd K ("check_number", none)) cdv) (hr : RoomG 3 (A.deeper (envOfC "check_number" (defScope (top 24)) s.heap.objs.size (He.fAd K ("check_number", none)) cdv))) :
    JSs (cxOf (L2.CX P w) P w K mg base N_check_number "check_number" (defScope (top 24)) (He.fAd K ("check_number", none)) cdv A outer s H E) (fun cls d _ H => E cls d H) (defBody (top 24)) b_check_number := by
  have S := S_check_number
  exact (jss_one (js_if (jt_not (jt_val (je_call h_is_between (hr.mono (by decide)) D.g_is_between D.k_is_between (takes_of rfl rfl rfl rfl) (ja_cons (je_var (pe_var (i := 0) rfl (.inl rfl))) (ja_cons (je_var (pe_var (i := 1) rfl (.inl rfl))) (ja_cons (je_var (pe_var (i := 2) rfl (.inl rfl))) ja_nil))))))
  (jss_one js_never)
  jss_nil))
theorem S_check_setting : FnScope N_check_setting ["value"] (defScope (top 26)) := ⟨rfl, rfl, rfl, by decide +kernel, rfl, by decide +kernel, by decide +kernel⟩
theorem J_check_setting {P : Program} {w : World} {K : Frag} {mg : Str → Option Value} {h base : Heap} (D : Wd w K mg h base) (cdv : Value) (A : Around) (outer : List Env) (s : Shared) (H : Hp) (E : XK) (hc : CodeAt K (He.fAd K ("check_setting", none)) cdv) (hr : RoomG 1 (A.deeper (envOfC "check_setting" (defScope (top 26)) s.heap.objs.size (He.fAd K ("check_setting", none)) cdv))) :
    JSs (cxOf (L2.CX P w) P w K mg base N_check_setting "check_setting" (defScope (top 26)) (He.fAd K ("check_setting", none)) cdv A outer s H E) (fun cls d _ H => E cls d H) (defBody (top 26)) b_check_setting := by
  have S := S_check_setting
  exact (jss_one (js_if (jt_not (jt_val (je_isi (T := .cl "Setting") (je_var (pe_var (i := 0) rfl (.inl rfl))) (pe_cln D.g_Setting) (.own _) D.is_Setting D.u_isinstance)))
  (jss_one js_never)
  jss_nil))
theorem S_Line_init : FnScope N_Line_init ["self", "size", "way", "near", "far"] (defScope (inClass (top 27) 0)) := ⟨rfl, rfl, rfl, by decide +kernel, rfl, by decide +kernel, by decide +kernel⟩
theorem J_Line_init {P : Program} {w : World} {K : Frag} {mg : Str → Option Value} {h base : Heap} (D : Wd w K mg h base) (h_check_number : Keeps P w K mg base 4 (He.fAd K ("check_number", none)) 3 G_check_number) (h_check_setting : Keeps P w K mg base 2 (He.fAd K ("check_setting", none)) 1 G_check_setting) (cdv : Value) (A : Around) (outer : List Env) (s : Shared) (H : Hp) (E : XK) (hc : CodeAt K (He.fAd K ("Line", some "__init__")) cdv) (hr : RoomG 4 (A.deeper (envOfC "Line.__init__" (defScope (inClass (top 27) 0)) s.heap.objs.size (He.fAd K ("Line", some "__init__")) cdv))) :
    JSs (cxOf (L2.CX P w) P w K mg base N_Line_init "Line.__init__" (defScope (inClass (top 27) 0)) (He.fAd K ("Line", some "__init__")) cdv A outer s H E) (fun cls d _ H => E cls d H) (defBody (inClass (top 27) 0)) b_Line_init := by
  have S := S_Line_init
  exact (jss_cons (js_expr (je_call h_check_number (hr.mono (by decide)) D.g_check_number D.k_check_number (takes_of rfl rfl rfl rfl) (ja_cons (je_var (pe_var (i := 1) rfl (.inl rfl))) (ja_cons je_int (ja_cons (je_gint D.i_MOST_SIZE) ja_nil)))))
  (jss_cons (js_expr (je_call h_check_number (hr.mono (by decide)) D.g_check_number D.k_check_number (takes_of rfl rfl rfl rfl) (ja_cons (je_var (pe_var (i := 2) rfl (.inl rfl))) (ja_cons je_int (ja_cons (je_gint D.i_MOST_WAY) ja_nil)))))
  (jss_cons (js_expr (je_call h_check_setting (hr.mono (by decide)) D.g_check_setting D.k_check_setting (takes_of rfl rfl rfl rfl) (ja_cons (je_var (pe_var (i := 3) rfl (.inl rfl))) ja_nil)))
  (jss_cons (js_expr (je_call h_check_setting (hr.mono (by decide)) D.g_check_setting D.k_check_setting (takes_of rfl rfl rfl rfl) (ja_cons (je_var (pe_var (i := 4) rfl (.inl rfl))) ja_nil)))
  (jss_cons (js_fld D.f_size (je_var (pe_var (i := 1) rfl (.inl rfl))) (je_var (pe_var (i := 0) rfl (.inl rfl))))
  (jss_cons (js_fld D.f_way (je_var (pe_var (i := 2) rfl (.inl rfl))) (je_var (pe_var (i := 0) rfl (.inl rfl))))
  (jss_cons (js_fld D.f_near (je_var (pe_var (i := 3) rfl (.inl rfl))) (je_var (pe_var (i := 0) rfl (.inl rfl))))
  (jss_cons (js_fld D.f_far (je_var (pe_var (i := 4) rfl (.inl rfl))) (je_var (pe_var (i := 0) rfl (.inl rfl))))
  (jss_one (js_fld D.f_told (je_tup (ja_cons (je_var (pe_var (i := 1) rfl (.inl rfl))) (ja_cons (je_var (pe_var (i := 2) rfl (.inl rfl))) (ja_cons (je_fld D.f_told (je_var (pe_var (i := 3) rfl (.inl rfl)))) (ja_cons (je_fld D.f_told (je_var (pe_var (i := 4) rfl (.inl rfl)))) ja_nil))))) (je_var (pe_var (i := 0) rfl (.inl rfl)))))))))))))
theorem S_Setting_init : FnScope N_Setting_init ["self", "rule", "every", "delay"] (defScope (inClass (top 25) 0)) := ⟨rfl, rfl, rfl, by decide +kernel, rfl, by decide +kernel, by decide +kernel⟩
theorem J_Setting_init {P : Program} {w : World} {K : Frag} {mg : Str → Option Value} {h base : Heap} (D : Wd w K mg h base) (h_check_number : Keeps P w K mg base 4 (He.fAd K ("check_number", none)) 3 G_check_number) (cdv : Value) (A : Around) (outer : List Env) (s : Shared) (H : Hp) (E : XK) (hc : CodeAt K (He.fAd K ("Setting", some "__init__")) cdv) (hr : RoomG 4 (A.deeper (envOfC "Setting.__init__" (defScope (inClass (top 25) 0)) s.heap.objs.size (He.fAd K ("Setting", some "__init__")) cdv))) :
    JSs (cxOf (L2.CX P w) P w K mg base N_Setting_init "Setting.__init__" (defScope (inClass (top 25) 0)) (He.fAd K ("Setting", some "__init__")) cdv A outer s H E) (fun cls d _ H => E cls d H) (defBody (inClass (top 25) 0)) b_Setting_init := by
  have S := S_Setting_init
  exact (jss_cons (js_if (PWPT (jw_or (jt_not (jt_val (je_isi (T := .bt "str") (je_var (pe_var (i := 1) rfl (.inl rfl))) (pe_tyn D.u_str rfl) (.ty _) D.is_str D.u_isinstance))) (jw_or1 (jt_notIn (je_var (pe_var (i := 1) rfl (.inl rfl))) (je_gtup D.g_RULES D.t_RULES D.r_RULES)))))
  (jss_one js_never)
  jss_nil)
  (jss_cons (js_expr (je_call h_check_number (hr.mono (by decide)) D.g_check_number D.k_check_number (takes_of rfl rfl rfl rfl) (ja_cons (je_var (pe_var (i := 2) rfl (.inl rfl))) (ja_cons je_int (ja_cons (je_gint D.i_MOST_EVERY) ja_nil)))))
  (jss_cons (js_expr (je_call h_check_number (hr.mono (by decide)) D.g_check_number D.k_check_number (takes_of rfl rfl rfl rfl) (ja_cons (je_var (pe_var (i := 3) rfl (.inl rfl))) (ja_cons je_int (ja_cons (je_gint D.i_MOST_DELAY) ja_nil)))))
  (jss_cons (js_fld D.f_rule (je_var (pe_var (i := 1) rfl (.inl rfl))) (je_var (pe_var (i := 0) rfl (.inl rfl))))
  (jss_cons (js_fld D.f_every (je_var (pe_var (i := 2) rfl (.inl rfl))) (je_var (pe_var (i := 0) rfl (.inl rfl))))
  (jss_cons (js_fld D.f_delay (je_var (pe_var (i := 3) rfl (.inl rfl))) (je_var (pe_var (i := 0) rfl (.inl rfl))))
  (jss_one (js_fld D.f_told (je_tup (ja_cons (je_var (pe_var (i := 1) rfl (.inl rfl))) (ja_cons (je_var (pe_var (i := 2) rfl (.inl rfl))) (ja_cons (je_var (pe_var (i := 3) rfl (.inl rfl))) ja_nil)))) (je_var (pe_var (i := 0) rfl (.inl rfl)))))))))))
theorem S_law_made : FnScope N_law_made ["_law_told_here"] (defScope (top 48)) := ⟨rfl, rfl, rfl, by decide +kernel, rfl, by decide +kernel, by decide +kernel⟩
theorem J_law_made {P : Program} {w : World} {K : Frag} {mg : Str → Option Value} {h base : Heap} (D : Wd w K mg h base) (h_Line_init : Keeps P w K mg base 5 (He.fAd K ("Line", some "__init__")) 5 G_Line_init) (h_Setting_init : Keeps P w K mg base 5 (He.fAd K ("Setting", some "__init__")) 4 G_Setting_init) (cdv : Value) (A : Around) (outer : List Env) (s : Shared) (H : Hp) (E : XK) (hc : CodeAt K (He.fAd K ("_law_made", none)) cdv) (hr : RoomG 6 (A.deeper (envOfC "_law_made" (defScope (top 48)) s.heap.objs.size (He.fAd K ("_law_made", none)) cdv))) :
    JSs (cxOf (L2.CX P w) P w K mg base N_law_made "_law_made" (defScope (top 48)) (He.fAd K ("_law_made", none)) cdv A outer s H E) (fun cls d _ H => E cls d H) (defBody (top 48)) b_law_made := by
  have S := S_law_made
  exact (jss_cons (js_asg (je_var (pe_var (i := 0) rfl (.inl rfl))) (jg_tup rfl (jgs_cons (W := NoW) (jg_name (i := 1) (pg_name S.nd rfl (.inl rfl))) (jgs_cons (W := NoW) (jg_name (i := 2) (pg_name S.nd rfl (.inl rfl))) (jgs_cons (W := NoW) (jg_name (i := 3) (pg_name S.nd rfl (.inl rfl))) (jgs_cons (W := NoW) (jg_name (i := 4) (pg_name S.nd rfl (.inl rfl))) jgs_nil))))))
  (jss_one (js_ret (je_frz0 (je_make D.mk_Line h_Line_init (hr.mono (by decide)) D.g_Line (takes_of rfl rfl rfl rfl) (ja_cons (je_var (pe_var (i := 1) rfl (.inl rfl))) (ja_cons (je_var (pe_var (i := 2) rfl (.inl rfl))) (ja_cons (je_frz0 (je_make D.mk_Setting h_Setting_init (hr.mono (by decide)) D.g_Setting (takes_of rfl rfl rfl rfl) (ja_cons (je_ix (je_var (pe_var (i := 3) rfl (.inl rfl))) je_int) (ja_cons (je_ix (je_var (pe_var (i := 3) rfl (.inl rfl))) je_int) (ja_cons (je_ix (je_var (pe_var (i := 3) rfl (.inl rfl))) je_int) ja_nil))))) (ja_cons (je_frz0 (je_make D.mk_Setting h_Setting_init (hr.mono (by decide)) D.g_Setting (takes_of rfl rfl rfl rfl) (ja_cons (je_ix (je_var (pe_var (i := 4) rfl (.inl rfl))) je_int) (ja_cons (je_ix (je_var (pe_var (i := 4) rfl (.inl rfl))) je_int) (ja_cons (je_ix (je_var (pe_var (i := 4) rfl (.inl rfl))) je_int) ja_nil))))) ja_nil)))))))))
theorem S_check_line : FnScope N_check_line ["value"] (defScope (top 28)) := ⟨rfl, rfl, rfl, by decide +kernel, rfl, by decide +kernel, by decide +kernel⟩
theorem J_check_line {P : Program} {w : World} {K : Frag} {mg : Str → Option Value} {h base : Heap} (D : Wd w K mg h base) (cdv : Value) (A : Around) (outer : List Env) (s : Shared) (H : Hp) (E : XK) (hc : CodeAt K (He.fAd K ("check_line", none)) cdv) (hr : RoomG 1 (A.deeper (envOfC "check_line" (defScope (top 28)) s.heap.objs.size (He.fAd K ("check_line", none)) cdv))) :
    JSs (cxOf (L2.CX P w) P w K mg base N_check_line "check_line" (defScope (top 28)) (He.fAd K ("check_line", none)) cdv A outer s H E) (fun cls d _ H => E cls d H) (defBody (top 28)) b_check_line := by
  have S := S_check_line
  exact (jss_one (js_if (jt_not (jt_val (je_isi (T := .cl "Line") (je_var (pe_var (i := 0) rfl (.inl rfl))) (pe_cln D.g_Line) (.own _) D.is_Line D.u_isinstance)))
  (jss_one js_never)
  jss_nil))
theorem S_Flow_kept : FnScope N_Flow_kept ["self", "side"] (defScope (inClass (top 38) 1)) := ⟨rfl, rfl, rfl, by decide +kernel, rfl, by decide +kernel, by decide +kernel⟩
theorem J_Flow_kept {P : Program} {w : World} {K : Frag} {mg : Str → Option Value} {h base : Heap} (D : Wd w K mg h base) (cdv : Value) (A : Around) (outer : List Env) (s : Shared) (H : Hp) (E : XK) (hc : CodeAt K (He.fAd K ("Flow", some "kept")) cdv) (hr : RoomG 1 (A.deeper (envOfC "Flow.kept" (defScope (inClass (top 38) 1)) s.heap.objs.size (He.fAd K ("Flow", some "kept")) cdv))) :
    JSs (cxOf (L2.CX P w) P w K mg base N_Flow_kept "Flow.kept" (defScope (inClass (top 38) 1)) (He.fAd K ("Flow", some "kept")) cdv A outer s H E) (fun cls d _ H => E cls d H) (defBody (inClass (top 38) 1)) b_Flow_kept := by
  have S := S_Flow_kept
  exact (jss_one (js_ret (je_B (cr_sum rfl) bsSum D.u_sum rfl (ja_cons (je_lc (own := [("amount", 2), ("tick", 3)]) (p := (.tp [2, 3])) rfl S.nd (ji_seq (je_ix (je_fld D.f_stock (je_var (pe_var (i := 0) rfl (.inl rfl)))) (je_var (pe_var (i := 1) rfl (.inl rfl))))) (blkOk_by rfl) (by decide) (fun _ _ _ _ _ => pg_tup rfl (pgs_cons (pg_name S.nd rfl (.inl rfl)) (pgs_cons (pg_name S.nd rfl (.inl rfl)) pgs_nil))) (fun _ _ _ _ _ => jts_nil) (fun _ _ _ _ _ => (je_var (pe_var (i := 2) rfl (.inl rfl))))) ja_nil))))
theorem S_Flow_fresh : FnScope N_Flow_fresh ["self", "side"] (defScope (inClass (top 38) 2)) := ⟨rfl, rfl, rfl, by decide +kernel, rfl, by decide +kernel, by decide +kernel⟩
theorem J_Flow_fresh {P : Program} {w : World} {K : Frag} {mg : Str → Option Value} {h base : Heap} (D : Wd w K mg h base) (cdv : Value) (A : Around) (outer : List Env) (s : Shared) (H : Hp) (E : XK) (hc : CodeAt K (He.fAd K ("Flow", some "fresh")) cdv) (hr : RoomG 1 (A.deeper (envOfC "Flow.fresh" (defScope (inClass (top 38) 2)) s.heap.objs.size (He.fAd K ("Flow", some "fresh")) cdv))) :
    JSs (cxOf (L2.CX P w) P w K mg base N_Flow_fresh "Flow.fresh" (defScope (inClass (top 38) 2)) (He.fAd K ("Flow", some "fresh")) cdv A outer s H E) (fun cls d _ H => E cls d H) (defBody (inClass (top 38) 2)) b_Flow_fresh := by
  have S := S_Flow_fresh
  exact (jss_one (js_ret (je_sub (je_ix (je_fld D.f_come (je_var (pe_var (i := 0) rfl (.inl rfl)))) (je_var (pe_var (i := 1) rfl (.inl rfl)))) (je_ix (je_fld D.f_taken (je_var (pe_var (i := 0) rfl (.inl rfl)))) (je_var (pe_var (i := 1) rfl (.inl rfl)))))))
theorem S_Session_show : FnScope N_Session_show ["self", "flow", "past"] (defScope (inClass (top 41) 1)) := ⟨rfl, rfl, rfl, by decide +kernel, rfl, by decide +kernel, by decide +kernel⟩
theorem J_Session_show {P : Program} {w : World} {K : Frag} {mg : Str → Option Value} {h base : Heap} (D : Wd w K mg h base) (h_Flow_kept : Keeps P w K mg base 2 (He.fAd K ("Flow", some "kept")) 2 G_Flow_kept) (h_Flow_fresh : Keeps P w K mg base 2 (He.fAd K ("Flow", some "fresh")) 2 G_Flow_fresh) (cdv : Value) (A : Around) (outer : List Env) (s : Shared) (H : Hp) (E : XK) (hc : CodeAt K (He.fAd K ("Session", some "show")) cdv) (hr : RoomG 2 (A.deeper (envOfC "Session.show" (defScope (inClass (top 41) 1)) s.heap.objs.size (He.fAd K ("Session", some "show")) cdv))) :
    JSs (cxOf (L2.CX P w) P w K mg base N_Session_show "Session.show" (defScope (inClass (top 41) 1)) (He.fAd K ("Session", some "show")) cdv A outer s H E) (fun cls d _ H => E cls d H) (defBody (inClass (top 41) 1)) b_Session_show := by
  have S := S_Session_show
  have LT := lamT_of (X := cxOf (L2.CX P w) P w K mg base N_Session_show "Session.show" (defScope (inClass (top 41) 1)) (He.fAd K ("Session", some "show")) cdv A outer s H E) (p := ("Session", some "show")) (q := "Session.show.<locals>.<lambda>") lamMem0 D.lt_Session_show D.tabsOk D.tb_Session_show (by rw [hc.eq] <;> rfl) rfl
  exact (jss_cons (js_fld D.f_flow (je_var (pe_var (i := 1) rfl (.inl rfl))) (je_var (pe_var (i := 0) rfl (.inl rfl))))
  (jss_cons (js_fld D.f_past (je_var (pe_var (i := 2) rfl (.inl rfl))) (je_var (pe_var (i := 0) rfl (.inl rfl))))
  (jss_cons (js_fld D.f_now (je_fld D.f_tick (je_var (pe_var (i := 1) rfl (.inl rfl)))) (je_var (pe_var (i := 0) rfl (.inl rfl))))
  (jss_cons (js_fld D.f_holding (je_tup (ja_cons (je_meth (je_var (pe_var (i := 1) rfl (.inl rfl))) D.c_Flow D.m_Flow_kept h_Flow_kept (hr.mono (by decide)) (takes_of rfl rfl rfl rfl) (ja_cons je_int ja_nil)) (ja_cons (je_meth (je_var (pe_var (i := 1) rfl (.inl rfl))) D.c_Flow D.m_Flow_kept h_Flow_kept (hr.mono (by decide)) (takes_of rfl rfl rfl rfl) (ja_cons je_int ja_nil)) ja_nil))) (je_var (pe_var (i := 0) rfl (.inl rfl))))
  (jss_cons (js_fld D.f_unread (je_tup (ja_cons (je_meth (je_var (pe_var (i := 1) rfl (.inl rfl))) D.c_Flow D.m_Flow_fresh h_Flow_fresh (hr.mono (by decide)) (takes_of rfl rfl rfl rfl) (ja_cons je_int ja_nil)) (ja_cons (je_meth (je_var (pe_var (i := 1) rfl (.inl rfl))) D.c_Flow D.m_Flow_fresh h_Flow_fresh (hr.mono (by decide)) (takes_of rfl rfl rfl rfl) (ja_cons je_int ja_nil)) ja_nil))) (je_var (pe_var (i := 0) rfl (.inl rfl))))
  (jss_cons (js_fld D.f_unanswered (je_tup (ja_cons (je_sub (je_ix (je_fld D.f_out (je_var (pe_var (i := 1) rfl (.inl rfl)))) je_int) (je_ix (je_fld D.f_known (je_var (pe_var (i := 1) rfl (.inl rfl)))) je_int)) (ja_cons (je_sub (je_ix (je_fld D.f_out (je_var (pe_var (i := 1) rfl (.inl rfl)))) je_int) (je_ix (je_fld D.f_known (je_var (pe_var (i := 1) rfl (.inl rfl)))) je_int)) ja_nil))) (je_var (pe_var (i := 0) rfl (.inl rfl))))
  (jss_cons (js_fld D.f_pieces (je_BT call_tuple_of bsTuple D.u_tuple rfl (ja_cons (je_sort2 (je_fld D.f_log (je_var (pe_var (i := 1) rfl (.inl rfl)))) (fun h => pe_sortK h hr LT (lam1_by rfl) (key_two (by decide)) (fun _ _ _ _ _ _ => rfl) D.u_sorted (by decide) rfl rfl rfl rfl rfl rfl rfl rfl)) ja_nil)) (je_var (pe_var (i := 0) rfl (.inl rfl))))
  (jss_one (js_fld D.f_under_way (je_B (CallR.or call_len_seq call_len_str) bsLen D.u_len rfl (ja_cons (je_fld D.f_flight (je_var (pe_var (i := 1) rfl (.inl rfl)))) ja_nil)) (je_var (pe_var (i := 0) rfl (.inl rfl))))))))))))
theorem S_Flow_init : FnScope N_Flow_init ["self", "line"] (defScope (inClass (top 38) 0)) := ⟨rfl, rfl, rfl, by decide +kernel, rfl, by decide +kernel, by decide +kernel⟩
theorem J_Flow_init {P : Program} {w : World} {K : Frag} {mg : Str → Option Value} {h base : Heap} (D : Wd w K mg h base) (cdv : Value) (A : Around) (outer : List Env) (s : Shared) (H : Hp) (E : XK) (hc : CodeAt K (He.fAd K ("Flow", some "__init__")) cdv) (hr : RoomG 1 (A.deeper (envOfC "Flow.__init__" (defScope (inClass (top 38) 0)) s.heap.objs.size (He.fAd K ("Flow", some "__init__")) cdv))) :
    JSs (cxOf (L2.CX P w) P w K mg base N_Flow_init "Flow.__init__" (defScope (inClass (top 38) 0)) (He.fAd K ("Flow", some "__init__")) cdv A outer s H E) (fun cls d _ H => E cls d H) (defBody (inClass (top 38) 0)) b_Flow_init := by
  have S := S_Flow_init
  exact (jss_cons (js_fld D.f_line (je_var (pe_var (i := 1) rfl (.inl rfl))) (je_var (pe_var (i := 0) rfl (.inl rfl))))
  (jss_cons (js_fld D.f_settings (je_tup (ja_cons (je_fld D.f_near (je_var (pe_var (i := 1) rfl (.inl rfl)))) (ja_cons (je_fld D.f_far (je_var (pe_var (i := 1) rfl (.inl rfl)))) ja_nil))) (je_var (pe_var (i := 0) rfl (.inl rfl))))
  (jss_cons (js_fld D.f_tick je_int (je_var (pe_var (i := 0) rfl (.inl rfl))))
  (jss_cons (js_fld D.f_stock (je_lst (ja_cons (je_lstM ja_nil) (ja_cons (je_lstM ja_nil) ja_nil))) (je_var (pe_var (i := 0) rfl (.inl rfl))))
  (jss_cons (js_fld D.f_out (je_lstM (ja_cons je_int (ja_cons je_int ja_nil))) (je_var (pe_var (i := 0) rfl (.inl rfl))))
  (jss_cons (js_fld D.f_known (je_lstM (ja_cons je_int (ja_cons je_int ja_nil))) (je_var (pe_var (i := 0) rfl (.inl rfl))))
  (jss_cons (js_fld D.f_small (je_lstM (ja_cons je_int (ja_cons je_int ja_nil))) (je_var (pe_var (i := 0) rfl (.inl rfl))))
  (jss_cons (js_fld D.f_come (je_lstM (ja_cons je_int (ja_cons je_int ja_nil))) (je_var (pe_var (i := 0) rfl (.inl rfl))))
  (jss_cons (js_fld D.f_taken (je_lstM (ja_cons je_int (ja_cons je_int ja_nil))) (je_var (pe_var (i := 0) rfl (.inl rfl))))
  (jss_cons (js_fld D.f_full (je_lstM (ja_cons je_int (ja_cons je_int ja_nil))) (je_var (pe_var (i := 0) rfl (.inl rfl))))
  (jss_cons (js_fld D.f_first (je_lstM (ja_cons je_non (ja_cons je_non ja_nil))) (je_var (pe_var (i := 0) rfl (.inl rfl))))
  (jss_cons (js_fld D.f_long (je_lstM (ja_cons je_int (ja_cons je_int ja_nil))) (je_var (pe_var (i := 0) rfl (.inl rfl))))
  (jss_cons (js_fld D.f_flight (je_lstM ja_nil) (je_var (pe_var (i := 0) rfl (.inl rfl))))
  (jss_one (js_fld D.f_log (je_lstM ja_nil) (je_var (pe_var (i := 0) rfl (.inl rfl))))))))))))))))))
theorem S_Session_init : FnScope N_Session_init ["self", "line"] (defScope (inClass (top 41) 0)) := ⟨rfl, rfl, rfl, by decide +kernel, rfl, by decide +kernel, by decide +kernel⟩
theorem J_Session_init {P : Program} {w : World} {K : Frag} {mg : Str → Option Value} {h base : Heap} (D : Wd w K mg h base) (h_check_line : Keeps P w K mg base 2 (He.fAd K ("check_line", none)) 1 G_check_line) (h_Session_show : Keeps P w K mg base 3 (He.fAd K ("Session", some "show")) 3 G_Session_show) (h_Flow_init : Keeps P w K mg base 2 (He.fAd K ("Flow", some "__init__")) 2 G_Flow_init) (cdv : Value) (A : Around) (outer : List Env) (s : Shared) (H : Hp) (E : XK) (hc : CodeAt K (He.fAd K ("Session", some "__init__")) cdv) (hr : RoomG 3 (A.deeper (envOfC "Session.__init__" (defScope (inClass (top 41) 0)) s.heap.objs.size (He.fAd K ("Session", some "__init__")) cdv))) :
    JSs (cxOf (L2.CX P w) P w K mg base N_Session_init "Session.__init__" (defScope (inClass (top 41) 0)) (He.fAd K ("Session", some "__init__")) cdv A outer s H E) (fun cls d _ H => E cls d H) (defBody (inClass (top 41) 0)) b_Session_init := by
  have S := S_Session_init
  exact (jss_cons (js_expr (je_call h_check_line (hr.mono (by decide)) D.g_check_line D.k_check_line (takes_of rfl rfl rfl rfl) (ja_cons (je_var (pe_var (i := 1) rfl (.inl rfl))) ja_nil)))
  (jss_cons (js_fld D.f_line (je_var (pe_var (i := 1) rfl (.inl rfl))) (je_var (pe_var (i := 0) rfl (.inl rfl))))
  (jss_cons (js_fld D.f_busy je_bl (je_var (pe_var (i := 0) rfl (.inl rfl))))
  (jss_one (js_expr (je_meth (je_var (pe_var (i := 0) rfl (.inl rfl))) D.c_Session D.m_Session_show h_Session_show (hr.mono (by decide)) (takes_of rfl rfl rfl rfl) (ja_cons (je_frz0 (je_make D.mk_Flow h_Flow_init (hr.mono (by decide)) D.g_Flow (takes_of rfl rfl rfl rfl) (ja_cons (je_var (pe_var (i := 1) rfl (.inl rfl))) ja_nil))) (ja_cons (je_lst ja_nil) ja_nil))))))))
theorem S_law_job : FnScope N_law_job ["_law_well_here", "_law_world"] (defScope (top 58)) := ⟨rfl, rfl, rfl, by decide +kernel, rfl, by decide +kernel, by decide +kernel⟩
theorem J_law_job {P : Program} {w : World} {K : Frag} {mg : Str → Option Value} {h base : Heap} (D : Wd w K mg h base) (h_law_draw : Keeps P w K mg base 2 (He.fAd K ("_law_draw", none)) 2 G_law_draw) (h_law_one_of : Keeps P w K mg base 3 (He.fAd K ("_law_one_of", none)) 2 G_law_one_of) (cdv : Value) (A : Around) (outer : List Env) (s : Shared) (H : Hp) (E : XK) (hc : CodeAt K (He.fAd K ("_law_job", none)) cdv) (hr : RoomG 3 (A.deeper (envOfC "_law_job" (defScope (top 58)) s.heap.objs.size (He.fAd K ("_law_job", none)) cdv))) :
    JSs (cxOf (L2.CX P w) P w K mg base N_law_job "_law_job" (defScope (top 58)) (He.fAd K ("_law_job", none)) cdv A outer s H E) (fun cls d _ H => E cls d H) (defBody (top 58)) b_law_job := by
  have S := S_law_job
  exact (jss_cons (js_par (ja_cons (je_call h_law_draw (hr.mono (by decide)) D.g__law_draw D.k_law_draw (takes_of rfl rfl rfl rfl) (ja_cons (je_var (pe_var (i := 0) rfl (.inl rfl))) (ja_cons je_int ja_nil))) (ja_cons (je_call h_law_draw (hr.mono (by decide)) D.g__law_draw D.k_law_draw (takes_of rfl rfl rfl rfl) (ja_cons (je_var (pe_var (i := 0) rfl (.inl rfl))) (ja_cons je_int ja_nil))) ja_nil)) (fun h => ps_par (i := 2) (j := 3) rfl S.nd rfl rfl (by decide) rfl rfl h rfl))
  (jss_cons (js_set (je_sub (je_ix (je_ix (je_ix (je_var (pe_var (i := 1) rfl (.inl rfl))) je_int) (je_var (pe_var (i := 3) rfl (.inl rfl)))) je_int) (je_ix (je_ix (je_ix (je_var (pe_var (i := 1) rfl (.inl rfl))) je_int) (je_var (pe_var (i := 3) rfl (.inl rfl)))) je_int)) (fun h => ps_set (i := 4) S.nd rfl (.inl rfl) h))
  (jss_cons (js_if (PWPT (jw_and (jt_lt (je_var (pe_var (i := 2) rfl (.inl rfl))) je_int) (jw_and1 (jt_gt (je_var (pe_var (i := 4) rfl (.inl rfl))) je_int))))
  (jss_one (js_ret (je_tup (ja_cons je_str (ja_cons (je_var (pe_var (i := 3) rfl (.inl rfl))) (ja_cons (je_plus je_int (je_call h_law_draw (hr.mono (by decide)) D.g__law_draw D.k_law_draw (takes_of rfl rfl rfl rfl) (ja_cons (je_var (pe_var (i := 0) rfl (.inl rfl))) (ja_cons (je_B (call_min2 rfl) bsMin2 D.u_min rfl (ja_cons (je_var (pe_var (i := 4) rfl (.inl rfl))) (ja_cons je_int ja_nil))) ja_nil)))) ja_nil))))))
  jss_nil)
  (jss_cons (js_if (jt_lt (je_var (pe_var (i := 2) rfl (.inl rfl))) je_int)
  (jss_one (js_ret (je_tup (ja_cons je_str (ja_cons (je_var (pe_var (i := 3) rfl (.inl rfl))) (ja_cons (je_plus je_int (je_call h_law_draw (hr.mono (by decide)) D.g__law_draw D.k_law_draw (takes_of rfl rfl rfl rfl) (ja_cons (je_var (pe_var (i := 0) rfl (.inl rfl))) (ja_cons (je_call h_law_one_of (hr.mono (by decide)) D.g__law_one_of D.k_law_one_of (takes_of rfl rfl rfl rfl) (ja_cons (je_var (pe_var (i := 0) rfl (.inl rfl))) (ja_cons (je_lst (ja_cons je_int (ja_cons je_int (ja_cons je_int (ja_cons (je_B (call_min2 rfl) bsMin2 D.u_min rfl (ja_cons je_int (ja_cons (je_mul je_int (je_ix (je_ix (je_var (pe_var (i := 1) rfl (.inl rfl))) je_int) je_int)) ja_nil))) ja_nil))))) ja_nil))) ja_nil)))) ja_nil))))))
  jss_nil)
  (jss_one (js_ret (je_tup (ja_cons je_str (ja_cons (je_plus je_int (je_call h_law_draw (hr.mono (by decide)) D.g__law_draw D.k_law_draw (takes_of rfl rfl rfl rfl) (ja_cons (je_var (pe_var (i := 0) rfl (.inl rfl))) (ja_cons (je_call h_law_one_of (hr.mono (by decide)) D.g__law_one_of D.k_law_one_of (takes_of rfl rfl rfl rfl) (ja_cons (je_var (pe_var (i := 0) rfl (.inl rfl))) (ja_cons (je_lst (ja_cons je_int (ja_cons je_int (ja_cons je_int (ja_cons je_int (ja_cons je_int ja_nil)))))) ja_nil))) ja_nil)))) ja_nil)))))))))
theorem S_law_send : FnScope N_law_send ["_law_world", "_law_k", "_law_many"] (defScope (top 50)) := ⟨rfl, rfl, rfl, by decide +kernel, rfl, by decide +kernel, by decide +kernel⟩
theorem J_law_send {P : Program} {w : World} {K : Frag} {mg : Str → Option Value} {h base : Heap} (D : Wd w K mg h base) (cdv : Value) (A : Around) (outer : List Env) (s : Shared) (H : Hp) (E : XK) (hc : CodeAt K (He.fAd K ("_law_send", none)) cdv) (hr : RoomG 1 (A.deeper (envOfC "_law_send" (defScope (top 50)) s.heap.objs.size (He.fAd K ("_law_send", none)) cdv))) :
    JSs (cxOf (L2.CX P w) P w K mg base N_law_send "_law_send" (defScope (top 50)) (He.fAd K ("_law_send", none)) cdv A outer s H E) (fun cls d _ H => E cls d H) (defBody (top 50)) b_law_send := by
  have S := S_law_send
  exact (jss_cons (js_set (je_ix (je_ix (je_var (pe_var (i := 0) rfl (.inl rfl))) je_int) (je_var (pe_var (i := 1) rfl (.inl rfl)))) (fun h => ps_set (i := 3) S.nd rfl (.inl rfl) h))
  (jss_cons (js_asg (je_sub (je_ix (je_var (pe_var (i := 3) rfl (.inl rfl))) je_int) (je_var (pe_var (i := 2) rfl (.inl rfl)))) (jg_sub (je_var (pe_var (i := 3) rfl (.inl rfl))) je_int))
  (jss_cons (js_asg (je_plus (je_ix (je_var (pe_var (i := 3) rfl (.inl rfl))) je_int) (je_var (pe_var (i := 2) rfl (.inl rfl)))) (jg_sub (je_var (pe_var (i := 3) rfl (.inl rfl))) je_int))
  (jss_cons (js_if (jt_chain op_lt op_lt oiLt oiLt je_int (je_var (pe_var (i := 2) rfl (.inl rfl))) (je_ix (je_ix (je_var (pe_var (i := 0) rfl (.inl rfl))) je_int) je_int) (by rfl))
  (jss_one (js_asg (je_ix (je_var (pe_var (i := 3) rfl (.inl rfl))) je_int) (jg_sub (je_var (pe_var (i := 3) rfl (.inl rfl))) je_int)))
  jss_nil)
  (jss_cons (js_asg je_int (jg_sub (je_var (pe_var (i := 3) rfl (.inl rfl))) je_int))
  (jss_cons (js_asg je_non (jg_sub (je_var (pe_var (i := 3) rfl (.inl rfl))) je_int))
  (jss_cons (js_expr (je_mt mt_append msAppend PySem.F.slot_list_append PySem.F.type_list_append (je_ix (je_var (pe_var (i := 0) rfl (.inl rfl))) je_int) (ja_cons (je_tup (ja_cons (je_ix (je_var (pe_var (i := 0) rfl (.inl rfl))) je_int) (ja_cons (je_var (pe_var (i := 1) rfl (.inl rfl))) (ja_cons (je_var (pe_var (i := 2) rfl (.inl rfl))) (ja_cons (je_ix (je_var (pe_var (i := 3) rfl (.inl rfl))) je_int) ja_nil))))) ja_nil) (fun a b => pe_bm PySem.F.plainAttrs_list PySem.F.slot_list_append PySem.F.type_list_append mt_append a b)))
  (jss_one (js_expr (je_mt mt_append msAppend PySem.F.slot_list_append PySem.F.type_list_append (je_ix (je_var (pe_var (i := 0) rfl (.inl rfl))) je_int) (ja_cons (je_tup (ja_cons (je_ix (je_var (pe_var (i := 0) rfl (.inl rfl))) je_int) (ja_cons (je_var (pe_var (i := 1) rfl (.inl rfl))) (ja_cons (je_var (pe_var (i := 2) rfl (.inl rfl))) (ja_cons (je_ix (je_var (pe_var (i := 3) rfl (.inl rfl))) je_int) ja_nil))))) ja_nil) (fun a b => pe_bm PySem.F.plainAttrs_list PySem.F.slot_list_append PySem.F.type_list_append mt_append a b)))))))))))
theorem S_law_leave : FnScope N_law_leave ["_law_world"] (defScope (top 53)) := ⟨rfl, rfl, rfl, by decide +kernel, rfl, by decide +kernel, by decide +kernel⟩
theorem J_law_leave {P : Program} {w : World} {K : Frag} {mg : Str → Option Value} {h base : Heap} (D : Wd w K mg h base) (h_law_send : Keeps P w K mg base 2 (He.fAd K ("_law_send", none)) 3 G_law_send) (cdv : Value) (A : Around) (outer : List Env) (s : Shared) (H : Hp) (E : XK) (hc : CodeAt K (He.fAd K ("_law_leave", none)) cdv) (hr : RoomG 2 (A.deeper (envOfC "_law_leave" (defScope (top 53)) s.heap.objs.size (He.fAd K ("_law_leave", none)) cdv))) :
    JSs (cxOf (L2.CX P w) P w K mg base N_law_leave "_law_leave" (defScope (top 53)) (He.fAd K ("_law_leave", none)) cdv A outer s H E) (fun cls d _ H => E cls d H) (defBody (top 53)) b_law_leave := by
  have S := S_law_leave
  exact (jss_one (js_for (passes_of rfl) rfl (ji_seq (je_lst (ja_cons je_int (ja_cons je_int ja_nil)))) (jg_name (i := 1) (pg_name S.nd rfl (.inl rfl)))
  (jss_cons (js_par (ja_cons (je_ix (je_ix (je_var (pe_var (i := 0) rfl (.inl rfl))) je_int) (je_var (pe_var (i := 1) rfl (.inl rfl)))) (ja_cons (je_ix (je_ix (je_var (pe_var (i := 0) rfl (.inl rfl))) je_int) (je_plus je_int (je_var (pe_var (i := 1) rfl (.inl rfl))))) ja_nil)) (fun h => ps_par (i := 2) (j := 3) rfl S.nd rfl rfl (by decide) rfl rfl h rfl))
  (jss_one (js_if (PWPT (jw_or (jt_ge (je_ix (je_var (pe_var (i := 2) rfl (.inl rfl))) je_int) (je_ix (je_var (pe_var (i := 3) rfl (.inl rfl))) je_int)) (jw_or1 (PWPT (jw_and (jt_notN (je_ix (je_var (pe_var (i := 2) rfl (.inl rfl))) je_int) je_non) (jw_and1 (jt_ge (je_ix (je_var (pe_var (i := 0) rfl (.inl rfl))) je_int) (je_plus (je_ix (je_var (pe_var (i := 2) rfl (.inl rfl))) je_int) (je_ix (je_var (pe_var (i := 3) rfl (.inl rfl))) je_int)))))))))
  (jss_one (js_expr (je_call h_law_send (hr.mono (by decide)) D.g__law_send D.k_law_send (takes_of rfl rfl rfl rfl) (ja_cons (je_var (pe_var (i := 0) rfl (.inl rfl))) (ja_cons (je_var (pe_var (i := 1) rfl (.inl rfl))) (ja_cons je_int ja_nil))))))
  jss_nil)))))
theorem S_law_land : FnScope N_law_land ["_law_world"] (defScope (top 52)) := ⟨rfl, rfl, rfl, by decide +kernel, rfl, by decide +kernel, by decide +kernel⟩
theorem J_law_land {P : Program} {w : World} {K : Frag} {mg : Str → Option Value} {h base : Heap} (D : Wd w K mg h base) (cdv : Value) (A : Around) (outer : List Env) (s : Shared) (H : Hp) (E : XK) (hc : CodeAt K (He.fAd K ("_law_land", none)) cdv) (hr : RoomG 1 (A.deeper (envOfC "_law_land" (defScope (top 52)) s.heap.objs.size (He.fAd K ("_law_land", none)) cdv))) :
    JSs (cxOf (L2.CX P w) P w K mg base N_law_land "_law_land" (defScope (top 52)) (He.fAd K ("_law_land", none)) cdv A outer s H E) (fun cls d _ H => E cls d H) (defBody (top 52)) b_law_land := by
  have S := S_law_land
  exact (jss_cons (js_set (je_sub (je_ix (je_var (pe_var (i := 0) rfl (.inl rfl))) je_int) (je_ix (je_ix (je_var (pe_var (i := 0) rfl (.inl rfl))) je_int) je_int)) (fun h => ps_set (i := 1) S.nd rfl (.inr rfl) h))
  (jss_cons (js_for (passes_of rfl) rfl (ji_seq (je_lc (own := [("_law_each", 4)]) (p := (.nm 4)) rfl S.nd (ji_seq (je_ix (je_var (pe_var (i := 0) rfl (.inl rfl))) je_int)) (blkOk_by rfl) (by decide) (fun _ _ _ _ _ => pg_name S.nd rfl (.inl rfl)) (fun _ _ _ _ _ => (jts_one (jt_le (je_ix (je_var (pe_var (i := 4) rfl (.inl rfl))) je_int) (je_var (pe_var (i := 1) rfl (.inr (.inl rfl))))))) (fun _ _ _ _ _ => (je_var (pe_var (i := 4) rfl (.inl rfl)))))) (jg_name (i := 2) (pg_name S.nd rfl (.inl rfl)))
  (jss_cons (js_set (je_ix (je_ix (je_var (pe_var (i := 0) rfl (.inl rfl))) je_int) (je_sub je_int (je_ix (je_var (pe_var (i := 2) rfl (.inl rfl))) je_int))) (fun h => ps_set (i := 3) S.nd rfl (.inl rfl) h))
  (jss_cons (js_asg (je_B (call_max2 rfl) bsMax2 D.u_max rfl (ja_cons (je_ix (je_var (pe_var (i := 3) rfl (.inl rfl))) je_int) (ja_cons (je_ix (je_var (pe_var (i := 2) rfl (.inl rfl))) je_int) ja_nil))) (jg_sub (je_var (pe_var (i := 3) rfl (.inl rfl))) je_int))
  (jss_cons (js_asg (je_plus (je_ix (je_var (pe_var (i := 3) rfl (.inl rfl))) je_int) (je_ix (je_var (pe_var (i := 2) rfl (.inl rfl))) je_int)) (jg_sub (je_var (pe_var (i := 3) rfl (.inl rfl))) je_int))
  (jss_cons (js_asg (je_plus (je_ix (je_var (pe_var (i := 3) rfl (.inl rfl))) je_int) (je_BT call_int1 bsInt D.u_int rfl (ja_cons (je_eqD hr (je_ix (je_var (pe_var (i := 2) rfl (.inl rfl))) je_int) (je_ix (je_ix (je_var (pe_var (i := 0) rfl (.inl rfl))) je_int) je_int)) ja_nil))) (jg_sub (je_var (pe_var (i := 3) rfl (.inl rfl))) je_int))
  (jss_one (js_if (PWPT (jw_and (jt_gt (je_ix (je_var (pe_var (i := 2) rfl (.inl rfl))) je_int) je_int) (jw_and1 (jt_isN (je_ix (je_var (pe_var (i := 3) rfl (.inl rfl))) je_int) je_non))))
  (jss_one (js_asg (je_ix (je_var (pe_var (i := 0) rfl (.inl rfl))) je_int) (jg_sub (je_var (pe_var (i := 3) rfl (.inl rfl))) je_int)))
  jss_nil)))))))
  (jss_one (js_asg (je_lcM (own := [("_law_each", 4)]) (p := (.nm 4)) rfl S.nd (ji_seq (je_ix (je_var (pe_var (i := 0) rfl (.inl rfl))) je_int)) (blkOk_by rfl) (by decide) (fun _ _ _ _ _ => pg_name S.nd rfl (.inl rfl)) (fun _ _ _ _ _ => (jts_one (jt_gt (je_ix (je_var (pe_var (i := 4) rfl (.inl rfl))) je_int) (je_var (pe_var (i := 1) rfl (.inr (.inl rfl))))))) (fun _ _ _ _ _ => (je_var (pe_var (i := 4) rfl (.inl rfl))))) (jg_sub (je_var (pe_var (i := 0) rfl (.inl rfl))) je_int)))))
theorem S_law_free : FnScope N_law_free ["_law_world", "_law_k"] (defScope (top 51)) := ⟨rfl, rfl, rfl, by decide +kernel, rfl, by decide +kernel, by decide +kernel⟩
theorem J_law_free {P : Program} {w : World} {K : Frag} {mg : Str → Option Value} {h base : Heap} (D : Wd w K mg h base) (h_law_send : Keeps P w K mg base 2 (He.fAd K ("_law_send", none)) 3 G_law_send) (cdv : Value) (A : Around) (outer : List Env) (s : Shared) (H : Hp) (E : XK) (hc : CodeAt K (He.fAd K ("_law_free", none)) cdv) (hr : RoomG 2 (A.deeper (envOfC "_law_free" (defScope (top 51)) s.heap.objs.size (He.fAd K ("_law_free", none)) cdv))) :
    JSs (cxOf (L2.CX P w) P w K mg base N_law_free "_law_free" (defScope (top 51)) (He.fAd K ("_law_free", none)) cdv A outer s H E) (fun cls d _ H => E cls d H) (defBody (top 51)) b_law_free := by
  have S := S_law_free
  exact (jss_cons (js_par (ja_cons (je_ix (je_ix (je_var (pe_var (i := 0) rfl (.inl rfl))) je_int) (je_var (pe_var (i := 1) rfl (.inl rfl)))) (ja_cons (je_ix (je_ix (je_ix (je_var (pe_var (i := 0) rfl (.inl rfl))) je_int) (je_plus je_int (je_var (pe_var (i := 1) rfl (.inl rfl))))) je_int) ja_nil)) (fun h => ps_par (i := 2) (j := 3) rfl S.nd rfl rfl (by decide) rfl rfl h rfl))
  (jss_cons (js_for (passes_of rfl) rfl (ji_range1 D.u_range (ja_cons (je_div (je_ix (je_var (pe_var (i := 2) rfl (.inl rfl))) je_int) (je_ix (je_ix (je_var (pe_var (i := 0) rfl (.inl rfl))) je_int) je_int)) ja_nil)) (jg_name (i := 4) (pg_name S.nd rfl (.inl rfl)))
  (jss_one (js_expr (je_call h_law_send (hr.mono (by decide)) D.g__law_send D.k_law_send (takes_of rfl rfl rfl rfl) (ja_cons (je_var (pe_var (i := 0) rfl (.inl rfl))) (ja_cons (je_var (pe_var (i := 1) rfl (.inl rfl))) (ja_cons (je_ix (je_ix (je_var (pe_var (i := 0) rfl (.inl rfl))) je_int) je_int) ja_nil)))))))
  (jss_cons (js_set (je_lt (je_ix (je_var (pe_var (i := 2) rfl (.inl rfl))) je_int) (je_if (jt_eqD hr (je_var (pe_var (i := 3) rfl (.inl rfl))) je_str) (je_ix (je_var (pe_var (i := 2) rfl (.inl rfl))) je_int) (je_ix (je_var (pe_var (i := 2) rfl (.inl rfl))) je_int))) (fun h => ps_set (i := 5) S.nd rfl (.inl rfl) h))
  (jss_one (js_if (PWPT (jw_and (jt_gt (je_ix (je_var (pe_var (i := 2) rfl (.inl rfl))) je_int) je_int) (jw_and1 (PWPT (jw_or (jt_eqD hr (je_var (pe_var (i := 3) rfl (.inl rfl))) je_str) (jw_or1 (jt_not (jt_tru (je_var (pe_var (i := 5) rfl (.inl rfl)))))))))))
  (jss_one (js_expr (je_call h_law_send (hr.mono (by decide)) D.g__law_send D.k_law_send (takes_of rfl rfl rfl rfl) (ja_cons (je_var (pe_var (i := 0) rfl (.inl rfl))) (ja_cons (je_var (pe_var (i := 1) rfl (.inl rfl))) (ja_cons (je_ix (je_var (pe_var (i := 2) rfl (.inl rfl))) je_int) ja_nil))))))
  jss_nil)))))
theorem S_law_waited : FnScope N_law_waited ["_law_world", "_law_many"] (defScope (top 54)) := ⟨rfl, rfl, rfl, by decide +kernel, rfl, by decide +kernel, by decide +kernel⟩
theorem J_law_waited {P : Program} {w : World} {K : Frag} {mg : Str → Option Value} {h base : Heap} (D : Wd w K mg h base) (h_law_leave : Keeps P w K mg base 3 (He.fAd K ("_law_leave", none)) 1 G_law_leave) (h_law_land : Keeps P w K mg base 2 (He.fAd K ("_law_land", none)) 1 G_law_land) (h_law_free : Keeps P w K mg base 3 (He.fAd K ("_law_free", none)) 2 G_law_free) (cdv : Value) (A : Around) (outer : List Env) (s : Shared) (H : Hp) (E : XK) (hc : CodeAt K (He.fAd K ("_law_waited", none)) cdv) (hr : RoomG 3 (A.deeper (envOfC "_law_waited" (defScope (top 54)) s.heap.objs.size (He.fAd K ("_law_waited", none)) cdv))) :
    JSs (cxOf (L2.CX P w) P w K mg base N_law_waited "_law_waited" (defScope (top 54)) (He.fAd K ("_law_waited", none)) cdv A outer s H E) (fun cls d _ H => E cls d H) (defBody (top 54)) b_law_waited := by
  have S := S_law_waited
  exact (jss_one (js_for (passes_of rfl) rfl (ji_range1 D.u_range (ja_cons (je_var (pe_var (i := 1) rfl (.inl rfl))) ja_nil)) (jg_name (i := 2) (pg_name S.nd rfl (.inl rfl)))
  (jss_cons (js_expr (je_call h_law_leave (hr.mono (by decide)) D.g__law_leave D.k_law_leave (takes_of rfl rfl rfl rfl) (ja_cons (je_var (pe_var (i := 0) rfl (.inl rfl))) ja_nil)))
  (jss_cons (js_asg (je_plus (je_ix (je_var (pe_var (i := 0) rfl (.inl rfl))) je_int) je_int) (jg_sub (je_var (pe_var (i := 0) rfl (.inl rfl))) je_int))
  (jss_cons (js_expr (je_call h_law_land (hr.mono (by decide)) D.g__law_land D.k_law_land (takes_of rfl rfl rfl rfl) (ja_cons (je_var (pe_var (i := 0) rfl (.inl rfl))) ja_nil)))
  (jss_cons (js_expr (je_call h_law_free (hr.mono (by decide)) D.g__law_free D.k_law_free (takes_of rfl rfl rfl rfl) (ja_cons (je_var (pe_var (i := 0) rfl (.inl rfl))) (ja_cons je_int ja_nil))))
  (jss_one (js_expr (je_call h_law_free (hr.mono (by decide)) D.g__law_free D.k_law_free (takes_of rfl rfl rfl rfl) (ja_cons (je_var (pe_var (i := 0) rfl (.inl rfl))) (ja_cons je_int ja_nil)))))))))))
theorem S_law_done : FnScope N_law_done ["_law_world", "_law_job_here"] (defScope (top 55)) := ⟨rfl, rfl, rfl, by decide +kernel, rfl, by decide +kernel, by decide +kernel⟩
theorem J_law_done {P : Program} {w : World} {K : Frag} {mg : Str → Option Value} {h base : Heap} (D : Wd w K mg h base) (h_law_waited : Keeps P w K mg base 4 (He.fAd K ("_law_waited", none)) 2 G_law_waited) (h_law_free : Keeps P w K mg base 3 (He.fAd K ("_law_free", none)) 2 G_law_free) (cdv : Value) (A : Around) (outer : List Env) (s : Shared) (H : Hp) (E : XK) (hc : CodeAt K (He.fAd K ("_law_done", none)) cdv) (hr : RoomG 4 (A.deeper (envOfC "_law_done" (defScope (top 55)) s.heap.objs.size (He.fAd K ("_law_done", none)) cdv))) :
    JSs (cxOf (L2.CX P w) P w K mg base N_law_done "_law_done" (defScope (top 55)) (He.fAd K ("_law_done", none)) cdv A outer s H E) (fun cls d _ H => E cls d H) (defBody (top 55)) b_law_done := by
  have S := S_law_done
  exact (jss_cons (js_if (jt_eqD hr (je_ix (je_var (pe_var (i := 1) rfl (.inl rfl))) je_int) je_str)
  (jss_cons (js_expr (je_call h_law_waited (hr.mono (by decide)) D.g__law_waited D.k_law_waited (takes_of rfl rfl rfl rfl) (ja_cons (je_var (pe_var (i := 0) rfl (.inl rfl))) (ja_cons (je_ix (je_var (pe_var (i := 1) rfl (.inl rfl))) je_int) ja_nil))))
  (jss_one (js_ret (je_ix (je_var (pe_var (i := 0) rfl (.inl rfl))) je_int))))
  jss_nil)
  (jss_cons (js_set (je_ix (je_ix (je_var (pe_var (i := 0) rfl (.inl rfl))) je_int) (je_ix (je_var (pe_var (i := 1) rfl (.inl rfl))) je_int)) (fun h => ps_set (i := 2) S.nd rfl (.inl rfl) h))
  (jss_cons (js_if (jt_eqD hr (je_ix (je_var (pe_var (i := 1) rfl (.inl rfl))) je_int) je_str)
  (jss_cons (js_asg (je_plus (je_ix (je_var (pe_var (i := 2) rfl (.inl rfl))) je_int) (je_ix (je_var (pe_var (i := 1) rfl (.inl rfl))) je_int)) (jg_sub (je_var (pe_var (i := 2) rfl (.inl rfl))) je_int))
  (jss_cons (js_expr (je_call h_law_free (hr.mono (by decide)) D.g__law_free D.k_law_free (takes_of rfl rfl rfl rfl) (ja_cons (je_var (pe_var (i := 0) rfl (.inl rfl))) (ja_cons (je_ix (je_var (pe_var (i := 1) rfl (.inl rfl))) je_int) ja_nil))))
  (jss_one (js_ret (je_ix (je_var (pe_var (i := 2) rfl (.inl rfl))) je_int)))))
  jss_nil)
  (jss_cons (js_asg (je_plus (je_ix (je_var (pe_var (i := 2) rfl (.inl rfl))) je_int) (je_ix (je_var (pe_var (i := 1) rfl (.inl rfl))) je_int)) (jg_sub (je_var (pe_var (i := 2) rfl (.inl rfl))) je_int))
  (jss_one (js_ret (je_sub (je_ix (je_var (pe_var (i := 2) rfl (.inl rfl))) je_int) (je_ix (je_var (pe_var (i := 2) rfl (.inl rfl))) je_int))))))))
theorem S_Session_check_free : FnScope N_Session_check_free ["self"] (defScope (inClass (top 41) 2)) := ⟨rfl, rfl, rfl, by decide +kernel, rfl, by decide +kernel, by decide +kernel⟩
theorem J_Session_check_free {P : Program} {w : World} {K : Frag} {mg : Str → Option Value} {h base : Heap} (D : Wd w K mg h base) (cdv : Value) (A : Around) (outer : List Env) (s : Shared) (H : Hp) (E : XK) (hc : CodeAt K (He.fAd K ("Session", some "check_free")) cdv) (hr : RoomG 1 (A.deeper (envOfC "Session.check_free" (defScope (inClass (top 41) 2)) s.heap.objs.size (He.fAd K ("Session", some "check_free")) cdv))) :
    JSs (cxOf (L2.CX P w) P w K mg base N_Session_check_free "Session.check_free" (defScope (inClass (top 41) 2)) (He.fAd K ("Session", some "check_free")) cdv A outer s H E) (fun cls d _ H => E cls d H) (defBody (inClass (top 41) 2)) b_Session_check_free := by
  have S := S_Session_check_free
  exact (jss_one (js_if (jt_tru (je_fld D.f_busy (je_var (pe_var (i := 0) rfl (.inl rfl)))))
  (jss_one js_never)
  jss_nil))
theorem S_check_side : FnScope N_check_side ["value"] (defScope (top 31)) := ⟨rfl, rfl, rfl, by decide +kernel, rfl, by decide +kernel, by decide +kernel⟩
theorem J_check_side {P : Program} {w : World} {K : Frag} {mg : Str → Option Value} {h base : Heap} (D : Wd w K mg h base) (h_is_between : Keeps P w K mg base 3 (He.fAd K ("is_between", none)) 3 G_is_between) (cdv : Value) (A : Around) (outer : List Env) (s : Shared) (H : Hp) (E : XK) (hc : CodeAt K (He.fAd K ("check_side", none)) cdv) (hr : RoomG 3 (A.deeper (envOfC "check_side" (defScope (top 31)) s.heap.objs.size (He.fAd K ("check_side", none)) cdv))) :
    JSs (cxOf (L2.CX P w) P w K mg base N_check_side "check_side" (defScope (top 31)) (He.fAd K ("check_side", none)) cdv A outer s H E) (fun cls d _ H => E cls d H) (defBody (top 31)) b_check_side := by
  have S := S_check_side
  exact (jss_one (js_if (jt_not (jt_val (je_call h_is_between (hr.mono (by decide)) D.g_is_between D.k_is_between (takes_of rfl rfl rfl rfl) (ja_cons (je_var (pe_var (i := 0) rfl (.inl rfl))) (ja_cons je_int (ja_cons je_int ja_nil))))))
  (jss_one js_never)
  jss_nil))
theorem S_check_deed : FnScope N_check_deed ["flow", "deed"] (defScope (top 34)) := ⟨rfl, rfl, rfl, by decide +kernel, rfl, by decide +kernel, by decide +kernel⟩
theorem J_check_deed {P : Program} {w : World} {K : Frag} {mg : Str → Option Value} {h base : Heap} (D : Wd w K mg h base) (h_check_side : Keeps P w K mg base 4 (He.fAd K ("check_side", none)) 1 G_check_side) (h_check_number : Keeps P w K mg base 4 (He.fAd K ("check_number", none)) 3 G_check_number) (h_Flow_fresh : Keeps P w K mg base 2 (He.fAd K ("Flow", some "fresh")) 2 G_Flow_fresh) (cdv : Value) (A : Around) (outer : List Env) (s : Shared) (H : Hp) (E : XK) (hc : CodeAt K (He.fAd K ("check_deed", none)) cdv) (hr : RoomG 4 (A.deeper (envOfC "check_deed" (defScope (top 34)) s.heap.objs.size (He.fAd K ("check_deed", none)) cdv))) :
    JSs (cxOf (L2.CX P w) P w K mg base N_check_deed "check_deed" (defScope (top 34)) (He.fAd K ("check_deed", none)) cdv A outer s H E) (fun cls d _ H => E cls d H) (defBody (top 34)) b_check_deed := by
  have S := S_check_deed
  exact (jss_cons (js_if (jt_neD hr (je_ix (je_var (pe_var (i := 1) rfl (.inl rfl))) je_int) je_str)
  (jss_one (js_expr (je_call h_check_side (hr.mono (by decide)) D.g_check_side D.k_check_side (takes_of rfl rfl rfl rfl) (ja_cons (je_ix (je_var (pe_var (i := 1) rfl (.inl rfl))) je_int) ja_nil))))
  jss_nil)
  (jss_cons (js_expr (je_call h_check_number (hr.mono (by decide)) D.g_check_number D.k_check_number (takes_of rfl rfl rfl rfl) (ja_cons (je_ix (je_var (pe_var (i := 1) rfl (.inl rfl))) (je_neg je_int)) (ja_cons je_int (ja_cons (je_gint D.i_MOST_BYTES) ja_nil)))))
  (jss_one (js_if (PWPT (jw_and (jt_eqD hr (je_ix (je_var (pe_var (i := 1) rfl (.inl rfl))) je_int) je_str) (jw_and1 (jt_lt (je_meth (je_var (pe_var (i := 0) rfl (.inl rfl))) D.c_Flow D.m_Flow_fresh h_Flow_fresh (hr.mono (by decide)) (takes_of rfl rfl rfl rfl) (ja_cons (je_ix (je_var (pe_var (i := 1) rfl (.inl rfl))) je_int) ja_nil)) (je_ix (je_var (pe_var (i := 1) rfl (.inl rfl))) je_int)))))
  (jss_one js_never)
  jss_nil))))
theorem S_Flow_copied : FnScope N_Flow_copied ["self"] (defScope (inClass (top 38) 13)) := ⟨rfl, rfl, rfl, by decide +kernel, rfl, by decide +kernel, by decide +kernel⟩
theorem J_Flow_copied {P : Program} {w : World} {K : Frag} {mg : Str → Option Value} {h base : Heap} (D : Wd w K mg h base) (h_Flow_init : Keeps P w K mg base 2 (He.fAd K ("Flow", some "__init__")) 2 G_Flow_init) (cdv : Value) (A : Around) (outer : List Env) (s : Shared) (H : Hp) (E : XK) (hc : CodeAt K (He.fAd K ("Flow", some "copied")) cdv) (hr : RoomG 3 (A.deeper (envOfC "Flow.copied" (defScope (inClass (top 38) 13)) s.heap.objs.size (He.fAd K ("Flow", some "copied")) cdv))) :
    JSs (cxOf (L2.CX P w) P w K mg base N_Flow_copied "Flow.copied" (defScope (inClass (top 38) 13)) (He.fAd K ("Flow", some "copied")) cdv A outer s H E) (fun cls d _ H => E cls d H) (defBody (inClass (top 38) 13)) b_Flow_copied := by
  have S := S_Flow_copied
  exact (jss_cons (js_set (je_make D.mk_Flow h_Flow_init (hr.mono (by decide)) D.g_Flow (takes_of rfl rfl rfl rfl) (ja_cons (je_fld D.f_line (je_var (pe_var (i := 0) rfl (.inl rfl)))) ja_nil)) (fun h => ps_set (i := 1) S.nd rfl (.inl rfl) h))
  (jss_cons (js_fld D.f_tick (je_fld D.f_tick (je_var (pe_var (i := 0) rfl (.inl rfl)))) (je_var (pe_var (i := 1) rfl (.inl rfl))))
  (jss_cons (js_fld D.f_stock (je_lst (ja_cons (je_BT call_list_of bsListM D.u_list rfl (ja_cons (je_ix (je_fld D.f_stock (je_var (pe_var (i := 0) rfl (.inl rfl)))) je_int) ja_nil)) (ja_cons (je_BT call_list_of bsListM D.u_list rfl (ja_cons (je_ix (je_fld D.f_stock (je_var (pe_var (i := 0) rfl (.inl rfl)))) je_int) ja_nil)) ja_nil))) (je_var (pe_var (i := 1) rfl (.inl rfl))))
  (jss_cons (js_asg (je_tup (ja_cons (je_BT call_list_of bsListM D.u_list rfl (ja_cons (je_fld D.f_out (je_var (pe_var (i := 0) rfl (.inl rfl)))) ja_nil)) (ja_cons (je_BT call_list_of bsListM D.u_list rfl (ja_cons (je_fld D.f_known (je_var (pe_var (i := 0) rfl (.inl rfl)))) ja_nil)) (ja_cons (je_BT call_list_of bsListM D.u_list rfl (ja_cons (je_fld D.f_small (je_var (pe_var (i := 0) rfl (.inl rfl)))) ja_nil)) ja_nil)))) (jg_tup rfl (jgs_cons (W := NoW) (jg_fld D.f_out (je_var (pe_var (i := 1) rfl (.inl rfl)))) (jgs_cons (W := NoW) (jg_fld D.f_known (je_var (pe_var (i := 1) rfl (.inl rfl)))) (jgs_cons (W := NoW) (jg_fld D.f_small (je_var (pe_var (i := 1) rfl (.inl rfl)))) jgs_nil)))))
  (jss_cons (js_asg (je_tup (ja_cons (je_BT call_list_of bsListM D.u_list rfl (ja_cons (je_fld D.f_come (je_var (pe_var (i := 0) rfl (.inl rfl)))) ja_nil)) (ja_cons (je_BT call_list_of bsListM D.u_list rfl (ja_cons (je_fld D.f_taken (je_var (pe_var (i := 0) rfl (.inl rfl)))) ja_nil)) (ja_cons (je_BT call_list_of bsListM D.u_list rfl (ja_cons (je_fld D.f_full (je_var (pe_var (i := 0) rfl (.inl rfl)))) ja_nil)) ja_nil)))) (jg_tup rfl (jgs_cons (W := NoW) (jg_fld D.f_come (je_var (pe_var (i := 1) rfl (.inl rfl)))) (jgs_cons (W := NoW) (jg_fld D.f_taken (je_var (pe_var (i := 1) rfl (.inl rfl)))) (jgs_cons (W := NoW) (jg_fld D.f_full (je_var (pe_var (i := 1) rfl (.inl rfl)))) jgs_nil)))))
  (jss_cons (js_asg (je_tup (ja_cons (je_BT call_list_of bsListM D.u_list rfl (ja_cons (je_fld D.f_first (je_var (pe_var (i := 0) rfl (.inl rfl)))) ja_nil)) (ja_cons (je_BT call_list_of bsListM D.u_list rfl (ja_cons (je_fld D.f_long (je_var (pe_var (i := 0) rfl (.inl rfl)))) ja_nil)) ja_nil))) (jg_tup rfl (jgs_cons (W := NoW) (jg_fld D.f_first (je_var (pe_var (i := 1) rfl (.inl rfl)))) (jgs_cons (W := NoW) (jg_fld D.f_long (je_var (pe_var (i := 1) rfl (.inl rfl)))) jgs_nil))))
  (jss_cons (js_asg (je_tup (ja_cons (je_BT call_list_of bsListM D.u_list rfl (ja_cons (je_fld D.f_flight (je_var (pe_var (i := 0) rfl (.inl rfl)))) ja_nil)) (ja_cons (je_BT call_list_of bsListM D.u_list rfl (ja_cons (je_fld D.f_log (je_var (pe_var (i := 0) rfl (.inl rfl)))) ja_nil)) ja_nil))) (jg_tup rfl (jgs_cons (W := NoW) (jg_fld D.f_flight (je_var (pe_var (i := 1) rfl (.inl rfl)))) (jgs_cons (W := NoW) (jg_fld D.f_log (je_var (pe_var (i := 1) rfl (.inl rfl)))) jgs_nil))))
  (jss_one (js_ret (je_var (pe_var (i := 1) rfl (.inl rfl))))))))))))
theorem S_Flow_take_out : FnScope N_Flow_take_out ["self", "side", "amount"] (defScope (inClass (top 38) 3)) := ⟨rfl, rfl, rfl, by decide +kernel, rfl, by decide +kernel, by decide +kernel⟩
theorem J_Flow_take_out {P : Program} {w : World} {K : Frag} {mg : Str → Option Value} {h base : Heap} (D : Wd w K mg h base) (cdv : Value) (A : Around) (outer : List Env) (s : Shared) (H : Hp) (E : XK) (hc : CodeAt K (He.fAd K ("Flow", some "take_out")) cdv) (hr : RoomG 1 (A.deeper (envOfC "Flow.take_out" (defScope (inClass (top 38) 3)) s.heap.objs.size (He.fAd K ("Flow", some "take_out")) cdv))) :
    JSs (cxOf (L2.CX P w) P w K mg base N_Flow_take_out "Flow.take_out" (defScope (inClass (top 38) 3)) (He.fAd K ("Flow", some "take_out")) cdv A outer s H E) (fun cls d _ H => E cls d H) (defBody (inClass (top 38) 3)) b_Flow_take_out := by
  have S := S_Flow_take_out
  exact (jss_cons (js_set (je_var (pe_var (i := 2) rfl (.inl rfl))) (fun h => ps_set (i := 3) S.nd rfl (.inl rfl) h))
  (jss_one (js_while (passes_of rfl) (jt_gt (je_var (pe_var (i := 3) rfl (.inl rfl))) je_int)
  (jss_cons (js_asg (je_ix (je_ix (je_fld D.f_stock (je_var (pe_var (i := 0) rfl (.inl rfl)))) (je_var (pe_var (i := 1) rfl (.inl rfl)))) je_int) (jg_tup rfl (jgs_cons (W := NoW) (jg_name (i := 4) (pg_name S.nd rfl (.inl rfl))) (jgs_cons (W := NoW) (jg_name (i := 5) (pg_name S.nd rfl (.inl rfl))) jgs_nil))))
  (jss_cons (js_asg (je_B (call_max2 rfl) bsMax2 D.u_max rfl (ja_cons (je_ix (je_fld D.f_long (je_var (pe_var (i := 0) rfl (.inl rfl)))) (je_var (pe_var (i := 1) rfl (.inl rfl)))) (ja_cons (je_sub (je_fld D.f_tick (je_var (pe_var (i := 0) rfl (.inl rfl)))) (je_var (pe_var (i := 5) rfl (.inl rfl)))) ja_nil))) (jg_sub (je_fld D.f_long (je_var (pe_var (i := 0) rfl (.inl rfl)))) (je_var (pe_var (i := 1) rfl (.inl rfl)))))
  (jss_cons (js_if (jt_gt (je_var (pe_var (i := 4) rfl (.inl rfl))) (je_var (pe_var (i := 3) rfl (.inl rfl))))
  (jss_one (js_asg (je_tup (ja_cons (je_sub (je_var (pe_var (i := 4) rfl (.inl rfl))) (je_var (pe_var (i := 3) rfl (.inl rfl)))) (ja_cons (je_var (pe_var (i := 5) rfl (.inl rfl))) ja_nil))) (jg_sub (je_ix (je_fld D.f_stock (je_var (pe_var (i := 0) rfl (.inl rfl)))) (je_var (pe_var (i := 1) rfl (.inl rfl)))) je_int)))
  (jss_one (js_del (je_ix (je_fld D.f_stock (je_var (pe_var (i := 0) rfl (.inl rfl)))) (je_var (pe_var (i := 1) rfl (.inl rfl)))) je_int)))
  (jss_one (js_aug (je_B (call_min2 rfl) bsMin2 D.u_min rfl (ja_cons (je_var (pe_var (i := 4) rfl (.inl rfl))) (ja_cons (je_var (pe_var (i := 3) rfl (.inl rfl))) ja_nil))) (fun h => ps_aug (i := 3) S.nd rfl (.inl rfl) h ip_sub)))))))))
theorem S_Flow_send : FnScope N_Flow_send ["self", "side", "amount"] (defScope (inClass (top 38) 4)) := ⟨rfl, rfl, rfl, by decide +kernel, rfl, by decide +kernel, by decide +kernel⟩
theorem J_Flow_send {P : Program} {w : World} {K : Frag} {mg : Str → Option Value} {h base : Heap} (D : Wd w K mg h base) (h_Flow_take_out : Keeps P w K mg base 2 (He.fAd K ("Flow", some "take_out")) 3 G_Flow_take_out) (cdv : Value) (A : Around) (outer : List Env) (s : Shared) (H : Hp) (E : XK) (hc : CodeAt K (He.fAd K ("Flow", some "send")) cdv) (hr : RoomG 2 (A.deeper (envOfC "Flow.send" (defScope (inClass (top 38) 4)) s.heap.objs.size (He.fAd K ("Flow", some "send")) cdv))) :
    JSs (cxOf (L2.CX P w) P w K mg base N_Flow_send "Flow.send" (defScope (inClass (top 38) 4)) (He.fAd K ("Flow", some "send")) cdv A outer s H E) (fun cls d _ H => E cls d H) (defBody (inClass (top 38) 4)) b_Flow_send := by
  have S := S_Flow_send
  exact (jss_cons (js_expr (je_meth (je_var (pe_var (i := 0) rfl (.inl rfl))) D.c_Flow D.m_Flow_take_out h_Flow_take_out (hr.mono (by decide)) (takes_of rfl rfl rfl rfl) (ja_cons (je_var (pe_var (i := 1) rfl (.inl rfl))) (ja_cons (je_var (pe_var (i := 2) rfl (.inl rfl))) ja_nil))))
  (jss_cons (js_augS (je_fld D.f_out (je_var (pe_var (i := 0) rfl (.inl rfl)))) (je_var (pe_var (i := 1) rfl (.inl rfl))) (je_var (pe_var (i := 2) rfl (.inl rfl))) ip_add)
  (jss_cons (js_if (jt_chain op_lt op_lt oiLt oiLt je_int (je_var (pe_var (i := 2) rfl (.inl rfl))) (je_fld D.f_size (je_fld D.f_line (je_var (pe_var (i := 0) rfl (.inl rfl))))) (by rfl))
  (jss_one (js_asg (je_ix (je_fld D.f_out (je_var (pe_var (i := 0) rfl (.inl rfl)))) (je_var (pe_var (i := 1) rfl (.inl rfl)))) (jg_sub (je_fld D.f_small (je_var (pe_var (i := 0) rfl (.inl rfl)))) (je_var (pe_var (i := 1) rfl (.inl rfl))))))
  jss_nil)
  (jss_cons (js_expr (je_mt mt_append msAppend PySem.F.slot_list_append PySem.F.type_list_append (je_fld D.f_log (je_var (pe_var (i := 0) rfl (.inl rfl)))) (ja_cons (je_tup (ja_cons (je_fld D.f_tick (je_var (pe_var (i := 0) rfl (.inl rfl)))) (ja_cons (je_var (pe_var (i := 1) rfl (.inl rfl))) (ja_cons (je_var (pe_var (i := 2) rfl (.inl rfl))) (ja_cons (je_ix (je_fld D.f_come (je_var (pe_var (i := 0) rfl (.inl rfl)))) (je_var (pe_var (i := 1) rfl (.inl rfl)))) ja_nil))))) ja_nil) (fun a b => pe_bm PySem.F.plainAttrs_list PySem.F.slot_list_append PySem.F.type_list_append mt_append a b)))
  (jss_cons (js_expr (je_mt mt_append msAppend PySem.F.slot_list_append PySem.F.type_list_append (je_fld D.f_flight (je_var (pe_var (i := 0) rfl (.inl rfl)))) (ja_cons (je_tup (ja_cons (je_plus (je_fld D.f_tick (je_var (pe_var (i := 0) rfl (.inl rfl)))) (je_fld D.f_way (je_fld D.f_line (je_var (pe_var (i := 0) rfl (.inl rfl)))))) (ja_cons (je_var (pe_var (i := 1) rfl (.inl rfl))) (ja_cons (je_var (pe_var (i := 2) rfl (.inl rfl))) (ja_cons (je_ix (je_fld D.f_come (je_var (pe_var (i := 0) rfl (.inl rfl)))) (je_var (pe_var (i := 1) rfl (.inl rfl)))) ja_nil))))) ja_nil) (fun a b => pe_bm PySem.F.plainAttrs_list PySem.F.slot_list_append PySem.F.type_list_append mt_append a b)))
  (jss_cons (js_asg je_int (jg_sub (je_fld D.f_full (je_var (pe_var (i := 0) rfl (.inl rfl)))) (je_var (pe_var (i := 1) rfl (.inl rfl)))))
  (jss_one (js_asg je_non (jg_sub (je_fld D.f_first (je_var (pe_var (i := 0) rfl (.inl rfl)))) (je_var (pe_var (i := 1) rfl (.inl rfl))))))))))))
theorem S_Flow_lets : FnScope N_Flow_lets ["self", "side"] (defScope (inClass (top 38) 5)) := ⟨rfl, rfl, rfl, by decide +kernel, rfl, by decide +kernel, by decide +kernel⟩
theorem J_Flow_lets {P : Program} {w : World} {K : Frag} {mg : Str → Option Value} {h base : Heap} (D : Wd w K mg h base) (cdv : Value) (A : Around) (outer : List Env) (s : Shared) (H : Hp) (E : XK) (hc : CodeAt K (He.fAd K ("Flow", some "lets")) cdv) (hr : RoomG 1 (A.deeper (envOfC "Flow.lets" (defScope (inClass (top 38) 5)) s.heap.objs.size (He.fAd K ("Flow", some "lets")) cdv))) :
    JSs (cxOf (L2.CX P w) P w K mg base N_Flow_lets "Flow.lets" (defScope (inClass (top 38) 5)) (He.fAd K ("Flow", some "lets")) cdv A outer s H E) (fun cls d _ H => E cls d H) (defBody (inClass (top 38) 5)) b_Flow_lets := by
  have S := S_Flow_lets
  exact (jss_cons (js_set (je_fld D.f_rule (je_ix (je_fld D.f_settings (je_var (pe_var (i := 0) rfl (.inl rfl)))) (je_var (pe_var (i := 1) rfl (.inl rfl))))) (fun h => ps_set (i := 2) S.nd rfl (.inl rfl) h))
  (jss_cons (js_if (jt_eqD hr (je_var (pe_var (i := 2) rfl (.inl rfl))) je_str)
  (jss_one (js_ret (je_eqD hr (je_ix (je_fld D.f_out (je_var (pe_var (i := 0) rfl (.inl rfl)))) (je_var (pe_var (i := 1) rfl (.inl rfl)))) (je_ix (je_fld D.f_known (je_var (pe_var (i := 0) rfl (.inl rfl)))) (je_var (pe_var (i := 1) rfl (.inl rfl)))))))
  jss_nil)
  (jss_one (js_ret (je_or (je_eqD hr (je_var (pe_var (i := 2) rfl (.inl rfl))) je_str) (je_one (je_le (je_ix (je_fld D.f_small (je_var (pe_var (i := 0) rfl (.inl rfl)))) (je_var (pe_var (i := 1) rfl (.inl rfl)))) (je_ix (je_fld D.f_known (je_var (pe_var (i := 0) rfl (.inl rfl)))) (je_var (pe_var (i := 1) rfl (.inl rfl)))))))))))
theorem S_Flow_let_go : FnScope N_Flow_let_go ["self", "side"] (defScope (inClass (top 38) 6)) := ⟨rfl, rfl, rfl, by decide +kernel, rfl, by decide +kernel, by decide +kernel⟩
theorem J_Flow_let_go {P : Program} {w : World} {K : Frag} {mg : Str → Option Value} {h base : Heap} (D : Wd w K mg h base) (h_Flow_kept : Keeps P w K mg base 2 (He.fAd K ("Flow", some "kept")) 2 G_Flow_kept) (h_Flow_send : Keeps P w K mg base 3 (He.fAd K ("Flow", some "send")) 3 G_Flow_send) (h_Flow_lets : Keeps P w K mg base 2 (He.fAd K ("Flow", some "lets")) 2 G_Flow_lets) (cdv : Value) (A : Around) (outer : List Env) (s : Shared) (H : Hp) (E : XK) (hc : CodeAt K (He.fAd K ("Flow", some "let_go")) cdv) (hr : RoomG 3 (A.deeper (envOfC "Flow.let_go" (defScope (inClass (top 38) 6)) s.heap.objs.size (He.fAd K ("Flow", some "let_go")) cdv))) :
    JSs (cxOf (L2.CX P w) P w K mg base N_Flow_let_go "Flow.let_go" (defScope (inClass (top 38) 6)) (He.fAd K ("Flow", some "let_go")) cdv A outer s H E) (fun cls d _ H => E cls d H) (defBody (inClass (top 38) 6)) b_Flow_let_go := by
  have S := S_Flow_let_go
  exact (jss_cons (js_while (passes_of rfl) (jt_ge (je_meth (je_var (pe_var (i := 0) rfl (.inl rfl))) D.c_Flow D.m_Flow_kept h_Flow_kept (hr.mono (by decide)) (takes_of rfl rfl rfl rfl) (ja_cons (je_var (pe_var (i := 1) rfl (.inl rfl))) ja_nil)) (je_fld D.f_size (je_fld D.f_line (je_var (pe_var (i := 0) rfl (.inl rfl))))))
  (jss_one (js_expr (je_meth (je_var (pe_var (i := 0) rfl (.inl rfl))) D.c_Flow D.m_Flow_send h_Flow_send (hr.mono (by decide)) (takes_of rfl rfl rfl rfl) (ja_cons (je_var (pe_var (i := 1) rfl (.inl rfl))) (ja_cons (je_fld D.f_size (je_fld D.f_line (je_var (pe_var (i := 0) rfl (.inl rfl))))) ja_nil))))))
  (jss_cons (js_set (je_meth (je_var (pe_var (i := 0) rfl (.inl rfl))) D.c_Flow D.m_Flow_kept h_Flow_kept (hr.mono (by decide)) (takes_of rfl rfl rfl rfl) (ja_cons (je_var (pe_var (i := 1) rfl (.inl rfl))) ja_nil)) (fun h => ps_set (i := 2) S.nd rfl (.inl rfl) h))
  (jss_one (js_if (PWPT (jw_and (jt_gt (je_var (pe_var (i := 2) rfl (.inl rfl))) je_int) (jw_and1 (jt_val (je_meth (je_var (pe_var (i := 0) rfl (.inl rfl))) D.c_Flow D.m_Flow_lets h_Flow_lets (hr.mono (by decide)) (takes_of rfl rfl rfl rfl) (ja_cons (je_var (pe_var (i := 1) rfl (.inl rfl))) ja_nil))))))
  (jss_one (js_expr (je_meth (je_var (pe_var (i := 0) rfl (.inl rfl))) D.c_Flow D.m_Flow_send h_Flow_send (hr.mono (by decide)) (takes_of rfl rfl rfl rfl) (ja_cons (je_var (pe_var (i := 1) rfl (.inl rfl))) (ja_cons (je_var (pe_var (i := 2) rfl (.inl rfl))) ja_nil)))))
  jss_nil))))
theorem S_Flow_put : FnScope N_Flow_put ["self", "side", "amount"] (defScope (inClass (top 38) 7)) := ⟨rfl, rfl, rfl, by decide +kernel, rfl, by decide +kernel, by decide +kernel⟩
theorem J_Flow_put {P : Program} {w : World} {K : Frag} {mg : Str → Option Value} {h base : Heap} (D : Wd w K mg h base) (h_Flow_let_go : Keeps P w K mg base 4 (He.fAd K ("Flow", some "let_go")) 2 G_Flow_let_go) (cdv : Value) (A : Around) (outer : List Env) (s : Shared) (H : Hp) (E : XK) (hc : CodeAt K (He.fAd K ("Flow", some "put")) cdv) (hr : RoomG 4 (A.deeper (envOfC "Flow.put" (defScope (inClass (top 38) 7)) s.heap.objs.size (He.fAd K ("Flow", some "put")) cdv))) :
    JSs (cxOf (L2.CX P w) P w K mg base N_Flow_put "Flow.put" (defScope (inClass (top 38) 7)) (He.fAd K ("Flow", some "put")) cdv A outer s H E) (fun cls d _ H => E cls d H) (defBody (inClass (top 38) 7)) b_Flow_put := by
  have S := S_Flow_put
  exact (jss_cons (js_expr (je_mt mt_append msAppend PySem.F.slot_list_append PySem.F.type_list_append (je_ix (je_fld D.f_stock (je_var (pe_var (i := 0) rfl (.inl rfl)))) (je_var (pe_var (i := 1) rfl (.inl rfl)))) (ja_cons (je_tup (ja_cons (je_var (pe_var (i := 2) rfl (.inl rfl))) (ja_cons (je_fld D.f_tick (je_var (pe_var (i := 0) rfl (.inl rfl)))) ja_nil))) ja_nil) (fun a b => pe_bm PySem.F.plainAttrs_list PySem.F.slot_list_append PySem.F.type_list_append mt_append a b)))
  (jss_one (js_expr (je_meth (je_var (pe_var (i := 0) rfl (.inl rfl))) D.c_Flow D.m_Flow_let_go h_Flow_let_go (hr.mono (by decide)) (takes_of rfl rfl rfl rfl) (ja_cons (je_var (pe_var (i := 1) rfl (.inl rfl))) ja_nil)))))
theorem S_Flow_is_due : FnScope N_Flow_is_due ["self", "side"] (defScope (inClass (top 38) 10)) := ⟨rfl, rfl, rfl, by decide +kernel, rfl, by decide +kernel, by decide +kernel⟩
theorem J_Flow_is_due {P : Program} {w : World} {K : Frag} {mg : Str → Option Value} {h base : Heap} (D : Wd w K mg h base) (cdv : Value) (A : Around) (outer : List Env) (s : Shared) (H : Hp) (E : XK) (hc : CodeAt K (He.fAd K ("Flow", some "is_due")) cdv) (hr : RoomG 1 (A.deeper (envOfC "Flow.is_due" (defScope (inClass (top 38) 10)) s.heap.objs.size (He.fAd K ("Flow", some "is_due")) cdv))) :
    JSs (cxOf (L2.CX P w) P w K mg base N_Flow_is_due "Flow.is_due" (defScope (inClass (top 38) 10)) (He.fAd K ("Flow", some "is_due")) cdv A outer s H E) (fun cls d _ H => E cls d H) (defBody (inClass (top 38) 10)) b_Flow_is_due := by
  have S := S_Flow_is_due
  exact (jss_cons (js_set (je_ix (je_fld D.f_settings (je_var (pe_var (i := 0) rfl (.inl rfl)))) (je_var (pe_var (i := 1) rfl (.inl rfl)))) (fun h => ps_set (i := 2) S.nd rfl (.inl rfl) h))
  (jss_cons (js_if (jt_ge (je_ix (je_fld D.f_full (je_var (pe_var (i := 0) rfl (.inl rfl)))) (je_var (pe_var (i := 1) rfl (.inl rfl)))) (je_fld D.f_every (je_var (pe_var (i := 2) rfl (.inl rfl)))))
  (jss_one (js_ret je_bl))
  jss_nil)
  (jss_one (js_ret (je_and (je_notN (je_ix (je_fld D.f_first (je_var (pe_var (i := 0) rfl (.inl rfl)))) (je_var (pe_var (i := 1) rfl (.inl rfl)))) je_non) (je_one (je_ge (je_fld D.f_tick (je_var (pe_var (i := 0) rfl (.inl rfl)))) (je_plus (je_ix (je_fld D.f_first (je_var (pe_var (i := 0) rfl (.inl rfl)))) (je_var (pe_var (i := 1) rfl (.inl rfl)))) (je_fld D.f_delay (je_var (pe_var (i := 2) rfl (.inl rfl))))))))))))
theorem S_Flow_leave : FnScope N_Flow_leave ["self"] (defScope (inClass (top 38) 11)) := ⟨rfl, rfl, rfl, by decide +kernel, rfl, by decide +kernel, by decide +kernel⟩
theorem J_Flow_leave {P : Program} {w : World} {K : Frag} {mg : Str → Option Value} {h base : Heap} (D : Wd w K mg h base) (h_Flow_is_due : Keeps P w K mg base 2 (He.fAd K ("Flow", some "is_due")) 2 G_Flow_is_due) (h_Flow_send : Keeps P w K mg base 3 (He.fAd K ("Flow", some "send")) 3 G_Flow_send) (cdv : Value) (A : Around) (outer : List Env) (s : Shared) (H : Hp) (E : XK) (hc : CodeAt K (He.fAd K ("Flow", some "leave")) cdv) (hr : RoomG 3 (A.deeper (envOfC "Flow.leave" (defScope (inClass (top 38) 11)) s.heap.objs.size (He.fAd K ("Flow", some "leave")) cdv))) :
    JSs (cxOf (L2.CX P w) P w K mg base N_Flow_leave "Flow.leave" (defScope (inClass (top 38) 11)) (He.fAd K ("Flow", some "leave")) cdv A outer s H E) (fun cls d _ H => E cls d H) (defBody (inClass (top 38) 11)) b_Flow_leave := by
  have S := S_Flow_leave
  exact (jss_one (js_for (passes_of rfl) rfl (ji_seq (je_tup (ja_cons je_int (ja_cons je_int ja_nil)))) (jg_name (i := 1) (pg_name S.nd rfl (.inl rfl)))
  (jss_one (js_if (jt_val (je_meth (je_var (pe_var (i := 0) rfl (.inl rfl))) D.c_Flow D.m_Flow_is_due h_Flow_is_due (hr.mono (by decide)) (takes_of rfl rfl rfl rfl) (ja_cons (je_var (pe_var (i := 1) rfl (.inl rfl))) ja_nil)))
  (jss_one (js_expr (je_meth (je_var (pe_var (i := 0) rfl (.inl rfl))) D.c_Flow D.m_Flow_send h_Flow_send (hr.mono (by decide)) (takes_of rfl rfl rfl rfl) (ja_cons (je_var (pe_var (i := 1) rfl (.inl rfl))) (ja_cons je_int ja_nil)))))
  jss_nil))))
theorem S_Flow_next_tick : FnScope N_Flow_next_tick ["self"] (defScope (inClass (top 38) 12)) := ⟨rfl, rfl, rfl, by decide +kernel, rfl, by decide +kernel, by decide +kernel⟩
theorem J_Flow_next_tick {P : Program} {w : World} {K : Frag} {mg : Str → Option Value} {h base : Heap} (D : Wd w K mg h base) (cdv : Value) (A : Around) (outer : List Env) (s : Shared) (H : Hp) (E : XK) (hc : CodeAt K (He.fAd K ("Flow", some "next_tick")) cdv) (hr : RoomG 1 (A.deeper (envOfC "Flow.next_tick" (defScope (inClass (top 38) 12)) s.heap.objs.size (He.fAd K ("Flow", some "next_tick")) cdv))) :
    JSs (cxOf (L2.CX P w) P w K mg base N_Flow_next_tick "Flow.next_tick" (defScope (inClass (top 38) 12)) (He.fAd K ("Flow", some "next_tick")) cdv A outer s H E) (fun cls d _ H => E cls d H) (defBody (inClass (top 38) 12)) b_Flow_next_tick := by
  have S := S_Flow_next_tick
  exact (jss_cons (js_setLcM (own := [("piece", 3)]) (p := (.nm 3)) rfl S.nd rfl rfl (sw_true rfl rfl rfl rfl) (ji_seq (je_fld D.f_flight (je_var (pe_var (i := 0) rfl (.inl rfl))))) (blkOk_by rfl) (by decide) (fun _ _ _ _ _ => pg_name S.nd rfl (.inl rfl)) (fun _ _ _ _ _ => jts_nil) (fun _ _ _ _ _ => (je_ix (je_var (pe_var (i := 3) rfl (.inl rfl))) je_int)))
  (jss_cons (js_for (passes_of rfl) rfl (ji_seq (je_tup (ja_cons je_int (ja_cons je_int ja_nil)))) (jg_name (i := 2) (pg_name S.nd rfl (.inl rfl)))
  (jss_one (js_if (jt_notN (je_ix (je_fld D.f_first (je_var (pe_var (i := 0) rfl (.inl rfl)))) (je_var (pe_var (i := 2) rfl (.inl rfl)))) je_non)
  (jss_one (js_expr (je_mt mt_append msAppend PySem.F.slot_list_append PySem.F.type_list_append (je_var (pe_var (i := 1) rfl (.inl rfl))) (ja_cons (je_plus (je_ix (je_fld D.f_first (je_var (pe_var (i := 0) rfl (.inl rfl)))) (je_var (pe_var (i := 2) rfl (.inl rfl)))) (je_fld D.f_delay (je_ix (je_fld D.f_settings (je_var (pe_var (i := 0) rfl (.inl rfl)))) (je_var (pe_var (i := 2) rfl (.inl rfl)))))) ja_nil) (fun a b => pe_bm PySem.F.plainAttrs_list PySem.F.slot_list_append PySem.F.type_list_append mt_append a b))))
  jss_nil)))
  (jss_one (js_ret (je_if (jt_gt (je_B (CallR.or call_len_seq call_len_str) bsLen D.u_len rfl (ja_cons (je_var (pe_var (i := 1) rfl (.inl rfl))) ja_nil)) je_int) (je_B (cr_min rfl) bsMin D.u_min rfl (ja_cons (je_var (pe_var (i := 1) rfl (.inl rfl))) ja_nil)) je_non)))))
theorem S_Flow_land : FnScope N_Flow_land ["self", "sender", "amount", "answered"] (defScope (inClass (top 38) 8)) := ⟨rfl, rfl, rfl, by decide +kernel, rfl, by decide +kernel, by decide +kernel⟩
theorem J_Flow_land {P : Program} {w : World} {K : Frag} {mg : Str → Option Value} {h base : Heap} (D : Wd w K mg h base) (cdv : Value) (A : Around) (outer : List Env) (s : Shared) (H : Hp) (E : XK) (hc : CodeAt K (He.fAd K ("Flow", some "land")) cdv) (hr : RoomG 1 (A.deeper (envOfC "Flow.land" (defScope (inClass (top 38) 8)) s.heap.objs.size (He.fAd K ("Flow", some "land")) cdv))) :
    JSs (cxOf (L2.CX P w) P w K mg base N_Flow_land "Flow.land" (defScope (inClass (top 38) 8)) (He.fAd K ("Flow", some "land")) cdv A outer s H E) (fun cls d _ H => E cls d H) (defBody (inClass (top 38) 8)) b_Flow_land := by
  have S := S_Flow_land
  exact (jss_cons (js_set (je_sub je_int (je_var (pe_var (i := 1) rfl (.inl rfl)))) (fun h => ps_set (i := 4) S.nd rfl (.inl rfl) h))
  (jss_cons (js_asg (je_B (call_max2 rfl) bsMax2 D.u_max rfl (ja_cons (je_ix (je_fld D.f_known (je_var (pe_var (i := 0) rfl (.inl rfl)))) (je_var (pe_var (i := 4) rfl (.inl rfl)))) (ja_cons (je_var (pe_var (i := 3) rfl (.inl rfl))) ja_nil))) (jg_sub (je_fld D.f_known (je_var (pe_var (i := 0) rfl (.inl rfl)))) (je_var (pe_var (i := 4) rfl (.inl rfl)))))
  (jss_one (js_if (jt_gt (je_var (pe_var (i := 2) rfl (.inl rfl))) je_int)
  (jss_cons (js_augS (je_fld D.f_come (je_var (pe_var (i := 0) rfl (.inl rfl)))) (je_var (pe_var (i := 4) rfl (.inl rfl))) (je_var (pe_var (i := 2) rfl (.inl rfl))) ip_add)
  (jss_cons (js_if (jt_eqD hr (je_var (pe_var (i := 2) rfl (.inl rfl))) (je_fld D.f_size (je_fld D.f_line (je_var (pe_var (i := 0) rfl (.inl rfl))))))
  (jss_one (js_augS (je_fld D.f_full (je_var (pe_var (i := 0) rfl (.inl rfl)))) (je_var (pe_var (i := 4) rfl (.inl rfl))) je_int ip_add))
  jss_nil)
  (jss_one (js_if (jt_isN (je_ix (je_fld D.f_first (je_var (pe_var (i := 0) rfl (.inl rfl)))) (je_var (pe_var (i := 4) rfl (.inl rfl)))) je_non)
  (jss_one (js_asg (je_fld D.f_tick (je_var (pe_var (i := 0) rfl (.inl rfl)))) (jg_sub (je_fld D.f_first (je_var (pe_var (i := 0) rfl (.inl rfl)))) (je_var (pe_var (i := 4) rfl (.inl rfl))))))
  jss_nil))))
  jss_nil))))
theorem S_Flow_begin : FnScope N_Flow_begin ["self", "tick"] (defScope (inClass (top 38) 9)) := ⟨rfl, rfl, rfl, by decide +kernel, rfl, by decide +kernel, by decide +kernel⟩
theorem J_Flow_begin {P : Program} {w : World} {K : Frag} {mg : Str → Option Value} {h base : Heap} (D : Wd w K mg h base) (h_Flow_land : Keeps P w K mg base 2 (He.fAd K ("Flow", some "land")) 4 G_Flow_land) (h_Flow_let_go : Keeps P w K mg base 4 (He.fAd K ("Flow", some "let_go")) 2 G_Flow_let_go) (cdv : Value) (A : Around) (outer : List Env) (s : Shared) (H : Hp) (E : XK) (hc : CodeAt K (He.fAd K ("Flow", some "begin")) cdv) (hr : RoomG 4 (A.deeper (envOfC "Flow.begin" (defScope (inClass (top 38) 9)) s.heap.objs.size (He.fAd K ("Flow", some "begin")) cdv))) :
    JSs (cxOf (L2.CX P w) P w K mg base N_Flow_begin "Flow.begin" (defScope (inClass (top 38) 9)) (He.fAd K ("Flow", some "begin")) cdv A outer s H E) (fun cls d _ H => E cls d H) (defBody (inClass (top 38) 9)) b_Flow_begin := by
  have S := S_Flow_begin
  exact (jss_cons (js_fld D.f_tick (je_var (pe_var (i := 1) rfl (.inr (.inl rfl)))) (je_var (pe_var (i := 0) rfl (.inl rfl))))
  (jss_cons (js_setLc (own := [("piece", 8)]) (p := (.nm 8)) rfl S.nd rfl rfl (sw_true rfl rfl rfl rfl) (ji_seq (je_fld D.f_flight (je_var (pe_var (i := 0) rfl (.inl rfl))))) (blkOk_by rfl) (by decide) (fun _ _ _ _ _ => pg_name S.nd rfl (.inl rfl)) (fun _ _ _ _ _ => (jts_one (jt_le (je_ix (je_var (pe_var (i := 8) rfl (.inl rfl))) je_int) (je_var (pe_var (i := 1) rfl (.inr (.inl rfl))))))) (fun _ _ _ _ _ => (je_var (pe_var (i := 8) rfl (.inl rfl)))))
  (jss_cons (js_fld D.f_flight (je_lcM (own := [("piece", 8)]) (p := (.nm 8)) rfl S.nd (ji_seq (je_fld D.f_flight (je_var (pe_var (i := 0) rfl (.inl rfl))))) (blkOk_by rfl) (by decide) (fun _ _ _ _ _ => pg_name S.nd rfl (.inl rfl)) (fun _ _ _ _ _ => (jts_one (jt_gt (je_ix (je_var (pe_var (i := 8) rfl (.inl rfl))) je_int) (je_var (pe_var (i := 1) rfl (.inr (.inl rfl))))))) (fun _ _ _ _ _ => (je_var (pe_var (i := 8) rfl (.inl rfl))))) (je_var (pe_var (i := 0) rfl (.inl rfl))))
  (jss_cons (js_for (passes_of rfl) rfl (ji_seq (je_var (pe_var (i := 2) rfl (.inl rfl)))) (jg_tup rfl (jgs_cons (W := NoW) (jg_name (i := 3) (pg_name S.nd rfl (.inl rfl))) (jgs_cons (W := NoW) (jg_name (i := 4) (pg_name S.nd rfl (.inl rfl))) (jgs_cons (W := NoW) (jg_name (i := 5) (pg_name S.nd rfl (.inl rfl))) (jgs_cons (W := NoW) (jg_name (i := 6) (pg_name S.nd rfl (.inl rfl))) jgs_nil)))))
  (jss_one (js_expr (je_meth (je_var (pe_var (i := 0) rfl (.inl rfl))) D.c_Flow D.m_Flow_land h_Flow_land (hr.mono (by decide)) (takes_of rfl rfl rfl rfl) (ja_cons (je_var (pe_var (i := 4) rfl (.inl rfl))) (ja_cons (je_var (pe_var (i := 5) rfl (.inl rfl))) (ja_cons (je_var (pe_var (i := 6) rfl (.inl rfl))) ja_nil)))))))
  (jss_one (js_for (passes_of rfl) rfl (ji_seq (je_tup (ja_cons je_int (ja_cons je_int ja_nil)))) (jg_name (i := 7) (pg_name S.nd rfl (.inl rfl)))
  (jss_one (js_expr (je_meth (je_var (pe_var (i := 0) rfl (.inl rfl))) D.c_Flow D.m_Flow_let_go h_Flow_let_go (hr.mono (by decide)) (takes_of rfl rfl rfl rfl) (ja_cons (je_var (pe_var (i := 7) rfl (.inl rfl))) ja_nil))))))))))
theorem S_pass_ticks : FnScope N_pass_ticks ["flow", "ticks"] (defScope (top 35)) := ⟨rfl, rfl, rfl, by decide +kernel, rfl, by decide +kernel, by decide +kernel⟩
theorem J_pass_ticks {P : Program} {w : World} {K : Frag} {mg : Str → Option Value} {h base : Heap} (D : Wd w K mg h base) (h_Flow_leave : Keeps P w K mg base 4 (He.fAd K ("Flow", some "leave")) 1 G_Flow_leave) (h_Flow_next_tick : Keeps P w K mg base 2 (He.fAd K ("Flow", some "next_tick")) 1 G_Flow_next_tick) (h_Flow_begin : Keeps P w K mg base 5 (He.fAd K ("Flow", some "begin")) 2 G_Flow_begin) (cdv : Value) (A : Around) (outer : List Env) (s : Shared) (H : Hp) (E : XK) (hc : CodeAt K (He.fAd K ("pass_ticks", none)) cdv) (hr : RoomG 5 (A.deeper (envOfC "pass_ticks" (defScope (top 35)) s.heap.objs.size (He.fAd K ("pass_ticks", none)) cdv))) :
    JSs (cxOf (L2.CX P w) P w K mg base N_pass_ticks "pass_ticks" (defScope (top 35)) (He.fAd K ("pass_ticks", none)) cdv A outer s H E) (fun cls d _ H => E cls d H) (defBody (top 35)) b_pass_ticks := by
  have S := S_pass_ticks
  exact (jss_cons (js_set (je_plus (je_fld D.f_tick (je_var (pe_var (i := 0) rfl (.inl rfl)))) (je_var (pe_var (i := 1) rfl (.inl rfl)))) (fun h => ps_set (i := 2) S.nd rfl (.inl rfl) h))
  (jss_cons (js_expr (je_meth0 (je_var (pe_var (i := 0) rfl (.inl rfl))) D.c_Flow D.m_Flow_leave h_Flow_leave (hr.mono (by decide)) (takes_of rfl rfl rfl rfl)))
  (jss_cons (js_set (je_meth0 (je_var (pe_var (i := 0) rfl (.inl rfl))) D.c_Flow D.m_Flow_next_tick h_Flow_next_tick (hr.mono (by decide)) (takes_of rfl rfl rfl rfl)) (fun h => ps_set (i := 3) S.nd rfl (.inl rfl) h))
  (jss_cons (js_while (passes_of rfl) (PWPT (jw_and (jt_notN (je_var (pe_var (i := 3) rfl (.inl rfl))) je_non) (jw_and1 (jt_lt (je_var (pe_var (i := 3) rfl (.inl rfl))) (je_var (pe_var (i := 2) rfl (.inl rfl)))))))
  (jss_cons (js_expr (je_meth (je_var (pe_var (i := 0) rfl (.inl rfl))) D.c_Flow D.m_Flow_begin h_Flow_begin (hr.mono (by decide)) (takes_of rfl rfl rfl rfl) (ja_cons (je_var (pe_var (i := 3) rfl (.inl rfl))) ja_nil)))
  (jss_cons (js_expr (je_meth0 (je_var (pe_var (i := 0) rfl (.inl rfl))) D.c_Flow D.m_Flow_leave h_Flow_leave (hr.mono (by decide)) (takes_of rfl rfl rfl rfl)))
  (jss_one (js_set (je_meth0 (je_var (pe_var (i := 0) rfl (.inl rfl))) D.c_Flow D.m_Flow_next_tick h_Flow_next_tick (hr.mono (by decide)) (takes_of rfl rfl rfl rfl)) (fun h => ps_set (i := 3) S.nd rfl (.inl rfl) h))))))
  (jss_one (js_expr (je_meth (je_var (pe_var (i := 0) rfl (.inl rfl))) D.c_Flow D.m_Flow_begin h_Flow_begin (hr.mono (by decide)) (takes_of rfl rfl rfl rfl) (ja_cons (je_var (pe_var (i := 2) rfl (.inl rfl))) ja_nil))))))))
theorem S_flow_behind : FnScope N_flow_behind ["flow", "deed"] (defScope (top 36)) := ⟨rfl, rfl, rfl, by decide +kernel, rfl, by decide +kernel, by decide +kernel⟩
theorem J_flow_behind {P : Program} {w : World} {K : Frag} {mg : Str → Option Value} {h base : Heap} (D : Wd w K mg h base) (h_Flow_copied : Keeps P w K mg base 4 (He.fAd K ("Flow", some "copied")) 1 G_Flow_copied) (h_Flow_put : Keeps P w K mg base 5 (He.fAd K ("Flow", some "put")) 3 G_Flow_put) (h_pass_ticks : Keeps P w K mg base 6 (He.fAd K ("pass_ticks", none)) 2 G_pass_ticks) (cdv : Value) (A : Around) (outer : List Env) (s : Shared) (H : Hp) (E : XK) (hc : CodeAt K (He.fAd K ("flow_behind", none)) cdv) (hr : RoomG 6 (A.deeper (envOfC "flow_behind" (defScope (top 36)) s.heap.objs.size (He.fAd K ("flow_behind", none)) cdv))) :
    JSs (cxOf (L2.CX P w) P w K mg base N_flow_behind "flow_behind" (defScope (top 36)) (He.fAd K ("flow_behind", none)) cdv A outer s H E) (fun cls d _ H => E cls d H) (defBody (top 36)) b_flow_behind := by
  have S := S_flow_behind
  exact (jss_cons (js_set (je_meth0 (je_var (pe_var (i := 0) rfl (.inl rfl))) D.c_Flow D.m_Flow_copied h_Flow_copied (hr.mono (by decide)) (takes_of rfl rfl rfl rfl)) (fun h => ps_set (i := 2) S.nd rfl (.inl rfl) h))
  (jss_cons (js_if (jt_eqD hr (je_ix (je_var (pe_var (i := 1) rfl (.inl rfl))) je_int) je_str)
  (jss_one (js_expr (je_meth (je_var (pe_var (i := 2) rfl (.inl rfl))) D.c_Flow D.m_Flow_put h_Flow_put (hr.mono (by decide)) (takes_of rfl rfl rfl rfl) (ja_cons (je_ix (je_var (pe_var (i := 1) rfl (.inl rfl))) je_int) (ja_cons (je_ix (je_var (pe_var (i := 1) rfl (.inl rfl))) je_int) ja_nil)))))
  (jss_one (js_if (jt_eqD hr (je_ix (je_var (pe_var (i := 1) rfl (.inl rfl))) je_int) je_str)
  (jss_one (js_augS (je_fld D.f_taken (je_var (pe_var (i := 2) rfl (.inl rfl)))) (je_ix (je_var (pe_var (i := 1) rfl (.inl rfl))) je_int) (je_ix (je_var (pe_var (i := 1) rfl (.inl rfl))) je_int) ip_add))
  (jss_one (js_expr (je_call h_pass_ticks (hr.mono (by decide)) D.g_pass_ticks D.k_pass_ticks (takes_of rfl rfl rfl rfl) (ja_cons (je_var (pe_var (i := 2) rfl (.inl rfl))) (ja_cons (je_ix (je_var (pe_var (i := 1) rfl (.inl rfl))) je_int) ja_nil))))))))
  (jss_one (js_ret (je_var (pe_var (i := 2) rfl (.inl rfl)))))))
theorem S_Session_do_deed : FnScope N_Session_do_deed ["self", "deed"] (defScope (inClass (top 41) 3)) := ⟨rfl, rfl, rfl, by decide +kernel, rfl, by decide +kernel, by decide +kernel⟩
theorem J_Session_do_deed {P : Program} {w : World} {K : Frag} {mg : Str → Option Value} {h base : Heap} (D : Wd w K mg h base) (h_check_deed : Keeps P w K mg base 5 (He.fAd K ("check_deed", none)) 2 G_check_deed) (h_Session_show : Keeps P w K mg base 3 (He.fAd K ("Session", some "show")) 3 G_Session_show) (h_flow_behind : Keeps P w K mg base 7 (He.fAd K ("flow_behind", none)) 2 G_flow_behind) (cdv : Value) (A : Around) (outer : List Env) (s : Shared) (H : Hp) (E : XK) (hc : CodeAt K (He.fAd K ("Session", some "do_deed")) cdv) (hr : RoomG 7 (A.deeper (envOfC "Session.do_deed" (defScope (inClass (top 41) 3)) s.heap.objs.size (He.fAd K ("Session", some "do_deed")) cdv))) :
    JSs (cxOf (L2.CX P w) P w K mg base N_Session_do_deed "Session.do_deed" (defScope (inClass (top 41) 3)) (He.fAd K ("Session", some "do_deed")) cdv A outer s H E) (fun cls d _ H => E cls d H) (defBody (inClass (top 41) 3)) b_Session_do_deed := by
  have S := S_Session_do_deed
  exact (jss_cons (js_expr (je_call h_check_deed (hr.mono (by decide)) D.g_check_deed D.k_check_deed (takes_of rfl rfl rfl rfl) (ja_cons (je_fld D.f_flow (je_var (pe_var (i := 0) rfl (.inl rfl)))) (ja_cons (je_var (pe_var (i := 1) rfl (.inl rfl))) ja_nil))))
  (jss_cons (js_if (jt_ge (je_B (CallR.or call_len_seq call_len_str) bsLen D.u_len rfl (ja_cons (je_fld D.f_past (je_var (pe_var (i := 0) rfl (.inl rfl)))) ja_nil)) (je_gint D.i_MOST_DEEDS))
  (jss_one js_never)
  jss_nil)
  (jss_one (js_expr (je_meth (je_var (pe_var (i := 0) rfl (.inl rfl))) D.c_Session D.m_Session_show h_Session_show (hr.mono (by decide)) (takes_of rfl rfl rfl rfl) (ja_cons (je_call h_flow_behind (hr.mono (by decide)) D.g_flow_behind D.k_flow_behind (takes_of rfl rfl rfl rfl) (ja_cons (je_fld D.f_flow (je_var (pe_var (i := 0) rfl (.inl rfl)))) (ja_cons (je_var (pe_var (i := 1) rfl (.inl rfl))) ja_nil))) (ja_cons (je_plus (je_fld D.f_past (je_var (pe_var (i := 0) rfl (.inl rfl)))) (je_lst (ja_cons (je_fld D.f_flow (je_var (pe_var (i := 0) rfl (.inl rfl)))) ja_nil))) ja_nil)))))))
theorem S_Session_wait : FnScope N_Session_wait ["self", "n"] (defScope (inClass (top 41) 6)) := ⟨rfl, rfl, rfl, by decide +kernel, rfl, by decide +kernel, by decide +kernel⟩
theorem J_Session_wait {P : Program} {w : World} {K : Frag} {mg : Str → Option Value} {h base : Heap} (D : Wd w K mg h base) (h_Session_check_free : Keeps P w K mg base 2 (He.fAd K ("Session", some "check_free")) 1 G_Session_check_free) (h_Session_do_deed : Keeps P w K mg base 8 (He.fAd K ("Session", some "do_deed")) 2 G_Session_do_deed) (cdv : Value) (A : Around) (outer : List Env) (s : Shared) (H : Hp) (E : XK) (hc : CodeAt K (He.fAd K ("Session", some "wait")) cdv) (hr : RoomG 8 (A.deeper (envOfC "Session.wait" (defScope (inClass (top 41) 6)) s.heap.objs.size (He.fAd K ("Session", some "wait")) cdv))) :
    JSs (cxOf (L2.CX P w) P w K mg base N_Session_wait "Session.wait" (defScope (inClass (top 41) 6)) (He.fAd K ("Session", some "wait")) cdv A outer s H E) (fun cls d _ H => E cls d H) (defBody (inClass (top 41) 6)) b_Session_wait := by
  have S := S_Session_wait
  exact (jss_cons (js_expr (je_meth0 (je_var (pe_var (i := 0) rfl (.inl rfl))) D.c_Session D.m_Session_check_free h_Session_check_free (hr.mono (by decide)) (takes_of rfl rfl rfl rfl)))
  (jss_cons (js_expr (je_meth (je_var (pe_var (i := 0) rfl (.inl rfl))) D.c_Session D.m_Session_do_deed h_Session_do_deed (hr.mono (by decide)) (takes_of rfl rfl rfl rfl) (ja_cons (je_tup (ja_cons je_str (ja_cons (je_var (pe_var (i := 1) rfl (.inl rfl))) ja_nil))) ja_nil)))
  (jss_one (js_ret (je_fld D.f_now (je_var (pe_var (i := 0) rfl (.inl rfl))))))))
theorem S_Session_write : FnScope N_Session_write ["self", "side", "n"] (defScope (inClass (top 41) 4)) := ⟨rfl, rfl, rfl, by decide +kernel, rfl, by decide +kernel, by decide +kernel⟩
theorem J_Session_write {P : Program} {w : World} {K : Frag} {mg : Str → Option Value} {h base : Heap} (D : Wd w K mg h base) (h_Session_check_free : Keeps P w K mg base 2 (He.fAd K ("Session", some "check_free")) 1 G_Session_check_free) (h_Session_do_deed : Keeps P w K mg base 8 (He.fAd K ("Session", some "do_deed")) 2 G_Session_do_deed) (cdv : Value) (A : Around) (outer : List Env) (s : Shared) (H : Hp) (E : XK) (hc : CodeAt K (He.fAd K ("Session", some "write")) cdv) (hr : RoomG 8 (A.deeper (envOfC "Session.write" (defScope (inClass (top 41) 4)) s.heap.objs.size (He.fAd K ("Session", some "write")) cdv))) :
    JSs (cxOf (L2.CX P w) P w K mg base N_Session_write "Session.write" (defScope (inClass (top 41) 4)) (He.fAd K ("Session", some "write")) cdv A outer s H E) (fun cls d _ H => E cls d H) (defBody (inClass (top 41) 4)) b_Session_write := by
  have S := S_Session_write
  exact (jss_cons (js_expr (je_meth0 (je_var (pe_var (i := 0) rfl (.inl rfl))) D.c_Session D.m_Session_check_free h_Session_check_free (hr.mono (by decide)) (takes_of rfl rfl rfl rfl)))
  (jss_cons (js_expr (je_meth (je_var (pe_var (i := 0) rfl (.inl rfl))) D.c_Session D.m_Session_do_deed h_Session_do_deed (hr.mono (by decide)) (takes_of rfl rfl rfl rfl) (ja_cons (je_tup (ja_cons je_str (ja_cons (je_var (pe_var (i := 1) rfl (.inl rfl))) (ja_cons (je_var (pe_var (i := 2) rfl (.inl rfl))) ja_nil)))) ja_nil)))
  (jss_one (js_ret (je_ix (je_fld D.f_holding (je_var (pe_var (i := 0) rfl (.inl rfl)))) (je_var (pe_var (i := 1) rfl (.inl rfl))))))))
theorem S_Session_read : FnScope N_Session_read ["self", "side", "n"] (defScope (inClass (top 41) 5)) := ⟨rfl, rfl, rfl, by decide +kernel, rfl, by decide +kernel, by decide +kernel⟩
theorem J_Session_read {P : Program} {w : World} {K : Frag} {mg : Str → Option Value} {h base : Heap} (D : Wd w K mg h base) (h_Session_check_free : Keeps P w K mg base 2 (He.fAd K ("Session", some "check_free")) 1 G_Session_check_free) (h_Session_do_deed : Keeps P w K mg base 8 (He.fAd K ("Session", some "do_deed")) 2 G_Session_do_deed) (cdv : Value) (A : Around) (outer : List Env) (s : Shared) (H : Hp) (E : XK) (hc : CodeAt K (He.fAd K ("Session", some "read")) cdv) (hr : RoomG 8 (A.deeper (envOfC "Session.read" (defScope (inClass (top 41) 5)) s.heap.objs.size (He.fAd K ("Session", some "read")) cdv))) :
    JSs (cxOf (L2.CX P w) P w K mg base N_Session_read "Session.read" (defScope (inClass (top 41) 5)) (He.fAd K ("Session", some "read")) cdv A outer s H E) (fun cls d _ H => E cls d H) (defBody (inClass (top 41) 5)) b_Session_read := by
  have S := S_Session_read
  exact (jss_cons (js_expr (je_meth0 (je_var (pe_var (i := 0) rfl (.inl rfl))) D.c_Session D.m_Session_check_free h_Session_check_free (hr.mono (by decide)) (takes_of rfl rfl rfl rfl)))
  (jss_cons (js_expr (je_meth (je_var (pe_var (i := 0) rfl (.inl rfl))) D.c_Session D.m_Session_do_deed h_Session_do_deed (hr.mono (by decide)) (takes_of rfl rfl rfl rfl) (ja_cons (je_tup (ja_cons je_str (ja_cons (je_var (pe_var (i := 1) rfl (.inl rfl))) (ja_cons (je_var (pe_var (i := 2) rfl (.inl rfl))) ja_nil)))) ja_nil)))
  (jss_one (js_ret (je_ix (je_fld D.f_unread (je_var (pe_var (i := 0) rfl (.inl rfl)))) (je_var (pe_var (i := 1) rfl (.inl rfl))))))))
theorem S_law_call : FnScope N_law_call ["_law_box", "_law_job_here"] (defScope (top 57)) := ⟨rfl, rfl, rfl, by decide +kernel, rfl, by decide +kernel, by decide +kernel⟩
theorem J_law_call {P : Program} {w : World} {K : Frag} {mg : Str → Option Value} {h base : Heap} (D : Wd w K mg h base) (h_Session_wait : Keeps P w K mg base 9 (He.fAd K ("Session", some "wait")) 2 G_Session_wait) (h_Session_write : Keeps P w K mg base 9 (He.fAd K ("Session", some "write")) 3 G_Session_write) (h_Session_read : Keeps P w K mg base 9 (He.fAd K ("Session", some "read")) 3 G_Session_read) (cdv : Value) (A : Around) (outer : List Env) (s : Shared) (H : Hp) (E : XK) (hc : CodeAt K (He.fAd K ("_law_call", none)) cdv) (hr : RoomG 9 (A.deeper (envOfC "_law_call" (defScope (top 57)) s.heap.objs.size (He.fAd K ("_law_call", none)) cdv))) :
    JSs (cxOf (L2.CX P w) P w K mg base N_law_call "_law_call" (defScope (top 57)) (He.fAd K ("_law_call", none)) cdv A outer s H E) (fun cls d _ H => E cls d H) (defBody (top 57)) b_law_call := by
  have S := S_law_call
  exact (jss_cons (js_if (jt_eqD hr (je_ix (je_var (pe_var (i := 1) rfl (.inl rfl))) je_int) je_str)
  (jss_one (js_ret (je_meth (je_var (pe_var (i := 0) rfl (.inl rfl))) D.c_Session D.m_Session_wait h_Session_wait (hr.mono (by decide)) (takes_of rfl rfl rfl rfl) (ja_cons (je_ix (je_var (pe_var (i := 1) rfl (.inl rfl))) je_int) ja_nil))))
  jss_nil)
  (jss_one (js_ret (je_if (jt_eqD hr (je_ix (je_var (pe_var (i := 1) rfl (.inl rfl))) je_int) je_str) (je_meth (je_var (pe_var (i := 0) rfl (.inl rfl))) D.c_Session D.m_Session_write h_Session_write (hr.mono (by decide)) (takes_of rfl rfl rfl rfl) (ja_cons (je_ix (je_var (pe_var (i := 1) rfl (.inl rfl))) je_int) (ja_cons (je_ix (je_var (pe_var (i := 1) rfl (.inl rfl))) je_int) ja_nil))) (je_meth (je_var (pe_var (i := 0) rfl (.inl rfl))) D.c_Session D.m_Session_read h_Session_read (hr.mono (by decide)) (takes_of rfl rfl rfl rfl) (ja_cons (je_ix (je_var (pe_var (i := 1) rfl (.inl rfl))) je_int) (ja_cons (je_ix (je_var (pe_var (i := 1) rfl (.inl rfl))) je_int) ja_nil)))))))
theorem S_Session_len : FnScope N_Session_len ["self"] (defScope (inClass (top 41) 10)) := ⟨rfl, rfl, rfl, by decide +kernel, rfl, by decide +kernel, by decide +kernel⟩
theorem J_Session_len {P : Program} {w : World} {K : Frag} {mg : Str → Option Value} {h base : Heap} (D : Wd w K mg h base) (cdv : Value) (A : Around) (outer : List Env) (s : Shared) (H : Hp) (E : XK) (hc : CodeAt K (He.fAd K ("Session", some "__len__")) cdv) (hr : RoomG 1 (A.deeper (envOfC "Session.__len__" (defScope (inClass (top 41) 10)) s.heap.objs.size (He.fAd K ("Session", some "__len__")) cdv))) :
    JSs (cxOf (L2.CX P w) P w K mg base N_Session_len "Session.__len__" (defScope (inClass (top 41) 10)) (He.fAd K ("Session", some "__len__")) cdv A outer s H E) (fun cls d _ H => E cls d H) (defBody (inClass (top 41) 10)) b_Session_len := by
  have S := S_Session_len
  exact (jss_one (js_ret (je_B (CallR.or call_len_seq call_len_str) bsLen D.u_len rfl (ja_cons (je_fld D.f_pieces (je_var (pe_var (i := 0) rfl (.inl rfl)))) ja_nil))))
theorem S_Session_repr : FnScope N_Session_repr ["self"] (defScope (inClass (top 41) 11)) := ⟨rfl, rfl, rfl, by decide +kernel, rfl, by decide +kernel, by decide +kernel⟩
theorem J_Session_repr {P : Program} {w : World} {K : Frag} {mg : Str → Option Value} {h base : Heap} (D : Wd w K mg h base) (cdv : Value) (A : Around) (outer : List Env) (s : Shared) (H : Hp) (E : XK) (hc : CodeAt K (He.fAd K ("Session", some "__repr__")) cdv) (hr : RoomG 1 (A.deeper (envOfC "Session.__repr__" (defScope (inClass (top 41) 11)) s.heap.objs.size (He.fAd K ("Session", some "__repr__")) cdv))) :
    JSs (cxOf (L2.CX P w) P w K mg base N_Session_repr "Session.__repr__" (defScope (inClass (top 41) 11)) (He.fAd K ("Session", some "__repr__")) cdv A outer s H E) (fun cls d _ H => E cls d H) (defBody (inClass (top 41) 11)) b_Session_repr := by
  have S := S_Session_repr
  exact (jss_one (js_ret (je_fstr (.cons je_str (.cons (je_fmt (je_fld D.f_now (je_var (pe_var (i := 0) rfl (.inl rfl))))) (.cons je_str (.cons (je_fmt (je_B (CallR.or call_len_seq call_len_str) bsLen D.u_len rfl (ja_cons (je_fld D.f_pieces (je_var (pe_var (i := 0) rfl (.inl rfl)))) ja_nil))) (.cons je_str .nil))))))))
theorem S_law_shown : FnScope N_law_shown ["_law_box"] (defScope (top 56)) := ⟨rfl, rfl, rfl, by decide +kernel, rfl, by decide +kernel, by decide +kernel⟩
theorem J_law_shown {P : Program} {w : World} {K : Frag} {mg : Str → Option Value} {h base : Heap} (D : Wd w K mg h base) (h_Session_len : Keeps P w K mg base 2 (He.fAd K ("Session", some "__len__")) 1 G_Session_len) (h_Session_repr : Keeps P w K mg base 2 (He.fAd K ("Session", some "__repr__")) 1 G_Session_repr) (cdv : Value) (A : Around) (outer : List Env) (s : Shared) (H : Hp) (E : XK) (hc : CodeAt K (He.fAd K ("_law_shown", none)) cdv) (hr : RoomG 5 (A.deeper (envOfC "_law_shown" (defScope (top 56)) s.heap.objs.size (He.fAd K ("_law_shown", none)) cdv))) :
    JSs (cxOf (L2.CX P w) P w K mg base N_law_shown "_law_shown" (defScope (top 56)) (He.fAd K ("_law_shown", none)) cdv A outer s H E) (fun cls d _ H => E cls d H) (defBody (top 56)) b_law_shown := by
  have S := S_law_shown
  exact (jss_cons (js_set (je_lst (ja_cons (je_fld D.f_now (je_var (pe_var (i := 0) rfl (.inl rfl)))) (ja_cons (je_fld D.f_holding (je_var (pe_var (i := 0) rfl (.inl rfl)))) (ja_cons (je_fld D.f_unread (je_var (pe_var (i := 0) rfl (.inl rfl)))) (ja_cons (je_fld D.f_unanswered (je_var (pe_var (i := 0) rfl (.inl rfl)))) (ja_cons (je_fld D.f_pieces (je_var (pe_var (i := 0) rfl (.inl rfl)))) (ja_cons (je_fld D.f_under_way (je_var (pe_var (i := 0) rfl (.inl rfl)))) (ja_cons (je_fld D.f_busy (je_var (pe_var (i := 0) rfl (.inl rfl)))) (ja_cons (je_B (cro_len h_Session_len (hr.mono (by decide)) D.m_Session_len.at_ D.m_Session_len.fn) (bsLenO h_Session_len.mono) D.u_len rfl (ja_cons (je_var (pe_var (i := 0) rfl (.inl rfl))) ja_nil)) ja_nil))))))))) (fun h => ps_set (i := 1) S.nd rfl (.inl rfl) h))
  (jss_one (js_ret (je_plus (je_var (pe_var (i := 1) rfl (.inl rfl))) (je_lst (ja_cons (je_B (cro_repr h_Session_repr (hr.mono (by decide)) D.m_Session_repr.at_ D.m_Session_repr.fn) (bsReprO h_Session_repr.mono) D.u_repr rfl (ja_cons (je_var (pe_var (i := 0) rfl (.inl rfl))) ja_nil)) (ja_cons (je_BT (cro_bool h_Session_len (hr.mono (by decide)) D.n_Session_bool D.m_Session_len.at_ D.m_Session_len.fn) (bsBoolO h_Session_len.mono) D.u_bool rfl (ja_cons (je_var (pe_var (i := 0) rfl (.inl rfl))) ja_nil)) ja_nil)))))))
theorem S_law_in_parts : FnScope N_law_in_parts ["_law_well_here", "_law_box", "_law_ticks"] (defScope (top 59)) := ⟨rfl, rfl, rfl, by decide +kernel, rfl, by decide +kernel, by decide +kernel⟩
theorem J_law_in_parts {P : Program} {w : World} {K : Frag} {mg : Str → Option Value} {h base : Heap} (D : Wd w K mg h base) (h_law_draw : Keeps P w K mg base 2 (He.fAd K ("_law_draw", none)) 2 G_law_draw) (h_Session_wait : Keeps P w K mg base 9 (He.fAd K ("Session", some "wait")) 2 G_Session_wait) (h_law_shown : Keeps P w K mg base 6 (He.fAd K ("_law_shown", none)) 1 G_law_shown) (cdv : Value) (A : Around) (outer : List Env) (s : Shared) (H : Hp) (E : XK) (hc : CodeAt K (He.fAd K ("_law_in_parts", none)) cdv) (hr : RoomG 9 (A.deeper (envOfC "_law_in_parts" (defScope (top 59)) s.heap.objs.size (He.fAd K ("_law_in_parts", none)) cdv))) :
    JSs (cxOf (L2.CX P w) P w K mg base N_law_in_parts "_law_in_parts" (defScope (top 59)) (He.fAd K ("_law_in_parts", none)) cdv A outer s H E) (fun cls d _ H => E cls d H) (defBody (top 59)) b_law_in_parts := by
  have S := S_law_in_parts
  exact (jss_cons (js_set (je_var (pe_var (i := 2) rfl (.inl rfl))) (fun h => ps_set (i := 3) S.nd rfl (.inl rfl) h))
  (jss_cons (js_for (passes_of rfl) rfl (ji_range1 D.u_range (ja_cons (je_var (pe_var (i := 2) rfl (.inl rfl))) ja_nil)) (jg_name (i := 4) (pg_name S.nd rfl (.inl rfl)))
  (jss_one (js_if (jt_gt (je_var (pe_var (i := 3) rfl (.inl rfl))) je_int)
  (jss_cons (js_set (je_if (PWPT (jw_or (jt_lt (je_var (pe_var (i := 4) rfl (.inl rfl))) je_int) (jw_or1 (jt_eqD hr (je_var (pe_var (i := 3) rfl (.inl rfl))) je_int)))) je_int (je_plus je_int (je_call h_law_draw (hr.mono (by decide)) D.g__law_draw D.k_law_draw (takes_of rfl rfl rfl rfl) (ja_cons (je_var (pe_var (i := 0) rfl (.inl rfl))) (ja_cons (je_var (pe_var (i := 3) rfl (.inl rfl))) ja_nil))))) (fun h => ps_set (i := 5) S.nd rfl (.inl rfl) h))
  (jss_cons (js_if (jt_gt (je_var (pe_var (i := 4) rfl (.inl rfl))) je_int)
  (jss_one (js_set (je_var (pe_var (i := 3) rfl (.inl rfl))) (fun h => ps_set (i := 5) S.nd rfl (.inl rfl) h)))
  jss_nil)
  (jss_cons (js_asg (je_tup (ja_cons (je_fld D.f_pieces (je_var (pe_var (i := 1) rfl (.inr (.inl rfl))))) (ja_cons (je_fld D.f_now (je_var (pe_var (i := 1) rfl (.inr (.inl rfl))))) ja_nil))) (jg_tup rfl (jgs_cons (W := NoW) (jg_name (i := 6) (pg_name S.nd rfl (.inl rfl))) (jgs_cons (W := NoW) (jg_name (i := 7) (pg_name S.nd rfl (.inr rfl))) jgs_nil))))
  (jss_cons (js_if (PWPT (jw_or (jt_neD hr (je_meth (je_var (pe_var (i := 1) rfl (.inr (.inl rfl)))) D.c_Session D.m_Session_wait h_Session_wait (hr.mono (by decide)) (takes_of rfl rfl rfl rfl) (ja_cons (je_var (pe_var (i := 5) rfl (.inl rfl))) ja_nil)) (je_plus (je_var (pe_var (i := 7) rfl (.inr (.inl rfl)))) (je_var (pe_var (i := 5) rfl (.inl rfl))))) (jw_or1 (jt_neD hr (je_fld D.f_now (je_var (pe_var (i := 1) rfl (.inr (.inl rfl))))) (je_plus (je_var (pe_var (i := 7) rfl (.inr (.inl rfl)))) (je_var (pe_var (i := 5) rfl (.inl rfl))))))))
  (jss_one (js_ret je_bl))
  jss_nil)
  (jss_cons (js_set (je_sub (je_var (pe_var (i := 3) rfl (.inl rfl))) (je_var (pe_var (i := 5) rfl (.inl rfl)))) (fun h => ps_set (i := 3) S.nd rfl (.inl rfl) h))
  (jss_cons (js_setLc (own := [("_law_each", 9)]) (p := (.nm 9)) rfl S.nd rfl rfl (sw_true rfl rfl rfl rfl) (ji_seq (je_fld D.f_pieces (je_var (pe_var (i := 1) rfl (.inr (.inl rfl)))))) (blkOk_by rfl) (by decide) (fun _ _ _ _ _ => pg_name S.nd rfl (.inl rfl)) (fun _ _ _ _ _ => (jts_one (jt_lt (je_ix (je_var (pe_var (i := 9) rfl (.inl rfl))) je_int) (je_var (pe_var (i := 7) rfl (.inr (.inl rfl))))))) (fun _ _ _ _ _ => (je_var (pe_var (i := 9) rfl (.inl rfl)))))
  (jss_cons (js_if (PWPT (jw_or (jt_neD hr (je_var (pe_var (i := 8) rfl (.inl rfl))) (je_lc (own := [("_law_each", 9)]) (p := (.nm 9)) rfl S.nd (ji_seq (je_var (pe_var (i := 6) rfl (.inl rfl)))) (blkOk_by rfl) (by decide) (fun _ _ _ _ _ => pg_name S.nd rfl (.inl rfl)) (fun _ _ _ _ _ => (jts_one (jt_lt (je_ix (je_var (pe_var (i := 9) rfl (.inl rfl))) je_int) (je_var (pe_var (i := 7) rfl (.inr (.inl rfl))))))) (fun _ _ _ _ _ => (je_var (pe_var (i := 9) rfl (.inl rfl)))))) (jw_or1 (jt_not (jt_val (je_B (cr_all rfl) bsAll D.u_all rfl (ja_cons (je_lc (own := [("_law_each", 9)]) (p := (.nm 9)) rfl S.nd (ji_seq (je_var (pe_var (i := 6) rfl (.inl rfl)))) (blkOk_by rfl) (by decide) (fun _ _ _ _ _ => pg_name S.nd rfl (.inl rfl)) (fun _ _ _ _ _ => jts_nil) (fun _ _ _ _ _ => (je_inD hr (je_var (pe_var (i := 9) rfl (.inl rfl))) (je_fld D.f_pieces (je_var (pe_var (i := 1) rfl (.inr (.inl rfl)))))))) ja_nil)))))))
  (jss_one (js_ret je_bl))
  jss_nil)
  (jss_one (js_if (jt_neD hr (je_B (cr_reprD hr) bsReprD D.u_repr rfl (ja_cons (je_call h_law_shown (hr.mono (by decide)) D.g__law_shown D.k_law_shown (takes_of rfl rfl rfl rfl) (ja_cons (je_var (pe_var (i := 1) rfl (.inr (.inl rfl)))) ja_nil)) ja_nil)) (je_B (cr_reprD hr) bsReprD D.u_repr rfl (ja_cons (je_call h_law_shown (hr.mono (by decide)) D.g__law_shown D.k_law_shown (takes_of rfl rfl rfl rfl) (ja_cons (je_var (pe_var (i := 1) rfl (.inr (.inl rfl)))) ja_nil)) ja_nil)))
  (jss_one (js_ret je_bl))
  jss_nil)))))))))
  jss_nil)))
  (jss_one (js_ret je_bl))))
theorem S_law_right : FnScope N_law_right ["_law_well_here"] (defScope (top 60)) := ⟨rfl, rfl, rfl, by decide +kernel, rfl, by decide +kernel, by decide +kernel⟩
theorem J_law_right {P : Program} {w : World} {K : Frag} {mg : Str → Option Value} {h base : Heap} (D : Wd w K mg h base) (h_law_told : Keeps P w K mg base 5 (He.fAd K ("_law_told", none)) 1 G_law_told) (h_law_new : Keeps P w K mg base 2 (He.fAd K ("_law_new", none)) 1 G_law_new) (h_law_made : Keeps P w K mg base 7 (He.fAd K ("_law_made", none)) 1 G_law_made) (h_Session_init : Keeps P w K mg base 4 (He.fAd K ("Session", some "__init__")) 2 G_Session_init) (h_law_job : Keeps P w K mg base 4 (He.fAd K ("_law_job", none)) 2 G_law_job) (h_law_done : Keeps P w K mg base 5 (He.fAd K ("_law_done", none)) 2 G_law_done) (h_law_call : Keeps P w K mg base 10 (He.fAd K ("_law_call", none)) 2 G_law_call) (h_law_in_parts : Keeps P w K mg base 10 (He.fAd K ("_law_in_parts", none)) 3 G_law_in_parts) (h_law_shown : Keeps P w K mg base 6 (He.fAd K ("_law_shown", none)) 1 G_law_shown) (cdv : Value) (A : Around) (outer : List Env) (s : Shared) (H : Hp) (E : XK) (hc : CodeAt K (He.fAd K ("_law_right", none)) cdv) (hr : RoomG 10 (A.deeper (envOfC "_law_right" (defScope (top 60)) s.heap.objs.size (He.fAd K ("_law_right", none)) cdv))) :
    JSs (cxOf (L2.CX P w) P w K mg base N_law_right "_law_right" (defScope (top 60)) (He.fAd K ("_law_right", none)) cdv A outer s H E) (fun cls d _ H => E cls d H) (defBody (top 60)) b_law_right := by
  have S := S_law_right
  exact (jss_cons (js_set (je_call h_law_told (hr.mono (by decide)) D.g__law_told D.k_law_told (takes_of rfl rfl rfl rfl) (ja_cons (je_var (pe_var (i := 0) rfl (.inl rfl))) ja_nil)) (fun h => ps_set (i := 1) S.nd rfl (.inl rfl) h))
  (jss_cons (js_par (ja_cons (je_call h_law_made (hr.mono (by decide)) D.g__law_made D.k_law_made (takes_of rfl rfl rfl rfl) (ja_cons (je_var (pe_var (i := 1) rfl (.inl rfl))) ja_nil)) (ja_cons (je_call h_law_new (hr.mono (by decide)) D.g__law_new D.k_law_new (takes_of rfl rfl rfl rfl) (ja_cons (je_var (pe_var (i := 1) rfl (.inl rfl))) ja_nil)) ja_nil)) (fun h => ps_par (i := 2) (j := 3) rfl S.nd rfl rfl (by decide) rfl rfl h rfl))
  (jss_cons (js_par3 (ja_cons (je_make D.mk_Session h_Session_init (hr.mono (by decide)) D.g_Session (takes_of rfl rfl rfl rfl) (ja_cons (je_var (pe_var (i := 2) rfl (.inl rfl))) ja_nil)) (ja_cons (je_make D.mk_Session h_Session_init (hr.mono (by decide)) D.g_Session (takes_of rfl rfl rfl rfl) (ja_cons (je_var (pe_var (i := 2) rfl (.inl rfl))) ja_nil)) (ja_cons je_int ja_nil))) (fun h => ps_par3 (i := 4) (j := 5) (l := 6) rfl S.nd rfl rfl rfl (by decide) (by decide) (by decide) rfl rfl rfl h rfl))
  (jss_cons (js_for (passes_of rfl) rfl (ji_range1 D.u_range (ja_cons je_int ja_nil)) (jg_name (i := 7) (pg_name S.nd rfl (.inl rfl)))
  (jss_cons (js_set (je_call h_law_job (hr.mono (by decide)) D.g__law_job D.k_law_job (takes_of rfl rfl rfl rfl) (ja_cons (je_var (pe_var (i := 0) rfl (.inl rfl))) (ja_cons (je_var (pe_var (i := 3) rfl (.inl rfl))) ja_nil))) (fun h => ps_set (i := 8) S.nd rfl (.inl rfl) h))
  (jss_cons (js_expr (je_call h_law_done (hr.mono (by decide)) D.g__law_done D.k_law_done (takes_of rfl rfl rfl rfl) (ja_cons (je_var (pe_var (i := 3) rfl (.inl rfl))) (ja_cons (je_var (pe_var (i := 8) rfl (.inl rfl))) ja_nil))))
  (jss_cons (js_set (je_call h_law_call (hr.mono (by decide)) D.g__law_call D.k_law_call (takes_of rfl rfl rfl rfl) (ja_cons (je_var (pe_var (i := 4) rfl (.inl rfl))) (ja_cons (je_var (pe_var (i := 8) rfl (.inl rfl))) ja_nil))) (fun h => ps_set (i := 9) S.nd rfl (.inl rfl) h))
  (jss_cons (js_if (jt_eqD hr (je_ix (je_var (pe_var (i := 8) rfl (.inl rfl))) je_int) je_str)
  (jss_cons (js_set (je_plus (je_var (pe_var (i := 6) rfl (.inl rfl))) (je_ix (je_var (pe_var (i := 8) rfl (.inl rfl))) je_int)) (fun h => ps_set (i := 6) S.nd rfl (.inl rfl) h))
  (jss_one (js_if (PWPT (jw_or (jt_neD hr (je_var (pe_var (i := 9) rfl (.inl rfl))) (je_var (pe_var (i := 6) rfl (.inl rfl)))) (jw_or1 (jt_not (jt_val (je_call h_law_in_parts (hr.mono (by decide)) D.g__law_in_parts D.k_law_in_parts (takes_of rfl rfl rfl rfl) (ja_cons (je_var (pe_var (i := 0) rfl (.inl rfl))) (ja_cons (je_var (pe_var (i := 5) rfl (.inl rfl))) (ja_cons (je_ix (je_var (pe_var (i := 8) rfl (.inl rfl))) je_int) ja_nil)))))))))
  (jss_one (js_ret je_bl))
  jss_nil)))
  (jss_one (js_if (jt_neD hr (je_call h_law_call (hr.mono (by decide)) D.g__law_call D.k_law_call (takes_of rfl rfl rfl rfl) (ja_cons (je_var (pe_var (i := 5) rfl (.inl rfl))) (ja_cons (je_var (pe_var (i := 8) rfl (.inl rfl))) ja_nil))) (je_var (pe_var (i := 9) rfl (.inl rfl))))
  (jss_one (js_ret je_bl))
  jss_nil)))
  (jss_one (js_if (PWPT (jw_or (jt_neD hr (je_B (cr_reprD hr) bsReprD D.u_repr rfl (ja_cons (je_call h_law_shown (hr.mono (by decide)) D.g__law_shown D.k_law_shown (takes_of rfl rfl rfl rfl) (ja_cons (je_var (pe_var (i := 4) rfl (.inl rfl))) ja_nil)) ja_nil)) (je_B (cr_reprD hr) bsReprD D.u_repr rfl (ja_cons (je_call h_law_shown (hr.mono (by decide)) D.g__law_shown D.k_law_shown (takes_of rfl rfl rfl rfl) (ja_cons (je_var (pe_var (i := 5) rfl (.inl rfl))) ja_nil)) ja_nil))) (jw_or1 (jt_neD hr (je_fld D.f_now (je_var (pe_var (i := 4) rfl (.inl rfl)))) (je_var (pe_var (i := 6) rfl (.inl rfl)))))))
  (jss_one (js_ret je_bl))
  jss_nil)))))))
  (jss_one (js_ret je_bl))))))
theorem S_law_well : FnScope N_law_well ["_law_script", "_law_k"] (defScope (top 43)) := ⟨rfl, rfl, rfl, by decide +kernel, rfl, by decide +kernel, by decide +kernel⟩
theorem J_law_well {P : Program} {w : World} {K : Frag} {mg : Str → Option Value} {h base : Heap} (D : Wd w K mg h base) (cdv : Value) (A : Around) (outer : List Env) (s : Shared) (H : Hp) (E : XK) (hc : CodeAt K (He.fAd K ("_law_well", none)) cdv) (hr : RoomG 1 (A.deeper (envOfC "_law_well" (defScope (top 43)) s.heap.objs.size (He.fAd K ("_law_well", none)) cdv))) :
    JSs (cxOf (L2.CX P w) P w K mg base N_law_well "_law_well" (defScope (top 43)) (He.fAd K ("_law_well", none)) cdv A outer s H E) (fun cls d _ H => E cls d H) (defBody (top 43)) b_law_well := by
  have S := S_law_well
  exact (jss_cons (js_set (je_if (jt_lt (je_var (pe_var (i := 1) rfl (.inl rfl))) (je_B (CallR.or call_len_seq call_len_str) bsLen D.u_len rfl (ja_cons (je_var (pe_var (i := 0) rfl (.inl rfl))) ja_nil))) (je_BT call_int1 bsInt D.u_int rfl (ja_cons (je_ix (je_var (pe_var (i := 0) rfl (.inl rfl))) (je_var (pe_var (i := 1) rfl (.inl rfl)))) ja_nil)) (je_plus (je_mul je_int (je_var (pe_var (i := 1) rfl (.inl rfl)))) je_int)) (fun h => ps_set (i := 2) S.nd rfl (.inl rfl) h))
  (jss_cons (js_set (je_plus je_int (je_mul je_int (je_var (pe_var (i := 1) rfl (.inl rfl))))) (fun h => ps_set (i := 3) S.nd rfl (.inl rfl) h))
  (jss_cons (js_for (passes_of rfl) rfl (ji_seq (je_sl (je_var (pe_var (i := 0) rfl (.inl rfl))) jo_none (jo_some je_int))) (jg_name (i := 4) (pg_name S.nd rfl (.inl rfl)))
  (jss_one (js_set (je_mod (je_BT call_int1 bsInt D.u_int rfl (ja_cons (je_plus (je_mul (je_var (pe_var (i := 3) rfl (.inl rfl))) je_int) (je_BT call_int1 bsInt D.u_int rfl (ja_cons (je_var (pe_var (i := 4) rfl (.inl rfl))) ja_nil))) ja_nil)) je_int) (fun h => ps_set (i := 3) S.nd rfl (.inl rfl) h))))
  (jss_one (js_ret (je_lstM (ja_cons (je_mod (je_BT call_int1 bsInt D.u_int rfl (ja_cons (je_plus (je_var (pe_var (i := 3) rfl (.inl rfl))) (je_mul (je_var (pe_var (i := 2) rfl (.inl rfl))) je_int)) ja_nil)) je_int) (ja_cons je_int (ja_cons (je_if (PWPT (jw_or (jt_lt (je_var (pe_var (i := 2) rfl (.inl rfl))) je_int) (jw_or1 (jt_ge (je_var (pe_var (i := 2) rfl (.inl rfl))) (je_pow je_int je_int))))) (je_B call_abs bsAbs D.u_abs rfl (ja_cons (je_var (pe_var (i := 2) rfl (.inl rfl))) ja_nil)) je_int) ja_nil)))))))))
theorem S_law : FnScope N_law ["_law_script"] (defScope (top 61)) := ⟨rfl, rfl, rfl, by decide +kernel, rfl, by decide +kernel, by decide +kernel⟩
theorem J_law {P : Program} {w : World} {K : Frag} {mg : Str → Option Value} {h base : Heap} (D : Wd w K mg h base) (h_law_right : Keeps P w K mg base 11 (He.fAd K ("_law_right", none)) 1 G_law_right) (h_law_well : Keeps P w K mg base 2 (He.fAd K ("_law_well", none)) 2 G_law_well) (cdv : Value) (A : Around) (outer : List Env) (s : Shared) (H : Hp) (E : XK) (hc : CodeAt K (He.fAd K ("law", none)) cdv) (hr : RoomG 11 (A.deeper (envOfC "law" (defScope (top 61)) s.heap.objs.size (He.fAd K ("law", none)) cdv))) :
    JSs (cxOf (L2.CX P w) P w K mg base N_law "law" (defScope (top 61)) (He.fAd K ("law", none)) cdv A outer s H E) (fun cls d _ H => E cls d H) (defBody (top 61)) b_law := by
  have S := S_law
  exact (jss_one (js_ret (je_B (cr_all rfl) bsAll D.u_all rfl (ja_cons (je_lc (own := [("_law_k", 1)]) (p := (.nm 1)) rfl S.nd (ji_range1 D.u_range (ja_cons (je_B (call_max2 rfl) bsMax2 D.u_max rfl (ja_cons je_int (ja_cons (je_B (call_min2 rfl) bsMin2 D.u_min rfl (ja_cons (je_B (CallR.or call_len_seq call_len_str) bsLen D.u_len rfl (ja_cons (je_var (pe_var (i := 0) rfl (.inr (.inl rfl)))) ja_nil)) (ja_cons je_int ja_nil))) ja_nil))) ja_nil)) (blkOk_by rfl) (by decide) (fun _ _ _ _ _ => pg_name S.nd rfl (.inl rfl)) (fun _ _ _ _ _ => jts_nil) (fun _ _ _ _ _ => (je_call h_law_right (hr.mono (by decide)) D.g__law_right D.k_law_right (tk0) (ja_cons (je_call h_law_well (hr.mono (by decide)) D.g__law_well D.k_law_well (tk0) (ja_cons (je_var (pe_var (i := 0) rfl (.inr (.inl rfl)))) (ja_cons (je_var (pe_var (i := 1) rfl (.inl rfl))) ja_nil))) ja_nil)))) ja_nil))))
end LL.K80
end

section
set_option Elab.async false
set_option linter.all false
set_option maxRecDepth 100000
set_option maxHeartbeats 4000000
namespace LL.K80
open PySem PySem.Spec PyProof.Rows L2 LL
theorem K_law_draw {P : Program} {w : World} {K : Frag} {mg : Str → Option Value} {h base : Heap} (D : Wd w K mg h base) : Keeps P w K mg base 2 (He.fAd K ("_law_draw", none)) 2 G_law_draw := by
  obtain ⟨fd, F⟩ := D.fd_law_draw
  exact keeps_of F S_law_draw rfl (FunD.bindsN F fun _ _ _ _ _ _ us hl => match us, hl with | [_, _], _ => rfl) M_law_draw (J_law_draw D ) V_law_draw
theorem K_law_one_of {P : Program} {w : World} {K : Frag} {mg : Str → Option Value} {h base : Heap} (D : Wd w K mg h base) (h_law_draw : Keeps P w K mg base 2 (He.fAd K ("_law_draw", none)) 2 G_law_draw) : Keeps P w K mg base 3 (He.fAd K ("_law_one_of", none)) 2 G_law_one_of := by
  obtain ⟨fd, F⟩ := D.fd_law_one_of
  exact keeps_of F S_law_one_of rfl (FunD.bindsN F fun _ _ _ _ _ _ us hl => match us, hl with | [_, _], _ => rfl) M_law_one_of (J_law_one_of D h_law_draw) V_law_one_of
theorem K_law_ways {P : Program} {w : World} {K : Frag} {mg : Str → Option Value} {h base : Heap} (D : Wd w K mg h base) (h_law_one_of : Keeps P w K mg base 3 (He.fAd K ("_law_one_of", none)) 2 G_law_one_of) (h_law_draw : Keeps P w K mg base 2 (He.fAd K ("_law_draw", none)) 2 G_law_draw) : Keeps P w K mg base 4 (He.fAd K ("_law_ways", none)) 1 G_law_ways := by
  obtain ⟨fd, F⟩ := D.fd_law_ways
  exact keeps_of F S_law_ways rfl (FunD.bindsN F fun _ _ _ _ _ _ us hl => match us, hl with | [_], _ => rfl) M_law_ways (J_law_ways D h_law_one_of h_law_draw) V_law_ways
theorem K_law_told {P : Program} {w : World} {K : Frag} {mg : Str → Option Value} {h base : Heap} (D : Wd w K mg h base) (h_law_one_of : Keeps P w K mg base 3 (He.fAd K ("_law_one_of", none)) 2 G_law_one_of) (h_law_draw : Keeps P w K mg base 2 (He.fAd K ("_law_draw", none)) 2 G_law_draw) (h_law_ways : Keeps P w K mg base 4 (He.fAd K ("_law_ways", none)) 1 G_law_ways) : Keeps P w K mg base 5 (He.fAd K ("_law_told", none)) 1 G_law_told := by
  obtain ⟨fd, F⟩ := D.fd_law_told
  exact keeps_of F S_law_told rfl (FunD.bindsN F fun _ _ _ _ _ _ us hl => match us, hl with | [_], _ => rfl) M_law_told (J_law_told D h_law_one_of h_law_draw h_law_ways) V_law_told
theorem K_law_new {P : Program} {w : World} {K : Frag} {mg : Str → Option Value} {h base : Heap} (D : Wd w K mg h base) : Keeps P w K mg base 2 (He.fAd K ("_law_new", none)) 1 G_law_new := by
  obtain ⟨fd, F⟩ := D.fd_law_new
  exact keeps_of F S_law_new rfl (FunD.bindsN F fun _ _ _ _ _ _ us hl => match us, hl with | [_], _ => rfl) M_law_new (J_law_new D ) V_law_new
theorem K_is_integer {P : Program} {w : World} {K : Frag} {mg : Str → Option Value} {h base : Heap} (D : Wd w K mg h base) : Keeps P w K mg base 2 (He.fAd K ("is_integer", none)) 1 G_is_integer := by
  obtain ⟨fd, F⟩ := D.fd_is_integer
  exact keeps_of F S_is_integer rfl (FunD.bindsN F fun _ _ _ _ _ _ us hl => match us, hl with | [_], _ => rfl) M_is_integer (J_is_integer D ) V_is_integer
theorem K_is_between {P : Program} {w : World} {K : Frag} {mg : Str → Option Value} {h base : Heap} (D : Wd w K mg h base) (h_is_integer : Keeps P w K mg base 2 (He.fAd K ("is_integer", none)) 1 G_is_integer) : Keeps P w K mg base 3 (He.fAd K ("is_between", none)) 3 G_is_between := by
  obtain ⟨fd, F⟩ := D.fd_is_between
  exact keeps_of F S_is_between rfl (FunD.bindsN F fun _ _ _ _ _ _ us hl => match us, hl with | [_, _, _], _ => rfl) M_is_between (J_is_between D h_is_integer) V_is_between
theorem K_check_number {P : Program} {w : World} {K : Frag} {mg : Str → Option Value} {h base : Heap} (D : Wd w K mg h base) (h_is_between : Keeps P w K mg base 3 (He.fAd K ("is_between", none)) 3 G_is_between) : Keeps P w K mg base 4 (He.fAd K ("check_number", none)) 3 G_check_number := by
  obtain ⟨fd, F⟩ := D.fd_check_number
  exact keeps_of F S_check_number rfl (FunD.bindsN F fun _ _ _ _ _ _ us hl => match us, hl with | [_, _, _], _ => rfl) M_check_number (J_check_number D h_is_between) V_check_number
theorem K_check_setting {P : Program} {w : World} {K : Frag} {mg : Str → Option Value} {h base : Heap} (D : Wd w K mg h base) : Keeps P w K mg base 2 (He.fAd K ("check_setting", none)) 1 G_check_setting := by
  obtain ⟨fd, F⟩ := D.fd_check_setting
  exact keeps_of F S_check_setting rfl (FunD.bindsN F fun _ _ _ _ _ _ us hl => match us, hl with | [_], _ => rfl) M_check_setting (J_check_setting D ) V_check_setting
theorem K_Line_init {P : Program} {w : World} {K : Frag} {mg : Str → Option Value} {h base : Heap} (D : Wd w K mg h base) (h_check_number : Keeps P w K mg base 4 (He.fAd K ("check_number", none)) 3 G_check_number) (h_check_setting : Keeps P w K mg base 2 (He.fAd K ("check_setting", none)) 1 G_check_setting) : Keeps P w K mg base 5 (He.fAd K ("Line", some "__init__")) 5 G_Line_init := by
  obtain ⟨fd, F⟩ := D.fd_Line_init
  exact keeps_of F S_Line_init rfl (FunD.bindsN F fun _ _ _ _ _ _ us hl => match us, hl with | [_, _, _, _, _], _ => rfl) M_Line_init (J_Line_init D h_check_number h_check_setting) V_Line_init
theorem K_Setting_init {P : Program} {w : World} {K : Frag} {mg : Str → Option Value} {h base : Heap} (D : Wd w K mg h base) (h_check_number : Keeps P w K mg base 4 (He.fAd K ("check_number", none)) 3 G_check_number) : Keeps P w K mg base 5 (He.fAd K ("Setting", some "__init__")) 4 G_Setting_init := by
  obtain ⟨fd, F⟩ := D.fd_Setting_init
  exact keeps_of F S_Setting_init rfl (FunD.bindsN F fun _ _ _ _ _ _ us hl => match us, hl with | [_, _, _, _], _ => rfl) M_Setting_init (J_Setting_init D h_check_number) V_Setting_init
theorem K_law_made {P : Program} {w : World} {K : Frag} {mg : Str → Option Value} {h base : Heap} (D : Wd w K mg h base) (h_Line_init : Keeps P w K mg base 5 (He.fAd K ("Line", some "__init__")) 5 G_Line_init) (h_Setting_init : Keeps P w K mg base 5 (He.fAd K ("Setting", some "__init__")) 4 G_Setting_init) : Keeps P w K mg base 7 (He.fAd K ("_law_made", none)) 1 G_law_made := by
  obtain ⟨fd, F⟩ := D.fd_law_made
  exact keeps_of F S_law_made rfl (FunD.bindsN F fun _ _ _ _ _ _ us hl => match us, hl with | [_], _ => rfl) M_law_made (J_law_made D h_Line_init h_Setting_init) V_law_made
theorem K_check_line {P : Program} {w : World} {K : Frag} {mg : Str → Option Value} {h base : Heap} (D : Wd w K mg h base) : Keeps P w K mg base 2 (He.fAd K ("check_line", none)) 1 G_check_line := by
  obtain ⟨fd, F⟩ := D.fd_check_line
  exact keeps_of F S_check_line rfl (FunD.bindsN F fun _ _ _ _ _ _ us hl => match us, hl with | [_], _ => rfl) M_check_line (J_check_line D ) V_check_line
theorem K_Flow_kept {P : Program} {w : World} {K : Frag} {mg : Str → Option Value} {h base : Heap} (D : Wd w K mg h base) : Keeps P w K mg base 2 (He.fAd K ("Flow", some "kept")) 2 G_Flow_kept := by
  obtain ⟨fd, F⟩ := D.fd_Flow_kept
  exact keeps_of F S_Flow_kept rfl (FunD.bindsN F fun _ _ _ _ _ _ us hl => match us, hl with | [_, _], _ => rfl) M_Flow_kept (J_Flow_kept D ) V_Flow_kept
theorem K_Flow_fresh {P : Program} {w : World} {K : Frag} {mg : Str → Option Value} {h base : Heap} (D : Wd w K mg h base) : Keeps P w K mg base 2 (He.fAd K ("Flow", some "fresh")) 2 G_Flow_fresh := by
  obtain ⟨fd, F⟩ := D.fd_Flow_fresh
  exact keeps_of F S_Flow_fresh rfl (FunD.bindsN F fun _ _ _ _ _ _ us hl => match us, hl with | [_, _], _ => rfl) M_Flow_fresh (J_Flow_fresh D ) V_Flow_fresh
theorem K_Session_show {P : Program} {w : World} {K : Frag} {mg : Str → Option Value} {h base : Heap} (D : Wd w K mg h base) (h_Flow_kept : Keeps P w K mg base 2 (He.fAd K ("Flow", some "kept")) 2 G_Flow_kept) (h_Flow_fresh : Keeps P w K mg base 2 (He.fAd K ("Flow", some "fresh")) 2 G_Flow_fresh) : Keeps P w K mg base 3 (He.fAd K ("Session", some "show")) 3 G_Session_show := by
  obtain ⟨fd, F⟩ := D.fd_Session_show
  exact keeps_of F S_Session_show rfl (FunD.bindsN F fun _ _ _ _ _ _ us hl => match us, hl with | [_, _, _], _ => rfl) M_Session_show (J_Session_show D h_Flow_kept h_Flow_fresh) V_Session_show
theorem K_Flow_init {P : Program} {w : World} {K : Frag} {mg : Str → Option Value} {h base : Heap} (D : Wd w K mg h base) : Keeps P w K mg base 2 (He.fAd K ("Flow", some "__init__")) 2 G_Flow_init := by
  obtain ⟨fd, F⟩ := D.fd_Flow_init
  exact keeps_of F S_Flow_init rfl (FunD.bindsN F fun _ _ _ _ _ _ us hl => match us, hl with | [_, _], _ => rfl) M_Flow_init (J_Flow_init D ) V_Flow_init
theorem K_Session_init {P : Program} {w : World} {K : Frag} {mg : Str → Option Value} {h base : Heap} (D : Wd w K mg h base) (h_check_line : Keeps P w K mg base 2 (He.fAd K ("check_line", none)) 1 G_check_line) (h_Session_show : Keeps P w K mg base 3 (He.fAd K ("Session", some "show")) 3 G_Session_show) (h_Flow_init : Keeps P w K mg base 2 (He.fAd K ("Flow", some "__init__")) 2 G_Flow_init) : Keeps P w K mg base 4 (He.fAd K ("Session", some "__init__")) 2 G_Session_init := by
  obtain ⟨fd, F⟩ := D.fd_Session_init
  exact keeps_of F S_Session_init rfl (FunD.bindsN F fun _ _ _ _ _ _ us hl => match us, hl with | [_, _], _ => rfl) M_Session_init (J_Session_init D h_check_line h_Session_show h_Flow_init) V_Session_init
theorem K_law_job {P : Program} {w : World} {K : Frag} {mg : Str → Option Value} {h base : Heap} (D : Wd w K mg h base) (h_law_draw : Keeps P w K mg base 2 (He.fAd K ("_law_draw", none)) 2 G_law_draw) (h_law_one_of : Keeps P w K mg base 3 (He.fAd K ("_law_one_of", none)) 2 G_law_one_of) : Keeps P w K mg base 4 (He.fAd K ("_law_job", none)) 2 G_law_job := by
  obtain ⟨fd, F⟩ := D.fd_law_job
  exact keeps_of F S_law_job rfl (FunD.bindsN F fun _ _ _ _ _ _ us hl => match us, hl with | [_, _], _ => rfl) M_law_job (J_law_job D h_law_draw h_law_one_of) V_law_job
theorem K_law_send {P : Program} {w : World} {K : Frag} {mg : Str → Option Value} {h base : Heap} (D : Wd w K mg h base) : Keeps P w K mg base 2 (He.fAd K ("_law_send", none)) 3 G_law_send := by
  obtain ⟨fd, F⟩ := D.fd_law_send
  exact keeps_of F S_law_send rfl (FunD.bindsN F fun _ _ _ _ _ _ us hl => match us, hl with | [_, _, _], _ => rfl) M_law_send (J_law_send D ) V_law_send
theorem K_law_leave {P : Program} {w : World} {K : Frag} {mg : Str → Option Value} {h base : Heap} (D : Wd w K mg h base) (h_law_send : Keeps P w K mg base 2 (He.fAd K ("_law_send", none)) 3 G_law_send) : Keeps P w K mg base 3 (He.fAd K ("_law_leave", none)) 1 G_law_leave := by
  obtain ⟨fd, F⟩ := D.fd_law_leave
  exact keeps_of F S_law_leave rfl (FunD.bindsN F fun _ _ _ _ _ _ us hl => match us, hl with | [_], _ => rfl) M_law_leave (J_law_leave D h_law_send) V_law_leave
theorem K_law_land {P : Program} {w : World} {K : Frag} {mg : Str → Option Value} {h base : Heap} (D : Wd w K mg h base) : Keeps P w K mg base 2 (He.fAd K ("_law_land", none)) 1 G_law_land := by
  obtain ⟨fd, F⟩ := D.fd_law_land
  exact keeps_of F S_law_land rfl (FunD.bindsN F fun _ _ _ _ _ _ us hl => match us, hl with | [_], _ => rfl) M_law_land (J_law_land D ) V_law_land
theorem K_law_free {P : Program} {w : World} {K : Frag} {mg : Str → Option Value} {h base : Heap} (D : Wd w K mg h base) (h_law_send : Keeps P w K mg base 2 (He.fAd K ("_law_send", none)) 3 G_law_send) : Keeps P w K mg base 3 (He.fAd K ("_law_free", none)) 2 G_law_free := by
  obtain ⟨fd, F⟩ := D.fd_law_free
  exact keeps_of F S_law_free rfl (FunD.bindsN F fun _ _ _ _ _ _ us hl => match us, hl with | [_, _], _ => rfl) M_law_free (J_law_free D h_law_send) V_law_free
theorem K_law_waited {P : Program} {w : World} {K : Frag} {mg : Str → Option Value} {h base : Heap} (D : Wd w K mg h base) (h_law_leave : Keeps P w K mg base 3 (He.fAd K ("_law_leave", none)) 1 G_law_leave) (h_law_land : Keeps P w K mg base 2 (He.fAd K ("_law_land", none)) 1 G_law_land) (h_law_free : Keeps P w K mg base 3 (He.fAd K ("_law_free", none)) 2 G_law_free) : Keeps P w K mg base 4 (He.fAd K ("_law_waited", none)) 2 G_law_waited := by
  obtain ⟨fd, F⟩ := D.fd_law_waited
  exact keeps_of F S_law_waited rfl (FunD.bindsN F fun _ _ _ _ _ _ us hl => match us, hl with | [_, _], _ => rfl) M_law_waited (J_law_waited D h_law_leave h_law_land h_law_free) V_law_waited
theorem K_law_done {P : Program} {w : World} {K : Frag} {mg : Str → Option Value} {h base : Heap} (D : Wd w K mg h base) (h_law_waited : Keeps P w K mg base 4 (He.fAd K ("_law_waited", none)) 2 G_law_waited) (h_law_free : Keeps P w K mg base 3 (He.fAd K ("_law_free", none)) 2 G_law_free) : Keeps P w K mg base 5 (He.fAd K ("_law_done", none)) 2 G_law_done := by
  obtain ⟨fd, F⟩ := D.fd_law_done
  exact keeps_of F S_law_done rfl (FunD.bindsN F fun _ _ _ _ _ _ us hl => match us, hl with | [_, _], _ => rfl) M_law_done (J_law_done D h_law_waited h_law_free) V_law_done
theorem K_Session_check_free {P : Program} {w : World} {K : Frag} {mg : Str → Option Value} {h base : Heap} (D : Wd w K mg h base) : Keeps P w K mg base 2 (He.fAd K ("Session", some "check_free")) 1 G_Session_check_free := by
  obtain ⟨fd, F⟩ := D.fd_Session_check_free
  exact keeps_of F S_Session_check_free rfl (FunD.bindsN F fun _ _ _ _ _ _ us hl => match us, hl with | [_], _ => rfl) M_Session_check_free (J_Session_check_free D ) V_Session_check_free
theorem K_check_side {P : Program} {w : World} {K : Frag} {mg : Str → Option Value} {h base : Heap} (D : Wd w K mg h base) (h_is_between : Keeps P w K mg base 3 (He.fAd K ("is_between", none)) 3 G_is_between) : Keeps P w K mg base 4 (He.fAd K ("check_side", none)) 1 G_check_side := by
  obtain ⟨fd, F⟩ := D.fd_check_side
  exact keeps_of F S_check_side rfl (FunD.bindsN F fun _ _ _ _ _ _ us hl => match us, hl with | [_], _ => rfl) M_check_side (J_check_side D h_is_between) V_check_side
theorem K_check_deed {P : Program} {w : World} {K : Frag} {mg : Str → Option Value} {h base : Heap} (D : Wd w K mg h base) (h_check_side : Keeps P w K mg base 4 (He.fAd K ("check_side", none)) 1 G_check_side) (h_check_number : Keeps P w K mg base 4 (He.fAd K ("check_number", none)) 3 G_check_number) (h_Flow_fresh : Keeps P w K mg base 2 (He.fAd K ("Flow", some "fresh")) 2 G_Flow_fresh) : Keeps P w K mg base 5 (He.fAd K ("check_deed", none)) 2 G_check_deed := by
  obtain ⟨fd, F⟩ := D.fd_check_deed
  exact keeps_of F S_check_deed rfl (FunD.bindsN F fun _ _ _ _ _ _ us hl => match us, hl with | [_, _], _ => rfl) M_check_deed (J_check_deed D h_check_side h_check_number h_Flow_fresh) V_check_deed
theorem K_Flow_copied {P : Program} {w : World} {K : Frag} {mg : Str → Option Value} {h base : Heap} (D : Wd w K mg h base) (h_Flow_init : Keeps P w K mg base 2 (He.fAd K ("Flow", some "__init__")) 2 G_Flow_init) : Keeps P w K mg base 4 (He.fAd K ("Flow", some "copied")) 1 G_Flow_copied := by
  obtain ⟨fd, F⟩ := D.fd_Flow_copied
  exact keeps_of F S_Flow_copied rfl (FunD.bindsN F fun _ _ _ _ _ _ us hl => match us, hl with | [_], _ => rfl) M_Flow_copied (J_Flow_copied D h_Flow_init) V_Flow_copied
theorem K_Flow_take_out {P : Program} {w : World} {K : Frag} {mg : Str → Option Value} {h base : Heap} (D : Wd w K mg h base) : Keeps P w K mg base 2 (He.fAd K ("Flow", some "take_out")) 3 G_Flow_take_out := by
  obtain ⟨fd, F⟩ := D.fd_Flow_take_out
  exact keeps_of F S_Flow_take_out rfl (FunD.bindsN F fun _ _ _ _ _ _ us hl => match us, hl with | [_, _, _], _ => rfl) M_Flow_take_out (J_Flow_take_out D ) V_Flow_take_out
theorem K_Flow_send {P : Program} {w : World} {K : Frag} {mg : Str → Option Value} {h base : Heap} (D : Wd w K mg h base) (h_Flow_take_out : Keeps P w K mg base 2 (He.fAd K ("Flow", some "take_out")) 3 G_Flow_take_out) : Keeps P w K mg base 3 (He.fAd K ("Flow", some "send")) 3 G_Flow_send := by
  obtain ⟨fd, F⟩ := D.fd_Flow_send
  exact keeps_of F S_Flow_send rfl (FunD.bindsN F fun _ _ _ _ _ _ us hl => match us, hl with | [_, _, _], _ => rfl) M_Flow_send (J_Flow_send D h_Flow_take_out) V_Flow_send
theorem K_Flow_lets {P : Program} {w : World} {K : Frag} {mg : Str → Option Value} {h base : Heap} (D : Wd w K mg h base) : Keeps P w K mg base 2 (He.fAd K ("Flow", some "lets")) 2 G_Flow_lets := by
  obtain ⟨fd, F⟩ := D.fd_Flow_lets
  exact keeps_of F S_Flow_lets rfl (FunD.bindsN F fun _ _ _ _ _ _ us hl => match us, hl with | [_, _], _ => rfl) M_Flow_lets (J_Flow_lets D ) V_Flow_lets
theorem K_Flow_let_go {P : Program} {w : World} {K : Frag} {mg : Str → Option Value} {h base : Heap} (D : Wd w K mg h base) (h_Flow_kept : Keeps P w K mg base 2 (He.fAd K ("Flow", some "kept")) 2 G_Flow_kept) (h_Flow_send : Keeps P w K mg base 3 (He.fAd K ("Flow", some "send")) 3 G_Flow_send) (h_Flow_lets : Keeps P w K mg base 2 (He.fAd K ("Flow", some "lets")) 2 G_Flow_lets) : Keeps P w K mg base 4 (He.fAd K ("Flow", some "let_go")) 2 G_Flow_let_go := by
  obtain ⟨fd, F⟩ := D.fd_Flow_let_go
  exact keeps_of F S_Flow_let_go rfl (FunD.bindsN F fun _ _ _ _ _ _ us hl => match us, hl with | [_, _], _ => rfl) M_Flow_let_go (J_Flow_let_go D h_Flow_kept h_Flow_send h_Flow_lets) V_Flow_let_go
theorem K_Flow_put {P : Program} {w : World} {K : Frag} {mg : Str → Option Value} {h base : Heap} (D : Wd w K mg h base) (h_Flow_let_go : Keeps P w K mg base 4 (He.fAd K ("Flow", some "let_go")) 2 G_Flow_let_go) : Keeps P w K mg base 5 (He.fAd K ("Flow", some "put")) 3 G_Flow_put := by
  obtain ⟨fd, F⟩ := D.fd_Flow_put
  exact keeps_of F S_Flow_put rfl (FunD.bindsN F fun _ _ _ _ _ _ us hl => match us, hl with | [_, _, _], _ => rfl) M_Flow_put (J_Flow_put D h_Flow_let_go) V_Flow_put
theorem K_Flow_is_due {P : Program} {w : World} {K : Frag} {mg : Str → Option Value} {h base : Heap} (D : Wd w K mg h base) : Keeps P w K mg base 2 (He.fAd K ("Flow", some "is_due")) 2 G_Flow_is_due := by
  obtain ⟨fd, F⟩ := D.fd_Flow_is_due
  exact keeps_of F S_Flow_is_due rfl (FunD.bindsN F fun _ _ _ _ _ _ us hl => match us, hl with | [_, _], _ => rfl) M_Flow_is_due (J_Flow_is_due D ) V_Flow_is_due
theorem K_Flow_leave {P : Program} {w : World} {K : Frag} {mg : Str → Option Value} {h base : Heap} (D : Wd w K mg h base) (h_Flow_is_due : Keeps P w K mg base 2 (He.fAd K ("Flow", some "is_due")) 2 G_Flow_is_due) (h_Flow_send : Keeps P w K mg base 3 (He.fAd K ("Flow", some "send")) 3 G_Flow_send) : Keeps P w K mg base 4 (He.fAd K ("Flow", some "leave")) 1 G_Flow_leave := by
  obtain ⟨fd, F⟩ := D.fd_Flow_leave
  exact keeps_of F S_Flow_leave rfl (FunD.bindsN F fun _ _ _ _ _ _ us hl => match us, hl with | [_], _ => rfl) M_Flow_leave (J_Flow_leave D h_Flow_is_due h_Flow_send) V_Flow_leave
theorem K_Flow_next_tick {P : Program} {w : World} {K : Frag} {mg : Str → Option Value} {h base : Heap} (D : Wd w K mg h base) : Keeps P w K mg base 2 (He.fAd K ("Flow", some "next_tick")) 1 G_Flow_next_tick := by
  obtain ⟨fd, F⟩ := D.fd_Flow_next_tick
  exact keeps_of F S_Flow_next_tick rfl (FunD.bindsN F fun _ _ _ _ _ _ us hl => match us, hl with | [_], _ => rfl) M_Flow_next_tick (J_Flow_next_tick D ) V_Flow_next_tick
theorem K_Flow_land {P : Program} {w : World} {K : Frag} {mg : Str → Option Value} {h base : Heap} (D : Wd w K mg h base) : Keeps P w K mg base 2 (He.fAd K ("Flow", some "land")) 4 G_Flow_land := by
  obtain ⟨fd, F⟩ := D.fd_Flow_land
  exact keeps_of F S_Flow_land rfl (FunD.bindsN F fun _ _ _ _ _ _ us hl => match us, hl with | [_, _, _, _], _ => rfl) M_Flow_land (J_Flow_land D ) V_Flow_land
theorem K_Flow_begin {P : Program} {w : World} {K : Frag} {mg : Str → Option Value} {h base : Heap} (D : Wd w K mg h base) (h_Flow_land : Keeps P w K mg base 2 (He.fAd K ("Flow", some "land")) 4 G_Flow_land) (h_Flow_let_go : Keeps P w K mg base 4 (He.fAd K ("Flow", some "let_go")) 2 G_Flow_let_go) : Keeps P w K mg base 5 (He.fAd K ("Flow", some "begin")) 2 G_Flow_begin := by
  obtain ⟨fd, F⟩ := D.fd_Flow_begin
  exact keeps_of F S_Flow_begin rfl (FunD.bindsN F fun _ _ _ _ _ _ us hl => match us, hl with | [_, _], _ => rfl) M_Flow_begin (J_Flow_begin D h_Flow_land h_Flow_let_go) V_Flow_begin
theorem K_pass_ticks {P : Program} {w : World} {K : Frag} {mg : Str → Option Value} {h base : Heap} (D : Wd w K mg h base) (h_Flow_leave : Keeps P w K mg base 4 (He.fAd K ("Flow", some "leave")) 1 G_Flow_leave) (h_Flow_next_tick : Keeps P w K mg base 2 (He.fAd K ("Flow", some "next_tick")) 1 G_Flow_next_tick) (h_Flow_begin : Keeps P w K mg base 5 (He.fAd K ("Flow", some "begin")) 2 G_Flow_begin) : Keeps P w K mg base 6 (He.fAd K ("pass_ticks", none)) 2 G_pass_ticks := by
  obtain ⟨fd, F⟩ := D.fd_pass_ticks
  exact keeps_of F S_pass_ticks rfl (FunD.bindsN F fun _ _ _ _ _ _ us hl => match us, hl with | [_, _], _ => rfl) M_pass_ticks (J_pass_ticks D h_Flow_leave h_Flow_next_tick h_Flow_begin) V_pass_ticks
theorem K_flow_behind {P : Program} {w : World} {K : Frag} {mg : Str → Option Value} {h base : Heap} (D : Wd w K mg h base) (h_Flow_copied : Keeps P w K mg base 4 (He.fAd K ("Flow", some "copied")) 1 G_Flow_copied) (h_Flow_put : Keeps P w K mg base 5 (He.fAd K ("Flow", some "put")) 3 G_Flow_put) (h_pass_ticks : Keeps P w K mg base 6 (He.fAd K ("pass_ticks", none)) 2 G_pass_ticks) : Keeps P w K mg base 7 (He.fAd K ("flow_behind", none)) 2 G_flow_behind := by
  obtain ⟨fd, F⟩ := D.fd_flow_behind
  exact keeps_frz0 F S_flow_behind rfl (FunD.bindsN F fun _ _ _ _ _ _ us hl => match us, hl with | [_, _], _ => rfl) M_flow_behind (J_flow_behind D h_Flow_copied h_Flow_put h_pass_ticks) V_flow_behind
theorem K_Session_do_deed {P : Program} {w : World} {K : Frag} {mg : Str → Option Value} {h base : Heap} (D : Wd w K mg h base) (h_check_deed : Keeps P w K mg base 5 (He.fAd K ("check_deed", none)) 2 G_check_deed) (h_Session_show : Keeps P w K mg base 3 (He.fAd K ("Session", some "show")) 3 G_Session_show) (h_flow_behind : Keeps P w K mg base 7 (He.fAd K ("flow_behind", none)) 2 G_flow_behind) : Keeps P w K mg base 8 (He.fAd K ("Session", some "do_deed")) 2 G_Session_do_deed := by
  obtain ⟨fd, F⟩ := D.fd_Session_do_deed
  exact keeps_of F S_Session_do_deed rfl (FunD.bindsN F fun _ _ _ _ _ _ us hl => match us, hl with | [_, _], _ => rfl) M_Session_do_deed (J_Session_do_deed D h_check_deed h_Session_show h_flow_behind) V_Session_do_deed
theorem K_Session_wait {P : Program} {w : World} {K : Frag} {mg : Str → Option Value} {h base : Heap} (D : Wd w K mg h base) (h_Session_check_free : Keeps P w K mg base 2 (He.fAd K ("Session", some "check_free")) 1 G_Session_check_free) (h_Session_do_deed : Keeps P w K mg base 8 (He.fAd K ("Session", some "do_deed")) 2 G_Session_do_deed) : Keeps P w K mg base 9 (He.fAd K ("Session", some "wait")) 2 G_Session_wait := by
  obtain ⟨fd, F⟩ := D.fd_Session_wait
  exact keeps_of F S_Session_wait rfl (FunD.bindsN F fun _ _ _ _ _ _ us hl => match us, hl with | [_, _], _ => rfl) M_Session_wait (J_Session_wait D h_Session_check_free h_Session_do_deed) V_Session_wait
theorem K_Session_write {P : Program} {w : World} {K : Frag} {mg : Str → Option Value} {h base : Heap} (D : Wd w K mg h base) (h_Session_check_free : Keeps P w K mg base 2 (He.fAd K ("Session", some "check_free")) 1 G_Session_check_free) (h_Session_do_deed : Keeps P w K mg base 8 (He.fAd K ("Session", some "do_deed")) 2 G_Session_do_deed) : Keeps P w K mg base 9 (He.fAd K ("Session", some "write")) 3 G_Session_write := by
  obtain ⟨fd, F⟩ := D.fd_Session_write
  exact keeps_of F S_Session_write rfl (FunD.bindsN F fun _ _ _ _ _ _ us hl => match us, hl with | [_, _, _], _ => rfl) M_Session_write (J_Session_write D h_Session_check_free h_Session_do_deed) V_Session_write
theorem K_Session_read {P : Program} {w : World} {K : Frag} {mg : Str → Option Value} {h base : Heap} (D : Wd w K mg h base) (h_Session_check_free : Keeps P w K mg base 2 (He.fAd K ("Session", some "check_free")) 1 G_Session_check_free) (h_Session_do_deed : Keeps P w K mg base 8 (He.fAd K ("Session", some "do_deed")) 2 G_Session_do_deed) : Keeps P w K mg base 9 (He.fAd K ("Session", some "read")) 3 G_Session_read := by
  obtain ⟨fd, F⟩ := D.fd_Session_read
  exact keeps_of F S_Session_read rfl (FunD.bindsN F fun _ _ _ _ _ _ us hl => match us, hl with | [_, _, _], _ => rfl) M_Session_read (J_Session_read D h_Session_check_free h_Session_do_deed) V_Session_read
theorem K_law_call {P : Program} {w : World} {K : Frag} {mg : Str → Option Value} {h base : Heap} (D : Wd w K mg h base) (h_Session_wait : Keeps P w K mg base 9 (He.fAd K ("Session", some "wait")) 2 G_Session_wait) (h_Session_write : Keeps P w K mg base 9 (He.fAd K ("Session", some "write")) 3 G_Session_write) (h_Session_read : Keeps P w K mg base 9 (He.fAd K ("Session", some "read")) 3 G_Session_read) : Keeps P w K mg base 10 (He.fAd K ("_law_call", none)) 2 G_law_call := by
  obtain ⟨fd, F⟩ := D.fd_law_call
  exact keeps_of F S_law_call rfl (FunD.bindsN F fun _ _ _ _ _ _ us hl => match us, hl with | [_, _], _ => rfl) M_law_call (J_law_call D h_Session_wait h_Session_write h_Session_read) V_law_call
theorem K_Session_len {P : Program} {w : World} {K : Frag} {mg : Str → Option Value} {h base : Heap} (D : Wd w K mg h base) : Keeps P w K mg base 2 (He.fAd K ("Session", some "__len__")) 1 G_Session_len := by
  obtain ⟨fd, F⟩ := D.fd_Session_len
  exact keeps_of F S_Session_len rfl (FunD.bindsN F fun _ _ _ _ _ _ us hl => match us, hl with | [_], _ => rfl) M_Session_len (J_Session_len D ) V_Session_len
theorem K_Session_repr {P : Program} {w : World} {K : Frag} {mg : Str → Option Value} {h base : Heap} (D : Wd w K mg h base) : Keeps P w K mg base 2 (He.fAd K ("Session", some "__repr__")) 1 G_Session_repr := by
  obtain ⟨fd, F⟩ := D.fd_Session_repr
  exact keeps_of F S_Session_repr rfl (FunD.bindsN F fun _ _ _ _ _ _ us hl => match us, hl with | [_], _ => rfl) M_Session_repr (J_Session_repr D ) V_Session_repr
theorem K_law_shown {P : Program} {w : World} {K : Frag} {mg : Str → Option Value} {h base : Heap} (D : Wd w K mg h base) (h_Session_len : Keeps P w K mg base 2 (He.fAd K ("Session", some "__len__")) 1 G_Session_len) (h_Session_repr : Keeps P w K mg base 2 (He.fAd K ("Session", some "__repr__")) 1 G_Session_repr) : Keeps P w K mg base 6 (He.fAd K ("_law_shown", none)) 1 G_law_shown := by
  obtain ⟨fd, F⟩ := D.fd_law_shown
  exact keeps_of F S_law_shown rfl (FunD.bindsN F fun _ _ _ _ _ _ us hl => match us, hl with | [_], _ => rfl) M_law_shown (J_law_shown D h_Session_len h_Session_repr) V_law_shown
theorem K_law_in_parts {P : Program} {w : World} {K : Frag} {mg : Str → Option Value} {h base : Heap} (D : Wd w K mg h base) (h_law_draw : Keeps P w K mg base 2 (He.fAd K ("_law_draw", none)) 2 G_law_draw) (h_Session_wait : Keeps P w K mg base 9 (He.fAd K ("Session", some "wait")) 2 G_Session_wait) (h_law_shown : Keeps P w K mg base 6 (He.fAd K ("_law_shown", none)) 1 G_law_shown) : Keeps P w K mg base 10 (He.fAd K ("_law_in_parts", none)) 3 G_law_in_parts := by
  obtain ⟨fd, F⟩ := D.fd_law_in_parts
  exact keeps_of F S_law_in_parts rfl (FunD.bindsN F fun _ _ _ _ _ _ us hl => match us, hl with | [_, _, _], _ => rfl) M_law_in_parts (J_law_in_parts D h_law_draw h_Session_wait h_law_shown) V_law_in_parts
theorem K_law_right {P : Program} {w : World} {K : Frag} {mg : Str → Option Value} {h base : Heap} (D : Wd w K mg h base) (h_law_told : Keeps P w K mg base 5 (He.fAd K ("_law_told", none)) 1 G_law_told) (h_law_new : Keeps P w K mg base 2 (He.fAd K ("_law_new", none)) 1 G_law_new) (h_law_made : Keeps P w K mg base 7 (He.fAd K ("_law_made", none)) 1 G_law_made) (h_Session_init : Keeps P w K mg base 4 (He.fAd K ("Session", some "__init__")) 2 G_Session_init) (h_law_job : Keeps P w K mg base 4 (He.fAd K ("_law_job", none)) 2 G_law_job) (h_law_done : Keeps P w K mg base 5 (He.fAd K ("_law_done", none)) 2 G_law_done) (h_law_call : Keeps P w K mg base 10 (He.fAd K ("_law_call", none)) 2 G_law_call) (h_law_in_parts : Keeps P w K mg base 10 (He.fAd K ("_law_in_parts", none)) 3 G_law_in_parts) (h_law_shown : Keeps P w K mg base 6 (He.fAd K ("_law_shown", none)) 1 G_law_shown) : Keeps P w K mg base 11 (He.fAd K ("_law_right", none)) 1 G_law_right := by
  obtain ⟨fd, F⟩ := D.fd_law_right
  exact keeps_of F S_law_right rfl (FunD.bindsN F fun _ _ _ _ _ _ us hl => match us, hl with | [_], _ => rfl) M_law_right (J_law_right D h_law_told h_law_new h_law_made h_Session_init h_law_job h_law_done h_law_call h_law_in_parts h_law_shown) V_law_right
theorem K_law_well {P : Program} {w : World} {K : Frag} {mg : Str → Option Value} {h base : Heap} (D : Wd w K mg h base) : Keeps P w K mg base 2 (He.fAd K ("_law_well", none)) 2 G_law_well := by
  obtain ⟨fd, F⟩ := D.fd_law_well
  exact keeps_of F S_law_well rfl (FunD.bindsN F fun _ _ _ _ _ _ us hl => match us, hl with | [_, _], _ => rfl) M_law_well (J_law_well D ) V_law_well
theorem K_law {P : Program} {w : World} {K : Frag} {mg : Str → Option Value} {h base : Heap} (D : Wd w K mg h base) (h_law_right : Keeps P w K mg base 11 (He.fAd K ("_law_right", none)) 1 G_law_right) (h_law_well : Keeps P w K mg base 2 (He.fAd K ("_law_well", none)) 2 G_law_well) : Keeps P w K mg base 12 (He.fAd K ("law", none)) 1 G_law := by
  obtain ⟨fd, F⟩ := D.fd_law
  exact keeps_of F S_law rfl (FunD.bindsN F fun _ _ _ _ _ _ us hl => match us, hl with | [_], _ => rfl) M_law (J_law D h_law_right h_law_well) V_law
theorem K_all {P : Program} {w : World} {K : Frag} {mg : Str → Option Value} {h base : Heap} (D : Wd w K mg h base) : Keeps P w K mg base 12 (He.fAd K ("law", none)) 1 G_law := by
  have h_law_draw := K_law_draw (P := P) D 
  have h_law_one_of := K_law_one_of (P := P) D h_law_draw
  have h_law_ways := K_law_ways (P := P) D h_law_one_of h_law_draw
  have h_law_told := K_law_told (P := P) D h_law_one_of h_law_draw h_law_ways
  have h_law_new := K_law_new (P := P) D 
  have h_is_integer := K_is_integer (P := P) D 
  have h_is_between := K_is_between (P := P) D h_is_integer
  have h_check_number := K_check_number (P := P) D h_is_between
  have h_check_setting := K_check_setting (P := P) D 
  have h_Line_init := K_Line_init (P := P) D h_check_number h_check_setting
  have h_Setting_init := K_Setting_init (P := P) D h_check_number
  have h_law_made := K_law_made (P := P) D h_Line_init h_Setting_init
  have h_check_line := K_check_line (P := P) D 
  have h_Flow_kept := K_Flow_kept (P := P) D 
  have h_Flow_fresh := K_Flow_fresh (P := P) D 
  have h_Session_show := K_Session_show (P := P) D h_Flow_kept h_Flow_fresh
  have h_Flow_init := K_Flow_init (P := P) D 
  have h_Session_init := K_Session_init (P := P) D h_check_line h_Session_show h_Flow_init
  have h_law_job := K_law_job (P := P) D h_law_draw h_law_one_of
  have h_law_send := K_law_send (P := P) D 
  have h_law_leave := K_law_leave (P := P) D h_law_send
  have h_law_land := K_law_land (P := P) D 
  have h_law_free := K_law_free (P := P) D h_law_send
  have h_law_waited := K_law_waited (P := P) D h_law_leave h_law_land h_law_free
  have h_law_done := K_law_done (P := P) D h_law_waited h_law_free
  have h_Session_check_free := K_Session_check_free (P := P) D 
  have h_check_side := K_check_side (P := P) D h_is_between
  have h_check_deed := K_check_deed (P := P) D h_check_side h_check_number h_Flow_fresh
  have h_Flow_copied := K_Flow_copied (P := P) D h_Flow_init
  have h_Flow_take_out := K_Flow_take_out (P := P) D 
  have h_Flow_send := K_Flow_send (P := P) D h_Flow_take_out
  have h_Flow_lets := K_Flow_lets (P := P) D 
  have h_Flow_let_go := K_Flow_let_go (P := P) D h_Flow_kept h_Flow_send h_Flow_lets
  have h_Flow_put := K_Flow_put (P := P) D h_Flow_let_go
  have h_Flow_is_due := K_Flow_is_due (P := P) D 
  have h_Flow_leave := K_Flow_leave (P := P) D h_Flow_is_due h_Flow_send
  have h_Flow_next_tick := K_Flow_next_tick (P := P) D 
  have h_Flow_land := K_Flow_land (P := P) D 
  have h_Flow_begin := K_Flow_begin (P := P) D h_Flow_land h_Flow_let_go
  have h_pass_ticks := K_pass_ticks (P := P) D h_Flow_leave h_Flow_next_tick h_Flow_begin
  have h_flow_behind := K_flow_behind (P := P) D h_Flow_copied h_Flow_put h_pass_ticks
  have h_Session_do_deed := K_Session_do_deed (P := P) D h_check_deed h_Session_show h_flow_behind
  have h_Session_wait := K_Session_wait (P := P) D h_Session_check_free h_Session_do_deed
  have h_Session_write := K_Session_write (P := P) D h_Session_check_free h_Session_do_deed
  have h_Session_read := K_Session_read (P := P) D h_Session_check_free h_Session_do_deed
  have h_law_call := K_law_call (P := P) D h_Session_wait h_Session_write h_Session_read
  have h_Session_len := K_Session_len (P := P) D 
  have h_Session_repr := K_Session_repr (P := P) D 
  have h_law_shown := K_law_shown (P := P) D h_Session_len h_Session_repr
  have h_law_in_parts := K_law_in_parts (P := P) D h_law_draw h_Session_wait h_law_shown
  have h_law_right := K_law_right (P := P) D h_law_told h_law_new h_law_made h_Session_init h_law_job h_law_done h_law_call h_law_in_parts h_law_shown
  have h_law_well := K_law_well (P := P) D 
  have h_law := K_law (P := P) D h_law_right h_law_well
  exact h_law
end LL.K80
end

section
set_option Elab.async false
set_option linter.all false
set_option maxRecDepth 100000
set_option maxHeartbeats 0
namespace LL.K80
open PySem PySem.Spec PyProof.Rows L2 LL
theorem run0 (w : World) : HandSHeadRun.RunEq R (PySem.W.view R.prog [61]) hk ob 10000 loose (w.withFollow "special-get-raises" false) := by
  intro os
  kernel_rfl
theorem run1 (w : World) : HandSHeadRun.RunEq R (PySem.W.view R.prog [61]) hk ob 10000 loose (w.withFollow "special-get-raises" true) := by
  intro os
  kernel_rfl
theorem run (w : World) : HandSHeadRun.RunEq R (PySem.W.view R.prog [61]) hk ob 10000 loose w :=
  PySem.W.byRow2 "special-get-raises" (P := fun w => HandSHeadRun.RunEq R (PySem.W.view R.prog [61]) hk ob 10000 loose w) run0 run1 w
end LL.K80
end

section
set_option Elab.async false
set_option linter.all false
set_option maxRecDepth 100000
set_option maxHeartbeats 0
namespace LL.K80
open PySem PySem.Spec PyProof.Rows L2 LL
theorem keeps_end (w : World) (K : Frag) (mg : Str → Option Value) (h base : Heap) (kin : K.In h) (ns : h.Ns mainGlobals mg) (c : He.SaysX fa fn [] tf ex w h K) (tb : ∀ p ∈ tf, LamX.TabB base mg (He.cT K p).1 (He.cT K p).2) :
    Keeps (PySem.Challenge.rw_smallheld_k80_waits_in_parts).prog w K mg base 12 (He.ga K "law") 1 (spLaw 63) := K_all ⟨kin, ns, c, tb⟩
end LL.K80
open PySem PySem.W PySem.Calls PyProof.Rows
theorem PySem.Challenge.cw_smallheld_k80_waits_in_parts_holds : PySem.Challenge.rw_smallheld_k80_waits_in_parts.Holds := by
  w_on; o_law
  refine HandSHeadRun.head_any (r := OpenLaw.row PySem.Challenge.rw_smallheld_k80_waits_in_parts) (q := view (OpenLaw.row PySem.Challenge.rw_smallheld_k80_waits_in_parts).prog [61]) (H := LL.K80.hk) (ob := LL.K80.ob) (M := 10000) (loose := LL.K80.loose) (d := HandSHeadRun.topDef (OpenLaw.row PySem.Challenge.rw_smallheld_k80_waits_in_parts).prog 61) (kwd := []) LL.K80.ob_eq
    (by kernel_rfl) (fun s => by kernel_rfl) LL.K80.run (by kernel_rfl) (by kernel_rfl) (by kernel_rfl) (by rfl) (by first | assumption | decide +kernel) (by decide +kernel) ⟨rfl, rfl, rfl, rfl, rfl, by decide +kernel⟩ ?hw ?hc
  case hw => w_witness2
  case hc =>
    exact LL.walk_L (l := PySem.Challenge.rw_smallheld_k80_waits_in_parts) (n := 63) (k := 12) rfl (by decide) (by kernel_rfl) ⟨rfl, by decide, by decide⟩ (by kernel_rfl) (List.mem_of_getElem? (i := 31) rfl) (by decide +kernel) LL.K80.keeps_end
end
