import PyProof.Rows.All
import Wide.All
import OpenK.AllK
import Wide.FinOn
import KE.Datum
import HandS.ForMost
import HandS.Exc
import HandS.ExcOwn
import HandS.WordsExc
import HandS.TryOnly
import HandS.Flow
import HandS.Lambda
import HandS.AnyAll
import HandS.Nested
import HandS.Dict
import HandS.More
import HandS.Text
import HandS.Comp
import HandS.Walk
import PySem.Challenge.RW_landstack_k17_news_that_are_told_to_othe
import HandS.EndTab
import KE.KNestM
section
set_option Elab.async false
set_option linter.all false
set_option maxRecDepth 100000
/-! Z1: the largest readings, the state, the judgements. -/
namespace Z
open PySem PySem.Spec PyProof.Rows L2 PySem.W
abbrev Pins := List (Addr × Obj)
abbrev LX := L2.Cx
/-! ### the largest readings -/
def We (X : L2.Cx) (e : Expr) : TE := fun σ H Q => ∀ (pins : Pins) (s : Shared), Inv X pins σ H s → wpAny (model X.prog X.w) X.A (eval e X.env) (EP X pins σ Q) X.xe s
def Wt (X : L2.Cx) (e : Expr) : TT := fun σ H Q => ∀ (pins : Pins) (s : Shared), Inv X pins σ H s → wpAny (model X.prog X.w) X.A (isTrue e X.env (eval e X.env)) (TP X pins σ Q) X.xe s
def Wa (X : L2.Cx) (es : List Expr) : TA := fun σ H Q => ∀ (pos : Pos) (pins : Pins) (s : Shared), Inv X pins σ H s → wpAny (model X.prog X.w) X.A (spliced (backTo pos (starEach es X.env))) (AP X pins σ Q) X.xe s
def Ws (X : L2.Cx) (st : Stmt) : TS := fun D σ H => ∀ (pins : Pins) (s : Shared), Inv X pins σ H s → wpAny (model X.prog X.w) X.A (exec st X.env) (SP X pins D) X.xe s
def Wb (X : L2.Cx) (sts : List Stmt) : TS := fun D σ H => ∀ (pins : Pins) (s : Shared), Inv X pins σ H s → wpAny (model X.prog X.w) X.A (execs sts X.env) (SP X pins D) X.xe s
def Wg (X : L2.Cx) (tg : Expr) : TG := fun v σ H Q => ∀ (pins : Pins) (s : Shared) (u : Value), Inv X pins σ H s → RelV v u → wpAny (model X.prog X.w) X.A (assign tg X.env u) (fun _ s' => ∃ σ' H', Inv X pins σ' H' s' ∧ Q σ' H') X.xe s
section
variable {X : L2.Cx} {e : Expr} {es : List Expr} {st : Stmt} {sts : List Stmt} {σ : L2.St} {H : Hp}
theorem pe_we : PE X e (We X e) := ⟨fun pins s σ H Q I h => h pins s I⟩
theorem pt_wt : PT X e (Wt X e) := ⟨fun pins s σ H Q I h => h pins s I⟩
theorem pa_wa : PA X es (Wa X es) := ⟨fun pos pins s σ H Q I h => h pos pins s I⟩
theorem ps_ws : PS X st (Ws X st) := ⟨fun pins s σ H D I h => h pins s I⟩
theorem pss_wb : PSs X sts (Wb X sts) := ⟨fun pins s σ H D I h => h pins s I⟩
theorem pg_wg : PG X e (Wg X e) := ⟨fun pins s σ H v u Q I r h => h pins s u I r⟩
theorem we_of {t : TE} (h : PE X e t) {Q : VK} (q : t σ H Q) : We X e σ H Q := fun pins s I => h.run pins s σ H Q I q
theorem wt_of {t : TT} (h : PT X e t) {Q : Bool → Hp → Prop} (q : t σ H Q) : Wt X e σ H Q := fun pins s I => h.run pins s σ H Q I q
theorem wa_of {t : TA} (h : PA X es t) {Q : List V → Hp → Prop} (q : t σ H Q) : Wa X es σ H Q := fun pos pins s I => h.run pos pins s σ H Q I q
theorem ws_of {t : TS} (h : PS X st t) {D : Ends} (q : t D σ H) : Ws X st D σ H := fun pins s I => h.run pins s σ H D I q
theorem wb_of {t : TS} (h : PSs X sts t) {D : Ends} (q : t D σ H) : Wb X sts D σ H := fun pins s I => h.run pins s σ H D I q
theorem We.mono {Q Q' : VK} (h : We X e σ H Q) (k : ∀ v H', Q v H' → Q' v H') : We X e σ H Q' := fun pins s I =>
  thn (h pins s I) fun _ _ ⟨v, H', I', r, q⟩ => ⟨v, H', I', r, k v H' q⟩
theorem Wt.mono {Q Q' : Bool → Hp → Prop} (h : Wt X e σ H Q) (k : ∀ v H', Q v H' → Q' v H') : Wt X e σ H Q' := fun pins s I =>
  thn (h pins s I) fun _ _ ⟨H', I', q⟩ => ⟨H', I', k _ H' q⟩
end
/-! ### heaps -/
theorem Dp_mono {K : PySem.W.Frag} {F F' : Hp} (s : L2.Same F F') : (∀ {v d}, Dp K F v d → Dp K F' v d) := by
  intro v d h
  refine Dp.rec (motive_1 := fun v d _ => Dp K F' v d) (motive_2 := fun vs ds _ => DpAll K F' vs ds) ?_ ?_ ?_ ?_ ?_ ?_ ?_ ?_ h
  · exact .non
  · exact .bl
  · exact .int
  · exact .str
  · intro a xs ds h1 _ h2
    exact .lst (s.seq h1) h2
  · intro a xs ds h1 _ h2
    refine .tup ?_ h2
    rcases h1 with (h | ⟨o, h⟩) | h
    · exact .inl (.inl (s _ _ h))
    · exact .inl (.inr ⟨o, s _ _ h⟩)
    · exact .inr h
  · exact .nil
  · intro v vs d ds _ _ h1 h2
    exact .cons h1 h2
theorem DpAll_mono {K : PySem.W.Frag} {F F' : Hp} (s : L2.Same F F') : ∀ {vs ds}, DpAll K F vs ds → DpAll K F' vs ds
  | _, _, .nil => .nil
  | _, _, .cons a b => .cons (Dp_mono s a) (DpAll_mono s b)
end Z

end
section
set_option Elab.async false
set_option linter.all false
set_option maxRecDepth 100000
/-! Z2: the state by words, the judgements. -/
namespace Z
open PySem PySem.Spec PyProof.Rows L2
/-! ### a value, by what is true of it over the frozen heap -/
structure Pr where
  on : Hp → V → Prop
  mono : ∀ {F F' : Hp} {v : V}, L2.Same F F' → on F v → on F' v
def isV (v0 : V) : Pr := ⟨fun _ v => v = v0, fun _ h => h⟩
abbrev isI (i : Int) : Pr := isV (.int i)
abbrev isB (b : Bool) : Pr := isV (.bl b)
abbrev isS (x : Str) : Pr := isV (.str x)
abbrev isN : Pr := isV .non
abbrev isR (a : Addr) : Pr := isV (.ref a)
/-- item by item -/
def AllOn (ps : List Pr) (F : Hp) (vs : List V) : Prop := PySem.Paired (fun p v => Pr.on p F v) ps vs
theorem AllOn.mono {F F' : Hp} (s : L2.Same F F') : ∀ {ps : List Pr} {vs : List V}, AllOn ps F vs → AllOn ps F' vs
  | _, _, .nil => .nil
  | p :: _, _, .cons a b => .cons (p.mono s a) (AllOn.mono s b)
theorem AllOn.length {F : Hp} {ps : List Pr} {vs : List V} (h : AllOn ps F vs) : ps.length = vs.length := Paired.length h
theorem AllOn.get {F : Hp} : ∀ {ps : List Pr} {vs : List V}, AllOn ps F vs → ∀ {i : Nat} {p : Pr}, ps[i]? = some p → ∃ v, vs[i]? = some v ∧ p.on F v
  | _, _, .nil, i, p, h => by simp at h
  | _, _, .cons a b, 0, p, h => by
    simp at h
    subst h
    exact ⟨_, rfl, a⟩
  | _, _, .cons a b, i + 1, p, h => by
    obtain ⟨v, h1, h2⟩ := AllOn.get b (i := i) (by simpa using h)
    exact ⟨v, by simpa using h1, h2⟩
theorem AllOn.append {F : Hp} : ∀ {ps qs : List Pr} {vs ws : List V}, AllOn ps F vs → AllOn qs F ws → AllOn (ps ++ qs) F (vs ++ ws)
  | _, _, _, _, .nil, k => k
  | _, _, _, _, .cons a b, k => .cons a (AllOn.append b k)
theorem AllOn.snoc {F : Hp} {ps : List Pr} {vs : List V} {p : Pr} {v : V} (h : AllOn ps F vs) (r : p.on F v) : AllOn (ps ++ [p]) F (vs ++ [v]) := h.append (.cons r .nil)
theorem AllOn.take {F : Hp} : ∀ {ps : List Pr} {vs : List V} (n : Nat), AllOn ps F vs → AllOn (ps.take n) F (vs.take n)
  | _, _, 0, _ => .nil
  | _, _, _ + 1, .nil => .nil
  | _, _, n + 1, .cons r t => .cons r (AllOn.take n t)
theorem AllOn.drop {F : Hp} : ∀ {ps : List Pr} {vs : List V} (n : Nat), AllOn ps F vs → AllOn (ps.drop n) F (vs.drop n)
  | _, _, 0, r => r
  | _, _, _ + 1, .nil => .nil
  | _, _, n + 1, .cons _ t => AllOn.drop n t
theorem seqT_mono {K : PySem.W.Frag} {F F' : Hp} {a : Addr} {xs : List V} (s : L2.Same F F') (h : SqT K F a xs) : SqT K F' a xs := by
  rcases h with (h | ⟨o, h⟩) | h
  · exact .inl (.inl (s _ _ h))
  · exact .inl (.inr ⟨o, s _ _ h⟩)
  · exact .inr h
def rL (ps : List Pr) : Pr := ⟨fun F v => ∃ a vs, v = .ref a ∧ F a = some (.lst vs) ∧ AllOn ps F vs, fun s ⟨a, vs, e, h, k⟩ => ⟨a, vs, e, s _ _ h, k.mono s⟩⟩
/-- .. also the script, a list of the module's top -/
def rLs (K : PySem.W.Frag) (ps : List Pr) : Pr := ⟨fun F v => ∃ a vs, v = .ref a ∧ SqL K F a vs ∧ AllOn ps F vs, fun s ⟨a, vs, e, h, k⟩ => ⟨a, vs, e, s.seq h, k.mono s⟩⟩
def rT (K : PySem.W.Frag) (ps : List Pr) : Pr := ⟨fun F v => ∃ a vs, v = .ref a ∧ SqT K F a vs ∧ AllOn ps F vs, fun s ⟨a, vs, e, h, k⟩ => ⟨a, vs, e, seqT_mono s h, k.mono s⟩⟩
/-- a dict of int and text keys -/
def KvOn (kps : List (Key × Pr)) (F : Hp) (kvs : List (Key × V)) : Prop := PySem.Paired (fun (p : Key × Pr) (q : Key × V) => p.1 = q.1 ∧ p.2.on F q.2) kps kvs
theorem KvOn.mono {F F' : Hp} (s : L2.Same F F') : ∀ {ps : List (Key × Pr)} {vs : List (Key × V)}, KvOn ps F vs → KvOn ps F' vs
  | _, _, .nil => .nil
  | p :: _, _, .cons a b => .cons ⟨a.1, p.2.mono s a.2⟩ (KvOn.mono s b)
def rK (kps : List (Key × Pr)) : Pr := ⟨fun F v => ∃ a kvs, v = .ref a ∧ F a = some (.dK kvs) ∧ KvOn kps F kvs, fun s ⟨a, vs, e, h, k⟩ => ⟨a, vs, e, s _ _ h, k.mono s⟩⟩

/-! ### what may change: cells -/
def NoTbl (o : HO) : Prop := ∀ ps, o ≠ .tbl ps
/-- neither a table nor locked -/
def Fine (o : HO) : Prop := (∀ ps, o ≠ .tbl ps) ∧ ∀ ob u, o ≠ .frz ob u
structure Cell where
  a : Addr
  on : Hp → HO → Prop
  mono : ∀ {F F' : Hp} {o : HO}, L2.Same F F' → on F o → on F' o
  nt : ∀ {F : Hp} {o : HO}, on F o → NoTbl o
def cL (a : Addr) (ps : List Pr) : Cell := ⟨a, fun F o => ∃ vs, o = .lst vs ∧ AllOn ps F vs, fun s ⟨vs, e, h⟩ => ⟨vs, e, h.mono s⟩, fun ⟨vs, e, _⟩ => by subst e; exact fun _ z => (nomatch z)⟩
def cK (a : Addr) (kps : List (Key × Pr)) : Cell := ⟨a, fun F o => ∃ kvs, o = .dK kvs ∧ KvOn kps F kvs, fun s ⟨vs, e, h⟩ => ⟨vs, e, h.mono s⟩, fun ⟨vs, e, _⟩ => by subst e; exact fun _ z => (nomatch z)⟩
/-- an instance, its attributes' names in order -/
def InsOn (C : Addr) (fns : List Str) (ps : List Pr) (F : Hp) (o : HO) : Prop := ∃ (dx : Addr) (fs : List (Str × V)), o = .ins C dx fs ∧ fs.map Prod.fst = fns ∧ AllOn ps F (fs.map Prod.snd)
theorem InsOn.mono {C : Addr} {fns : List Str} {ps : List Pr} {F F' : Hp} {o : HO} (s : L2.Same F F') (h : InsOn C fns ps F o) : InsOn C fns ps F' o := by
  obtain ⟨dx, fs, e, n, h⟩ := h
  exact ⟨dx, fs, e, n, h.mono s⟩
theorem InsOn.nt {C : Addr} {fns : List Str} {ps : List Pr} {F : Hp} {o : HO} (h : InsOn C fns ps F o) : NoTbl o := by
  obtain ⟨dx, fs, e, n, h⟩ := h
  subst e
  exact fun _ z => (nomatch z)
def cI (a : Addr) (C : Addr) (fns : List Str) (ps : List Pr) : Cell := ⟨a, InsOn C fns ps, InsOn.mono, InsOn.nt⟩

/-! ### tables of code objects -/
structure Tb where
  /-- the tables, each with the names that its places have -/
  nt : List (Addr × (Nat → Nat → Str)) := []
structure Tab (tb : Tb) (F H : Hp) : Prop where
  nt : ∀ p ∈ tb.nt, ∃ ps : Array Value, H p.1 = some (.tbl ps) ∧ TriplesOk ps.toList ∧ ∀ (pos : Pos) (cv : Value), codeAmong pos ps.toList = some cv → ∃ c, cv = .ref c ∧ F c = some (LamX.CodeO c (p.2 pos.line pos.col))
/-- all but what may change stays: tables and known things -/
def Fix (H H' : Hp) : Prop := ∀ b o, H b = some o → ((∃ ps, o = .tbl ps) ∨ ∃ φ, o = .ext φ) → H' b = some o
theorem Tab.fix {tb : Tb} {F H H' : Hp} (t : Tab tb F H) (f : Fix H H') : Tab tb F H' := by
  refine ⟨fun p hp => ?_⟩
  obtain ⟨ps, h1, h2, h3⟩ := t.nt p hp
  exact ⟨ps, f _ _ h1 (.inl ⟨ps, rfl⟩), h2, h3⟩
theorem Tab.grow {tb : Tb} {F F' H : Hp} (t : Tab tb F H) (s : L2.Same F F') : Tab tb F' H := by
  refine ⟨fun p hp => ?_⟩
  obtain ⟨ps, h1, h2, h3⟩ := t.nt p hp
  refine ⟨ps, h1, h2, fun pos cv hc => ?_⟩
  obtain ⟨c, e1, e2⟩ := h3 pos cv hc
  exact ⟨c, e1, s _ _ e2⟩

/-! ### the state -/
/-- where a piece of code began: the frozen heap, the heap, what it may change -/
structure Fx where
  F0 : Hp
  H0 : Hp
  D : List Addr
structure EnvOk (Γ : List (Option Pr)) (F : Hp) (σ : L2.St) : Prop where
  len : σ.length = Γ.length
  at_ : ∀ (i : Nat) (p : Pr), Γ[i]? = some (some p) → ∃ v, σ[i]? = some (some v) ∧ p.on F v
structure CellsOk (C : List Cell) (F H : Hp) : Prop where
  at_ : ∀ c ∈ C, ∃ o, H c.a = some o ∧ c.on F o ∧ F c.a = none
  nd : (C.map (·.a)).Nodup
structure Sta (tb : Tb) (Φ : Fx) (Γ : List (Option Pr)) (C : List Cell) (σ : L2.St) (F H : Hp) : Prop where
  env : EnvOk Γ F σ
  cells : CellsOk C F H
  sub : ∀ a o, F a = some o → L2.Rd H a o
  fine : ∀ a o, F a = some o → Fine o
  tab : Tab tb F H
  base : L2.Same Φ.F0 F
  fresh : ∀ a o, F a = some o → Φ.F0 a = none → Φ.H0 a = none
  keep : ∀ a o, Φ.H0 a = some o → NoTbl o → a ∉ Φ.D → H a = some o
  own : ∀ c ∈ C, c.a ∈ Φ.D ∨ Φ.H0 c.a = none
  there : ∀ a, H a = none → Φ.H0 a = none
theorem EnvOk.mono {Γ : List (Option Pr)} {F F' : Hp} {σ : L2.St} (h : EnvOk Γ F σ) (s : L2.Same F F') : EnvOk Γ F' σ :=
  ⟨h.len, fun i p e => let ⟨v, h1, h2⟩ := h.at_ i p e; ⟨v, h1, p.mono s h2⟩⟩
theorem EnvOk.set {Γ : List (Option Pr)} {F : Hp} {σ : L2.St} (h : EnvOk Γ F σ) (i : Nat) {p : Pr} {v : V} (r : p.on F v) : EnvOk (Γ.set i (some p)) F (σ.set i (some v)) := by
  refine ⟨by simp [h.len], fun j q e => ?_⟩
  by_cases hj : i = j
  · subst hj
    by_cases hi : i < Γ.length
    · rw [List.getElem?_set_self hi] at e
      cases e
      exact ⟨v, by rw [List.getElem?_set_self (by rw [h.len]; exact hi)], r⟩
    · rw [List.getElem?_eq_none (by simpa using hi)] at e
      cases e
  · rw [List.getElem?_set_ne hj] at e
    obtain ⟨w, h1, h2⟩ := h.at_ j q e
    exact ⟨w, by rw [List.getElem?_set_ne hj]; exact h1, h2⟩
theorem EnvOk.forget {Γ : List (Option Pr)} {F : Hp} {σ : L2.St} (h : EnvOk Γ F σ) (i : Nat) : EnvOk (Γ.set i none) F σ := by
  refine ⟨by simp [h.len], fun j q e => ?_⟩
  by_cases hj : i = j
  · subst hj
    by_cases hi : i < Γ.length
    · rw [List.getElem?_set_self hi] at e
      cases e
    · rw [List.getElem?_eq_none (by simpa using hi)] at e
      cases e
  · rw [List.getElem?_set_ne hj] at e
    exact h.at_ j q e
section
variable {tb : Tb} {Φ : Fx} {Γ : List (Option Pr)} {C : List Cell} {σ : L2.St} {F H F' H' : Hp}
theorem Sta.seqL {K : PySem.W.Frag} {a : Addr} {xs : List V} (S : Sta tb Φ Γ C σ F H) (h : SqL K F a xs) : SqL K H a xs := by
  rcases h with (h | ⟨o, h⟩) | h
  · exact .inl (S.sub _ _ h)
  · exact absurd rfl ((S.fine _ _ h).2 o _)
  · exact .inr h
theorem Sta.seqT {K : PySem.W.Frag} {a : Addr} {xs : List V} (S : Sta tb Φ Γ C σ F H) (h : SqT K F a xs) : SqT K H a xs := by
  rcases h with (h | ⟨o, h⟩) | h
  · exact .inl (S.sub _ _ h)
  · exact absurd rfl ((S.fine _ _ h).2 o _)
  · exact .inr h
theorem fix_upd {H : Hp} {a : Addr} {o u : HO} (h : H a = some o) (h1 : ∀ ps, o ≠ .tbl ps) (h2 : ∀ φ, o ≠ .ext φ) : Fix H (upd H a u) := fun b w e k => by
  have hb : b ≠ a := fun z => by
    rw [z, h] at e
    cases e
    rcases k with ⟨ps, k⟩ | ⟨φ, k⟩
    · exact h1 ps k
    · exact h2 φ k
  rw [upd_ne hb]
  exact e
theorem fix_new {H : Hp} {a : Addr} {u : HO} (h : H a = none) : Fix H (upd H a u) := fun b w e k => by
  rw [upd_ne (ne_of_none e h)]
  exact e
theorem same_new {F : Hp} {a : Addr} {u : HO} (h : F a = none) : L2.Same F (upd F a u) := fun b w e => by
  rw [upd_ne (ne_of_none e h)]
  exact e
theorem Sta.notF (S : Sta tb Φ Γ C σ F H) {a : Addr} (h : H a = none) : F a = none := by
  cases e : F a with
  | none => rfl
  | some o =>
    rcases S.sub a o e with h' | ⟨ob, h'⟩ <;> (rw [h] at h'; cases h')
/-- a new frozen thing -/
theorem Sta.newF (S : Sta tb Φ Γ C σ F H) {a : Addr} {o : HO} (h : H a = none) (ho : Fine o) : Sta tb Φ Γ C σ (upd F a o) (upd H a o) ∧ L2.Same F (upd F a o) := by
  have hF := S.notF h
  have s := same_new (u := o) hF
  refine ⟨⟨S.env.mono s, ⟨fun c hc => ?_, S.cells.nd⟩, fun b u e => ?_, fun b u e => ?_, (S.tab.grow s).fix (fix_new h), fun b u e => s _ _ (S.base _ _ e), fun b u e n => ?_, fun b u e n d => ?_, S.own, fun b e => ?_⟩, s⟩
  · obtain ⟨u, h1, h2, h3⟩ := S.cells.at_ c hc
    have ne : c.a ≠ a := ne_of_none h1 h
    exact ⟨u, by rw [upd_ne ne]; exact h1, c.mono s h2, by rw [upd_ne ne]; exact h3⟩
  · by_cases hb : b = a
    · subst hb
      rw [upd_same] at e
      cases e
      exact .inl upd_same
    · rw [upd_ne hb] at e
      unfold L2.Rd
      rw [upd_ne hb]
      exact S.sub b u e
  · by_cases hb : b = a
    · subst hb
      rw [upd_same] at e
      cases e
      exact ho
    · rw [upd_ne hb] at e
      exact S.fine b u e
  · by_cases hb : b = a
    · subst hb
      exact S.there b h
    · rw [upd_ne hb] at e
      exact S.fresh b u e n
  · rw [upd_ne (ne_of_none (S.keep b u e n d) h)]
    exact S.keep b u e n d
  · by_cases hb : b = a
    · subst hb
      exact S.there b h
    · rw [upd_ne hb] at e
      exact S.there b e
/-- a new cell -/
theorem Sta.newC (S : Sta tb Φ Γ C σ F H) {c : Cell} {o : HO} (h : H c.a = none) (ho : c.on F o) : Sta tb Φ Γ (c :: C) σ F (upd H c.a o) := by
  have hF := S.notF h
  refine ⟨S.env, ⟨fun d hd => ?_, ?_⟩, fun b u e => ?_, S.fine, S.tab.fix (fix_new h), S.base, S.fresh, fun b u e n d => ?_, fun d hd => ?_, fun b e => ?_⟩
  · rcases List.mem_cons.mp hd with rfl | hd
    · exact ⟨o, upd_same, ho, hF⟩
    · obtain ⟨u, h1, h2, h3⟩ := S.cells.at_ d hd
      exact ⟨u, by rw [upd_ne (ne_of_none h1 h)]; exact h1, h2, h3⟩
  · rw [List.map_cons, List.nodup_cons]
    refine ⟨fun z => ?_, S.cells.nd⟩
    obtain ⟨d, hd, e⟩ := List.mem_map.mp z
    obtain ⟨u, h1, _, _⟩ := S.cells.at_ d hd
    rw [e, h] at h1
    cases h1
  · have hb : b ≠ c.a := fun z => by
      rw [z, hF] at e
      cases e
    unfold L2.Rd
    rw [upd_ne hb]
    exact S.sub b u e
  · rw [upd_ne (ne_of_none (S.keep b u e n d) h)]
    exact S.keep b u e n d
  · rcases List.mem_cons.mp hd with rfl | hd
    · exact .inr (S.there _ h)
    · exact S.own d hd
  · by_cases hb : b = c.a
    · subst hb
      exact S.there _ h
    · rw [upd_ne hb] at e
      exact S.there b e
theorem upd_none_iff {H : Hp} {a b : Addr} {o u : HO} (h : H a = some u) (e : upd H a o b = none) : H b = none := by
  by_cases hb : b = a
  · rw [hb, upd_same] at e
    cases e
  · rw [upd_ne hb] at e
    exact e
/-- a cell's content changes -/
theorem Sta.put {C1 C2 : List Cell} {c c' : Cell} {o u : HO} (S : Sta tb Φ Γ (C1 ++ c :: C2) σ F H) (ha : c'.a = c.a) (hu : H c.a = some u) (h2 : ∀ φ, u ≠ .ext φ) (ho : c'.on F o) : Sta tb Φ Γ (C1 ++ c' :: C2) σ F (upd H c.a o) := by
  obtain ⟨w, w1, w2, hF⟩ := S.cells.at_ c (by simp)
  have hm : ∀ d, d ∈ C1 ++ c' :: C2 → d = c' ∨ (d ∈ C1 ++ c :: C2 ∧ d.a ≠ c.a) := fun d hd => by
    have nd := S.cells.nd
    rw [List.map_append, List.map_cons, List.nodup_append] at nd
    obtain ⟨n1, n2, n3⟩ := nd
    rw [List.nodup_cons] at n2
    rcases List.mem_append.mp hd with z | z
    · refine .inr ⟨by simp [z], fun e => ?_⟩
      exact n3 d.a (List.mem_map.mpr ⟨d, z, rfl⟩) c.a (by simp) e
    · rcases List.mem_cons.mp z with z | z
      · exact .inl z
      · exact .inr ⟨by simp [z], fun e => n2.1 (List.mem_map.mpr ⟨d, z, e⟩)⟩
  have w3 : w = u := by
    rw [w1] at hu
    exact Option.some.inj hu
  subst w3
  refine ⟨S.env, ⟨fun d hd => ?_, ?_⟩, fun b v e => ?_, S.fine, S.tab.fix (fix_upd hu (c.nt w2) h2), S.base, S.fresh, fun b v e n d => ?_, fun d hd => ?_, fun b e => S.there b (upd_none_iff hu e)⟩
  · rcases hm d hd with rfl | ⟨h1, h3⟩
    · exact ⟨o, by rw [ha, upd_same], ho, by rw [ha]; exact hF⟩
    · obtain ⟨v, q1, q2, q3⟩ := S.cells.at_ d h1
      exact ⟨v, by rw [upd_ne h3]; exact q1, q2, q3⟩
  · have nd := S.cells.nd
    rw [List.map_append, List.map_cons] at nd ⊢
    rw [ha]
    exact nd
  · have hb : b ≠ c.a := fun z => by
      rw [z, hF] at e
      cases e
    unfold L2.Rd
    rw [upd_ne hb]
    exact S.sub b v e
  · have hb : b ≠ c.a := fun z => by
      rcases S.own c (by simp) with k | k
      · rw [← z] at k
        exact d k
      · rw [← z, e] at k
        cases k
    rw [upd_ne hb]
    exact S.keep b v e n d
  · rcases hm d hd with rfl | ⟨h1, h3⟩
    · rw [ha]
      exact S.own c (by simp)
    · exact S.own d h1
/-- a cell is frozen -/
theorem Sta.freeze {C1 C2 : List Cell} {c : Cell} (S : Sta tb Φ Γ (C1 ++ c :: C2) σ F H) (hD : c.a ∉ Φ.D) (hf : ∀ F o, c.on F o → Fine o) : ∃ o, c.on (upd F c.a o) o ∧ L2.Same F (upd F c.a o) ∧ Sta tb Φ Γ (C1 ++ C2) σ (upd F c.a o) H := by
  obtain ⟨o, h1, h2, hF⟩ := S.cells.at_ c (by simp)
  have s := same_new (u := o) hF
  refine ⟨o, c.mono s h2, s, S.env.mono s, ⟨fun d hd => ?_, ?_⟩, fun b u e => ?_, fun b u e => ?_, S.tab.grow s, fun b u e => s _ _ (S.base _ _ e), fun b u e n => ?_, S.keep, fun d hd => ?_, S.there⟩
  · have hd' : d ∈ C1 ++ c :: C2 := by
      rcases List.mem_append.mp hd with z | z <;> simp [z]
    obtain ⟨u, q1, q2, q3⟩ := S.cells.at_ d hd'
    have nd := S.cells.nd
    rw [List.map_append, List.map_cons, List.nodup_append] at nd
    obtain ⟨n1, n2, n3⟩ := nd
    rw [List.nodup_cons] at n2
    have hne : d.a ≠ c.a := fun e => by
      rcases List.mem_append.mp hd with z | z
      · exact n3 d.a (List.mem_map.mpr ⟨d, z, rfl⟩) c.a (by simp) e
      · exact n2.1 (List.mem_map.mpr ⟨d, z, e⟩)
    exact ⟨u, q1, d.mono s q2, by rw [upd_ne hne]; exact q3⟩
  · have nd := S.cells.nd
    rw [List.map_append, List.map_cons] at nd
    rw [List.map_append]
    exact nd.sublist (List.Sublist.append_left (List.sublist_cons_self ..) _)
  · by_cases hb : b = c.a
    · subst hb
      rw [upd_same] at e
      cases e
      exact .inl h1
    · rw [upd_ne hb] at e
      exact S.sub b u e
  · by_cases hb : b = c.a
    · subst hb
      rw [upd_same] at e
      cases e
      exact hf F _ h2
    · rw [upd_ne hb] at e
      exact S.fine b u e
  · by_cases hb : b = c.a
    · subst hb
      rcases S.own c (by simp) with k | k
      · exact absurd k hD
      · exact k
    · rw [upd_ne hb] at e
      exact S.fresh b u e n
  · have hd' : d ∈ C1 ++ c :: C2 := by
      rcases List.mem_append.mp hd with z | z <;> simp [z]
    exact S.own d hd'
theorem Sta.setv (S : Sta tb Φ Γ C σ F H) (i : Nat) {p : Pr} {v : V} (r : p.on F v) : Sta tb Φ (Γ.set i (some p)) C (σ.set i (some v)) F H :=
  ⟨S.env.set i r, S.cells, S.sub, S.fine, S.tab, S.base, S.fresh, S.keep, S.own, S.there⟩
theorem Sta.forget (S : Sta tb Φ Γ C σ F H) (i : Nat) : Sta tb Φ (Γ.set i none) C σ F H :=
  ⟨S.env.forget i, S.cells, S.sub, S.fine, S.tab, S.base, S.fresh, S.keep, S.own, S.there⟩
theorem Sta.perm {C' : List Cell} (S : Sta tb Φ Γ C σ F H) (p : C.Perm C') : Sta tb Φ Γ C' σ F H :=
  ⟨S.env, ⟨fun c hc => S.cells.at_ c (p.mem_iff.mpr hc), (p.map _).nodup_iff.mp S.cells.nd⟩, S.sub, S.fine, S.tab, S.base, S.fresh, S.keep, fun c hc => S.own c (p.mem_iff.mpr hc), S.there⟩
end
end Z

end
section
set_option Elab.async false
set_option linter.all false
set_option maxRecDepth 100000
/-! Z3: the judgements Ev, Et, Ea, Tr and the rules of expressions. -/
namespace Z
open PySem PySem.Spec PyProof.Rows L2
structure J where
  X : L2.Cx
  tb : Tb
  /-- what may be raised: the class, the cells then -/
  XP : Value → List Cell → Prop
abbrev Gm := List (Option Pr)
abbrev Ps := List Cell → Pr → Prop
def WXof (j : J) (Φ : Fx) : WX := fun cls _ _ H => ∃ C F, j.XP cls C ∧ Sta j.tb Φ [] C [] F H
def XW (j : J) (Φ : Fx) : Prop := Takes j.X (WXof j Φ)
/-- what follows a value -/
def Kv (j : J) (Φ : Fx) (Γ : Gm) (σ : L2.St) (F : Hp) (R : Ps) (Q : VK) : Prop := ∀ v F' H' C' ρ, R C' ρ → Sta j.tb Φ Γ C' σ F' H' → L2.Same F F' → ρ.on F' v → Q v H'
def Ev (j : J) (Γ : Gm) (C : List Cell) (e : Expr) (R : Ps) : Prop := ∀ Φ σ F H Q, XW j Φ → Sta j.tb Φ Γ C σ F H → Kv j Φ Γ σ F R Q → We j.X e σ H Q
def Kb (j : J) (Φ : Fx) (Γ : Gm) (σ : L2.St) (F : Hp) (R : List Cell → Bool → Prop) (Q : Bool → Hp → Prop) : Prop := ∀ b F' H' C', R C' b → Sta j.tb Φ Γ C' σ F' H' → L2.Same F F' → Q b H'
def Et (j : J) (Γ : Gm) (C : List Cell) (e : Expr) (R : List Cell → Bool → Prop) : Prop := ∀ Φ σ F H Q, XW j Φ → Sta j.tb Φ Γ C σ F H → Kb j Φ Γ σ F R Q → Wt j.X e σ H Q
def Ka (j : J) (Φ : Fx) (Γ : Gm) (σ : L2.St) (F : Hp) (R : List Cell → List Pr → Prop) (Q : List V → Hp → Prop) : Prop := ∀ vs F' H' C' ρs, R C' ρs → Sta j.tb Φ Γ C' σ F' H' → L2.Same F F' → AllOn ρs F' vs → Q vs H'
def Ea (j : J) (Γ : Gm) (C : List Cell) (es : List Expr) (R : List Cell → List Pr → Prop) : Prop := ∀ Φ σ F H Q, XW j Φ → Sta j.tb Φ Γ C σ F H → Ka j Φ Γ σ F R Q → Wa j.X es σ H Q
structure Po where
  nx : Gm → List Cell → Prop := fun _ _ => False
  rt : Ps := fun _ _ => False
  bk : Gm → List Cell → Prop := fun _ _ => False
  ct : Gm → List Cell → Prop := fun _ _ => False
def NxOf (tb : Tb) (Φ : Fx) (N : Gm → List Cell → Prop) : L2.St → Hp → Prop := fun σ H => ∃ Γ C F, N Γ C ∧ Sta tb Φ Γ C σ F H
def RtOf (tb : Tb) (Φ : Fx) (R : Ps) : VK := fun v H => ∃ Γ C F σ ρ, R C ρ ∧ Sta tb Φ Γ C σ F H ∧ ρ.on F v
def Po.ends (P : Po) (tb : Tb) (Φ : Fx) : Ends := { nx := NxOf tb Φ P.nx, rt := RtOf tb Φ P.rt, bk := NxOf tb Φ P.bk, ct := NxOf tb Φ P.ct }
def Tr (j : J) (Γ : Gm) (C : List Cell) (sts : List Stmt) (P : Po) : Prop := ∀ Φ σ F H, XW j Φ → Sta j.tb Φ Γ C σ F H → Wb j.X sts (P.ends j.tb Φ) σ H
section
variable {j : J} {Γ : Gm} {C : List Cell} {R R' : Ps} {pos pos' pos2 : Pos} {a b c e : Expr}
theorem Kv.same {Φ : Fx} {σ : L2.St} {F F1 : Hp} {Q : VK} (k : Kv j Φ Γ σ F R Q) (s : L2.Same F F1) : Kv j Φ Γ σ F1 R Q := fun v F' H' C' ρ r S s' o => k v F' H' C' ρ r S (s.trans s') o
theorem Ev.imp (h : Ev j Γ C e R) (k : ∀ C' ρ, R C' ρ → R' C' ρ) : Ev j Γ C e R' := fun Φ σ F H Q x S K => h Φ σ F H Q x S fun v F' H' C' ρ r => K v F' H' C' ρ (k C' ρ r)
/-- a value by a rule of the hand layer -/
theorem ev_lift {t : TE} (h : PE j.X e t) (k : ∀ Φ σ F H Q, XW j Φ → Sta j.tb Φ Γ C σ F H → Kv j Φ Γ σ F R Q → t σ H Q) : Ev j Γ C e R := fun Φ σ F H Q x S K => we_of h (k Φ σ F H Q x S K)
theorem et_lift {t : TT} {R : List Cell → Bool → Prop} (h : PT j.X e t) (k : ∀ Φ σ F H Q, XW j Φ → Sta j.tb Φ Γ C σ F H → Kb j Φ Γ σ F R Q → t σ H Q) : Et j Γ C e R := fun Φ σ F H Q x S K => wt_of h (k Φ σ F H Q x S K)
theorem Kv.now {Φ : Fx} {σ : L2.St} {F H : Hp} {Q : VK} {ρ : Pr} {v : V} (k : Kv j Φ Γ σ F R Q) (S : Sta j.tb Φ Γ C σ F H) (r : R C ρ) (o : ρ.on F v) : Q v H := k v F H C ρ r S (L2.Same.refl F) o
/-! ### names, constants -/
theorem ev_name (i : Nat) {x : Str} {p : Pr} (hp : Γ[i]? = some (some p)) (r : R C p) (hN : j.X.N[i]? = some x := by rfl) (hv : Vis j.X.env.scope x := by first | exact Or.inl rfl | exact Or.inr (Or.inl rfl) | exact Or.inr (Or.inr rfl))
    (hd : (x == ("__debug__" : Str)) = false := by decide) (hcd : (x == ("__classdict__" : Str)) = false := by decide) : Ev j Γ C (.Name x pos) R :=
  ev_lift (pe_var hN hv hd hcd) fun Φ σ F H Q _ S K => by
    obtain ⟨v, h1, h2⟩ := S.env.at_ i p hp
    exact ⟨v, h1, K.now S r h2⟩
theorem ev_const {v : V} (h : PE j.X e (tC v)) (r : R C (isV v)) : Ev j Γ C e R := ev_lift h fun Φ σ F H Q _ S K => K.now S r rfl
theorem ev_int {i : Int} {k : Nat} (r : R C (isI i)) : Ev j Γ C (.Constant (.int i) k pos) R := ev_const pe_int r
theorem ev_bl {i : Bool} {k : Nat} (r : R C (isB i)) : Ev j Γ C (.Constant (.bool i) k pos) R := ev_const pe_bl r
theorem ev_non {k : Nat} (r : R C isN) : Ev j Γ C (.Constant .none k pos) R := ev_const pe_non r
theorem ev_str {x : Str} {k : Nat} (r : R C (isS x)) : Ev j Γ C (.Constant (.str x) k pos) R := ev_const pe_str r
/-- a module's name: rel a value's word at every frozen heap -/
theorem ev_glob {x : Str} {v : V} {u : Value} (hm : j.X.mg x = some u) (rv : RelV v u) (r : R C (isV v)) (hg : Gl j.X x := by rfl) (hd : (x == ("__debug__" : Str)) = false := by decide) : Ev j Γ C (.Name x pos) R := ev_const (pe_glob hg hm rv hd) r

/-! ### operators by the hand layer's rules -/
/-- what an operator asks -/
def OpOk (j : J) (Γ : Gm) (r : R2) (p q : Pr) (C : List Cell) (R : Ps) : Prop := ∀ Φ σ F H v w Q, XW j Φ → Sta j.tb Φ Γ C σ F H → p.on F v → q.on F w → Kv j Φ Γ σ F R Q → r v w H Q
theorem ev_two {e : Expr} {r : R2} (h : PE j.X e (tOp r (We j.X a) (We j.X b))) (k : Ev j Γ C a fun C1 p => Ev j Γ C1 b fun C2 q => OpOk j Γ r p q C2 R) : Ev j Γ C e R :=
  ev_lift h fun Φ σ F H Q x S K => by
    refine k Φ σ F H _ x S fun v F1 H1 C1 p r1 S1 s1 o1 => ?_
    refine r1 Φ σ F1 H1 _ x S1 fun w F2 H2 C2 q r2 S2 s2 o2 => ?_
    exact r2 Φ σ F2 H2 v w Q x S2 (p.mono s2 o1) o2 (K.same (s1.trans s2))
theorem ev_op {op : Operator} {r : R2} (ho : OpR j.X (binaryOp op) r) (k : Ev j Γ C a fun C1 p => Ev j Γ C1 b fun C2 q => OpOk j Γ r p q C2 R) : Ev j Γ C (.BinOp a op b pos) R := ev_two (pe_op ho pe_we pe_we) k
theorem ev_cmp {op : CmpOp} {r : R2} (ho : OpR j.X (compareOp op) r) (hm : behindInMarks op b = false) (k : Ev j Γ C a fun C1 p => Ev j Γ C1 b fun C2 q => OpOk j Γ r p q C2 R) : Ev j Γ C (.Compare a [op] [b] pos) R := ev_two (pe_cmpR ho pe_we pe_we hm) k
theorem ev_ix {r : R2} (hr : IxR j.X r) (k : Ev j Γ C a fun C1 p => Ev j Γ C1 b fun C2 q => OpOk j Γ r p q C2 R) (hs : PlainIx b := by exact fun _ _ => rfl) : Ev j Γ C (.Subscript a b pos) R := ev_two (pe_ix hr pe_we pe_we hs) k
def UnOk (j : J) (Γ : Gm) (r : V → Hp → VK → Prop) (p : Pr) (C : List Cell) (R : Ps) : Prop := ∀ Φ σ F H v Q, XW j Φ → Sta j.tb Φ Γ C σ F H → p.on F v → Kv j Φ Γ σ F R Q → r v H Q
theorem ev_one {e : Expr} {r : V → Hp → VK → Prop} (h : PE j.X e (tUn r (We j.X a))) (k : Ev j Γ C a fun C1 p => UnOk j Γ r p C1 R) : Ev j Γ C e R :=
  ev_lift h fun Φ σ F H Q x S K => by
    refine k Φ σ F H _ x S fun v F1 H1 C1 p r1 S1 s1 o1 => ?_
    exact r1 Φ σ F1 H1 v Q x S1 o1 (K.same s1)
theorem ev_un {op : UnaryOp} {r : V → Hp → VK → Prop} (ho : UnR j.X (unaryOp op) r) (k : Ev j Γ C a fun C1 p => UnOk j Γ r p C1 R) : Ev j Γ C (.UnaryOp op a pos) R := ev_one (pe_un ho pe_we) k
/-! ### argument lists -/
theorem ea_nil {R : List Cell → List Pr → Prop} (r : R C []) : Ea j Γ C [] R := fun Φ σ F H Q x S K => wa_of pa_nil (K [] F H C [] r S (L2.Same.refl F) .nil)
theorem ea_cons {es : List Expr} {R : List Cell → List Pr → Prop} (k : Ev j Γ C e fun C1 p => Ea j Γ C1 es fun C2 ps => R C2 (p :: ps)) (hs : starEach (e :: es) j.X.env = (false, eval e j.X.env) :: starEach es j.X.env := by rfl) : Ea j Γ C (e :: es) R := fun Φ σ F H Q x S K =>
  wa_of (pa_cons pe_we pa_wa hs) (k Φ σ F H _ x S fun v F1 H1 C1 p r1 S1 s1 o1 => r1 Φ σ F1 H1 _ x S1 fun vs F2 H2 C2 ps r2 S2 s2 o2 => K (v :: vs) F2 H2 C2 (p :: ps) r2 S2 (s1.trans s2) (.cons (p.mono s2 o1) o2))
/-- what a built-in asks of its arguments -/
def CallOk (j : J) (Γ : Gm) (r : List V → Hp → VK → Prop) (ps : List Pr) (C : List Cell) (R : Ps) : Prop := ∀ Φ σ F H vs Q, XW j Φ → Sta j.tb Φ Γ C σ F H → AllOn ps F vs → Kv j Φ Γ σ F R Q → r vs H Q
theorem ev_many {es : List Expr} {e : Expr} {r : List V → Hp → VK → Prop} (h : PE j.X e (tCB r (Wa j.X es))) (k : Ea j Γ C es fun C1 ps => CallOk j Γ r ps C1 R) : Ev j Γ C e R :=
  ev_lift h fun Φ σ F H Q x S K => k Φ σ F H _ x S fun vs F1 H1 C1 ps r1 S1 s1 o1 => r1 Φ σ F1 H1 vs Q x S1 o1 (K.same s1)
theorem ev_callB {x : Str} {p : Pos} {id : String} {es : List Expr} {r : List V → Hp → VK → Prop} (hc : CallR j.X (.builtin id) r) (hm : j.X.mg x = none) (hv : bootBuiltins x = some (.builtin id)) (k : Ea j Γ C (e :: es) fun C1 ps => CallOk j Γ r ps C1 R) (hg : Gl j.X x := by rfl)
    (hn : x ≠ "__name__" := by decide) (hdb : (x == ("__debug__" : Str)) = false := by decide) (he : starEach (e :: es) j.X.env = (false, eval e j.X.env) :: starEach es j.X.env := by rfl) (hpl : (backTo pos (starEach es j.X.env)).any (·.1) = false := by rfl) : Ev j Γ C (.Call (.Name x p) (e :: es) [] pos) R :=
  ev_many (pe_callB hc hg hm hv pa_wa hn hdb he hpl) k
theorem ev_callTy {x : Str} {p : Pos} {T : String} {es : List Expr} {r : List V → Hp → VK → Prop} (hc : CallR j.X (.type T) r) (hm : j.X.mg x = none) (hv : bootBuiltins x = some (.type T)) (k : Ea j Γ C (e :: es) fun C1 ps => CallOk j Γ r ps C1 R) (hg : Gl j.X x := by rfl)
    (hn : x ≠ "__name__" := by decide) (hdb : (x == ("__debug__" : Str)) = false := by decide) (he : starEach (e :: es) j.X.env = (false, eval e j.X.env) :: starEach es j.X.env := by rfl) (hpl : (backTo pos (starEach es j.X.env)).any (·.1) = false := by rfl) : Ev j Γ C (.Call (.Name x p) (e :: es) [] pos) R :=
  ev_many (pe_callTy hc hg hm hv pa_wa hn hdb he hpl) k
/-! ### displays -/
theorem ev_tup {es : List Expr} {k : Nat} (h : Ea j Γ C es fun C1 ps => ps.length ≤ sizeLine ∧ R C1 (rT j.X.K ps)) : Ev j Γ C (.Tuple es k pos) R :=
  ev_lift (pe_tup pa_wa) fun Φ σ F H Q x S K => h Φ σ F H _ x S fun vs F1 H1 C1 ps ⟨hz, r1⟩ S1 s1 o1 => by
    refine ⟨by rw [← o1.length]; exact hz, fun p hp => ?_⟩
    obtain ⟨S2, s2⟩ := S1.newF (o := .tup vs) hp ⟨fun _ z => (nomatch z), fun _ _ z => (nomatch z)⟩
    exact K _ _ _ _ _ r1 S2 (s1.trans s2) ⟨p, vs, rfl, SqT.of upd_same, o1.mono s2⟩
/-- a list that nobody changes -/
theorem ev_lst {es : List Expr} (h : Ea j Γ C es fun C1 ps => ps.length ≤ sizeLine ∧ R C1 (rL ps)) : Ev j Γ C (.List es pos) R :=
  ev_lift (pe_lst pa_wa) fun Φ σ F H Q x S K => h Φ σ F H _ x S fun vs F1 H1 C1 ps ⟨hz, r1⟩ S1 s1 o1 => by
    refine ⟨by rw [← o1.length]; exact hz, fun p hp => ?_⟩
    obtain ⟨S2, s2⟩ := S1.newF (o := .lst vs) hp ⟨fun _ z => (nomatch z), fun _ _ z => (nomatch z)⟩
    exact K _ _ _ _ _ r1 S2 (s1.trans s2) ⟨p, vs, rfl, upd_same, o1.mono s2⟩
/-- a new list as a cell -/
theorem ev_lstC {es : List Expr} (h : Ea j Γ C es fun C1 ps => ps.length ≤ sizeLine ∧ ∀ p, R (cL p ps :: C1) (isR p)) : Ev j Γ C (.List es pos) R :=
  ev_lift (pe_lst pa_wa) fun Φ σ F H Q x S K => h Φ σ F H _ x S fun vs F1 H1 C1 ps ⟨hz, r1⟩ S1 s1 o1 => by
    refine ⟨by rw [← o1.length]; exact hz, fun p hp => ?_⟩
    exact K _ _ _ _ _ (r1 p) (S1.newC (c := cL p ps) hp ⟨vs, rfl, o1⟩) s1 rfl
theorem ev_dicC (r : ∀ p, R (cK p [] :: C) (isR p)) : Ev j Γ C (.Dict [] [] pos) R :=
  ev_lift pe_dnewK fun Φ σ F H Q x S K p hp => K _ _ _ _ _ (r p) (S.newC (c := cK p []) hp ⟨[], rfl, .nil⟩) (L2.Same.refl F) rfl
/-! ### tests -/
theorem et_val {R2' : List Cell → Bool → Prop} (h : Ev j Γ C e fun C1 p => ∃ b, p = isB b ∧ R2' C1 b) (he : ∀ whole, isTrue e j.X.env whole = (do let v ← whole; standAt e.pos; holding [v] (truthy v)) := by intro _; rfl) : Et j Γ C e R2' :=
  et_lift (pt_val pe_we he) fun Φ σ F H Q x S K => h Φ σ F H _ x S fun v F1 H1 C1 p ⟨b, ep, r⟩ S1 s1 o1 => by
    subst ep
    exact ⟨b, o1, K b F1 H1 C1 r S1 s1⟩
theorem et_cmp {op : CmpOp} {r : R2} {R2' : List Cell → Bool → Prop} (ho : OpR j.X (compareOp op) r) (hm : behindInMarks op b = false) (k : Ev j Γ C a fun C1 p => Ev j Γ C1 b fun C2 q => OpOk j Γ r p q C2 fun C3 z => ∃ b, z = isB b ∧ R2' C3 b) : Et j Γ C (.Compare a [op] [b] pos) R2' :=
  et_lift (pt_cmpR ho pe_we pe_we hm) fun Φ σ F H Q x S K => by
    refine k Φ σ F H _ x S fun v F1 H1 C1 p r1 S1 s1 o1 => ?_
    refine r1 Φ σ F1 H1 _ x S1 fun w F2 H2 C2 q r2 S2 s2 o2 => ?_
    refine r2 Φ σ F2 H2 v w _ x S2 (p.mono s2 o1) o2 fun z F3 H3 C3 pz ⟨b, ez, r⟩ S3 s3 o3 => ?_
    subst ez
    exact ⟨b, o3, K b F3 H3 C3 r S3 ((s1.trans s2).trans s3)⟩
theorem et_not {R2' : List Cell → Bool → Prop} (h : Et j Γ C e fun C1 b => R2' C1 (!b)) : Et j Γ C (.UnaryOp .Not e pos) R2' :=
  et_lift (pt_not pt_wt) fun Φ σ F H Q x S K => h Φ σ F H _ x S fun b F1 H1 C1 r S1 s1 => K _ _ _ _ r S1 s1
/-- and, or: a chain's part -/
def Ww (X : L2.Cx) (e : Expr) : TT := fun σ H Q => ∀ (whole : Sem Value) (pins : Pins) (s : Shared), Inv X pins σ H s → wpAny (model X.prog X.w) X.A (isTrue e X.env whole) (TP X pins σ Q) X.xe s
theorem pw_ww {X : L2.Cx} {e : Expr} : PW X e (Ww X e) := ⟨fun wh pins s σ H Q I h => h wh pins s I⟩
def Etw (j : J) (Γ : Gm) (C : List Cell) (e : Expr) (R : List Cell → Bool → Prop) : Prop := ∀ Φ σ F H Q, XW j Φ → Sta j.tb Φ Γ C σ F H → Kb j Φ Γ σ F R Q → Ww j.X e σ H Q
variable {es : List Expr} {R2' : List Cell → Bool → Prop}
theorem et_w (h : Etw j Γ C e R2') : Et j Γ C e R2' := et_lift pw_ww.pt h
theorem etw_lift {t : TT} (h : PW j.X e t) (k : ∀ Φ σ F H Q, XW j Φ → Sta j.tb Φ Γ C σ F H → Kb j Φ Γ σ F R2' Q → t σ H Q) : Etw j Γ C e R2' := fun Φ σ F H Q x S K wh pins s I => h.run wh pins s σ H Q I (k Φ σ F H Q x S K)
theorem etw_and1 (h : Et j Γ C a R2') : Etw j Γ C (.BoolOp .And [a] pos) R2' := etw_lift (pw_and1 pt_wt) h
theorem etw_or1 (h : Et j Γ C a R2') : Etw j Γ C (.BoolOp .Or [a] pos) R2' := etw_lift (pw_or1 pt_wt) h
theorem etw_and (h : Et j Γ C a fun C1 x => (x = true → Etw j Γ C1 (.BoolOp .And (b :: es) pos) R2') ∧ (x = false → R2' C1 false)) : Etw j Γ C (.BoolOp .And (a :: b :: es) pos) R2' :=
  etw_lift (pw_and pt_wt pw_ww) fun Φ σ F H Q x S K => h Φ σ F H _ x S fun v F1 H1 C1 ⟨r1, r2⟩ S1 s1 => by
    cases v with
    | true => exact iteT (r1 rfl Φ σ F1 H1 Q x S1 fun b' F2 H2 C2 r S2 s2 => K b' F2 H2 C2 r S2 (s1.trans s2))
    | false => exact iteF (K _ _ _ _ (r2 rfl) S1 s1)
theorem etw_or (h : Et j Γ C a fun C1 x => (x = true → R2' C1 true) ∧ (x = false → Etw j Γ C1 (.BoolOp .Or (b :: es) pos) R2')) : Etw j Γ C (.BoolOp .Or (a :: b :: es) pos) R2' :=
  etw_lift (pw_or pt_wt pw_ww) fun Φ σ F H Q x S K => h Φ σ F H _ x S fun v F1 H1 C1 ⟨r1, r2⟩ S1 s1 => by
    cases v with
    | true => exact iteT (K _ _ _ _ (r1 rfl) S1 s1)
    | false => exact iteF (r2 rfl Φ σ F1 H1 Q x S1 fun b' F2 H2 C2 r S2 s2 => K b' F2 H2 C2 r S2 (s1.trans s2))
theorem Et.imp {R2'' : List Cell → Bool → Prop} (h : Et j Γ C e R2') (k : ∀ C' b, R2' C' b → R2'' C' b) : Et j Γ C e R2'' := fun Φ σ F H Q x S K => h Φ σ F H Q x S fun v F' H' C' r => K v F' H' C' (k C' v r)
/-- as values: bools -/
theorem ev_and1 {op : BoolOp} (h : Ev j Γ C a R) : Ev j Γ C (.BoolOp op [a] pos) R := ev_lift (pe_one pe_we) h
theorem ev_and (h : Ev j Γ C a fun C1 p => ∃ x, p = isB x ∧ (x = true → Ev j Γ C1 (.BoolOp .And (b :: es) pos) R) ∧ (x = false → R C1 (isB false))) : Ev j Γ C (.BoolOp .And (a :: b :: es) pos) R :=
  ev_lift (pe_and pe_we pe_we) fun Φ σ F H Q x S K => h Φ σ F H _ x S fun v F1 H1 C1 p ⟨b', ep, r1, r2⟩ S1 s1 o1 => by
    subst ep
    refine ⟨b', o1, ?_⟩
    cases b' with
    | true => exact iteT (r1 rfl Φ σ F1 H1 Q x S1 (K.same s1))
    | false => exact iteF (K _ _ _ _ _ (r2 rfl) S1 s1 rfl)
theorem ev_or (h : Ev j Γ C a fun C1 p => ∃ x, p = isB x ∧ (x = true → R C1 (isB true)) ∧ (x = false → Ev j Γ C1 (.BoolOp .Or (b :: es) pos) R)) : Ev j Γ C (.BoolOp .Or (a :: b :: es) pos) R :=
  ev_lift (pe_or pe_we pe_we) fun Φ σ F H Q x S K => h Φ σ F H _ x S fun v F1 H1 C1 p ⟨b', ep, r1, r2⟩ S1 s1 o1 => by
    subst ep
    refine ⟨b', o1, ?_⟩
    cases b' with
    | true => exact iteT (K _ _ _ _ _ (r1 rfl) S1 s1 rfl)
    | false => exact iteF (r2 rfl Φ σ F1 H1 Q x S1 (K.same s1))
theorem ev_not (h : Ev j Γ C a fun C1 p => ∃ x, p = isB x ∧ R C1 (isB (!x))) : Ev j Γ C (.UnaryOp .Not a pos) R :=
  ev_lift (pe_not pe_we) fun Φ σ F H Q x S K => h Φ σ F H _ x S fun v F1 H1 C1 p ⟨b', ep, r⟩ S1 s1 o1 => by
    subst ep
    exact ⟨b', o1, K _ _ _ _ _ r S1 s1 rfl⟩
theorem ev_ifx (h : Et j Γ C c fun C1 x => (x = true → Ev j Γ C1 a R) ∧ (x = false → Ev j Γ C1 b R)) : Ev j Γ C (.IfExp c a b pos) R :=
  ev_lift (pe_ifExp pt_wt pe_we pe_we) fun Φ σ F H Q x S K => h Φ σ F H _ x S fun v F1 H1 C1 ⟨r1, r2⟩ S1 s1 => by
    cases v with
    | true => exact iteT (r1 rfl Φ σ F1 H1 Q x S1 (K.same s1))
    | false => exact iteF (r2 rfl Φ σ F1 H1 Q x S1 (K.same s1))
/-- a test by truth -/
def TruOk (j : J) (Γ : Gm) (p : Pr) (C : List Cell) (R : List Cell → Bool → Prop) : Prop := ∀ Φ σ F H v, Sta j.tb Φ Γ C σ F H → p.on F v → ∃ k, TruV j.X.K v H k ∧ R C k
theorem et_truth (h : Ev j Γ C e fun C1 p => TruOk j Γ p C1 R2') (he : ∀ whole, isTrue e j.X.env whole = (do let v ← whole; standAt e.pos; holding [v] (truthy v)) := by intro _; rfl) : Et j Γ C e R2' :=
  et_lift (pt_truth pe_we he) fun Φ σ F H Q x S K => h Φ σ F H _ x S fun v F1 H1 C1 p r S1 s1 o1 => by
    obtain ⟨k, h1, h2⟩ := r Φ σ F1 H1 v S1 o1
    exact ⟨k, h1, K k F1 H1 C1 h2 S1 s1⟩
/-- a < b < c -/
theorem et_chain {op op' : CmpOp} {r r' : R2} (ho : OpR j.X (compareOp op) r) (ho' : OpR j.X (compareOp op') r') (hm : lastMarks [op, op'] [b, c] = false)
    (k : Ev j Γ C a fun C1 p => Ev j Γ C1 b fun C2 q => OpOk j Γ r p q C2 fun C3 z => ∃ x, z = isB x ∧ (x = true → Ev j Γ C3 c fun C4 q' => OpOk j Γ r' q q' C4 fun C5 z' => ∃ y, z' = isB y ∧ R2' C5 y) ∧ (x = false → R2' C3 false)) : Et j Γ C (.Compare a [op, op'] [b, c] pos) R2' := by
  refine et_lift (pt_chain ho ho' pe_we pe_we pe_we hm) fun Φ σ F H Q x S K => ?_
  refine k Φ σ F H _ x S fun v F1 H1 C1 p r1 S1 s1 o1 => ?_
  refine r1 Φ σ F1 H1 _ x S1 fun w F2 H2 C2 q r2 S2 s2 o2 => ?_
  refine r2 Φ σ F2 H2 v w _ x S2 (p.mono s2 o1) o2 fun z F3 H3 C3 pz ⟨b', ez, k1, k2⟩ S3 s3 o3 => ?_
  subst ez
  have s13 := (s1.trans s2).trans s3
  refine ⟨b', o3, ?_⟩
  cases b' with
  | false => exact iteF ⟨false, rfl, K _ _ _ _ (k2 rfl) S3 s13⟩
  | true =>
    refine iteT (k1 rfl Φ σ F3 H3 _ x S3 fun w4 F4 H4 C4 q4 r4 S4 s4 o4 => ?_)
    refine r4 Φ σ F4 H4 w w4 _ x S4 (q.mono (s3.trans s4) o2) o4 fun z5 F5 H5 C5 pz5 ⟨y, e5, r5⟩ S5 s5 o5 => ?_
    subst e5
    exact ⟨y, o5, K _ _ _ _ r5 S5 ((s13.trans s4).trans s5)⟩
/-! ### fields -/
theorem look_at {α : Type} : ∀ {l : List (Str × α)} {i : Nat} {f : Str} {v : α}, (l.map Prod.fst).Nodup → l[i]? = some (f, v) → l.lookup f = some v
  | [], _, _, _, _, h => by simp at h
  | (g, u) :: l, 0, f, v, _, h => by
    simp at h
    obtain ⟨rfl, rfl⟩ := h
    rw [List.lookup_cons]
    simp
  | (g, u) :: l, i + 1, f, v, nd, h => by
    have h' : l[i]? = some (f, v) := by simpa using h
    rw [List.map_cons, List.nodup_cons] at nd
    have ne : (f == g) = false := by
      rw [beq_eq_false_iff_ne]
      intro e
      subst e
      exact nd.1 (List.mem_map.mpr ⟨_, List.mem_of_getElem? h', rfl⟩)
    rw [List.lookup_cons, ne]
    exact look_at nd.2 h'
theorem look_no {α : Type} : ∀ {l : List (Str × α)} {f : Str}, f ∉ l.map Prod.fst → l.lookup f = none
  | [], _, _ => rfl
  | (g, u) :: l, f, h => by
    rw [List.map_cons, List.mem_cons, not_or] at h
    have ne : (f == g) = false := by
      rw [beq_eq_false_iff_ne]
      exact h.1
    rw [List.lookup_cons, ne]
    exact look_no h.2
theorem putF_at {f : Str} {v : V} : ∀ {l : List (Str × V)} {i : Nat}, (l.map Prod.fst).Nodup → (l.map Prod.fst)[i]? = some f → putF f v l = l.set i (f, v)
  | [], i, _, h => by simp at h
  | (g, u) :: l, 0, _, h => by
    simp at h
    subst h
    unfold putF
    rw [if_pos rfl]
    rfl
  | (g, u) :: l, i + 1, nd, h => by
    have h' : (l.map Prod.fst)[i]? = some f := by simpa using h
    rw [List.map_cons, List.nodup_cons] at nd
    have ne : g ≠ f := fun e => by
      subst e
      exact nd.1 (List.mem_of_getElem? h')
    unfold putF
    rw [if_neg ne, putF_at nd.2 h']
    rfl
theorem putF_no {f : Str} {v : V} : ∀ {l : List (Str × V)}, f ∉ l.map Prod.fst → putF f v l = l ++ [(f, v)]
  | [], _ => rfl
  | (g, u) :: l, h => by
    rw [List.map_cons, List.mem_cons, not_or] at h
    unfold putF
    rw [if_neg (Ne.symm h.1), putF_no h.2]
    rfl
theorem map_set_self {α β : Type} (g : α → β) : ∀ {l : List α} {i : Nat} {x : α}, (l.map g)[i]? = some (g x) → (l.set i x).map g = l.map g
  | [], _, _, _ => rfl
  | y :: l, 0, x, h => by
    simp at h
    simp [h]
  | y :: l, i + 1, x, h => by
    have h' : (l.map g)[i]? = some (g x) := by simpa using h
    rw [List.set_cons_succ, List.map_cons, List.map_cons, map_set_self g h']
theorem map_set_snd {α β : Type} : ∀ {l : List (α × β)} {i : Nat} {k : α} {v : β}, (l.set i (k, v)).map Prod.snd = (l.map Prod.snd).set i v
  | [], _, _, _ => rfl
  | y :: l, 0, k, v => rfl
  | y :: l, i + 1, k, v => by rw [List.set_cons_succ, List.map_cons, List.map_cons, List.set_cons_succ, map_set_snd]
theorem Sta.ins {tb : Tb} {Φ : Fx} {σ : L2.St} {F H : Hp} {m Cl : Addr} {fns : List Str} {ps : List Pr} (S : Sta tb Φ Γ C σ F H) (hm : cI m Cl fns ps ∈ C) : ∃ (dx : Addr) (fs : List (Str × V)), H m = some (.ins Cl dx fs) ∧ fs.map Prod.fst = fns ∧ AllOn ps F (fs.map Prod.snd) := by
  obtain ⟨o, h1, ⟨dx, fs, e, n, h2⟩, _⟩ := S.cells.at_ _ hm
  subst e
  exact ⟨dx, fs, h1, n, h2⟩
theorem pair_at {α β : Type} {l : List (α × β)} {i : Nat} {k : α} {v : β} (h1 : (l.map Prod.fst)[i]? = some k) (h2 : (l.map Prod.snd)[i]? = some v) : l[i]? = some (k, v) := by
  rw [List.getElem?_map] at h1 h2
  cases e : l[i]? with
  | none => rw [e] at h1; cases h1
  | some p =>
    rw [e] at h1 h2
    obtain ⟨a, b⟩ := p
    cases h1
    cases h2
    rfl
/-- o.f: the i-th attribute -/
theorem ev_fld (i : Nat) {f : Str} {Cl : Addr} {fns : List Str} (cl : Cls j.X.K Cl) (na : NoAttr j.X.K Cl f) (nd : fns.Nodup) (hn : fns[i]? = some f) (h : Ev j Γ C e fun C1 p => ∃ m ps q, p = isR m ∧ cI m Cl fns ps ∈ C1 ∧ ps[i]? = some q ∧ R C1 q)
    (hb : attributeBase e f j.X.env (eval e j.X.env) = eval e j.X.env := by rfl) : Ev j Γ C (.Attribute e f pos) R :=
  ev_lift (pe_fld pe_we hb) fun Φ σ F H Q x S K => h Φ σ F H _ x S fun v F1 H1 C1 p ⟨m, ps, q, ep, hm, hl, r⟩ S1 s1 o1 => by
    subst ep
    obtain ⟨dx, fs, h1, n, h2⟩ := S1.ins hm
    subst n
    obtain ⟨u, l1, l2⟩ := h2.get hl
    exact ⟨m, Cl, dx, fs, u, o1, h1, cl, na, look_at nd (pair_at hn l1), K _ _ _ _ _ r S1 s1 l2⟩
end
/-! ### both ways of a test -/
theorem bF {A B : Prop} (h : B) : (false = true → A) ∧ (false = false → B) := ⟨fun z => (nomatch z), fun _ => h⟩
theorem bT {A B : Prop} (h : A) : (true = true → A) ∧ (true = false → B) := ⟨fun _ => h, fun z => (nomatch z)⟩
theorem bD {A B c : Prop} [Decidable c] (h1 : c → A) (h2 : ¬ c → B) : (decide c = true → A) ∧ (decide c = false → B) := ⟨fun z => h1 (of_decide_eq_true z), fun z => h2 (of_decide_eq_false z)⟩
theorem bN {A B c : Prop} [Decidable c] (h1 : ¬ c → A) (h2 : c → B) : ((!decide c) = true → A) ∧ ((!decide c) = false → B) := ⟨fun z => h1 (by simpa using z), fun z => h2 (by simpa using z)⟩
theorem bB {A B : Prop} {b : Bool} (h1 : b = true → A) (h2 : b = false → B) : (b = true → A) ∧ (b = false → B) := ⟨h1, h2⟩
end Z

end
section
set_option Elab.async false
set_option linter.all false
set_option maxRecDepth 100000
/-! Z4: statements, loops, the promise of a def. -/
namespace Z
open PySem PySem.Spec PyProof.Rows L2
/-! ### from a new beginning -/
section
variable {tb : Tb} {Φ : Fx} {Γ Γ' : Gm} {C C' : List Cell} {σ σ' : L2.St} {F H F' H' : Hp}
def Fx.of (F H : Hp) (C : List Cell) : Fx := ⟨F, H, C.map (·.a)⟩
theorem Sta.rebase (S : Sta tb Φ Γ C σ F H) : Sta tb (Fx.of F H C) Γ C σ F H :=
  ⟨S.env, S.cells, S.sub, S.fine, S.tab, L2.Same.refl F, fun a o e n => absurd ((show F a = none from n).symm.trans e) (fun z => nomatch z), fun a o e _ _ => e, fun c hc => .inl (List.mem_map.mpr ⟨c, hc, rfl⟩), fun a e => e⟩
theorem Sta.trans (S : Sta tb Φ Γ C σ F H) (S' : Sta tb (Fx.of F H C) Γ' C' σ' F' H') : Sta tb Φ Γ' C' σ' F' H' := by
  refine ⟨S'.env, S'.cells, S'.sub, S'.fine, S'.tab, S.base.trans S'.base, fun a o e n => ?_, fun a o e n d => ?_, fun c hc => ?_, fun a e => S.there a (S'.there a e)⟩
  · cases q : F a with
    | none => exact S.there a (S'.fresh a o e q)
    | some u => exact S.fresh a u q n
  · refine S'.keep a o (S.keep a o e n d) n fun hm => ?_
    obtain ⟨c, hc, ec⟩ := List.mem_map.mp hm
    rcases S.own c hc with z | z
    · rw [ec] at z
      exact d z
    · rw [ec, e] at z
      cases z
  · rcases S'.own c hc with z | z
    · obtain ⟨c0, h0, e0⟩ := List.mem_map.mp z
      rw [← e0]
      exact S.own c0 h0
    · exact .inr (S.there _ z)
end
section
variable {j : J} {Γ : Gm} {C : List Cell} {P : Po} {sts : List Stmt}
theorem XW.rebase {Φ : Fx} {σ : L2.St} {F H : Hp} (x : XW j Φ) (S : Sta j.tb Φ Γ C σ F H) : XW j (Fx.of F H C) := Takes.imp x fun cls d σ' H' ⟨C', F', h1, S'⟩ => ⟨C', F', h1, S.trans S'⟩
/-- .. and the frozen heap has grown -/
def NxS (tb : Tb) (Φ : Fx) (F : Hp) (N : Gm → List Cell → Prop) : L2.St → Hp → Prop := fun σ H => ∃ Γ C F', N Γ C ∧ Sta tb Φ Γ C σ F' H ∧ L2.Same F F'
def RtS (tb : Tb) (Φ : Fx) (F : Hp) (R : Ps) : VK := fun v H => ∃ Γ C F' σ ρ, R C ρ ∧ Sta tb Φ Γ C σ F' H ∧ ρ.on F' v ∧ L2.Same F F'
def Po.endsS (P : Po) (tb : Tb) (Φ : Fx) (F : Hp) : Ends := { nx := NxS tb Φ F P.nx, rt := RtS tb Φ F P.rt, bk := NxS tb Φ F P.bk, ct := NxS tb Φ F P.ct }
theorem Wb.mono {X : L2.Cx} {sts : List Stmt} {D D' : Ends} {σ : L2.St} {H : Hp} (h : Wb X sts D σ H) (n : ∀ σ H, D.nx σ H → D'.nx σ H) (r : ∀ v H, D.rt v H → D'.rt v H) (b : ∀ σ H, D.bk σ H → D'.bk σ H) (c : ∀ σ H, D.ct σ H → D'.ct σ H) : Wb X sts D' σ H := fun pins s I =>
  thn (h pins s I) fun f s' h => by
    cases f with
    | next => exact let ⟨σ', H', I', q⟩ := h; ⟨σ', H', I', n _ _ q⟩
    | brk => exact let ⟨σ', H', I', q⟩ := h; ⟨σ', H', I', b _ _ q⟩
    | cont => exact let ⟨σ', H', I', q⟩ := h; ⟨σ', H', I', c _ _ q⟩
    | ret u => exact let ⟨v, σ', H', I', rv, q⟩ := h; ⟨v, σ', H', I', rv, r _ _ q⟩
theorem Tr.at {Φ : Fx} {σ : L2.St} {F H : Hp} (t : Tr j Γ C sts P) (x : XW j Φ) (S : Sta j.tb Φ Γ C σ F H) : Wb j.X sts (P.endsS j.tb Φ F) σ H := by
  have nx : ∀ {N : Gm → List Cell → Prop} {σ' : L2.St} {H' : Hp}, NxOf j.tb (Fx.of F H C) N σ' H' → NxS j.tb Φ F N σ' H' := fun ⟨Γ', C', F', n, S'⟩ => ⟨Γ', C', F', n, S.trans S', S'.base⟩
  exact (t (Fx.of F H C) σ F H (x.rebase S) S.rebase).mono (fun _ _ => nx) (fun v H' ⟨Γ', C', F', σ', ρ, r, S', o⟩ => ⟨Γ', C', F', σ', ρ, r, S.trans S', o, S'.base⟩) (fun _ _ => nx) fun _ _ => nx
end
section
variable {j : J} {Γ : Gm} {C : List Cell} {R R' : Ps} {pos pos' pos2 : Pos} {a b c e : Expr} {P : Po} {st : Stmt} {rest body : List Stmt}
theorem tr_lift1 {t : TS} (h : PSs j.X rest t) (k : ∀ Φ σ F H, XW j Φ → Sta j.tb Φ Γ C σ F H → t (P.ends j.tb Φ) σ H) : Tr j Γ C rest P := fun Φ σ F H x S => wb_of h (k Φ σ F H x S)
theorem tr_nil (h : P.nx Γ C) : Tr j Γ C [] P := tr_lift1 pss_nil fun Φ σ F H x S => ⟨Γ, C, F, h, S⟩
/-- a statement by its reading, the rest behind -/
theorem tr_lift {t : TS} (h : PS j.X st t) (k : ∀ Φ σ F H, XW j Φ → Sta j.tb Φ Γ C σ F H → t { P.ends j.tb Φ with nx := fun σ' H' => Wb j.X rest (P.ends j.tb Φ) σ' H' } σ H) : Tr j Γ C (st :: rest) P := fun Φ σ F H x S =>
  wb_of (pss_cons h pss_wb) (k Φ σ F H x S)
/-- the last statement of a block -/
theorem tr_last {t : TS} (h : PS j.X st t) (k : ∀ Φ σ F H, XW j Φ → Sta j.tb Φ Γ C σ F H → t (P.ends j.tb Φ) σ H) : Tr j Γ C [st] P := tr_lift1 (pss_one h) k
theorem tr_set (i : Nat) {x : Str} (k : Ev j Γ C e fun C1 p => Tr j (Γ.set i (some p)) C1 rest P) (hN : j.X.N.Nodup) (hi : j.X.N[i]? = some x := by rfl) (hx : Loc j.X.env.scope x := by first | exact Or.inl rfl | exact Or.inr rfl) (hs : swapsWith e (some (.Name x pos')) pos.line j.X.env = pure false := by rfl)
    (hf : j.X.fn x = true ∨ j.X.env.scope.names.lookup x = some .local := by first | exact Or.inl rfl | exact Or.inr rfl) : Tr j Γ C (.Assign [.Name x pos'] e pos :: rest) P :=
  tr_lift (ps_set hN hi hx pe_we hs hf) fun Φ σ F H x S => k Φ σ F H _ x S fun v F1 H1 C1 p r S1 s1 o1 => r Φ _ F1 H1 x (S1.setv i o1)
theorem tr_expr (k : Ev j Γ C e fun C1 _ => Tr j Γ C1 rest P) (hs : swapsWith e none pos.line j.X.env = pure false := by rfl) : Tr j Γ C (.Expr e pos :: rest) P :=
  tr_lift (ps_expr pe_we hs) fun Φ σ F H x S => k Φ σ F H _ x S fun v F1 H1 C1 p r S1 s1 o1 => r Φ _ F1 H1 x S1
theorem tr_ret (k : Ev j Γ C e P.rt) : Tr j Γ C (.Return (some e) pos :: rest) P :=
  tr_lift (ps_ret pe_we) fun Φ σ F H x S => k Φ σ F H _ x S fun v F1 H1 C1 p r S1 s1 o1 => ⟨Γ, C1, F1, σ, p, r, S1, o1⟩
theorem tr_retN (h : P.rt C isN) : Tr j Γ C (.Return none pos :: rest) P :=
  tr_lift ps_retN fun Φ σ F H x S => ⟨Γ, C, F, σ, isN, h, S, rfl⟩
theorem tr_pass (h : Tr j Γ C rest P) : Tr j Γ C (.Pass pos :: rest) P := tr_lift ps_pass fun Φ σ F H x S => h Φ σ F H x S
theorem tr_doc {x : Str} {k : Nat} (h : Tr j Γ C rest P) : Tr j Γ C (.Expr (.Constant (.str x) k pos) pos' :: rest) P := tr_lift ps_doc fun Φ σ F H x S => h Φ σ F H x S
theorem tr_break (h : P.bk Γ C) : Tr j Γ C (.Break pos :: rest) P := tr_lift ps_break fun Φ σ F H x S => ⟨Γ, C, F, h, S⟩
theorem tr_cont (h : P.ct Γ C) : Tr j Γ C (.Continue pos :: rest) P := tr_lift ps_continue fun Φ σ F H x S => ⟨Γ, C, F, h, S⟩
/-- if, the rest behind both (N: what holds behind it) -/
theorem tr_if (N : Gm → List Cell → Prop) {els : List Stmt} (k : Et j Γ C c fun C1 b => (b = true → Tr j Γ C1 body { P with nx := N }) ∧ (b = false → Tr j Γ C1 els { P with nx := N })) (kr : ∀ Γ' C', N Γ' C' → Tr j Γ' C' rest P) : Tr j Γ C (.If c body els pos :: rest) P :=
  tr_lift (ps_if pt_wt pss_wb pss_wb) fun Φ σ F H x S => k Φ σ F H _ x S fun b F1 H1 C1 ⟨r1, r2⟩ S1 s1 => by
    have go : ∀ {sts : List Stmt}, Tr j Γ C1 sts { P with nx := N } → Wb j.X sts { P.ends j.tb Φ with nx := fun σ' H' => Wb j.X rest (P.ends j.tb Φ) σ' H' } σ H1 := fun {sts} t pins s I => by
      refine thn (t Φ σ F1 H1 x S1 pins s I) fun f s' h => ?_
      cases f with
      | next =>
        obtain ⟨σ', H', I', Γ', C', F', n, S'⟩ := h
        exact ⟨σ', H', I', kr Γ' C' n Φ σ' F' H' x S'⟩
      | brk => exact h
      | cont => exact h
      | ret u => exact h
    cases b with
    | true => exact iteT (go (r1 rfl))
    | false => exact iteF (go (r2 rfl))
/-- if whose body never goes on -/
theorem tr_ifx (k : Et j Γ C c fun C1 b => (b = true → Tr j Γ C1 body { P with nx := fun _ _ => False }) ∧ (b = false → Tr j Γ C1 rest P)) : Tr j Γ C (.If c body [] pos :: rest) P :=
  tr_lift (ps_if pt_wt pss_wb pss_nil) fun Φ σ F H x S => k Φ σ F H _ x S fun b F1 H1 C1 ⟨r1, r2⟩ S1 s1 => by
    cases b with
    | true =>
      refine iteT fun pins s I => thn (r1 rfl Φ σ F1 H1 x S1 pins s I) fun f s' h => ?_
      cases f with
      | next =>
        obtain ⟨σ', H', I', Γ', C', F', n, S'⟩ := h
        exact n.elim
      | brk => exact h
      | cont => exact h
      | ret u => exact h
    | false => exact iteF (r2 rfl Φ σ F1 H1 x S1)
theorem NxOf.imp {tb : Tb} {Φ : Fx} {N N' : Gm → List Cell → Prop} (k : ∀ Γ C, N Γ C → N' Γ C) {σ : L2.St} {H : Hp} (h : NxOf tb Φ N σ H) : NxOf tb Φ N' σ H := let ⟨Γ, C, F, n, S⟩ := h; ⟨Γ, C, F, k _ _ n, S⟩
/-- while: the invariant I by a measure -/
theorem tr_while (I : Nat → Gm → List Cell → Prop) (N : Gm → List Cell → Prop) (m0 : Nat) (h0 : I m0 Γ C)
    (hs : ∀ m Γ C, I m Γ C → Et j Γ C c fun C1 b => (b = true → Tr j Γ C1 body { nx := fun Γ' C' => ∃ m', m' < m ∧ I m' Γ' C', ct := fun Γ' C' => ∃ m', m' < m ∧ I m' Γ' C', bk := N, rt := P.rt }) ∧ (b = false → N Γ C1))
    (kr : ∀ Γ' C', N Γ' C' → Tr j Γ' C' rest P) (hp : PassesOwn (model j.X.prog j.X.w) j.X.A j.X.env j.X.xe) : Tr j Γ C (.While c body [] pos :: rest) P :=
  tr_lift (ps_while hp pt_wt pss_wb) fun Φ σ F H x S => by
    refine ⟨fun m σ H => ∃ Γ C F, I m Γ C ∧ Sta j.tb Φ Γ C σ F H, ⟨m0, Γ, C, F, h0, S⟩, ?_⟩
    rintro m σ1 H1 ⟨Γ1, C1, F1, i1, S1⟩
    refine hs m Γ1 C1 i1 Φ σ1 F1 H1 _ x S1 fun b F2 H2 C2 ⟨r1, r2⟩ S2 s2 => ?_
    cases b with
    | true =>
      refine iteT ⟨NxOf j.tb Φ fun Γ' C' => ∃ m', m' < m ∧ I m' Γ' C', fun σ' H' ⟨Γ', C', F', ⟨m', h1, h2⟩, S'⟩ => ⟨m', h1, Γ', C', F', h2, S'⟩, fun pins s I' => thn (r1 rfl Φ σ1 F2 H2 x S2 pins s I') fun f s' h => ?_⟩
      cases f with
      | next => exact h
      | cont => exact h
      | brk =>
        obtain ⟨σ', H', I', Γ', C', F', n, S'⟩ := h
        exact ⟨σ', H', I', kr Γ' C' n Φ σ' F' H' x S'⟩
      | ret u => exact h
    | false => exact iteF (kr Γ1 C2 (r2 rfl) Φ σ1 F2 H2 x S2)
/-! ### for -/
/-- a list of things that are so: frozen, or a cell's -/
def LstOk (j : J) (C : List Cell) (p : Pr) (ps : List Pr) : Prop := ∀ tb Φ Γ σ F H v, Sta tb Φ Γ C σ F H → p.on F v → ∃ a vs, v = .ref a ∧ SqL j.X.K H a vs ∧ AllOn ps F vs
theorem lst_F {ps : List Pr} : LstOk j C (rL ps) ps := fun tb Φ Γ σ F H v S ⟨a, vs, e, h, o⟩ => ⟨a, vs, e, .inl (S.sub _ _ h), o⟩
theorem lst_S {ps : List Pr} : LstOk j C (rLs j.X.K ps) ps := fun tb Φ Γ σ F H v S ⟨a, vs, e, h, o⟩ => ⟨a, vs, e, S.seqL h, o⟩
theorem lst_C {ps : List Pr} {m : Addr} (hm : cL m ps ∈ C) : LstOk j C (isR m) ps := fun tb Φ Γ σ F H v S e => by
  obtain ⟨o, h1, ⟨vs, e', h2⟩, _⟩ := S.cells.at_ _ hm
  subst e'
  exact ⟨m, vs, e, SqL.of h1, h2⟩
def TupOk (j : J) (p : Pr) (ps : List Pr) : Prop := ∀ tb Φ Γ C σ F H v, Sta tb Φ Γ C σ F H → p.on F v → ∃ a vs, v = .ref a ∧ SqT j.X.K H a vs ∧ AllOn ps F vs
theorem tup_F {ps : List Pr} : TupOk j (rT j.X.K ps) ps := fun tb Φ Γ C σ F H v S ⟨a, vs, e, h, o⟩ => ⟨a, vs, e, S.seqT h, o⟩
/-- what stands at a target -/
def Eg (j : J) (Γ : Gm) (C : List Cell) (tg : Expr) (p : Pr) (N : Gm → List Cell → Prop) : Prop := ∀ Φ σ F H v (Q : L2.St → Hp → Prop), XW j Φ → Sta j.tb Φ Γ C σ F H → p.on F v → (∀ Γ' C' σ' F' H', N Γ' C' → Sta j.tb Φ Γ' C' σ' F' H' → L2.Same F F' → Q σ' H') → Wg j.X tg v σ H Q
theorem eg_name (i : Nat) {x : Str} {p : Pr} {N : Gm → List Cell → Prop} (h : N (Γ.set i (some p)) C) (hN : j.X.N.Nodup) (hi : j.X.N[i]? = some x := by rfl) (hx : Loc j.X.env.scope x := by first | exact Or.inl rfl | exact Or.inr rfl)
    (hf : j.X.fn x = true ∨ j.X.env.scope.names.lookup x = some .local := by first | exact Or.inl rfl | exact Or.inr rfl) : Eg j Γ C (.Name x pos) p N := fun Φ σ F H v Q xw S o K pins s u I rv =>
  (pg_name hN hi hx hf).run pins s σ H v u Q I rv (K _ _ _ _ _ h (S.setv i o) (L2.Same.refl F))
/-- for over a frozen list -/
theorem tr_for {tg : Expr} (I : Nat → Gm → List Cell → Prop) (N : Gm → List Cell → Prop)
    (k : Ev j Γ C e fun C1 p => ∃ ps, p = rL ps ∧ I 0 Γ C1 ∧
      (∀ i q Γ' C', ps[i]? = some q → I i Γ' C' → Eg j Γ' C' tg q fun Γ2 C2 => Tr j Γ2 C2 body { nx := I (i + 1), ct := I (i + 1), bk := N, rt := P.rt }) ∧ (∀ Γ' C', I ps.length Γ' C' → N Γ' C'))
    (kr : ∀ Γ' C', N Γ' C' → Tr j Γ' C' rest P) (hp : PassesOwn (model j.X.prog j.X.w) j.X.A j.X.env j.X.xe) (hc : j.X.calm = true) (hs : ∀ x, foldedSetIterable e j.X.env x = pure x := by intro _; rfl) : Tr j Γ C (.For tg e body [] pos :: rest) P :=
  tr_lift (ps_for hp hc (pi_list pe_we) pg_wg pss_wb hs) fun Φ σ F H x S => k Φ σ F H _ x S fun v F1 H1 C1 p ⟨ps, ep, i0, hs, hd⟩ S1 s1 o1 => by
    subst ep
    obtain ⟨al, vs, ev, hl, ho⟩ := o1
    refine ⟨al, ev, ⟨vs, .inl (S1.sub _ _ hl)⟩, for_list (K := j.X.K) (a := al) (xs := vs) (fun i σ H => ∃ Γ C F, I i Γ C ∧ Sta j.tb Φ Γ C σ F H ∧ F al = some (.lst vs) ∧ AllOn ps F vs) ⟨Γ, C1, F1, i0, S1, hl, ho⟩ (fun i σ H _ ⟨Γ', C', F', _, S', hl', _⟩ => .inl (S'.sub _ _ hl')) ?_ ?_⟩
    · rintro i y σ2 H2 hy ⟨Γ2, C2, F2, i2, S2, hl2, ho2⟩
      have hi : i < vs.length := (List.getElem?_eq_some_iff.mp hy).1
      have hi' : i < ps.length := by rw [ho2.length]; exact hi
      obtain ⟨y', e1, e2⟩ := ho2.get (List.getElem?_eq_getElem hi')
      rw [hy] at e1
      cases e1
      refine hs i ps[i] Γ2 C2 (List.getElem?_eq_getElem hi') i2 Φ σ2 F2 H2 y _ x S2 e2 fun Γ3 C3 σ3 F3 H3 t3 S3 s3 => ?_
      refine Wb.mono (Tr.at t3 x S3) (fun σ4 H4 ⟨Γ4, C4, F4, n4, S4, s4⟩ => ?_) (fun v4 H4 ⟨Γ4, C4, F4, σ4, ρ4, r4, S4, o4, _⟩ => ⟨Γ4, C4, F4, σ4, ρ4, r4, S4, o4⟩) (fun σ4 H4 ⟨Γ4, C4, F4, n4, S4, s4⟩ => ?_) fun σ4 H4 ⟨Γ4, C4, F4, n4, S4, s4⟩ => ?_
      · exact ⟨Γ4, C4, F4, n4, S4, (s3.trans s4) _ _ hl2, ho2.mono (s3.trans s4)⟩
      · exact kr Γ4 C4 n4 Φ σ4 F4 H4 x S4
      · exact ⟨Γ4, C4, F4, n4, S4, (s3.trans s4) _ _ hl2, ho2.mono (s3.trans s4)⟩
    · rintro σ2 H2 ⟨Γ2, C2, F2, i2, S2, _, _⟩
      have hlen : ps.length = vs.length := ho.length
      rw [← hlen] at i2
      exact kr Γ2 C2 (hd Γ2 C2 i2) Φ σ2 F2 H2 x S2
end
end Z

end
section
set_option Elab.async false
set_option linter.all false
set_option maxRecDepth 100000
/-! Z5: promises, calls, raise. -/
namespace Z
open PySem PySem.Spec PyProof.Rows L2
section
variable {tb : Tb} {Φ : Fx} {Γ Γ' : Gm} {C C' Cr : List Cell} {σ σ' : L2.St} {F H F' H' : Hp}
theorem envNil {F : Hp} : EnvOk [] F [] := ⟨rfl, fun i p e => by simp at e⟩
theorem Sta.noenv (S : Sta tb Φ Γ C σ F H) : Sta tb Φ [] C [] F H := ⟨envNil, S.cells, S.sub, S.fine, S.tab, S.base, S.fresh, S.keep, S.own, S.there⟩
theorem Sta.env' (S : Sta tb Φ [] C [] F H) (E : EnvOk Γ F σ) : Sta tb Φ Γ C σ F H := ⟨E, S.cells, S.sub, S.fine, S.tab, S.base, S.fresh, S.keep, S.own, S.there⟩
/-- what a callee sees -/
theorem Sta.part (S : Sta tb Φ Γ (C ++ Cr) σ F H) : Sta tb (Fx.of F H C) [] C [] F H := by
  have S1 : Sta tb Φ [] C [] F H := ⟨envNil, ⟨fun c hc => S.cells.at_ c (by simp [hc]), by
    have nd := S.cells.nd
    rw [List.map_append] at nd
    exact (List.nodup_append.mp nd).1⟩, S.sub, S.fine, S.tab, S.base, S.fresh, S.keep, fun c hc => S.own c (by simp [hc]), S.there⟩
  exact S1.rebase
/-- behind a callee -/
theorem Sta.join (S : Sta tb Φ Γ (C ++ Cr) σ F H) (S' : Sta tb (Fx.of F H C) [] C' [] F' H') : Sta tb Φ Γ (C' ++ Cr) σ F' H' := by
  have nd := S.cells.nd
  rw [List.map_append, List.nodup_append] at nd
  obtain ⟨n1, n2, n3⟩ := nd
  have sF : L2.Same F F' := S'.base
  have cr : ∀ c ∈ Cr, c.a ∉ C.map (·.a) := fun c hc z => n3 c.a z c.a (List.mem_map.mpr ⟨c, hc, rfl⟩) rfl
  have atR : ∀ c ∈ Cr, ∃ o, H c.a = some o ∧ c.on F o ∧ F c.a = none := fun c hc => S.cells.at_ c (by simp [hc])
  refine ⟨S.env.mono sF, ⟨fun c hc => ?_, ?_⟩, S'.sub, S'.fine, S'.tab, S.base.trans sF, fun a o e n => ?_, fun a o e n d => ?_, fun c hc => ?_, fun a e => S.there a (S'.there a e)⟩
  · rcases List.mem_append.mp hc with z | z
    · exact S'.cells.at_ c z
    · obtain ⟨o, h1, h2, h3⟩ := atR c z
      refine ⟨o, S'.keep _ _ h1 (c.nt h2) (cr c z), c.mono sF h2, ?_⟩
      cases q : F' c.a with
      | none => rfl
      | some u =>
        have := S'.fresh _ u q h3
        rw [show (Fx.of F H C).H0 c.a = H c.a from rfl, h1] at this
        cases this
  · rw [List.map_append, List.nodup_append]
    refine ⟨S'.cells.nd, n2, fun a ha b hb e => ?_⟩
    subst e
    obtain ⟨c, hc, ec⟩ := List.mem_map.mp hb
    obtain ⟨c', hc', ec'⟩ := List.mem_map.mp ha
    rcases S'.own c' hc' with z | z
    · rw [ec', ← ec] at z
      exact cr c hc z
    · obtain ⟨o, h1, _, _⟩ := atR c hc
      rw [ec', ← ec] at z
      rw [show (Fx.of F H C).H0 c.a = H c.a from rfl, h1] at z
      cases z
  · cases q : F a with
    | none => exact S.there a (S'.fresh a o e q)
    | some u => exact S.fresh a u q n
  · refine S'.keep a o (S.keep a o e n d) n fun hm => ?_
    obtain ⟨c, hc, ec⟩ := List.mem_map.mp hm
    rcases S.own c (by simp [hc]) with z | z
    · rw [ec] at z
      exact d z
    · rw [ec, e] at z
      cases z
  · rcases List.mem_append.mp hc with z | z
    · rcases S'.own c z with w | w
      · obtain ⟨c0, h0, e0⟩ := List.mem_map.mp w
        rw [← e0]
        exact S.own c0 (by simp [h0])
      · exact .inr (S.there _ w)
    · exact S.own c (by simp [z])
/-- a thing beside -/
theorem Sta.beside (S : Sta tb Φ Γ C σ F H) {a : Addr} {o : HO} (h : H a = none) : Sta tb Φ Γ C σ F (upd H a o) := by
  refine ⟨S.env, ⟨fun c hc => ?_, S.cells.nd⟩, fun b u e => ?_, S.fine, S.tab.fix (fix_new h), S.base, S.fresh, fun b u e n d => ?_, S.own, fun b e => ?_⟩
  · obtain ⟨u, h1, h2, h3⟩ := S.cells.at_ c hc
    exact ⟨u, by rw [upd_ne (ne_of_none h1 h)]; exact h1, h2, h3⟩
  · have q := S.sub b u e
    have hb : b ≠ a := fun z => by
      rcases q with q | ⟨ob, q⟩ <;> (rw [z, h] at q; cases q)
    unfold L2.Rd
    rw [upd_ne hb]
    exact q
  · rw [upd_ne (ne_of_none (S.keep b u e n d) h)]
    exact S.keep b u e n d
  · by_cases hb : b = a
    · subst hb
      exact S.there b h
    · rw [upd_ne hb] at e
      exact S.there b e
end
/-- what a def promises -/
structure Prom (ω : Type) where
  ps : ω → List Pr
  C : ω → List Cell := fun _ => []
  pre : ω → Prop := fun _ => True
  R : ω → Ps
  XP : ω → Value → List Cell → Prop := fun _ _ _ => False
def Prom.sp {ω : Type} (tb : Tb) (p : Prom ω) : Sp := fun vs H Q E => ∃ (o : ω) (F : Hp), p.pre o ∧ AllOn (p.ps o) F vs ∧ Sta tb (Fx.of F H (p.C o)) [] (p.C o) [] F H ∧
  (∀ v F' H' C' ρ, p.R o C' ρ → Sta tb (Fx.of F H (p.C o)) [] C' [] F' H' → ρ.on F' v → Q v H') ∧ (∀ cls d F' H' C', p.XP o cls C' → Sta tb (Fx.of F H (p.C o)) [] C' [] F' H' → E cls d H')
section
variable {ω : Type} {tb : Tb} {p : Prom ω}
/-- what must follow a call: o, what beside is kept -/
def Away (j : J) (p : Prom ω) (o : ω) (Cr : List Cell) (R : Ps) : Prop := (∀ C' ρ, p.R o C' ρ → R (C' ++ Cr) ρ) ∧ ∀ cls C', p.XP o cls C' → j.XP cls (C' ++ Cr)
variable {j : J} {Γ : Gm} {C : List Cell} {R : Ps} {pos ppos apos : Pos} {e ob : Expr} {es : List Expr} {x : Str} {k : Nat} {f : Addr} {fd : FuncData} {ps : List Str}
theorem sp_call {Φ : Fx} {σ : L2.St} {F H : Hp} {Q : VK} {vs : List V} {o : ω} {Cr : List Cell} (S : Sta j.tb Φ Γ C σ F H) (K : Kv j Φ Γ σ F R Q) (hp : p.pre o) (ha : AllOn (p.ps o) F vs) (hc : C.Perm (p.C o ++ Cr)) (aw : Away j p o Cr R) :
    p.sp j.tb vs H Q (fun cls _ H => ∃ C F, j.XP cls C ∧ Sta j.tb Φ [] C [] F H) := by
  have S1 := S.perm hc
  exact ⟨o, F, hp, ha, S1.part, fun v F' H' C' ρ r S' o' => K v F' H' _ ρ (aw.1 C' ρ r) (S1.join S') S'.base o', fun cls d F' H' C' r S' => ⟨_, F', aw.2 cls C' r, (S1.join S').noenv⟩⟩
theorem takes_w {Φ : Fx} (x : XW j Φ) : L2.Passes (L2.CX j.X.prog j.X.w) j.X (fun cls _ H => ∃ C F, j.XP cls C ∧ Sta j.tb Φ [] C [] F H) := passes_call x fun _ _ _ _ h => h
/-- f(e, ..) -/
theorem ev_call (Fn : FnOk j.X.prog j.X.w j.X.K j.X.mg j.X.base (L2.CX j.X.prog j.X.w) k f fd ps (p.sp j.tb)) (hr : Room k j.X.A) (hm : j.X.mg x = some (.ref f)) (hk : PySem.W.keepIn j.X.K (.ref f) = true) (hb : Binds j.X.K fd ps [])
    (h : Ea j Γ C (e :: es) fun C1 qs => ∃ o Cr, p.pre o ∧ qs = p.ps o ∧ C1.Perm (p.C o ++ Cr) ∧ Away j p o Cr R)
    (hg : Gl j.X x := by rfl) (hdb : (x == ("__debug__" : Str)) = false := by decide) (he : starEach (e :: es) j.X.env = (false, eval e j.X.env) :: starEach es j.X.env := by rfl) (hpl : (backTo pos (starEach es j.X.env)).any (·.1) = false := by rfl) :
    Ev j Γ C (.Call (.Name x ppos) (e :: es) [] pos) R := fun Φ σ F H Q xw S K =>
  we_of (pe_call Fn hr hg hm hk hb .nil (takes_w xw) pa_wa hdb he hpl) (h Φ σ F H _ xw S fun vs F1 H1 C1 qs ⟨o, Cr, hp, eq, hc, aw⟩ S1 s1 o1 => by
    subst eq
    rw [List.append_nil]
    exact sp_call S1 (K.same s1) hp o1 hc aw)
theorem ev_call0 (Fn : FnOk j.X.prog j.X.w j.X.K j.X.mg j.X.base (L2.CX j.X.prog j.X.w) k f fd ps (p.sp j.tb)) (hr : Room k j.X.A) (hm : j.X.mg x = some (.ref f)) (hk : PySem.W.keepIn j.X.K (.ref f) = true) (hb : Binds j.X.K fd ps [])
    (h : ∃ o Cr, p.pre o ∧ [] = p.ps o ∧ C.Perm (p.C o ++ Cr) ∧ Away j p o Cr R)
    (hg : Gl j.X x := by rfl) (hdb : (x == ("__debug__" : Str)) = false := by decide) :
    Ev j Γ C (.Call (.Name x ppos) [] [] pos) R := fun Φ σ F H Q xw S K =>
  we_of (pe_call0 Fn hr hg hm hk hb .nil (takes_w xw) hdb) (by
    obtain ⟨o, Cr, hp, eq, hc, aw⟩ := h
    exact sp_call S K hp (by rw [← eq]; exact .nil) hc aw)
/-- an instance: a cell's, or frozen -/
def InsOk (j : J) (C : List Cell) (p : Pr) (Cl : Addr) (m : Str) : Prop := ∀ tb Φ Γ σ F H v, Sta tb Φ Γ C σ F H → p.on F v → ∃ a dx fs, v = .ref a ∧ H a = some (.ins Cl dx fs) ∧ fs.lookup m = none
theorem ins_C {a Cl : Addr} {fns : List Str} {ps : List Pr} {m : Str} (h : cI a Cl fns ps ∈ C) (hl : m ∉ fns) : InsOk j C (isR a) Cl m := fun tb Φ Γ σ F H v S e => by
  obtain ⟨dx, fs, h1, n, h2⟩ := S.ins h
  exact ⟨a, dx, fs, e, h1, look_no (by rw [n]; exact hl)⟩
/-- o.m(e, ..) -/
theorem ev_meth {Cl : Addr} {m : Str} (Fn : FnOk j.X.prog j.X.w j.X.K j.X.mg j.X.base (L2.CX j.X.prog j.X.w) k f fd ps (p.sp j.tb)) (hr : Room k j.X.A) (cl : Cls j.X.K Cl) (hm : Meth j.X.K Cl m f) (hb : Binds j.X.K fd ps [])
    (h : Ev j Γ C ob fun C0 q0 => InsOk j C0 q0 Cl m ∧ Ea j Γ C0 (e :: es) fun C1 qs => ∃ o Cr, p.pre o ∧ q0 :: qs = p.ps o ∧ C1.Perm (p.C o ++ Cr) ∧ Away j p o Cr R) {pl : Sem Bool}
    (hst : starEach (e :: es) j.X.env = (false, eval e j.X.env) :: starEach es j.X.env := by rfl) (hpl : (backTo pos (starEach es j.X.env)).any (·.1) = false := by rfl)
    (ht : eval (.Call (.Attribute ob m apos) (e :: es) [] pos) j.X.env = (do
      let ov ← eval ob j.X.env
      standAt apos.atName
      let (f, first) ← holding [ov] (getMethod ov m pl)
      callWith pos f first (backTo pos (starEach (e :: es) j.X.env)) (backToKw pos (keywordEach [] j.X.env))) := by rfl) :
    Ev j Γ C (.Call (.Attribute ob m apos) (e :: es) [] pos) R := fun Φ σ F H Q xw S K =>
  we_of (pe_meth pe_we cl hm Fn hr hb .nil (takes_w xw) pa_wa hst hpl ht) (h Φ σ F H _ xw S fun v F0 H0 C0 q0 ⟨io, ha⟩ S0 s0 o0 => by
    obtain ⟨a, dx, fs, ev, h1, h2⟩ := io _ _ _ _ _ _ _ S0 o0
    refine ⟨a, dx, fs, ev, h1, h2, ha Φ σ F0 H0 _ xw S0 fun vs F1 H1 C1 qs ⟨o, Cr, hp, eq, hc, aw⟩ S1 s1 o1 => ?_⟩
    rw [List.append_nil]
    exact sp_call S1 (K.same (s0.trans s1)) hp (by rw [← eq]; exact .cons (q0.mono s1 o0) o1) hc aw)
theorem ev_meth0 {Cl : Addr} {m : Str} (Fn : FnOk j.X.prog j.X.w j.X.K j.X.mg j.X.base (L2.CX j.X.prog j.X.w) k f fd ps (p.sp j.tb)) (hr : Room k j.X.A) (cl : Cls j.X.K Cl) (hm : Meth j.X.K Cl m f) (hb : Binds j.X.K fd ps [])
    (h : Ev j Γ C ob fun C0 q0 => InsOk j C0 q0 Cl m ∧ ∃ o Cr, p.pre o ∧ [q0] = p.ps o ∧ C0.Perm (p.C o ++ Cr) ∧ Away j p o Cr R) {pl : Sem Bool}
    (ht : eval (.Call (.Attribute ob m apos) [] [] pos) j.X.env = (do
      let ov ← eval ob j.X.env
      standAt apos.atName
      let (f, first) ← holding [ov] (getMethod ov m pl)
      callWith pos f first (backTo pos (starEach [] j.X.env)) (backToKw pos (keywordEach [] j.X.env))) := by rfl) :
    Ev j Γ C (.Call (.Attribute ob m apos) [] [] pos) R := fun Φ σ F H Q xw S K =>
  we_of (pe_meth0 pe_we cl hm Fn hr hb .nil (takes_w xw) ht) (h Φ σ F H _ xw S fun v F0 H0 C0 q0 ⟨io, o, Cr, hp, eq, hc, aw⟩ S0 s0 o0 => by
    obtain ⟨a, dx, fs, ev, h1, h2⟩ := io _ _ _ _ _ _ _ S0 o0
    refine ⟨a, dx, fs, ev, h1, h2, ?_⟩
    show p.sp j.tb (v :: ([] ++ [])) H0 Q _
    exact sp_call S0 (K.same s0) hp (by rw [← eq]; exact .cons o0 .nil) hc aw)
/-- what must follow the making of an instance -/
def Made (j : J) (p : Prom ω) (o : ω) (Cr : List Cell) (a : Addr) (R : Ps) : Prop := (∀ C' ρ, p.R o C' ρ → ρ = isN ∧ R (C' ++ Cr) (isR a)) ∧ ∀ cls C', p.XP o cls C' → j.XP cls (C' ++ Cr)
theorem sp_make {Φ : Fx} {σ : L2.St} {F H : Hp} {Q : VK} {vs : List V} {qs : List Pr} {Cl x dx : Addr} (S : Sta j.tb Φ Γ C σ F H) (K : Kv j Φ Γ σ F R Q) (ha : AllOn qs F vs) (nx : H x = none) (nd : H dx = none) (ne : dx ≠ x)
    (h : ∀ a, ∃ o Cr, p.pre o ∧ isR a :: qs = p.ps o ∧ (cI a Cl [] [] :: C).Perm (p.C o ++ Cr) ∧ Made j p o Cr a R) :
    p.sp j.tb (.ref x :: vs) (upd (upd H dx (.own x)) x (.ins Cl dx [])) (fun v H2 => v = .non ∧ Q (.ref x) H2) (fun cls _ H => ∃ C F, j.XP cls C ∧ Sta j.tb Φ [] C [] F H) := by
  obtain ⟨o, Cr, hp, eq, hc, aw⟩ := h x
  have S1 := ((S.beside (o := .own x) nd).newC (c := cI x Cl [] []) (o := .ins Cl dx []) (by show upd H dx (.own x) x = none; rw [upd_ne ne.symm]; exact nx) ⟨dx, [], rfl, rfl, .nil⟩).perm hc
  refine ⟨o, F, hp, by rw [← eq]; exact .cons rfl ha, S1.part, fun v F' H' C' ρ r S' o' => ?_, fun cls d F' H' C' r S' => ⟨_, F', aw.2 cls C' r, (S1.join S').noenv⟩⟩
  obtain ⟨e1, r1⟩ := aw.1 C' ρ r
  subst e1
  exact ⟨o', K _ F' H' _ (isR x) r1 (S1.join S') S'.base rfl⟩
/-- C(e, ..) -/
theorem ev_make {Cl : Addr} (M : Mk j.X.K Cl f) (Fn : FnOk j.X.prog j.X.w j.X.K j.X.mg j.X.base (L2.CX j.X.prog j.X.w) k f fd ps (p.sp j.tb)) (hr : Room (k + 1) j.X.A) (hm : j.X.mg x = some (.ref Cl)) (hb : Binds j.X.K fd ps [])
    (h : Ea j Γ C (e :: es) fun C1 qs => ∀ a, ∃ o Cr, p.pre o ∧ isR a :: qs = p.ps o ∧ (cI a Cl [] [] :: C1).Perm (p.C o ++ Cr) ∧ Made j p o Cr a R)
    (hg : Gl j.X x := by rfl) (hdb : (x == ("__debug__" : Str)) = false := by decide) (he : starEach (e :: es) j.X.env = (false, eval e j.X.env) :: starEach es j.X.env := by rfl) (hpl : (backTo pos (starEach es j.X.env)).any (·.1) = false := by rfl) :
    Ev j Γ C (.Call (.Name x ppos) (e :: es) [] pos) R := fun Φ σ F H Q xw S K =>
  we_of (pe_make M Fn hr hg hm hb .nil (takes_w xw) pa_wa hdb he hpl) (h Φ σ F H _ xw S fun vs F1 H1 C1 qs hh S1 s1 o1 x dx nx nd ne => by
    rw [List.append_nil]
    exact sp_make S1 (K.same s1) o1 nx nd ne hh)
theorem ev_make0 {Cl : Addr} (M : Mk j.X.K Cl f) (Fn : FnOk j.X.prog j.X.w j.X.K j.X.mg j.X.base (L2.CX j.X.prog j.X.w) k f fd ps (p.sp j.tb)) (hr : Room (k + 1) j.X.A) (hm : j.X.mg x = some (.ref Cl)) (hb : Binds j.X.K fd ps [])
    (h : ∀ a, ∃ o Cr, p.pre o ∧ [isR a] = p.ps o ∧ (cI a Cl [] [] :: C).Perm (p.C o ++ Cr) ∧ Made j p o Cr a R)
    (hg : Gl j.X x := by rfl) (hdb : (x == ("__debug__" : Str)) = false := by decide) :
    Ev j Γ C (.Call (.Name x ppos) [] [] pos) R := fun Φ σ F H Q xw S K =>
  we_of (pe_make0 M Fn hr hg hm hb .nil (takes_w xw) hdb) fun x dx nx nd ne => by
    show p.sp j.tb (.ref x :: ([] ++ [])) _ _ _
    exact sp_make (qs := []) (vs := []) S K .nil nx nd ne h
/-- raise X('m') -/
theorem tr_raise {X : Str} {m : Str} {Cl : Addr} {rest : List Stmt} {P : Po} {p1 p2 p3 p4 : Pos} {jj : Nat} {bmB : List Value} {B newId initId : String} (EF : ExcBaseFacts B newId initId bmB) (q : PySem.W.excIn j.X.K Cl bmB newId = true) (gC : j.X.mg X = some (.ref Cl)) (kC : PySem.W.keepIn j.X.K (.ref Cl) = true)
    (r : Raises j.X (.ref Cl)) (hc : j.X.calm = true) (h : j.XP (.ref Cl) C) (hg : Gl j.X X := by rfl) (hdb : (X == ("__debug__" : Str)) = false := by decide) : Tr j Γ C (.Raise (some (.Call (.Name X p1) [.Constant (.str m) jj p2] [] p3)) none p4 :: rest) P := fun Φ σ F H xw S =>
  wb_of (pss_cons (ps_raise hc xw (pmk_own EF q gC kC r hg hdb)) pss_wb) ⟨C, F, h, S.noenv⟩
/-! ### a def, by its body -/
variable {Pg : Program} {w : World} {K : PySem.W.Frag} {mg : Str → Option Value} {base : Heap} {st : Stmt} {qual : Str} {N : List Str}
/-- the context of a def's body at its entry -/
structure Body (j : J) (Pg : Program) (w : World) (K : PySem.W.Frag) (mg : Str → Option Value) (base : Heap) (N : List Str) (qual : Str) (sc : Scope) (k : Nat) (tb : Tb) : Prop where
  ex : ∃ (f : Addr) (cdv : Value) (A : Around) (outer : List Env) (s : Shared) (H : Hp) (E : XK), j.X = cxOf (L2.CX Pg w) Pg w K mg base N qual sc f cdv A outer s H E
  tb : j.tb = tb
  room : Room k j.X.A
  own : PassesOwn (model j.X.prog j.X.w) j.X.A j.X.env j.X.xe
theorem def_ok {x : Str} (Fn : Fun K x qual st f fd) (Sc : FnScope N ps (defScope st)) (len : ∀ o, (p.ps o).length = ps.length)
    (body : ∀ (o : ω) (cdv : Value) (A : Around) (outer : List Env) (s : Shared) (H : Hp) (E : XK), p.pre o → Room k (A.deeper (envOfC qual (defScope st) s.heap.objs.size f cdv)) →
      PassesOwn (model Pg w) (cxOf (L2.CX Pg w) Pg w K mg base N qual (defScope st) f cdv A outer s H E).A (cxOf (L2.CX Pg w) Pg w K mg base N qual (defScope st) f cdv A outer s H E).env (cxOf (L2.CX Pg w) Pg w K mg base N qual (defScope st) f cdv A outer s H E).xe →
      Tr ⟨cxOf (L2.CX Pg w) Pg w K mg base N qual (defScope st) f cdv A outer s H E, tb, p.XP o⟩ ((p.ps o).map some ++ List.replicate (N.length - ps.length) none) (p.C o) (defBody st) { rt := p.R o, nx := fun _ C => p.R o C isN }) :
    FnOk Pg w K mg base (L2.CX Pg w) (k + 1) f fd ps (p.sp tb) := by
  refine Fn.okX Sc (fun vs H Q E h => ?_) (fun cdv A outer s H vs Q E hr h => ?_)
  · obtain ⟨o, F, _, ha, _⟩ := h
    rw [← ha.length]
    exact len o
  · obtain ⟨o, F, hp, ha, S, kR, kX⟩ := h
    have tk : Takes (cxOf (L2.CX Pg w) Pg w K mg base N qual (defScope st) f cdv A outer s H E) (fun cls d _ H => E cls d H) := takes_of rfl rfl rfl rfl
    have t := body o cdv A outer s H E hp hr (passes_of (K := fun e s'' => L2.CX Pg w outer H s E e s'') rfl)
    refine ⟨Wb _ (defBody st), pss_wb, ?_⟩
    have xw : XW ⟨cxOf (L2.CX Pg w) Pg w K mg base N qual (defScope st) f cdv A outer s H E, tb, p.XP o⟩ (Fx.of F H (p.C o)) := tk.imp fun cls d σ H' ⟨C', F', h1, S'⟩ => kX cls d F' H' C' h1 S'
    have hl : vs.length = ps.length := by rw [← ha.length]; exact len o
    have env : EnvOk ((p.ps o).map some ++ List.replicate (N.length - ps.length) none) F (L2.start N vs) := by
      refine ⟨by unfold L2.start; simp [hl, len o], fun i q e => ?_⟩
      by_cases hi : i < (p.ps o).length
      · rw [List.getElem?_append_left (by simpa using hi), List.getElem?_map] at e
        cases q' : (p.ps o)[i]? with
        | none => rw [q'] at e; cases e
        | some q2 =>
          rw [q'] at e
          cases e
          obtain ⟨v, h1, h2⟩ := ha.get q'
          refine ⟨v, ?_, h2⟩
          unfold L2.start
          rw [List.getElem?_append_left (by rw [List.length_map, ← ha.length]; exact hi), List.getElem?_map, h1]
          rfl
      · rw [List.getElem?_append_right (by simpa using hi), List.getElem?_replicate] at e
        split at e <;> cases e
    refine (t _ _ F H xw (S.env' env)).mono (fun σ' H' ⟨Γ', C', F', n, S'⟩ => ?_) (fun v H' ⟨Γ', C', F', σ', ρ, r, S', o'⟩ => kR v F' H' C' ρ r S'.noenv o') (fun σ' H' ⟨Γ', C', F', n, S'⟩ => n.elim) fun σ' H' ⟨Γ', C', F', n, S'⟩ => n.elim
    exact kR .non F' H' C' isN n S'.noenv rfl
end
end Z

end
section
set_option Elab.async false
set_option linter.all false
set_option maxRecDepth 100000
/-! Z6: data with a Lean type; operators, lists, tuples, texts. -/
namespace Z
open PySem PySem.Spec PyProof.Rows L2
open PySem.W (Datum Tup Holds HoldAll)
/-! ### three, four, five side by side -/
structure T3 (α β γ : Type) where
  a : α
  b : β
  c : γ
  deriving DecidableEq
structure T4 (α β γ δ : Type) where
  a : α
  b : β
  c : γ
  d : δ
  deriving DecidableEq
structure T5 (α β γ δ ε : Type) where
  a : α
  b : β
  c : γ
  d : δ
  e : ε
  deriving DecidableEq
section
variable {α β γ δ ε : Type} [DecidableEq α] [Datum α] [DecidableEq β] [Datum β] [DecidableEq γ] [Datum γ] [DecidableEq δ] [Datum δ] [DecidableEq ε] [Datum ε]
theorem le_max3 {a b c n : Nat} (h : max a (max b c) ≤ n) : a ≤ n ∧ b ≤ n ∧ c ≤ n := by omega
instance : Datum (T3 α β γ) where
  toD p := .tuple [Datum.toD p.a, Datum.toD p.b, Datum.toD p.c]
  plain p := by simp only [PyData.plain, PyData.plainAll, Datum.plain, Bool.and_self]
  eqv p q := by
    simp only [PyData.eqv, PyData.eqvAll]
    rw [Datum.eqv, Datum.eqv, Datum.eqv, Bool.and_true, ← Bool.decide_and, ← Bool.decide_and]
    exact decide_eq_decide.mpr ⟨fun e => by cases p; cases q; simp_all, fun e => by rw [e]; exact ⟨rfl, rfl, rfl⟩⟩
  depth := Datum.depth α + Datum.depth β + Datum.depth γ + 1
  depth_le p := by
    simp only [PyData.depth, PyData.depthAll]
    have h1 := Datum.depth_le p.a; have h2 := Datum.depth_le p.b; have h3 := Datum.depth_le p.c
    omega
instance : Datum (T4 α β γ δ) where
  toD p := .tuple [Datum.toD p.a, Datum.toD p.b, Datum.toD p.c, Datum.toD p.d]
  plain p := by simp only [PyData.plain, PyData.plainAll, Datum.plain, Bool.and_self]
  eqv p q := by
    simp only [PyData.eqv, PyData.eqvAll]
    rw [Datum.eqv, Datum.eqv, Datum.eqv, Datum.eqv, Bool.and_true, ← Bool.decide_and, ← Bool.decide_and, ← Bool.decide_and]
    exact decide_eq_decide.mpr ⟨fun e => by cases p; cases q; simp_all, fun e => by rw [e]; exact ⟨rfl, rfl, rfl, rfl⟩⟩
  depth := Datum.depth α + Datum.depth β + Datum.depth γ + Datum.depth δ + 1
  depth_le p := by
    simp only [PyData.depth, PyData.depthAll]
    have h1 := Datum.depth_le p.a; have h2 := Datum.depth_le p.b; have h3 := Datum.depth_le p.c; have h4 := Datum.depth_le p.d
    omega
instance : Datum (T5 α β γ δ ε) where
  toD p := .tuple [Datum.toD p.a, Datum.toD p.b, Datum.toD p.c, Datum.toD p.d, Datum.toD p.e]
  plain p := by simp only [PyData.plain, PyData.plainAll, Datum.plain, Bool.and_self]
  eqv p q := by
    simp only [PyData.eqv, PyData.eqvAll]
    rw [Datum.eqv, Datum.eqv, Datum.eqv, Datum.eqv, Datum.eqv, Bool.and_true, ← Bool.decide_and, ← Bool.decide_and, ← Bool.decide_and, ← Bool.decide_and]
    exact decide_eq_decide.mpr ⟨fun e => by cases p; cases q; simp_all, fun e => by rw [e]; exact ⟨rfl, rfl, rfl, rfl, rfl⟩⟩
  depth := Datum.depth α + Datum.depth β + Datum.depth γ + Datum.depth δ + Datum.depth ε + 1
  depth_le p := by
    simp only [PyData.depth, PyData.depthAll]
    have h1 := Datum.depth_le p.a; have h2 := Datum.depth_le p.b; have h3 := Datum.depth_le p.c; have h4 := Datum.depth_le p.d; have h5 := Datum.depth_le p.e
    omega
end
/-! ### a value's word by its Lean value -/
class Rep (α : Type) [DecidableEq α] [Datum α] where
  pr : PySem.W.Frag → α → Pr
  dat : ∀ {K : PySem.W.Frag} {F : Hp} {v : V} {a : α}, (pr K a).on F v → Dp K F v (Datum.toD a)
open Rep (pr)
theorem dat_all {K : PySem.W.Frag} {F : Hp} {α : Type} [DecidableEq α] [Datum α] [Rep α] : ∀ {xs : List α} {vs : List V}, AllOn (xs.map (pr K)) F vs → DpAll K F vs (xs.map Datum.toD)
  | [], _, h => by cases h; exact .nil
  | x :: xs, _, h => by
    cases h with
    | cons a b => exact .cons (Rep.dat a) (dat_all b)
instance : Rep Int := ⟨fun _ i => isI i, fun {K F v a} h => by rw [show v = .int a from h]; exact .int a⟩
instance : Rep Bool := ⟨fun _ i => isB i, fun {K F v a} h => by rw [show v = .bl a from h]; exact .bl a⟩
instance : Rep Str := ⟨fun _ i => isS i, fun {K F v a} h => by rw [show v = .str a from h]; exact .str a⟩
instance : Rep Unit := ⟨fun _ i => isN, fun {K F v a} h => by rw [show v = .non from h]; exact .non⟩
section
variable {α β γ δ ε : Type} [DecidableEq α] [Datum α] [Rep α] [DecidableEq β] [Datum β] [Rep β] [DecidableEq γ] [Datum γ] [Rep γ] [DecidableEq δ] [Datum δ] [Rep δ] [DecidableEq ε] [Datum ε] [Rep ε]
instance : Rep (List α) := ⟨fun K xs => rL (xs.map (pr K)), fun {K F v a} ⟨l, vs, e, h, o⟩ => by rw [e]; exact .lst (SqL.of h) (dat_all o)⟩
instance : Rep (Tup α) := ⟨fun K xs => rT K (xs.items.map (pr K)), fun {K F v a} ⟨l, vs, e, h, o⟩ => by rw [e]; exact .tup h (dat_all o)⟩
instance : Rep (α × β) := ⟨fun K p => rT K [pr K p.1, pr K p.2], fun {K F v a} ⟨l, vs, e, h, o⟩ => by
  rw [e]
  cases o with
  | cons o1 o => cases o with
    | cons o2 o => cases o; exact .tup h (.cons (Rep.dat o1) (.cons (Rep.dat o2) .nil))⟩
instance : Rep (T3 α β γ) := ⟨fun K p => rT K [pr K p.a, pr K p.b, pr K p.c], fun {K F v a} ⟨l, vs, e, h, o⟩ => by
  rw [e]
  cases o with
  | cons o1 o => cases o with
    | cons o2 o => cases o with
      | cons o3 o => cases o; exact .tup h (.cons (Rep.dat o1) (.cons (Rep.dat o2) (.cons (Rep.dat o3) .nil)))⟩
instance : Rep (T4 α β γ δ) := ⟨fun K p => rT K [pr K p.a, pr K p.b, pr K p.c, pr K p.d], fun {K F v a} ⟨l, vs, e, h, o⟩ => by
  rw [e]
  cases o with
  | cons o1 o => cases o with
    | cons o2 o => cases o with
      | cons o3 o => cases o with
        | cons o4 o => cases o; exact .tup h (.cons (Rep.dat o1) (.cons (Rep.dat o2) (.cons (Rep.dat o3) (.cons (Rep.dat o4) .nil))))⟩
instance : Rep (T5 α β γ δ ε) := ⟨fun K p => rT K [pr K p.a, pr K p.b, pr K p.c, pr K p.d, pr K p.e], fun {K F v a} ⟨l, vs, e, h, o⟩ => by
  rw [e]
  cases o with
  | cons o1 o => cases o with
    | cons o2 o => cases o with
      | cons o3 o => cases o with
        | cons o4 o => cases o with
          | cons o5 o => cases o; exact .tup h (.cons (Rep.dat o1) (.cons (Rep.dat o2) (.cons (Rep.dat o3) (.cons (Rep.dat o4) (.cons (Rep.dat o5) .nil)))))⟩
end
/-! ### == of data -/
section
variable {X : L2.Cx} {α : Type} [DecidableEq α] [Datum α]
def rEqT (K : PySem.W.Frag) (α : Type) [DecidableEq α] [Datum α] (neg : Bool) : R2 := fun x y H Q => ∃ a b : α, Dp K H x (Datum.toD a) ∧ Dp K H y (Datum.toD b) ∧ Q (.bl (if neg then decide (a ≠ b) else decide (a = b))) H
theorem op_eqT (hu : X.A.units + Datum.depth α < cLine) : OpR X (compareOp .Eq) (rEqT X.K α false) := by
  intro pins s σ H x y v u Q I rx ry ⟨a, b, hd, he, q⟩
  obtain ⟨as, r1⟩ := Dp.reads I _ x v hd rx
  obtain ⟨bs, r2⟩ := Dp.reads I _ y u he ry
  exact PySem.W.eq_datum (x := a) (y := b) ⟨as, r1⟩ ⟨bs, r2⟩ hu ⟨.bl _, H, I, rfl, q⟩
theorem op_neT (hu : X.A.units + Datum.depth α < cLine) : OpR X (compareOp .NotEq) (rEqT X.K α true) := by
  intro pins s σ H x y v u Q I rx ry ⟨a, b, hd, he, q⟩
  obtain ⟨as, r1⟩ := Dp.reads I _ x v hd rx
  obtain ⟨bs, r2⟩ := Dp.reads I _ y u he ry
  exact PySem.W.ne_datum (x := a) (y := b) ⟨as, r1⟩ ⟨bs, r2⟩ hu ⟨.bl _, H, I, rfl, q⟩
/-- in a list or tuple of data -/
def rInT (K : PySem.W.Frag) (α : Type) [DecidableEq α] [Datum α] (neg : Bool) : R2 := fun x y H Q => ∃ (a : α) (xs : List α) (p : Addr) (vs : List V), Dp K H x (Datum.toD a) ∧ y = .ref p ∧ (SqL K H p vs ∨ SqT K H p vs) ∧ DpAll K H vs (xs.map Datum.toD) ∧ Q (.bl (if neg then decide (a ∉ xs) else decide (a ∈ xs))) H
theorem op_inT (hu : X.A.units + 1 + Datum.depth α < cLine) : OpR X (compareOp .In) (rInT X.K α false) := by
  intro pins s σ H x y v u Q I rx ry ⟨a, xs, p, vs, hd, ey, hs, ha, q⟩
  subst ey
  cases ry
  obtain ⟨as, r1⟩ := Dp.reads I _ x v hd rx
  rcases hs with hs | hs
  · obtain ⟨its, rv, pl, _⟩ := I.list hs
    obtain ⟨bs, r2⟩ := Dp.readsAll I _ _ its ha rv
    exact PySem.W.in_list_datum (x := a) (xs := xs) pl.isList ⟨bs, r2⟩ ⟨as, r1⟩ hu ⟨.bl _, H, I, rfl, q⟩
  · obtain ⟨its, rv, pl, _⟩ := I.tuple hs
    obtain ⟨bs, r2⟩ := Dp.readsAll I _ _ its ha rv
    exact PySem.W.in_tuple_datum (x := a) (xs := xs) pl ⟨bs, r2⟩ ⟨as, r1⟩ hu ⟨.bl _, H, I, rfl, q⟩
theorem op_notInT (hu : X.A.units + 1 + Datum.depth α < cLine) : OpR X (compareOp .NotIn) (rInT X.K α true) := by
  intro pins s σ H x y v u Q I rx ry ⟨a, xs, p, vs, hd, ey, hs, ha, q⟩
  subst ey
  cases ry
  obtain ⟨as, r1⟩ := Dp.reads I _ x v hd rx
  rcases hs with hs | hs
  · obtain ⟨its, rv, pl, _⟩ := I.list hs
    obtain ⟨bs, r2⟩ := Dp.readsAll I _ _ its ha rv
    exact PySem.W.notIn_list_datum (x := a) (xs := xs) pl.isList ⟨bs, r2⟩ ⟨as, r1⟩ hu ⟨.bl _, H, I, rfl, q⟩
  · obtain ⟨its, rv, pl, _⟩ := I.tuple hs
    obtain ⟨bs, r2⟩ := Dp.readsAll I _ _ its ha rv
    exact PySem.W.notIn_tuple_datum (x := a) (xs := xs) pl ⟨bs, r2⟩ ⟨as, r1⟩ hu ⟨.bl _, H, I, rfl, q⟩
end
section
variable {tb : Tb} {Φ : Fx} {Γ : Gm} {C : List Cell} {σ : L2.St} {F H : Hp} {K : PySem.W.Frag}
theorem Sta.dp (S : Sta tb Φ Γ C σ F H) {v : V} {d : PyData} (h : Dp K F v d) : Dp K H v d := by
  refine Dp.rec (motive_1 := fun v d _ => Dp K H v d) (motive_2 := fun vs ds _ => DpAll K H vs ds) ?_ ?_ ?_ ?_ ?_ ?_ ?_ ?_ h
  · exact .non
  · exact .bl
  · exact .int
  · exact .str
  · intro a xs ds h1 _ h2
    exact .lst (S.seqL h1) h2
  · intro a xs ds h1 _ h2
    exact .tup (S.seqT h1) h2
  · exact .nil
  · intro v vs d ds _ _ h1 h2
    exact .cons h1 h2
theorem Sta.dpAll (S : Sta tb Φ Γ C σ F H) : ∀ {vs : List V} {ds : List PyData}, DpAll K F vs ds → DpAll K H vs ds
  | _, _, .nil => .nil
  | _, _, .cons a b => .cons (S.dp a) (S.dpAll b)
end
section
variable {α : Type} [DecidableEq α] [Datum α] [Rep α] {j : J} {Γ : Gm} {C : List Cell} {R : Ps} {p q : Pr}
/-- p's value is the data a -/
def DatOk (j : J) (C : List Cell) (p : Pr) {α : Type} [DecidableEq α] [Datum α] (a : α) : Prop := ∀ tb Φ Γ σ F H v, Sta tb Φ Γ C σ F H → p.on F v → Dp j.X.K H v (Datum.toD a)
theorem dat_F {a : α} : DatOk j C (pr j.X.K a) a := fun tb Φ Γ σ F H v S o => S.dp (Rep.dat o)
theorem dat_C {xs : List α} {m : Addr} (hm : cL m (xs.map (pr j.X.K)) ∈ C) : DatOk j C (isR m) xs := fun tb Φ Γ σ F H v S e => by
  obtain ⟨o, h1, ⟨vs, e', h2⟩, _⟩ := S.cells.at_ _ hm
  subst e'
  rw [show v = .ref m from e]
  exact .lst (SqL.of h1) (S.dpAll (dat_all h2))
theorem ok_eqT {a b : α} (ha : DatOk j C p a) (hb : DatOk j C q b) (r : R C (isB (decide (a = b)))) : OpOk j Γ (rEqT j.X.K α false) p q C R := fun Φ σ F H v w Q x S o1 o2 K =>
  ⟨a, b, ha _ _ _ _ _ _ _ S o1, hb _ _ _ _ _ _ _ S o2, K.now S r rfl⟩
theorem ok_neT {a b : α} (ha : DatOk j C p a) (hb : DatOk j C q b) (r : R C (isB (decide (a ≠ b)))) : OpOk j Γ (rEqT j.X.K α true) p q C R := fun Φ σ F H v w Q x S o1 o2 K =>
  ⟨a, b, ha _ _ _ _ _ _ _ S o1, hb _ _ _ _ _ _ _ S o2, K.now S r rfl⟩
theorem ok_inL {a : α} {xs : List α} (ha : DatOk j C p a) (hb : LstOk j C q (xs.map (pr j.X.K))) (r : R C (isB (decide (a ∈ xs)))) : OpOk j Γ (rInT j.X.K α false) p q C R := fun Φ σ F H v w Q x S o1 o2 K => by
  obtain ⟨l, vs, e, h, o⟩ := hb _ _ _ _ _ _ _ S o2
  exact ⟨a, xs, l, vs, ha _ _ _ _ _ _ _ S o1, e, .inl h, S.dpAll (dat_all o), K.now S r rfl⟩
theorem ok_notInL {a : α} {xs : List α} (ha : DatOk j C p a) (hb : LstOk j C q (xs.map (pr j.X.K))) (r : R C (isB (decide (a ∉ xs)))) : OpOk j Γ (rInT j.X.K α true) p q C R := fun Φ σ F H v w Q x S o1 o2 K => by
  obtain ⟨l, vs, e, h, o⟩ := hb _ _ _ _ _ _ _ S o2
  exact ⟨a, xs, l, vs, ha _ _ _ _ _ _ _ S o1, e, .inl h, S.dpAll (dat_all o), K.now S r rfl⟩
theorem ok_inTu {a : α} {xs : List α} (ha : DatOk j C p a) (hb : TupOk j q (xs.map (pr j.X.K))) (r : R C (isB (decide (a ∈ xs)))) : OpOk j Γ (rInT j.X.K α false) p q C R := fun Φ σ F H v w Q x S o1 o2 K => by
  obtain ⟨l, vs, e, h, o⟩ := hb _ _ _ _ _ _ _ _ S o2
  exact ⟨a, xs, l, vs, ha _ _ _ _ _ _ _ S o1, e, .inr h, S.dpAll (dat_all o), K.now S r rfl⟩
theorem ok_notInTu {a : α} {xs : List α} (ha : DatOk j C p a) (hb : TupOk j q (xs.map (pr j.X.K))) (r : R C (isB (decide (a ∉ xs)))) : OpOk j Γ (rInT j.X.K α true) p q C R := fun Φ σ F H v w Q x S o1 o2 K => by
  obtain ⟨l, vs, e, h, o⟩ := hb _ _ _ _ _ _ _ _ S o2
  exact ⟨a, xs, l, vs, ha _ _ _ _ _ _ _ S o1, e, .inr h, S.dpAll (dat_all o), K.now S r rfl⟩
end
end Z

end
section
set_option Elab.async false
set_option linter.all false
set_option maxRecDepth 100000
/-! Z7: what operators ask, by words. -/
namespace Z
open PySem PySem.Spec PyProof.Rows L2
open PySem.W (Datum Tup)
open Rep (pr)
/-! ### numbers -/
section
variable {j : J} {Γ : Gm} {C : List Cell} {R : Ps} {p q : Pr} {i k : Int} {s t : Str} {b : Bool}
theorem ok_rI0 {g : Int → Int → V} (r : R C (isV (g i k))) : OpOk j Γ (rI0 g) (isI i) (isI k) C R := fun Φ σ F H v w Q x S o1 o2 K => ⟨i, k, o1, o2, K.now S r rfl⟩
theorem ok_rI {Cd : Int → Int → Prop} {g : Int → Int → V} (hc : Cd i k) (r : R C (isV (g i k))) : OpOk j Γ (rI Cd g) (isI i) (isI k) C R := fun Φ σ F H v w Q x S o1 o2 K => ⟨i, k, o1, o2, hc, K.now S r rfl⟩
theorem ok_rU {g : Int → V} (r : R C (isV (g i))) : UnOk j Γ (rU g) (isI i) C R := fun Φ σ F H v Q x S o1 K => ⟨i, o1, K.now S r rfl⟩
theorem ok_eqS {u z : V} (hs : scal u z = true) (r : R C (isB (decide (u = z)))) : OpOk j Γ rEq (isV u) (isV z) C R := fun Φ σ F H v w Q x S o1 o2 K => by
  rw [show v = u from o1, show w = z from o2]
  exact ⟨hs, K.now S r rfl⟩
theorem ok_neS {u z : V} (hs : scal u z = true) (r : R C (isB (!decide (u = z)))) : OpOk j Γ rNe (isV u) (isV z) C R := fun Φ σ F H v w Q x S o1 o2 K => by
  rw [show v = u from o1, show w = z from o2]
  exact ⟨hs, K.now S r rfl⟩
theorem ok_isN {P : V → V → Hp → VK → Prop} {u : V} (hP : ∀ H Q, Q (.bl (decide (u = .non))) H → P u .non H Q) (r : R C (isB (decide (u = .non)))) : OpOk j Γ P (isV u) isN C R := fun Φ σ F H v w Q x S o1 o2 K => by
  rw [show v = u from o1, show w = .non from o2]
  exact hP H Q (K.now S r rfl)
/-! ### texts -/
theorem ok_addS (hl : s.length + t.length ≤ sizeLine) (r : R C (isS (s ++ t))) : OpOk j Γ (fun x y H Q => ∃ i j, x = .str i ∧ y = .str j ∧ i.length + j.length ≤ sizeLine ∧ Q (.str (i ++ j)) H) (isS s) (isS t) C R := fun Φ σ F H v w Q x S o1 o2 K => ⟨s, t, o1, o2, hl, K.now S r rfl⟩
/-! ### calls of one thing -/
theorem all1 {F : Hp} {vs : List V} (h : AllOn [p] F vs) : ∃ v, vs = [v] ∧ p.on F v := by
  cases h with
  | cons a b => cases b; exact ⟨_, rfl, a⟩
theorem all2 {F : Hp} {vs : List V} (h : AllOn [p, q] F vs) : ∃ v w, vs = [v, w] ∧ p.on F v ∧ q.on F w := by
  cases h with
  | cons a b => cases b with
    | cons a' b => cases b; exact ⟨_, _, rfl, a, a'⟩
theorem ok_abs (r : R C (isI (if i < 0 then -i else i))) : CallOk j Γ (fun xs H Q => ∃ i : Int, xs = [.int i] ∧ Q (.int (if i < 0 then -i else i)) H) [isI i] C R := fun Φ σ F H vs Q x S o K => by
  obtain ⟨v, e, o⟩ := all1 o
  exact ⟨i, by rw [e, show v = .int i from o], K.now S r rfl⟩
theorem ok_intI (r : R C (isI i)) : CallOk j Γ (fun xs H Q => (∃ i, xs = [.int i] ∧ Q (.int i) H) ∨ ∃ k : Bool, xs = [.bl k] ∧ Q (.int (if k then 1 else 0)) H) [isI i] C R := fun Φ σ F H vs Q x S o K => by
  obtain ⟨v, e, o⟩ := all1 o
  exact .inl ⟨i, by rw [e, show v = .int i from o], K.now S r rfl⟩
theorem ok_intB (r : R C (isI (if b then 1 else 0))) : CallOk j Γ (fun xs H Q => (∃ i, xs = [.int i] ∧ Q (.int i) H) ∨ ∃ k : Bool, xs = [.bl k] ∧ Q (.int (if k then 1 else 0)) H) [isB b] C R := fun Φ σ F H vs Q x S o K => by
  obtain ⟨v, e, o⟩ := all1 o
  exact .inr ⟨b, by rw [e, show v = .bl b from o], K.now S r rfl⟩
theorem ok_strI (hl : i.natAbs.log2 < 1920) (r : R C (isS (toString i))) : CallOk j Γ (fun xs H Q => ∃ i : Int, xs = [.int i] ∧ i.natAbs.log2 < 1920 ∧ Q (.str (toString i)) H) [isI i] C R := fun Φ σ F H vs Q x S o K => by
  obtain ⟨v, e, o⟩ := all1 o
  exact ⟨i, by rw [e, show v = .int i from o], hl, K.now S r rfl⟩
end
/-! ### lists, tuples -/
section
variable {j : J} {Γ : Gm} {C : List Cell} {R : Ps} {p q : Pr} {ps : List Pr}
theorem ok_lenL (h : LstOk j C p ps) (r : R C (isI ps.length)) : CallOk j Γ (fun xs H Q => ∃ p ys, xs = [.ref p] ∧ (SqL j.X.K H p ys ∨ SqT j.X.K H p ys) ∧ Q (.int ys.length) H) [p] C R := fun Φ σ F H vs Q x S o K => by
  obtain ⟨v, e, o⟩ := all1 o
  obtain ⟨l, ys, e2, h2, o2⟩ := h _ _ _ _ _ _ _ S o
  refine ⟨l, ys, by rw [e, e2], .inl h2, ?_⟩
  rw [← o2.length]
  exact K.now S r rfl
theorem ok_lenT (h : TupOk j p ps) (r : R C (isI ps.length)) : CallOk j Γ (fun xs H Q => ∃ p ys, xs = [.ref p] ∧ (SqL j.X.K H p ys ∨ SqT j.X.K H p ys) ∧ Q (.int ys.length) H) [p] C R := fun Φ σ F H vs Q x S o K => by
  obtain ⟨v, e, o⟩ := all1 o
  obtain ⟨l, ys, e2, h2, o2⟩ := h _ _ _ _ _ _ _ _ S o
  refine ⟨l, ys, by rw [e, e2], .inr h2, ?_⟩
  rw [← o2.length]
  exact K.now S r rfl
theorem atI_on {F : Hp} {vs : List V} {i : Int} {q : Pr} (h : AllOn ps F vs) (e : atI ps i = some q) : ∃ v, atI vs i = some v ∧ q.on F v := by
  unfold atI at e ⊢
  rw [h.length] at e
  cases hj : ixN vs.length i with
  | none => rw [hj] at e; cases e
  | some k =>
    rw [hj] at e
    exact h.get (i := k) e
theorem ok_ixL {i : Int} (h : LstOk j C p ps) (e : atI ps i = some q) (r : R C q) : OpOk j Γ (rIxL j.X.K) p (isI i) C R := fun Φ σ F H v w Q x S o1 o2 K => by
  obtain ⟨l, ys, e2, h2, o⟩ := h _ _ _ _ _ _ _ S o1
  obtain ⟨z, e3, o3⟩ := atI_on o e
  exact ⟨l, ys, i, z, e2, o2, h2, e3, K.now S r o3⟩
theorem ok_ixT {i : Int} (h : TupOk j p ps) (e : atI ps i = some q) (r : R C q) : OpOk j Γ (rIxT j.X.K) p (isI i) C R := fun Φ σ F H v w Q x S o1 o2 K => by
  obtain ⟨l, ys, e2, h2, o⟩ := h _ _ _ _ _ _ _ _ S o1
  obtain ⟨z, e3, o3⟩ := atI_on o e
  exact ⟨l, ys, i, z, e2, o2, h2, e3, K.now S r o3⟩
theorem tru_L (h : LstOk j C p ps) {R : List Cell → Bool → Prop} (r : R C (!ps.isEmpty)) : TruOk j Γ p C R := fun Φ σ F H v S o => by
  obtain ⟨l, ys, e2, h2, o2⟩ := h _ _ _ _ _ _ _ S o
  refine ⟨!ps.isEmpty, ?_, r⟩
  rw [e2]
  refine .inl ⟨ys, h2, ?_⟩
  have := o2.length
  cases ps <;> cases ys <;> first | rfl | simp at this
theorem tru_B {b : Bool} {R : List Cell → Bool → Prop} (r : R C b) : TruOk j Γ (isB b) C R := fun Φ σ F H v S o => ⟨b, by rw [show v = .bl b from o]; exact rfl, r⟩
theorem tru_I {i : Int} {R : List Cell → Bool → Prop} (r : R C (i != 0)) : TruOk j Γ (isI i) C R := fun Φ σ F H v S o => ⟨i != 0, by rw [show v = .int i from o]; exact rfl, r⟩
theorem tru_N {R : List Cell → Bool → Prop} (r : R C false) : TruOk j Γ isN C R := fun Φ σ F H v S o => ⟨false, by rw [show v = .non from o]; exact rfl, r⟩
theorem fine_lst {vs : List V} : Fine (.lst vs) := ⟨fun _ z => (nomatch z), fun _ _ z => (nomatch z)⟩
theorem fine_tup {vs : List V} : Fine (.tup vs) := ⟨fun _ z => (nomatch z), fun _ _ z => (nomatch z)⟩
/-- a new list of things that are so -/
theorem Kv.newL {Φ : Fx} {σ : L2.St} {F H : Hp} {Q : VK} {a : Addr} {vs : List V} (K : Kv j Φ Γ σ F R Q) (S : Sta j.tb Φ Γ C σ F H) (r : R C (rL ps)) (o : AllOn ps F vs) (h : H a = none) : Q (.ref a) (upd H a (.lst vs)) := by
  obtain ⟨S2, s2⟩ := S.newF (o := .lst vs) h fine_lst
  exact K _ _ _ _ _ r S2 s2 ⟨a, vs, rfl, upd_same, o.mono s2⟩
theorem Kv.newT {Φ : Fx} {σ : L2.St} {F H : Hp} {Q : VK} {a : Addr} {vs : List V} (K : Kv j Φ Γ σ F R Q) (S : Sta j.tb Φ Γ C σ F H) (r : R C (rT j.X.K ps)) (o : AllOn ps F vs) (h : H a = none) : Q (.ref a) (upd H a (.tup vs)) := by
  obtain ⟨S2, s2⟩ := S.newF (o := .tup vs) h fine_tup
  exact K _ _ _ _ _ r S2 s2 ⟨a, vs, rfl, SqT.of upd_same, o.mono s2⟩
/-- .. or a new cell -/
theorem Kv.newCL {Φ : Fx} {σ : L2.St} {F H : Hp} {Q : VK} {a : Addr} {vs : List V} (K : Kv j Φ Γ σ F R Q) (S : Sta j.tb Φ Γ C σ F H) (r : R (cL a ps :: C) (isR a)) (o : AllOn ps F vs) (h : H a = none) : Q (.ref a) (upd H a (.lst vs)) :=
  K _ _ _ _ _ r (S.newC (c := cL a ps) h ⟨vs, rfl, o⟩) (L2.Same.refl F) rfl
/-- list(x), tuple(x) -/
theorem ok_listL (h : LstOk j C p ps) (r : R C (rL ps)) : CallOk j Γ (fun xs H Q => ∃ p ys, xs = [.ref p] ∧ (SqL j.X.K H p ys ∨ SqT j.X.K H p ys) ∧ ∀ l, H l = none → Q (.ref l) (upd H l (.lst ys))) [p] C R := fun Φ σ F H vs Q x S o K => by
  obtain ⟨v, e, o⟩ := all1 o
  obtain ⟨l, ys, e2, h2, o2⟩ := h _ _ _ _ _ _ _ S o
  exact ⟨l, ys, by rw [e, e2], .inl h2, fun a ha => K.newL S r o2 ha⟩
theorem ok_listT (h : TupOk j p ps) (r : R C (rL ps)) : CallOk j Γ (fun xs H Q => ∃ p ys, xs = [.ref p] ∧ (SqL j.X.K H p ys ∨ SqT j.X.K H p ys) ∧ ∀ l, H l = none → Q (.ref l) (upd H l (.lst ys))) [p] C R := fun Φ σ F H vs Q x S o K => by
  obtain ⟨v, e, o⟩ := all1 o
  obtain ⟨l, ys, e2, h2, o2⟩ := h _ _ _ _ _ _ _ _ S o
  exact ⟨l, ys, by rw [e, e2], .inr h2, fun a ha => K.newL S r o2 ha⟩
theorem ok_tupleL (h : LstOk j C p ps) (r : R C (rT j.X.K ps)) : CallOk j Γ (fun xs H Q => ∃ p ys, xs = [.ref p] ∧ ((SqL j.X.K H p ys ∧ ∀ l, H l = none → Q (.ref l) (upd H l (.tup ys))) ∨ (SqT j.X.K H p ys ∧ Q (.ref p) H))) [p] C R := fun Φ σ F H vs Q x S o K => by
  obtain ⟨v, e, o⟩ := all1 o
  obtain ⟨l, ys, e2, h2, o2⟩ := h _ _ _ _ _ _ _ S o
  exact ⟨l, ys, by rw [e, e2], .inl ⟨h2, fun a ha => K.newT S r o2 ha⟩⟩
theorem ok_tupleT (r : R C (rT j.X.K ps)) : CallOk j Γ (fun xs H Q => ∃ p ys, xs = [.ref p] ∧ ((SqL j.X.K H p ys ∧ ∀ l, H l = none → Q (.ref l) (upd H l (.tup ys))) ∨ (SqT j.X.K H p ys ∧ Q (.ref p) H))) [rT j.X.K ps] C R := fun Φ σ F H vs Q x S o K => by
  obtain ⟨v, e, o⟩ := all1 o
  obtain ⟨l, ys, e2, h2, o2⟩ := id o
  exact ⟨l, ys, by rw [e, e2], .inr ⟨S.seqT h2, by rw [← e2]; exact K.now S r o⟩⟩
/-! ### + and * of lists, by reading -/
theorem op_catL {X : L2.Cx} : OpR X (binaryOp .Add) (fun x y H Q => ∃ l b xs zs, x = .ref l ∧ y = .ref b ∧ SqL X.K H l xs ∧ SqL X.K H b zs ∧ xs.length + zs.length ≤ sizeLine ∧ ∀ p, H p = none → Q (.ref p) (upd H p (.lst (xs ++ zs)))) := by
  intro pins s σ H x y v u Q I rx ry h
  obtain ⟨l, b, xs, zs, rfl, rfl, hH, hB, hz, q⟩ := h
  cases rx
  cases ry
  obtain ⟨its, r, pl, z⟩ := I.list hH
  obtain ⟨its2, r2, pl2, z2⟩ := I.list hB
  have hl := r.length
  have hl2 := r2.length
  obtain ⟨⟨cls, dd, data, sl⟩, ho, hc, n, hd⟩ := id pl.isList
  obtain ⟨⟨cls2, dd2, data2, sl2⟩, ho2, hc2, n2, hd2⟩ := id pl2.isList
  simp only at hc hd hc2 hd2
  subst hc hd hc2 hd2
  have e : its.toArray ++ its2.toArray = (its ++ its2).toArray := by simp
  refine concat_meets ⟨_, ho, rfl⟩ ⟨_, ho2, rfl⟩ noFill_list_add seq_list_add PySem.F.slot_list_add PySem.F.entry_list_add (PySem.F.args_list_add_2 _ _) (list_addW l b its.toArray its2.toArray n n2 dd dd2 sl sl2 (by simp only [List.size_toArray]; omega)) ⟨ho, ho2, ?_⟩
  rw [e]
  exact ⟨.ref _, _, I.lnew (t' := s.toks) (r.append r2) (by rw [List.length_append]; omega), rfl, q _ I.fresh⟩
theorem ok_catL {qs : List Pr} (hp : LstOk j C p ps) (hq : LstOk j C q qs) (hz : ps.length + qs.length ≤ sizeLine) (r : R C (rL (ps ++ qs))) :
    OpOk j Γ (fun x y H Q => ∃ l b xs zs, x = .ref l ∧ y = .ref b ∧ SqL j.X.K H l xs ∧ SqL j.X.K H b zs ∧ xs.length + zs.length ≤ sizeLine ∧ ∀ p, H p = none → Q (.ref p) (upd H p (.lst (xs ++ zs)))) p q C R := fun Φ σ F H v w Q x S o1 o2 K => by
  obtain ⟨a, vs, e1, h1, k1⟩ := hp _ _ _ _ _ _ _ S o1
  obtain ⟨b, ws, e2, h2, k2⟩ := hq _ _ _ _ _ _ _ S o2
  exact ⟨a, b, vs, ws, e1, e2, h1, h2, by rw [← k1.length, ← k2.length]; exact hz, fun z hz => K.newL S r (k1.append k2) hz⟩
theorem op_repL {X : L2.Cx} : OpR X (binaryOp .Mult) (fun x y H Q => ∃ l k xs, x = .ref l ∧ y = .int k ∧ L2.Rd H l (.lst xs) ∧ -(2 ^ 63) ≤ k ∧ k < 2 ^ 63 ∧ xs.length * k.toNat ≤ sizeLine ∧
    ∀ p, H p = none → Q (.ref p) (upd H p (.lst (List.replicate k.toNat xs).flatten))) := by
  intro pins s σ H x y v u Q I rx ry h
  obtain ⟨l, k, xs, rfl, rfl, hH, h1, h2, hz, q⟩ := h
  cases rx
  obtain ⟨t, rfl⟩ := ry
  obtain ⟨z, its, n, r, e⟩ := hH.ok I.hok
  have hl := r.length
  have hlen : its.toArray.size * k.toNat ≤ sizeLine := by rw [List.size_toArray, ← hl]; exact hz
  have hcap : ¬ its.toArray.size * k.toNat > (2 ^ 63 - 1) / 8 := by
    have : (sizeLine : Nat) ≤ (2 ^ 63 - 1) / 8 := by decide
    omega
  have hfit : ¬ (!Builtin.List.listFitsIndex k) = true := by
    rw [fitsIndex_both h1 h2]
    exact Bool.false_ne_true
  have hlong : ¬ Builtin.List.listTooLong (its.toArray.size * k.toNat) = true := by
    rw [notLongL hlen]
    exact Bool.false_ne_true
  have hnew : List.foldl (fun x1 x2 => x1 ++ x2) #[] (List.replicate (if its.toArray.isEmpty = true then 0 else k.toNat) its.toArray) = (List.replicate k.toNat its).flatten.toArray := by
    have f0 : ∀ m : Nat, List.foldl (fun x1 x2 => x1 ++ x2) #[] (List.replicate m its.toArray) = (List.replicate m its).flatten.toArray := fun m => by
      have := foldl_rep its m []
      rw [List.nil_append] at this
      exact this
    rw [f0]
    cases its with
    | nil => simp
    | cons a r' => rw [if_neg (by simp)]
  refine wpAny_binaryOp_repeat_ref (T := "list") (U := "int") (by decide) ⟨_, e, rfl⟩ (fun s' => typeIs_int s' k t) noFill_list_mul F.fills_int_mul F.slot_int_rmul repeat_list F.slot_int_index.lookup
    (call_meets F.slot_int_rmul (typeIs_int s k t) F.entry_int_rmul (F.args_int_rmul_2 _ _) (int___rmul___int_list k t l its.toArray n)
      ⟨e, rfl, ⟨_, e, rfl⟩, call_meets F.slot_list_mul ⟨_, e, rfl⟩ F.entry_list_mul (F.args_list_mul_2 _ _) (AutoListH.list___mul___list_int_3 l its.toArray n k t hfit hcap hlong) ⟨e, ?_⟩⟩)
  rw [hnew]
  exact ⟨.ref _, _, I.lnew (t' := s.toks) (r.rep k.toNat) (by rw [PyProof.Rows.lm_len_rep_flat, Nat.mul_comm]; exact hz), rfl, q _ I.fresh⟩
theorem AllOn.rep {F : Hp} {vs : List V} (h : AllOn ps F vs) : ∀ n : Nat, AllOn (List.replicate n ps).flatten F (List.replicate n vs).flatten
  | 0 => .nil
  | n + 1 => by
    rw [List.replicate_succ, List.replicate_succ, List.flatten_cons, List.flatten_cons]
    exact h.append (AllOn.rep h n)
theorem ok_repL {k : Int} (h1 : -(2 ^ 63) ≤ k) (h2 : k < 2 ^ 63) (hz : ps.length * k.toNat ≤ sizeLine) (r : R C (rL (List.replicate k.toNat ps).flatten)) :
    OpOk j Γ (fun x y H Q => ∃ l k xs, x = .ref l ∧ y = .int k ∧ L2.Rd H l (.lst xs) ∧ -(2 ^ 63) ≤ k ∧ k < 2 ^ 63 ∧ xs.length * k.toNat ≤ sizeLine ∧
      ∀ p, H p = none → Q (.ref p) (upd H p (.lst (List.replicate k.toNat xs).flatten))) (rL ps) (isI k) C R := fun Φ σ F H v w Q x S ⟨a, vs, e1, h3, o1⟩ o2 K =>
  ⟨a, k, vs, e1, o2, S.sub _ _ h3, h1, h2, by rw [← o1.length]; exact hz, fun z hz => K.newL S r (o1.rep _) hz⟩
/-! ### slices -/
def cutP (ps : List Pr) (lo hi : Option Int) : List Pr := (ps.drop (HT.sIx ps.length 0 lo)).take (HT.sIx ps.length ps.length hi - HT.sIx ps.length 0 lo)
theorem AllOn.cut {F : Hp} {vs : List V} (h : AllOn ps F vs) (lo hi : Option Int) : AllOn (cutP ps lo hi) F (cutV vs lo hi) := by
  unfold cutP cutV
  rw [h.length]
  exact (h.drop _).take _
/-- a slice's part -/
def Wo (X : L2.Cx) (e : Option Expr) : TO := fun σ H Q => ∀ (pins : Pins) (s : Shared), Inv X pins σ H s → wpAny (model X.prog X.w) X.A (evalPart e X.env) (fun u s' => ∃ o H', Inv X pins σ H' s' ∧ IsPart u o ∧ Q o H') X.xe s
theorem po_wo {X : L2.Cx} {e : Option Expr} : PO X e (Wo X e) := ⟨fun pins s σ H Q I h => h pins s I⟩
def Eo (j : J) (Γ : Gm) (C : List Cell) (e : Option Expr) (R : List Cell → Option Int → Prop) : Prop := ∀ Φ σ F H Q, XW j Φ → Sta j.tb Φ Γ C σ F H → (∀ o F' H' C', R C' o → Sta j.tb Φ Γ C' σ F' H' → L2.Same F F' → Q o H') → Wo j.X e σ H Q
variable {lo hi : Option Expr} {o : Expr} {pos p2 : Pos}
theorem eo_none {R : List Cell → Option Int → Prop} (r : R C none) : Eo j Γ C none R := fun Φ σ F H Q x S K pins s I => po_none.run pins s σ H Q I (K none F H C r S (L2.Same.refl F))
theorem eo_some {e : Expr} {R : List Cell → Option Int → Prop} (h : Ev j Γ C e fun C1 p => ∃ i, p = isI i ∧ R C1 (some i)) : Eo j Γ C (some e) R := fun Φ σ F H Q x S K pins s I => (po_some pe_we).run pins s σ H Q I (h Φ σ F H _ x S fun v F1 H1 C1 p ⟨i, ep, r⟩ S1 s1 o1 => by
  subst ep
  exact ⟨i, o1, K _ _ _ _ r S1 s1⟩)
def SlOk (j : J) (Γ : Gm) (r : V → Option Int → Option Int → Hp → VK → Prop) (p : Pr) (a b : Option Int) (C : List Cell) (R : Ps) : Prop := ∀ Φ σ F H v Q, XW j Φ → Sta j.tb Φ Γ C σ F H → p.on F v → Kv j Φ Γ σ F R Q → r v a b H Q
theorem ev_slice {r : V → Option Int → Option Int → Hp → VK → Prop} (hr : SlR j.X r) (h : Ev j Γ C o fun C1 p => Eo j Γ C1 lo fun C2 a => Eo j Γ C2 hi fun C3 b => SlOk j Γ r p a b C3 R) : Ev j Γ C (.Subscript o (.Slice lo hi none p2) pos) R :=
  ev_lift (pe_slice hr pe_we po_wo po_wo) fun Φ σ F H Q x S K => h Φ σ F H _ x S fun v F1 H1 C1 p r1 S1 s1 o1 => r1 Φ σ F1 H1 _ x S1 fun a F2 H2 C2 r2 S2 s2 => r2 Φ σ F2 H2 _ x S2 fun b F3 H3 C3 r3 S3 s3 =>
    r3 Φ σ F3 H3 v Q x S3 (p.mono (s2.trans s3) o1) (K.same ((s1.trans s2).trans s3))
theorem ok_slL {a b : Option Int} (h : LstOk j C p ps) (r : R C (rL (cutP ps a b))) : SlOk j Γ (rSlL j.X.K) p a b C R := fun Φ σ F H v Q x S o K => by
  obtain ⟨l, vs, e, h1, k1⟩ := h _ _ _ _ _ _ _ S o
  exact ⟨l, vs, e, h1, fun z hz => K.newL S r (k1.cut a b) hz⟩
/-! ### methods of built-in types -/
def MtOk (j : J) (Γ : Gm) (r : V → List V → Hp → VK → Prop) (p : Pr) (qs : List Pr) (C : List Cell) (R : Ps) : Prop := ∀ Φ σ F H v vs Q, XW j Φ → Sta j.tb Φ Γ C σ F H → p.on F v → AllOn qs F vs → Kv j Φ Γ σ F R Q → r v vs H Q
def TyOk (j : J) (C : List Cell) (p : Pr) (T : String) : Prop := ∀ tb Φ Γ σ F H v, Sta tb Φ Γ C σ F H → p.on F v → tyV j.X.K T v H
theorem ty_L (h : LstOk j C p ps) : TyOk j C p "list" := fun tb Φ Γ σ F H v S o => by
  obtain ⟨l, vs, e, h1, k1⟩ := h _ _ _ _ _ _ _ S o
  rw [e]
  exact .inl ⟨rfl, vs, h1⟩
theorem ty_S {s : Str} : TyOk j C (isS s) "str" := fun tb Φ Γ σ F H v S o => by rw [show v = .str s from o]; exact rfl
variable {T id : String} {name : Str} {r : V → List V → Hp → VK → Prop} {apos cpos : Pos} {e : Expr} {es : List Expr}
theorem ev_bm0 (pa : PlainAttrs T) (slot : Slot T name id) (hty : typeOf (.builtin id) = pure (.type "method_descriptor")) (hm : MtR j.X id r) (h : Ev j Γ C o fun C1 p => TyOk j C1 p T ∧ MtOk j Γ r p [] C1 R)
    (hbase : attributeBase o name j.X.env (eval o j.X.env) = eval o j.X.env := by rfl) (hline : (apos.endLine == cpos.line) = true := by rfl) : Ev j Γ C (.Call (.Attribute o name apos) [] [] cpos) R :=
  ev_lift (pe_bm0 pa slot hty hm pe_we hbase hline) fun Φ σ F H Q x S K => h Φ σ F H _ x S fun v F1 H1 C1 p ⟨t1, r1⟩ S1 s1 o1 => ⟨t1 _ _ _ _ _ _ _ S1 o1, r1 Φ σ F1 H1 v [] Q x S1 o1 .nil (K.same s1)⟩
theorem ev_bm (pa : PlainAttrs T) (slot : Slot T name id) (hty : typeOf (.builtin id) = pure (.type "method_descriptor")) (hm : MtR j.X id r) (h : Ev j Γ C o fun C1 p => TyOk j C1 p T ∧ Ea j Γ C1 (e :: es) fun C2 qs => MtOk j Γ r p qs C2 R)
    (hbase : attributeBase o name j.X.env (eval o j.X.env) = eval o j.X.env := by rfl)
    (hfew : ((backTo cpos (starEach (e :: es) j.X.env)).all (fun x => !x.1) && (backToKw cpos (keywordEach [] j.X.env)).all (fun x => x.1.isSome)
      && decide ((e :: es).length + ([] : List Keyword).length + (if ([] : List Keyword).isEmpty then 0 else 1) < 30)) = true := by rfl)
    (hline : (apos.endLine == cpos.line) = true := by rfl) (hs : starEach (e :: es) j.X.env = (false, eval e j.X.env) :: starEach es j.X.env := by rfl) (hplain : (backTo cpos (starEach es j.X.env)).any (·.1) = false := by rfl) : Ev j Γ C (.Call (.Attribute o name apos) (e :: es) [] cpos) R :=
  ev_lift (pe_bm pa slot hty hm pe_we pa_wa hbase hfew hline hs hplain) fun Φ σ F H Q x S K => h Φ σ F H _ x S fun v F1 H1 C1 p ⟨t1, r1⟩ S1 s1 o1 => ⟨t1 _ _ _ _ _ _ _ S1 o1, r1 Φ σ F1 H1 _ x S1 fun vs F2 H2 C2 qs r2 S2 s2 o2 =>
    r2 Φ σ F2 H2 v vs Q x S2 (p.mono s2 o1) o2 (K.same (s1.trans s2))⟩
/-! ### cells by place -/
theorem set_split {α : Type} {l : List α} {i : Nat} {x y : α} (h : l[i]? = some x) : l = l.take i ++ x :: l.drop (i + 1) ∧ l.set i y = l.take i ++ y :: l.drop (i + 1) := by
  obtain ⟨hi, e⟩ := List.getElem?_eq_some_iff.mp h
  refine ⟨?_, List.set_eq_take_append_cons_drop.trans (by rw [if_pos hi])⟩
  rw [← e, List.getElem_cons_drop, List.take_append_drop]
theorem Sta.puti {tb : Tb} {Φ : Fx} {σ : L2.St} {F H : Hp} {i : Nat} {c c' : Cell} {o u : HO} (S : Sta tb Φ Γ C σ F H) (hc : C[i]? = some c) (ha : c'.a = c.a) (hu : H c.a = some u) (h2 : ∀ φ, u ≠ .ext φ) (ho : c'.on F o) : Sta tb Φ Γ (C.set i c') σ F (upd H c.a o) := by
  obtain ⟨e1, e2⟩ := set_split (y := c') hc
  rw [e2]
  rw [e1] at S
  exact S.put ha hu h2 ho
theorem Sta.weaki {tb : Tb} {Φ : Fx} {σ : L2.St} {F H : Hp} {i : Nat} {c c' : Cell} (S : Sta tb Φ Γ C σ F H) (hc : C[i]? = some c) (ha : c'.a = c.a) (ho : ∀ o, H c.a = some o → c.on F o → c'.on F o) : Sta tb Φ Γ (C.set i c') σ F H := by
  obtain ⟨e1, e2⟩ := set_split (y := c') hc
  have hm : ∀ d, d ∈ C.set i c' → d = c' ∨ d ∈ C := fun d hd => by
    rw [e2] at hd
    rcases List.mem_append.mp hd with z | z
    · exact .inr (List.mem_of_mem_take z)
    · rcases List.mem_cons.mp z with z | z
      · exact .inl z
      · exact .inr (List.mem_of_mem_drop z)
  have hcm : c ∈ C := List.mem_of_getElem? hc
  refine ⟨S.env, ⟨fun d hd => ?_, ?_⟩, S.sub, S.fine, S.tab, S.base, S.fresh, S.keep, fun d hd => ?_, S.there⟩
  · rcases hm d hd with rfl | h
    · obtain ⟨o, h1, h2, h3⟩ := S.cells.at_ c hcm
      exact ⟨o, by rw [ha]; exact h1, ho o h1 h2, by rw [ha]; exact h3⟩
    · exact S.cells.at_ d h
  · have nd := S.cells.nd
    rw [e1, List.map_append, List.map_cons] at nd
    rw [e2, List.map_append, List.map_cons, ha]
    exact nd
  · rcases hm d hd with rfl | h
    · rw [ha]
      exact S.own c hcm
    · exact S.own d h
variable {P : Po} {sts : List Stmt} {i : Nat}
/-- a cell's word is weakened -/
theorem tr_weak {c c' : Cell} (hc : C[i]? = some c) (ha : c'.a = c.a) (ho : ∀ F o, c.on F o → c'.on F o) (h : Tr j Γ (C.set i c') sts P) : Tr j Γ C sts P := fun Φ σ F H x S => h Φ σ F H x (S.weaki hc ha fun o _ => ho F o)
theorem ev_weak {c c' : Cell} (hc : C[i]? = some c) (ha : c'.a = c.a) (ho : ∀ F o, c.on F o → c'.on F o) (h : Ev j Γ (C.set i c') e R) : Ev j Γ C e R := fun Φ σ F H Q x S K => h Φ σ F H Q x (S.weaki hc ha fun o _ => ho F o) K
/-- a cell's word is opened -/
theorem tr_open {ω : Type} {c : Cell} (c' : ω → Cell) (hc : C[i]? = some c) (ha : ∀ z, (c' z).a = c.a) (ho : ∀ F o, c.on F o → ∃ z, (c' z).on F o) (h : ∀ z, Tr j Γ (C.set i (c' z)) sts P) : Tr j Γ C sts P := fun Φ σ F H x S => by
  obtain ⟨o, h1, h2, h3⟩ := S.cells.at_ c (List.mem_of_getElem? hc)
  obtain ⟨z, hz⟩ := ho F o h2
  refine h z Φ σ F H x (S.weaki hc (ha z) fun o' h' _ => ?_)
  rw [h1] at h'
  cases h'
  exact hz
end
end Z

end
section
set_option Elab.async false
set_option linter.all false
set_option maxRecDepth 100000
/-! Z8: what changes a cell; dicts; range loops. -/
namespace Z
open PySem PySem.Spec PyProof.Rows L2
open PySem.W (Datum Tup)
open Rep (pr)
section
/-- an int, without effect -/
def EvP' (j : J) (Γ : Gm) (C : List Cell) (e : Expr) (b : Int) : Prop := Ev j Γ C e fun C' q => C' = C ∧ q = isI b
variable {j : J} {Γ : Gm} {C : List Cell} {R : Ps} {p q : Pr} {ps : List Pr} {P : Po} {rest : List Stmt} {pos pos' pos2 : Pos} {o e : Expr} {i : Nat} {m : Addr}
theorem Sta.lst {tb : Tb} {Φ : Fx} {σ : L2.St} {F H : Hp} (S : Sta tb Φ Γ C σ F H) (hm : cL m ps ∈ C) : ∃ vs, H m = some (.lst vs) ∧ AllOn ps F vs := by
  obtain ⟨o, h1, ⟨vs, e, h2⟩, _⟩ := S.cells.at_ _ hm
  subst e
  exact ⟨vs, h1, h2⟩
theorem Sta.dic {tb : Tb} {Φ : Fx} {σ : L2.St} {F H : Hp} {kps : List (Key × Pr)} (S : Sta tb Φ Γ C σ F H) (hm : cK m kps ∈ C) : ∃ kvs, H m = some (.dK kvs) ∧ KvOn kps F kvs := by
  obtain ⟨o, h1, ⟨vs, e, h2⟩, _⟩ := S.cells.at_ _ hm
  subst e
  exact ⟨vs, h1, h2⟩
/-! ### lists -/
theorem ok_append (hc : C[i]? = some (cL m ps)) (hz : ps.length < sizeLine) (r : R (C.set i (cL m (ps ++ [q]))) isN) : MtOk j Γ rAppend (isR m) [q] C R := fun Φ σ F H v vs Q x S ev o K => by
  obtain ⟨w, e, ow⟩ := all1 o
  obtain ⟨xs, h1, h2⟩ := S.lst (List.mem_of_getElem? hc)
  exact ⟨m, xs, w, ev, e, h1, by rw [← h2.length]; exact hz, K _ _ _ _ _ r (S.puti hc rfl h1 (fun _ z => nomatch z) ⟨xs ++ [w], rfl, h2.snoc ow⟩) (L2.Same.refl F) rfl⟩
theorem AllOn.dropLast {F : Hp} {ps : List Pr} {vs : List V} (h : AllOn ps F vs) : AllOn ps.dropLast F vs.dropLast := by
  rw [List.dropLast_eq_take, List.dropLast_eq_take, h.length]
  exact h.take _
theorem ok_pop (hc : C[i]? = some (cL m ps)) (hq : ps[ps.length - 1]? = some q) (r : R (C.set i (cL m ps.dropLast)) q) : MtOk j Γ rPop (isR m) [] C R := fun Φ σ F H v vs Q x S ev o K => by
  cases o
  obtain ⟨xs, h1, h2⟩ := S.lst (List.mem_of_getElem? hc)
  obtain ⟨y, e1, e2⟩ := h2.get hq
  rw [h2.length] at e1
  exact ⟨m, xs, y, ev, rfl, h1, e1, K _ _ _ _ _ r (S.puti hc rfl h1 (fun _ z => nomatch z) ⟨xs.dropLast, rfl, h2.dropLast⟩) (L2.Same.refl F) e2⟩
theorem AllOn.set {F : Hp} : ∀ {ps : List Pr} {vs : List V} {p : Pr} {v : V} (i : Nat), AllOn ps F vs → p.on F v → AllOn (ps.set i p) F (vs.set i v)
  | _, _, _, _, _, .nil, _ => .nil
  | _, _, _, _, 0, .cons _ t, r => .cons r t
  | _, _, _, _, i + 1, .cons a t, r => .cons a (AllOn.set i t r)
/-- xs[k] = e -/
theorem tr_setL {xo ko : Expr} (h : Ev j Γ C e fun C1 q => Ev j Γ C1 xo fun C2 p => Ev j Γ C2 ko fun C3 kp => ∃ m ps k n i, p = isR m ∧ kp = isI k ∧ C3[i]? = some (cL m ps) ∧ ixN ps.length k = some n ∧ Tr j Γ (C3.set i (cL m (ps.set n q))) rest P)
    (hs : swapsWithSole [.Subscript xo ko pos'] e pos.line j.X.env = pure false := by rfl) (hw : swappedStores [.Subscript xo ko pos'] e j.X.env = pure none := by rfl)
    (ha : ∀ v, assign (.Subscript xo ko pos') j.X.env v = (do
      let ov ← holding [v] (eval xo j.X.env)
      let iv ← holding [v, ov] (eval ko j.X.env)
      standAt pos'
      holding [v, ov, iv] (setItem ov iv v)
      release [v, ov, iv] []) := by intro _; rfl) : Tr j Γ C (.Assign [.Subscript xo ko pos'] e pos :: rest) P :=
  tr_lift (ps_asg pe_we (pg_sub pe_we pe_we set_list ha) hs hw) fun Φ σ F H x S => h Φ σ F H _ x S fun v F1 H1 C1 q r1 S1 s1 o1 => r1 Φ σ F1 H1 _ x S1 fun w F2 H2 C2 p r2 S2 s2 o2 => r2 Φ σ F2 H2 _ x S2 fun u F3 H3 C3 kp ⟨m, ps, k, n, i, ep, ek, hc, hn, t⟩ S3 s3 o3 => by
    subst ep
    subst ek
    obtain ⟨xs, h1, h2⟩ := S3.lst (List.mem_of_getElem? hc)
    exact ⟨m, xs, k, n, o2, o3, h1, by rw [← h2.length]; exact hn, t Φ σ F3 _ x (S3.puti hc rfl h1 (fun _ z => nomatch z) ⟨xs.set n v, rfl, h2.set n (q.mono (s2.trans s3) o1)⟩)⟩
/-! ### fields -/
/-- o.f = e, the i-th attribute -/
theorem tr_fld (i : Nat) {f : Str} {Cl : Addr} {fns : List Str} (cl : Cls j.X.K Cl) (na : NoAttr j.X.K Cl f) (nd : fns.Nodup) (hn : fns[i]? = some f) (hl : fns.length < 1000)
    (h : Ev j Γ C e fun C1 q => Ev j Γ C1 o fun C2 p => ∃ m ps k, p = isR m ∧ C2[k]? = some (cI m Cl fns ps) ∧ Tr j Γ (C2.set k (cI m Cl fns (ps.set i q))) rest P)
    (hs : swapsWith e (some (.Attribute o f pos')) pos.line j.X.env = pure false := by rfl) : Tr j Γ C (.Assign [.Attribute o f pos'] e pos :: rest) P :=
  tr_lift (ps_fld pe_we pe_we hs) fun Φ σ F H x S => h Φ σ F H _ x S fun v F1 H1 C1 q r1 S1 s1 o1 => r1 Φ σ F1 H1 _ x S1 fun w F2 H2 C2 p ⟨m, ps, k, ep, hc, t⟩ S2 s2 o2 => by
    subst ep
    obtain ⟨dx, fs, h1, n, h2⟩ := S2.ins (List.mem_of_getElem? hc)
    subst n
    refine ⟨m, Cl, dx, fs, o2, h1, cl, na, by simpa using hl, ?_⟩
    refine t Φ σ F2 _ x (S2.puti hc rfl h1 (fun _ z => nomatch z) ⟨dx, putF f v fs, rfl, ?_, ?_⟩)
    · rw [putF_at nd hn, map_set_self Prod.fst (by exact hn)]
    · rw [putF_at nd hn, map_set_snd]
      exact h2.set i (q.mono s2 o1)
/-- .. a new attribute -/
theorem tr_fldN {f : Str} {Cl : Addr} {fns : List Str} (cl : Cls j.X.K Cl) (na : NoAttr j.X.K Cl f) (hf : f ∉ fns) (hl : fns.length < 1000)
    (h : Ev j Γ C e fun C1 q => Ev j Γ C1 o fun C2 p => ∃ m ps k, p = isR m ∧ C2[k]? = some (cI m Cl fns ps) ∧ Tr j Γ (C2.set k (cI m Cl (fns ++ [f]) (ps ++ [q]))) rest P)
    (hs : swapsWith e (some (.Attribute o f pos')) pos.line j.X.env = pure false := by rfl) : Tr j Γ C (.Assign [.Attribute o f pos'] e pos :: rest) P :=
  tr_lift (ps_fld pe_we pe_we hs) fun Φ σ F H x S => h Φ σ F H _ x S fun v F1 H1 C1 q r1 S1 s1 o1 => r1 Φ σ F1 H1 _ x S1 fun w F2 H2 C2 p ⟨m, ps, k, ep, hc, t⟩ S2 s2 o2 => by
    subst ep
    obtain ⟨dx, fs, h1, n, h2⟩ := S2.ins (List.mem_of_getElem? hc)
    subst n
    refine ⟨m, Cl, dx, fs, o2, h1, cl, na, by simpa using hl, ?_⟩
    refine t Φ σ F2 _ x (S2.puti hc rfl h1 (fun _ z => nomatch z) ⟨dx, putF f v fs, rfl, ?_, ?_⟩)
    · rw [putF_no hf, List.map_append]
      rfl
    · rw [putF_no hf, List.map_append]
      exact h2.snoc (q.mono s2 o1)
/-- o.f += e of ints, the i-th attribute; the value of e has no effect -/
theorem tr_fldaug (i : Nat) {op : Operator} {g : Int → Int → Int} {f : Str} {Cl : Addr} {fns : List Str} (cl : Cls j.X.K Cl) (na : NoAttr j.X.K Cl f) (nd : fns.Nodup) (hn : fns[i]? = some f) (hl : fns.length < 1000)
    (hop : InOp j.X op (fun x y H Q => ∃ i j, x = .int i ∧ y = .int j ∧ Q (.int (g i j)) H))
    (h : Ev j Γ C o fun C1 p => ∃ m ps k a b, p = isR m ∧ C1[k]? = some (cI m Cl fns ps) ∧ ps[i]? = some (isI a) ∧ EvP' j Γ C1 e b ∧ Tr j Γ (C1.set k (cI m Cl fns (ps.set i (isI (g a b))))) rest P) : Tr j Γ C (.AugAssign (.Attribute o f pos') op e pos :: rest) P :=
  tr_lift (ps_fldaug pe_we pe_we hop) fun Φ σ F H x S => h Φ σ F H _ x S fun v F1 H1 C1 p ⟨m, ps, k, a, b, ep, hc, ha, he, t⟩ S1 s1 o1 => by
    subst ep
    obtain ⟨dx, fs, h1, n, h2⟩ := S1.ins (List.mem_of_getElem? hc)
    subst n
    obtain ⟨u, l1, l2⟩ := h2.get ha
    refine ⟨m, Cl, dx, fs, u, o1, h1, cl, na, look_at nd (pair_at hn l1), ?_⟩
    refine he Φ σ F1 H1 _ x S1 fun w F2 H2 C2 q ⟨e2, eq⟩ S2 s2 o2 => ?_
    subst e2
    subst eq
    obtain ⟨dx', fs', h1', n', h2'⟩ := S2.ins (List.mem_of_getElem? hc)
    have nd' : (fs'.map Prod.fst).Nodup := by rw [n']; exact nd
    have hn' : (fs'.map Prod.fst)[i]? = some f := by rw [n']; exact hn
    refine ⟨a, b, l2, o2, dx', fs', h1', by have := congrArg List.length n'; simp only [List.length_map] at this hl; omega, ?_⟩
    refine t Φ σ F2 _ x (S2.puti hc rfl h1' (fun _ z => nomatch z) ⟨dx', putF f _ fs', rfl, ?_, ?_⟩)
    · rw [putF_at nd' hn', map_set_self Prod.fst (by exact hn')]
      exact n'
    · rw [putF_at nd' hn', map_set_snd]
      exact h2'.set i rfl
end
end Z

end
section
set_option Elab.async false
set_option linter.all false
set_option maxRecDepth 100000
/-! Z9: dicts of int and text keys; loops over a range, over a dict's keys. -/
namespace Z
open PySem PySem.Spec PyProof.Rows L2
open PySem.W (Datum Tup)
open Rep (pr)
/-! ### the data -/
section
variable {α : Type}
def vP (kps : List (Key × α)) (k : Key) : Option α := (kps.find? fun kv => decide (kv.1 = k)).map (·.2)
def pP (kps : List (Key × α)) (k : Key) (p : α) : List (Key × α) := if kps.any fun kv => decide (kv.1 = k) then kps.map fun kv => if kv.1 = k then (kv.1, p) else kv else kps ++ [(k, p)]
def dP (kps : List (Key × α)) (k : Key) : List (Key × α) := kps.filter fun kv => decide (kv.1 ≠ k)
end
theorem KvOn.val {F : Hp} : ∀ {kps : List (Key × Pr)} {kvs : List (Key × V)}, KvOn kps F kvs → ∀ k, (∀ p, vP kps k = some p → ∃ v, valV kvs k = some v ∧ p.on F v) ∧ (vP kps k = none → valV kvs k = none)
  | _, _, .nil, k => ⟨fun p h => (nomatch h), fun _ => rfl⟩
  | (a, p) :: kps, (b, v) :: kvs, .cons h t, k => by
    obtain ⟨e, o⟩ := h
    have e : a = b := e
    subst e
    obtain ⟨i1, i2⟩ := KvOn.val t k
    unfold vP valV at i1 i2 ⊢
    simp only [List.find?_cons]
    by_cases hk : a = k
    · simp only [hk, decide_true, Option.map_some]
      exact ⟨fun q h => by cases h; exact ⟨v, rfl, o⟩, fun h => nomatch h⟩
    · simp only [hk, decide_false]
      exact ⟨i1, i2⟩
theorem KvOn.anyK {F : Hp} : ∀ {kps : List (Key × Pr)} {kvs : List (Key × V)}, KvOn kps F kvs → ∀ k, (kps.any fun kv => decide (kv.1 = k)) = kvs.any fun kv => decide (kv.1 = k)
  | _, _, .nil, k => rfl
  | (a, p) :: kps, (b, v) :: kvs, .cons h t, k => by
    obtain ⟨e, o⟩ := h
    have e : a = b := e
    subst e
    rw [List.any_cons, List.any_cons, KvOn.anyK t k]
theorem KvOn.len {F : Hp} {kps : List (Key × Pr)} {kvs : List (Key × V)} (h : KvOn kps F kvs) : kps.length = kvs.length := Paired.length h
theorem KvOn.append {F : Hp} : ∀ {kps qs : List (Key × Pr)} {kvs ws : List (Key × V)}, KvOn kps F kvs → KvOn qs F ws → KvOn (kps ++ qs) F (kvs ++ ws)
  | _, _, _, _, .nil, k => k
  | _, _, _, _, .cons a b, k => .cons a (KvOn.append b k)
theorem KvOn.repl {F : Hp} {p : Pr} {v : V} (r : p.on F v) (k : Key) : ∀ {kps : List (Key × Pr)} {kvs : List (Key × V)}, KvOn kps F kvs →
    KvOn (kps.map fun kv => if kv.1 = k then (kv.1, p) else kv) F (kvs.map fun kv => if kv.1 = k then (kv.1, v) else kv)
  | _, _, .nil => .nil
  | (a, q) :: kps, (b, w) :: kvs, .cons h t => by
    obtain ⟨e, o⟩ := h
    have e : a = b := e
    subst e
    rw [List.map_cons, List.map_cons]
    refine .cons ?_ (KvOn.repl r k t)
    dsimp only
    by_cases hk : a = k
    · rw [if_pos hk, if_pos hk]; exact ⟨rfl, r⟩
    · rw [if_neg hk, if_neg hk]; exact ⟨rfl, o⟩
theorem KvOn.put {F : Hp} {p : Pr} {v : V} (r : p.on F v) (k : Key) {kps : List (Key × Pr)} {kvs : List (Key × V)} (h : KvOn kps F kvs) : KvOn (pP kps k p) F (putK kvs k v) := by
  unfold pP putK
  rw [h.anyK k]
  split
  · exact h.repl r k
  · exact h.append (.cons ⟨rfl, r⟩ .nil)
theorem KvOn.drop {F : Hp} (k : Key) : ∀ {kps : List (Key × Pr)} {kvs : List (Key × V)}, KvOn kps F kvs → KvOn (dP kps k) F (dropK kvs k)
  | _, _, .nil => .nil
  | (a, q) :: kps, (b, w) :: kvs, .cons h t => by
    obtain ⟨e, o⟩ := h
    have e : a = b := e
    subst e
    have ih := KvOn.drop k t
    unfold dP dropK at ih ⊢
    rw [List.filter_cons, List.filter_cons]
    dsimp only
    by_cases hk : a = k
    · rw [if_neg (by simp [hk]), if_neg (by simp [hk])]; exact ih
    · rw [if_pos (by simp [hk]), if_pos (by simp [hk])]; exact .cons ⟨rfl, o⟩ ih
theorem KvOn.keys {F : Hp} : ∀ {kps : List (Key × Pr)} {kvs : List (Key × V)}, KvOn kps F kvs → kps.map (·.1) = kvs.map (·.1)
  | _, _, .nil => rfl
  | (a, q) :: kps, (b, w) :: kvs, .cons h t => by
    obtain ⟨e, o⟩ := h
    rw [List.map_cons, List.map_cons, KvOn.keys t]
    exact congrArg (· :: _) e
/-- a dict that a loop walks -/
def cZ (a : Addr) (od : Obj) (kvs : List (Key × V)) (kps : List (Key × Pr)) : Cell := ⟨a, fun F o => o = .frz od (.dK kvs) ∧ KvOn kps F kvs, fun s ⟨e, h⟩ => ⟨e, h.mono s⟩, fun ⟨e, _⟩ => by subst e; exact fun _ z => (nomatch z)⟩
section
variable {j : J} {Γ : Gm} {C : List Cell} {R : Ps} {p q : Pr} {ps : List Pr} {P : Po} {rest body : List Stmt} {pos pos' pos2 : Pos} {o e ke : Expr} {i : Nat} {m : Addr} {kps : List (Key × Pr)} {k : Key}
def DicOk (j : J) (C : List Cell) (p : Pr) (kps : List (Key × Pr)) : Prop := ∀ tb Φ Γ σ F H v, Sta tb Φ Γ C σ F H → p.on F v → ∃ a kvs, v = .ref a ∧ L2.Rd H a (.dK kvs) ∧ KvOn kps F kvs
theorem dic_F : DicOk j C (rK kps) kps := fun tb Φ Γ σ F H v S ⟨a, kvs, e, h, o⟩ => ⟨a, kvs, e, S.sub _ _ h, o⟩
theorem dic_C (hm : cK m kps ∈ C) : DicOk j C (isR m) kps := fun tb Φ Γ σ F H v S e => by
  obtain ⟨kvs, h1, h2⟩ := S.dic hm
  exact ⟨m, kvs, e, .inl h1, h2⟩
theorem dic_Z {od : Obj} {kvs : List (Key × V)} (hm : cZ m od kvs kps ∈ C) : DicOk j C (isR m) kps := fun tb Φ Γ σ F H v S e => by
  obtain ⟨o, h1, ⟨e', h2⟩, _⟩ := S.cells.at_ _ hm
  subst e'
  exact ⟨m, kvs, e, .inr ⟨od, h1⟩, h2⟩
/-- d[k], there -/
theorem ev_dget (hu : j.X.A.units + 1 < cLine) (h : Ev j Γ C o fun C1 p => Ev j Γ C1 ke fun C2 kp => ∃ kps k q, DicOk j C2 p kps ∧ kp = isV (kV k) ∧ vP kps k = some q ∧ R C2 q) (hs : NoSl ke := by exact fun _ _ => rfl) : Ev j Γ C (.Subscript o ke pos) R :=
  ev_lift (pe_dget hu pe_we pe_we hs) fun Φ σ F H Q x S K => h Φ σ F H _ x S fun v F1 H1 C1 p r1 S1 s1 o1 => r1 Φ σ F1 H1 _ x S1 fun w F2 H2 C2 kp ⟨kps, k, q, dk, ek, hv, r⟩ S2 s2 o2 => by
    subst ek
    obtain ⟨a, kvs, e1, h1, h2⟩ := dk _ _ _ _ _ _ _ S2 (p.mono s2 o1)
    obtain ⟨z, z1, z2⟩ := (h2.val k).1 q hv
    exact ⟨a, z, e1, .inl ⟨kvs, k, h1, o2, z1.symm⟩, K _ _ _ _ _ r S2 (s1.trans s2) z2⟩
/-- k in d, k not in d -/
theorem ev_din (hu : j.X.A.units + 1 < cLine) (h : Ev j Γ C ke fun C1 kp => Ev j Γ C1 o fun C2 p => ∃ kps k, DicOk j C2 p kps ∧ kp = isV (kV k) ∧ R C2 (isB (vP kps k).isSome)) (hmk : behindInMarks .In o = false := by rfl) : Ev j Γ C (.Compare ke [.In] [o] pos) R :=
  ev_lift (pe_cmp (pc_din hu pe_we pe_we) hmk) fun Φ σ F H Q x S K => h Φ σ F H _ x S fun v F1 H1 C1 kp r1 S1 s1 o1 => r1 Φ σ F1 H1 _ x S1 fun w F2 H2 C2 p ⟨kps, k, dk, ek, r⟩ S2 s2 o2 => by
    subst ek
    obtain ⟨a, kvs, e1, h1, h2⟩ := dk _ _ _ _ _ _ _ S2 o2
    refine ⟨a, valV kvs k, e1, .inl ⟨kvs, k, h1, o1, rfl⟩, K _ _ _ _ _ r S2 (s1.trans s2) ?_⟩
    show V.bl _ = V.bl _
    cases q : vP kps k with
    | none => rw [(h2.val k).2 q]; rfl
    | some q' => obtain ⟨z, z1, _⟩ := (h2.val k).1 q' q; rw [z1]; rfl
theorem ev_dnotin (hu : j.X.A.units + 1 < cLine) (h : Ev j Γ C ke fun C1 kp => Ev j Γ C1 o fun C2 p => ∃ kps k, DicOk j C2 p kps ∧ kp = isV (kV k) ∧ R C2 (isB (!(vP kps k).isSome))) (hmk : behindInMarks .NotIn o = false := by rfl) : Ev j Γ C (.Compare ke [.NotIn] [o] pos) R :=
  ev_lift (pe_cmp (pc_dnotin hu pe_we pe_we) hmk) fun Φ σ F H Q x S K => h Φ σ F H _ x S fun v F1 H1 C1 kp r1 S1 s1 o1 => r1 Φ σ F1 H1 _ x S1 fun w F2 H2 C2 p ⟨kps, k, dk, ek, r⟩ S2 s2 o2 => by
    subst ek
    obtain ⟨a, kvs, e1, h1, h2⟩ := dk _ _ _ _ _ _ _ S2 o2
    refine ⟨a, valV kvs k, e1, .inl ⟨kvs, k, h1, o1, rfl⟩, K _ _ _ _ _ r S2 (s1.trans s2) ?_⟩
    show V.bl _ = V.bl _
    cases q : vP kps k with
    | none => rw [(h2.val k).2 q]; rfl
    | some q' => obtain ⟨z, z1, _⟩ := (h2.val k).1 q' q; rw [z1]; rfl
theorem et_din (hu : j.X.A.units + 1 < cLine) {R' : List Cell → Bool → Prop} (h : Ev j Γ C ke fun C1 kp => Ev j Γ C1 o fun C2 p => ∃ kps k, DicOk j C2 p kps ∧ kp = isV (kV k) ∧ R' C2 (vP kps k).isSome) (hmk : behindInMarks .In o = false := by rfl) : Et j Γ C (.Compare ke [.In] [o] pos) R' :=
  et_lift (pt_cmp (pc_din hu pe_we pe_we) hmk) fun Φ σ F H Q x S K => h Φ σ F H _ x S fun v F1 H1 C1 kp r1 S1 s1 o1 => r1 Φ σ F1 H1 _ x S1 fun w F2 H2 C2 p ⟨kps, k, dk, ek, r⟩ S2 s2 o2 => by
    subst ek
    obtain ⟨a, kvs, e1, h1, h2⟩ := dk _ _ _ _ _ _ _ S2 o2
    refine ⟨a, valV kvs k, e1, .inl ⟨kvs, k, h1, o1, rfl⟩, (vP kps k).isSome, ?_, K _ _ _ _ r S2 (s1.trans s2)⟩
    cases q : vP kps k with
    | none => rw [(h2.val k).2 q]; rfl
    | some q' => obtain ⟨z, z1, _⟩ := (h2.val k).1 q' q; rw [z1]; rfl
theorem et_dnotin (hu : j.X.A.units + 1 < cLine) {R' : List Cell → Bool → Prop} (h : Ev j Γ C ke fun C1 kp => Ev j Γ C1 o fun C2 p => ∃ kps k, DicOk j C2 p kps ∧ kp = isV (kV k) ∧ R' C2 (!(vP kps k).isSome)) (hmk : behindInMarks .NotIn o = false := by rfl) : Et j Γ C (.Compare ke [.NotIn] [o] pos) R' :=
  et_lift (pt_cmp (pc_dnotin hu pe_we pe_we) hmk) fun Φ σ F H Q x S K => h Φ σ F H _ x S fun v F1 H1 C1 kp r1 S1 s1 o1 => r1 Φ σ F1 H1 _ x S1 fun w F2 H2 C2 p ⟨kps, k, dk, ek, r⟩ S2 s2 o2 => by
    subst ek
    obtain ⟨a, kvs, e1, h1, h2⟩ := dk _ _ _ _ _ _ _ S2 o2
    refine ⟨a, valV kvs k, e1, .inl ⟨kvs, k, h1, o1, rfl⟩, !(vP kps k).isSome, ?_, K _ _ _ _ r S2 (s1.trans s2)⟩
    cases q : vP kps k with
    | none => rw [(h2.val k).2 q]; rfl
    | some q' => obtain ⟨z, z1, _⟩ := (h2.val k).1 q' q; rw [z1]; rfl
/-- d[k] = e -/
theorem tr_dput (hu : j.X.A.units + 1 < cLine) (h : Ev j Γ C e fun C1 q => Ev j Γ C1 o fun C2 p => Ev j Γ C2 ke fun C3 kp => ∃ m kps k i, p = isR m ∧ kp = isV (kV k) ∧ C3[i]? = some (cK m kps) ∧ kps.length < sizeLine ∧ Tr j Γ (C3.set i (cK m (pP kps k q))) rest P)
    (hs : swapsWith e (some (.Subscript o ke pos')) pos.line j.X.env = pure false := by rfl) : Tr j Γ C (.Assign [.Subscript o ke pos'] e pos :: rest) P :=
  tr_lift (ps_dput hu pe_we pe_we pe_we hs) fun Φ σ F H x S => h Φ σ F H _ x S fun v F1 H1 C1 q r1 S1 s1 o1 => r1 Φ σ F1 H1 _ x S1 fun w F2 H2 C2 p r2 S2 s2 o2 => r2 Φ σ F2 H2 _ x S2 fun u F3 H3 C3 kp ⟨m, kps, k, i, ep, ek, hc, hl, t⟩ S3 s3 o3 => by
    subst ep
    subst ek
    obtain ⟨kvs, h1, h2⟩ := S3.dic (List.mem_of_getElem? hc)
    refine ⟨m, _, o2, .inl ⟨kvs, k, h1, o3, by rw [← h2.len]; exact hl, rfl⟩, t Φ σ F3 _ x (S3.puti hc rfl h1 (fun _ z => nomatch z) ⟨_, rfl, h2.put (q.mono (s2.trans s3) o1) k⟩)⟩
/-- sorted(d): all keys texts -/
theorem ok_sortedD {ks : List Str} (hd : DicOk j C p kps) (hk : kps.map (·.1) = ks.map Sum.inr) (h64 : ks.length < 64) (r : ∀ ys, ys.Perm ks → sortedS ys = true → R C (rL (ys.map fun y => isS y))) :
    CallOk j Γ (fun xs H Q => ∃ (a : Addr) (kvs : List (Key × V)) (ks : List Str), xs = [.ref a] ∧ L2.Rd H a (.dK kvs) ∧ kvs.map (·.1) = ks.map Sum.inr ∧ ks.length < 64 ∧
      ∀ ys p, ys.Perm ks → sortedS ys = true → H p = none → Q (.ref p) (upd H p (.lst (ys.map V.str)))) [p] C R := fun Φ σ F H vs Q x S o K => by
  obtain ⟨v, e, o⟩ := all1 o
  obtain ⟨a, kvs, e1, h1, h2⟩ := hd _ _ _ _ _ _ _ S o
  refine ⟨a, kvs, ks, by rw [e, e1], h1, by rw [← h2.keys]; exact hk, h64, fun ys z hy hs hz => K.newL S (r ys hy hs) ?_ hz⟩
  clear hy hs r
  induction ys with
  | nil => exact .nil
  | cons y ys ih => exact .cons rfl ih
/-! ### for over a range -/
theorem tr_range1 {tg a : Expr} {pp : Pos} (I : Nat → Gm → List Cell → Prop) (N : Gm → List Cell → Prop) (hm : j.X.mg "range" = none)
    (k : Ev j Γ C a fun C1 p => ∃ n : Int, p = isI n ∧ -(2 ^ 62) ≤ n ∧ n < 2 ^ 62 ∧ I 0 Γ C1 ∧
      (∀ i Γ' C', i < n.toNat → I i Γ' C' → Eg j Γ' C' tg (isI i) fun Γ2 C2 => Tr j Γ2 C2 body { nx := I (i + 1), ct := I (i + 1), bk := N, rt := P.rt }) ∧ (∀ Γ' C', I n.toNat Γ' C' → N Γ' C'))
    (kr : ∀ Γ' C', N Γ' C' → Tr j Γ' C' rest P) (hp : PassesOwn (model j.X.prog j.X.w) j.X.A j.X.env j.X.xe) (hc : j.X.calm = true) (hg : Gl j.X "range" := by rfl) (hst : starEach [a] j.X.env = [(false, eval a j.X.env)] := by rfl)
    (hs : ∀ x, foldedSetIterable (.Call (.Name "range" pp) [a] [] pos2) j.X.env x = pure x := by intro _; rfl) : Tr j Γ C (.For tg (.Call (.Name "range" pp) [a] [] pos2) body [] pos :: rest) P :=
  tr_lift (ps_for hp hc (pi_range1 hg hm (pa_cons pe_we pa_nil hst) hst) pg_wg pss_wb hs) fun Φ σ F H x S => k Φ σ F H _ x S fun v F1 H1 C1 p ⟨n, ep, n1, n2, i0, hs, hd⟩ S1 s1 o1 => by
    subst ep
    have ev : v = .int n := o1
    subst ev
    refine ⟨n, rfl, n1, n2, for_range (lo := 0) (n := n.toNat) (fun i σ H => ∃ Γ C F, I i Γ C ∧ Sta j.tb Φ Γ C σ F H) ⟨Γ, C1, F1, i0, S1⟩ ?_ ?_⟩
    · rintro i σ2 H2 hi ⟨Γ2, C2, F2, i2, S2⟩
      refine hs i Γ2 C2 hi i2 Φ σ2 F2 H2 _ _ x S2 (show V.int (0 + (i : Int)) = V.int (i : Int) by rw [Int.zero_add]) fun Γ3 C3 σ3 F3 H3 t3 S3 s3 => ?_
      refine Wb.mono (t3 Φ σ3 F3 H3 x S3) (fun σ4 H4 h => h) (fun v4 H4 h => h) (fun σ4 H4 ⟨Γ4, C4, F4, n4, S4⟩ => kr Γ4 C4 n4 Φ σ4 F4 H4 x S4) fun σ4 H4 h => h
    · rintro σ2 H2 ⟨Γ2, C2, F2, i2, S2⟩
      exact kr Γ2 C2 (hd Γ2 C2 i2) Φ σ2 F2 H2 x S2
end
end Z

end
section
set_option Elab.async false
set_option linter.all false
set_option maxRecDepth 100000
/-! Z10: operators of any kind, stores of any kind, pure tests. -/
namespace Z
open PySem PySem.Spec PyProof.Rows L2
open PySem.W (Datum Tup)
open Rep (pr)
section
variable {X : L2.Cx}
def rStrAdd : R2 := fun x y H Q => ∃ i j, x = .str i ∧ y = .str j ∧ i.length + j.length ≤ sizeLine ∧ Q (.str (i ++ j)) H
def rCatL (K : PySem.W.Frag) : R2 := fun x y H Q => ∃ l b xs zs, x = .ref l ∧ y = .ref b ∧ SqL K H l xs ∧ SqL K H b zs ∧ xs.length + zs.length ≤ sizeLine ∧ ∀ p, H p = none → Q (.ref p) (upd H p (.lst (xs ++ zs)))
def rRepL : R2 := fun x y H Q => ∃ l k xs, x = .ref l ∧ y = .int k ∧ L2.Rd H l (.lst xs) ∧ -(2 ^ 63) ≤ k ∧ k < 2 ^ 63 ∧ xs.length * k.toNat ≤ sizeLine ∧ ∀ p, H p = none → Q (.ref p) (upd H p (.lst (List.replicate k.toNat xs).flatten))
/-- t + u of tuples (the left not empty) -/
def rCatT2 (K : PySem.W.Frag) : R2 := rCatT K
abbrev rAddA (K : PySem.W.Frag) : R2 := fun x y H Q => rI0 (fun i j => .int (i + j)) x y H Q ∨ (rStrAdd x y H Q ∨ (rCatL K x y H Q ∨ rCatT K x y H Q))
theorem op_addA : OpR X (binaryOp .Add) (rAddA X.K) := op_add.or (op_add_str.or (op_catL.or op_catT))
abbrev rMulA : R2 := fun x y H Q => rI CMul (fun i j => .int (i * j)) x y H Q ∨ rRepL x y H Q
theorem op_mulA : OpR X (binaryOp .Mult) rMulA := op_mul.or op_repL
abbrev rDivA : R2 := rI CDiv fun i j => .int (i / j)
abbrev rModA : R2 := rI (fun _ j => 0 < j) fun i j => .int (i % j)
/-- == of data of any type -/
def rEqX (K : PySem.W.Frag) (u : Nat) (neg : Bool) : R2 := fun x y H Q => ∃ (α : Type) (_ : DecidableEq α) (_ : Datum α), u + Datum.depth α < cLine ∧ rEqT K α neg x y H Q
theorem op_eqX : OpR X (compareOp .Eq) (rEqX X.K X.A.units false) := by
  intro pins s σ H x y v u Q I rx ry ⟨α, d1, d2, hu, q⟩
  exact op_eqT (α := α) hu pins s σ H x y v u Q I rx ry q
theorem op_neX : OpR X (compareOp .NotEq) (rEqX X.K X.A.units true) := by
  intro pins s σ H x y v u Q I rx ry ⟨α, d1, d2, hu, q⟩
  exact op_neT (α := α) hu pins s σ H x y v u Q I rx ry q
abbrev rEqA (K : PySem.W.Frag) (u : Nat) : R2 := fun x y H Q => rEq x y H Q ∨ rEqX K u false x y H Q
abbrev rNeA (K : PySem.W.Frag) (u : Nat) : R2 := fun x y H Q => rNe x y H Q ∨ rEqX K u true x y H Q
theorem op_eqA : OpR X (compareOp .Eq) (rEqA X.K X.A.units) := op_eq.or op_eqX
theorem op_neA : OpR X (compareOp .NotEq) (rNeA X.K X.A.units) := op_ne.or op_neX
/-- in -/
def rInX (K : PySem.W.Frag) (u : Nat) (neg : Bool) : R2 := fun x y H Q => ∃ (α : Type) (_ : DecidableEq α) (_ : Datum α), u + 1 + Datum.depth α < cLine ∧ rInT K α neg x y H Q
theorem op_inX : OpR X (compareOp .In) (rInX X.K X.A.units false) := by
  intro pins s σ H x y v u Q I rx ry ⟨α, d1, d2, hu, q⟩
  exact op_inT (α := α) hu pins s σ H x y v u Q I rx ry q
theorem op_notInX : OpR X (compareOp .NotIn) (rInX X.K X.A.units true) := by
  intro pins s σ H x y v u Q I rx ry ⟨α, d1, d2, hu, q⟩
  exact op_notInT (α := α) hu pins s σ H x y v u Q I rx ry q
def rInD (neg : Bool) : R2 := fun y x H Q => ∃ a o, x = .ref a ∧ DGet H a y o ∧ Q (.bl (if neg then !o.isSome else o.isSome)) H
theorem op_inD (hu : X.A.units + 1 < cLine) : OpR X (compareOp .In) (rInD false) := by
  intro pins s σ H x y v u Q I rx ry ⟨a, o, e, g, q⟩
  subst e
  obtain rfl : u = Value.ref a := ry
  exact d_in hu I g rx fun s3 I3 => ⟨.bl o.isSome, H, I3, rfl, q⟩
theorem op_notInD (hu : X.A.units + 1 < cLine) : OpR X (compareOp .NotIn) (rInD true) := by
  intro pins s σ H x y v u Q I rx ry ⟨a, o, e, g, q⟩
  subst e
  obtain rfl : u = Value.ref a := ry
  exact d_notIn hu I g rx fun s3 I3 => ⟨.bl (!o.isSome), H, I3, rfl, q⟩
def rInC (neg : Bool) : R2 := fun x y H Q => ∃ (c : Nat) (z : Str), x = .str ⟨#[c]⟩ ∧ y = .str z ∧ Q (.bl (if neg then !decide (c ∈ z.cps.toList) else decide (c ∈ z.cps.toList))) H
abbrev rInA (K : PySem.W.Frag) (u : Nat) : R2 := fun x y H Q => rInX K u false x y H Q ∨ (rInD false x y H Q ∨ rInC false x y H Q)
abbrev rNotInA (K : PySem.W.Frag) (u : Nat) : R2 := fun x y H Q => rInX K u true x y H Q ∨ (rInD true x y H Q ∨ rInC true x y H Q)
theorem op_inA (hu : X.A.units + 1 < cLine) : OpR X (compareOp .In) (rInA X.K X.A.units) := op_inX.or ((op_inD hu).or op_in_sign)
theorem op_notInA (hu : X.A.units + 1 < cLine) : OpR X (compareOp .NotIn) (rNotInA X.K X.A.units) := op_notInX.or ((op_notInD hu).or op_notIn_sign)
/-- a[b] -/
def rIxD : R2 := fun x y H Q => ∃ a v, x = .ref a ∧ DGet H a y (some v) ∧ Q v H
theorem ix_dict (hu : X.A.units + 1 < cLine) : IxR X rIxD := by
  intro value slice pins s σ H x y v u Q I rx ry ⟨a, z, e, g, q⟩ hs
  subst e
  obtain rfl : v = Value.ref a := rx
  have hT := dict_typeIs I g
  unfold subscriptTail
  refine wpAny_bind ?_
  rw [getitemInPython_of_ne hT.not_modules]
  refine wpAny_bind (wpAny_specialOf hT PySem.F.slot_dict_getitem.lookup ?_)
  have fin : wpAny (model X.prog X.w) X.A (subscripted slice false (.ref a) u) (fun r s₃ => wpAny (model X.prog X.w) X.A (letTemporaryGo value (.ref a) r >>= fun _ => pure r) (EP X pins σ Q) X.xe s₃) X.xe s := by
    rw [hs]
    exact wpAny_operating (d_getItem hu I g ry fun w' s3 I3 rw' => wpAny_bind (wpAny_letTemporaryGo (wpAny_pure ⟨z, H, I3, rw', q⟩)))
  first
    | exact wpAny_pure (wpAny_bind fin)
    | exact wpAny_bind (wpAny_pure (wpAny_bind fin))
    | exact wpAny_bind fin
abbrev rIxA (K : PySem.W.Frag) : R2 := fun x y H Q => rIxL K x y H Q ∨ (rIxT K x y H Q ∨ (rIxS x y H Q ∨ rIxD x y H Q))
theorem ix_all (hu : X.A.units + 1 < cLine) : IxR X (rIxA X.K) := ix_list.or (ix_tup.or (ix_str.or (ix_dict hu)))
/-- a[b] = v -/
def rSetD : V → V → V → Hp → (Hp → Prop) → Prop := fun o i v H Q => ∃ a H4, o = .ref a ∧ DPut H a i v H4 ∧ Q H4
theorem set_dict (hu : X.A.units + 1 < cLine) : PSet X rSetD := by
  intro pins s σ H o i v ov iv u Q I ro ri rv ⟨a, H4, e, g, q⟩
  subst e
  obtain rfl : ov = Value.ref a := ro
  exact d_setItem hu I g ri rv fun s4 I4 => ⟨H4, I4, q⟩
theorem pset_or {t t' : V → V → V → Hp → (Hp → Prop) → Prop} (h : PSet X t) (h' : PSet X t') : PSet X fun o i v H Q => t o i v H Q ∨ t' o i v H Q := by
  intro pins s σ H o i v ov iv u Q I ro ri rv q
  rcases q with q | q
  · exact h pins s σ H o i v ov iv u Q I ro ri rv q
  · exact h' pins s σ H o i v ov iv u Q I ro ri rv q
abbrev rSetA : V → V → V → Hp → (Hp → Prop) → Prop := fun o i v H Q => rSetL o i v H Q ∨ rSetD o i v H Q
theorem set_all (hu : X.A.units + 1 < cLine) : PSet X rSetA := pset_or set_list (set_dict hu)
/-- len -/
def rLenS : List V → Hp → VK → Prop := fun xs H Q => ∃ z, xs = [.str z] ∧ z.length ≤ sizeLine ∧ Q (.int z.length) H
def rLenL (K : PySem.W.Frag) : List V → Hp → VK → Prop := fun xs H Q => ∃ p ys, xs = [.ref p] ∧ (SqL K H p ys ∨ SqT K H p ys) ∧ Q (.int ys.length) H
def rLenD : List V → Hp → VK → Prop := fun xs H Q => ∃ a kvs, xs = [.ref a] ∧ L2.Rd H a (.dK kvs) ∧ Q (.int kvs.length) H
theorem call_lenD2 : CallR X (.builtin "len") rLenD := by
  intro pins s σ H xs us Q I r ⟨a, kvs, e, h, q⟩
  subst e
  obtain ⟨u, eu, ru⟩ := vals1 r
  subst eu
  obtain rfl : u = Value.ref a := ru
  exact d_len I h fun t s' I' => ⟨.int kvs.length, H, I', ⟨t, rfl⟩, q⟩
abbrev rLenA (K : PySem.W.Frag) : List V → Hp → VK → Prop := fun xs H Q => rLenL K xs H Q ∨ (rLenS xs H Q ∨ rLenD xs H Q)
theorem call_lenA : CallR X (.builtin "len") (rLenA X.K) := call_len_seq.or (call_len_str.or call_lenD2)
end
section
variable {j : J} {Γ : Gm} {C : List Cell} {R : Ps} {p q : Pr} {ps : List Pr} {P : Po} {rest body : List Stmt} {pos pos' pos2 : Pos} {o e ke : Expr} {i : Nat} {m : Addr} {kps : List (Key × Pr)} {k : Key}
theorem OpOk.inl {r r' : R2} (h : OpOk j Γ r p q C R) : OpOk j Γ (fun x y H Q => r x y H Q ∨ r' x y H Q) p q C R := fun Φ σ F H v w Q x S o1 o2 K => .inl (h Φ σ F H v w Q x S o1 o2 K)
theorem OpOk.inr {r r' : R2} (h : OpOk j Γ r' p q C R) : OpOk j Γ (fun x y H Q => r x y H Q ∨ r' x y H Q) p q C R := fun Φ σ F H v w Q x S o1 o2 K => .inr (h Φ σ F H v w Q x S o1 o2 K)
theorem CallOk.inl {r r' : List V → Hp → VK → Prop} (h : CallOk j Γ r ps C R) : CallOk j Γ (fun x H Q => r x H Q ∨ r' x H Q) ps C R := fun Φ σ F H vs Q x S o K => .inl (h Φ σ F H vs Q x S o K)
theorem CallOk.inr {r r' : List V → Hp → VK → Prop} (h : CallOk j Γ r' ps C R) : CallOk j Γ (fun x H Q => r x H Q ∨ r' x H Q) ps C R := fun Φ σ F H vs Q x S o K => .inr (h Φ σ F H vs Q x S o K)
theorem okA_addI {a b : Int} (r : R C (isI (a + b))) : OpOk j Γ (rAddA j.X.K) (isI a) (isI b) C R := .inl (ok_rI0 r)
theorem okA_addS {s t : Str} (hl : s.length + t.length ≤ sizeLine) (r : R C (isS (s ++ t))) : OpOk j Γ (rAddA j.X.K) (isS s) (isS t) C R := .inr (.inl (ok_addS hl r))
theorem okA_addL {qs : List Pr} (hp : LstOk j C p ps) (hq : LstOk j C q qs) (hz : ps.length + qs.length ≤ sizeLine) (r : R C (rL (ps ++ qs))) : OpOk j Γ (rAddA j.X.K) p q C R := .inr (.inr (.inl (ok_catL hp hq hz r)))
theorem okA_mulI {a b : Int} (hc : CMul a b) (r : R C (isI (a * b))) : OpOk j Γ rMulA (isI a) (isI b) C R := .inl (ok_rI hc r)
theorem okA_mulL {k : Int} (h1 : -(2 ^ 63) ≤ k) (h2 : k < 2 ^ 63) (hz : ps.length * k.toNat ≤ sizeLine) (r : R C (rL (List.replicate k.toNat ps).flatten)) : OpOk j Γ rMulA (rL ps) (isI k) C R := .inr (ok_repL h1 h2 hz r)
theorem okA_eqS {u z : V} (hs : scal u z = true) (r : R C (isB (decide (u = z)))) : OpOk j Γ (rEqA j.X.K j.X.A.units) (isV u) (isV z) C R := .inl (ok_eqS hs r)
theorem okA_neS {u z : V} (hs : scal u z = true) (r : R C (isB (!decide (u = z)))) : OpOk j Γ (rNeA j.X.K j.X.A.units) (isV u) (isV z) C R := .inl (ok_neS hs r)
section
variable {α : Type} [DecidableEq α] [Datum α] [Rep α] {a b : α} {xs : List α}
theorem okA_eqT (ha : DatOk j C p a) (hb : DatOk j C q b) (hu : j.X.A.units + Datum.depth α < cLine) (r : R C (isB (decide (a = b)))) : OpOk j Γ (rEqA j.X.K j.X.A.units) p q C R := fun Φ σ F H v w Q x S o1 o2 K => .inr ⟨α, _, _, hu, ok_eqT ha hb r Φ σ F H v w Q x S o1 o2 K⟩
theorem okA_neT (ha : DatOk j C p a) (hb : DatOk j C q b) (hu : j.X.A.units + Datum.depth α < cLine) (r : R C (isB (decide (a ≠ b)))) : OpOk j Γ (rNeA j.X.K j.X.A.units) p q C R := fun Φ σ F H v w Q x S o1 o2 K => .inr ⟨α, _, _, hu, ok_neT ha hb r Φ σ F H v w Q x S o1 o2 K⟩
theorem okA_inL (ha : DatOk j C p a) (hb : LstOk j C q (xs.map (pr j.X.K))) (hu : j.X.A.units + 1 + Datum.depth α < cLine) (r : R C (isB (decide (a ∈ xs)))) : OpOk j Γ (rInA j.X.K j.X.A.units) p q C R := fun Φ σ F H v w Q x S o1 o2 K => .inl ⟨α, _, _, hu, ok_inL ha hb r Φ σ F H v w Q x S o1 o2 K⟩
theorem okA_inT (ha : DatOk j C p a) (hb : TupOk j q (xs.map (pr j.X.K))) (hu : j.X.A.units + 1 + Datum.depth α < cLine) (r : R C (isB (decide (a ∈ xs)))) : OpOk j Γ (rInA j.X.K j.X.A.units) p q C R := fun Φ σ F H v w Q x S o1 o2 K => .inl ⟨α, _, _, hu, ok_inTu ha hb r Φ σ F H v w Q x S o1 o2 K⟩
theorem okA_notInL (ha : DatOk j C p a) (hb : LstOk j C q (xs.map (pr j.X.K))) (hu : j.X.A.units + 1 + Datum.depth α < cLine) (r : R C (isB (decide (a ∉ xs)))) : OpOk j Γ (rNotInA j.X.K j.X.A.units) p q C R := fun Φ σ F H v w Q x S o1 o2 K => .inl ⟨α, _, _, hu, ok_notInL ha hb r Φ σ F H v w Q x S o1 o2 K⟩
theorem okA_notInT (ha : DatOk j C p a) (hb : TupOk j q (xs.map (pr j.X.K))) (hu : j.X.A.units + 1 + Datum.depth α < cLine) (r : R C (isB (decide (a ∉ xs)))) : OpOk j Γ (rNotInA j.X.K j.X.A.units) p q C R := fun Φ σ F H v w Q x S o1 o2 K => .inl ⟨α, _, _, hu, ok_notInTu ha hb r Φ σ F H v w Q x S o1 o2 K⟩
end
theorem KvOn.isSome {F : Hp} {kvs : List (Key × V)} (h : KvOn kps F kvs) (k : Key) : (valV kvs k).isSome = (vP kps k).isSome := by
  cases q : vP kps k with
  | none => rw [(h.val k).2 q] <;> rfl
  | some q' => obtain ⟨z, z1, _⟩ := (h.val k).1 q' q; rw [z1]; rfl
theorem okA_inD (hd : DicOk j C q kps) (r : R C (isB (vP kps k).isSome)) : OpOk j Γ (rInA j.X.K j.X.A.units) (isV (kV k)) q C R := fun Φ σ F H v w Q x S o1 o2 K => by
  obtain ⟨a, kvs, e, h1, h2⟩ := hd _ _ _ _ _ _ _ S o2
  refine .inr (.inl ⟨a, valV kvs k, e, .inl ⟨kvs, k, h1, o1, rfl⟩, ?_⟩)
  show Q (.bl (valV kvs k).isSome) H
  rw [h2.isSome k]
  exact K.now S r rfl
theorem okA_notInD (hd : DicOk j C q kps) (r : R C (isB (!(vP kps k).isSome))) : OpOk j Γ (rNotInA j.X.K j.X.A.units) (isV (kV k)) q C R := fun Φ σ F H v w Q x S o1 o2 K => by
  obtain ⟨a, kvs, e, h1, h2⟩ := hd _ _ _ _ _ _ _ S o2
  refine .inr (.inl ⟨a, valV kvs k, e, .inl ⟨kvs, k, h1, o1, rfl⟩, ?_⟩)
  show Q (.bl (!(valV kvs k).isSome)) H
  rw [h2.isSome k]
  exact K.now S r rfl
theorem okA_inC {c : Nat} {z : Str} (r : R C (isB (decide (c ∈ z.cps.toList)))) : OpOk j Γ (rInA j.X.K j.X.A.units) (isS ⟨#[c]⟩) (isS z) C R := fun Φ σ F H v w Q x S o1 o2 K => .inr (.inr ⟨c, z, o1, o2, K.now S r rfl⟩)
theorem okA_notInC {c : Nat} {z : Str} (r : R C (isB (!decide (c ∈ z.cps.toList)))) : OpOk j Γ (rNotInA j.X.K j.X.A.units) (isS ⟨#[c]⟩) (isS z) C R := fun Φ σ F H v w Q x S o1 o2 K => .inr (.inr ⟨c, z, o1, o2, K.now S r rfl⟩)
/-- a[b] -/
theorem okA_ixL {n : Int} (h : LstOk j C p ps) (e : atI ps n = some q) (r : R C q) : OpOk j Γ (rIxA j.X.K) p (isI n) C R := .inl (ok_ixL h e r)
theorem okA_ixT {n : Int} (h : TupOk j p ps) (e : atI ps n = some q) (r : R C q) : OpOk j Γ (rIxA j.X.K) p (isI n) C R := .inr (.inl (ok_ixT h e r))
theorem okA_ixS {n : Int} {z : Str} {c : Nat} (hz : z.length ≤ sizeLine) (e : atI z.cps.toList n = some c) (r : R C (isS ⟨#[c]⟩)) : OpOk j Γ (rIxA j.X.K) (isS z) (isI n) C R := fun Φ σ F H v w Q x S o1 o2 K => .inr (.inr (.inl ⟨z, n, c, o1, o2, hz, e, K.now S r rfl⟩))
theorem okA_ixD (hd : DicOk j C p kps) (hv : vP kps k = some q) (r : R C q) : OpOk j Γ (rIxA j.X.K) p (isV (kV k)) C R := fun Φ σ F H v w Q x S o1 o2 K => by
  obtain ⟨a, kvs, e, h1, h2⟩ := hd _ _ _ _ _ _ _ S o1
  obtain ⟨z, z1, z2⟩ := (h2.val k).1 q hv
  exact .inr (.inr (.inr ⟨a, z, e, .inl ⟨kvs, k, h1, o2, z1.symm⟩, K.now S r z2⟩))
theorem okA_lenL (h : LstOk j C p ps) (r : R C (isI ps.length)) : CallOk j Γ (rLenA j.X.K) [p] C R := .inl (ok_lenL h r)
theorem okA_lenT (h : TupOk j p ps) (r : R C (isI ps.length)) : CallOk j Γ (rLenA j.X.K) [p] C R := .inl (ok_lenT h r)
theorem okA_lenS {z : Str} (hz : z.length ≤ sizeLine) (r : R C (isI z.length)) : CallOk j Γ (rLenA j.X.K) [isS z] C R := .inr (.inl fun Φ σ F H vs Q x S o K => by
  obtain ⟨v, e, o⟩ := all1 o
  exact ⟨z, by rw [e, show v = .str z from o], hz, K.now S r rfl⟩)
theorem okA_lenD (hd : DicOk j C p kps) (r : R C (isI kps.length)) : CallOk j Γ (rLenA j.X.K) [p] C R := .inr (.inr fun Φ σ F H vs Q x S o K => by
  obtain ⟨v, e, o⟩ := all1 o
  obtain ⟨a, kvs, e1, h1, h2⟩ := hd _ _ _ _ _ _ _ S o
  refine ⟨a, kvs, by rw [e, e1], h1, ?_⟩
  rw [← h2.len]
  exact K.now S r rfl)
/-! ### stores by place -/
/-- what a store asks; T: what follows with the new cells -/
def SetOk (j : J) (p kp q : Pr) (C : List Cell) (T : List Cell → Prop) : Prop := ∀ tb Φ Γ σ F H v w u (Q : Hp → Prop), Sta tb Φ Γ C σ F H → p.on F v → kp.on F w → q.on F u → (∀ C' H', T C' → Sta tb Φ Γ C' σ F H' → Q H') → rSetA v w u H Q
theorem so_L {n : Nat} {k : Int} {T : List Cell → Prop} (hc : C[i]? = some (cL m ps)) (hn : ixN ps.length k = some n) (t : T (C.set i (cL m (ps.set n q)))) : SetOk j (isR m) (isI k) q C T := fun tb Φ Γ σ F H v w u Q S o1 o2 o3 K => by
  obtain ⟨xs, h1, h2⟩ := S.lst (List.mem_of_getElem? hc)
  exact .inl ⟨m, xs, k, n, o1, o2, h1, by rw [← h2.length]; exact hn, K _ _ t (S.puti hc rfl h1 (fun _ z => nomatch z) ⟨xs.set n u, rfl, h2.set n o3⟩)⟩
theorem so_D {T : List Cell → Prop} (hc : C[i]? = some (cK m kps)) (hl : kps.length < sizeLine) (t : T (C.set i (cK m (pP kps k q)))) : SetOk j (isR m) (isV (kV k)) q C T := fun tb Φ Γ σ F H v w u Q S o1 o2 o3 K => by
  obtain ⟨kvs, h1, h2⟩ := S.dic (List.mem_of_getElem? hc)
  exact .inr ⟨m, _, o1, .inl ⟨kvs, k, h1, o2, by rw [← h2.len]; exact hl, rfl⟩, K _ _ t (S.puti hc rfl h1 (fun _ z => nomatch z) ⟨_, rfl, h2.put o3 k⟩)⟩
theorem tr_sput (hu : j.X.A.units + 1 < cLine) {xo : Expr} (h : Ev j Γ C e fun C1 q => Ev j Γ C1 xo fun C2 p => Ev j Γ C2 ke fun C3 kp => SetOk j p kp q C3 fun C4 => Tr j Γ C4 rest P)
    (hs : swapsWithSole [.Subscript xo ke pos'] e pos.line j.X.env = pure false := by rfl) (hw : swappedStores [.Subscript xo ke pos'] e j.X.env = pure none := by rfl)
    (ha : ∀ v, assign (.Subscript xo ke pos') j.X.env v = (do
      let ov ← holding [v] (eval xo j.X.env)
      let iv ← holding [v, ov] (eval ke j.X.env)
      standAt pos'
      holding [v, ov, iv] (setItem ov iv v)
      release [v, ov, iv] []) := by intro _; rfl) : Tr j Γ C (.Assign [.Subscript xo ke pos'] e pos :: rest) P :=
  tr_lift (ps_asg pe_we (pg_sub pe_we pe_we (set_all hu) ha) hs hw) fun Φ σ F H x S => h Φ σ F H _ x S fun v F1 H1 C1 q r1 S1 s1 o1 => r1 Φ σ F1 H1 _ x S1 fun w F2 H2 C2 p r2 S2 s2 o2 => r2 Φ σ F2 H2 _ x S2 fun u F3 H3 C3 kp so S3 s3 o3 =>
    so _ _ _ _ _ _ _ _ _ _ S3 (p.mono s3 o2) o3 (q.mono (s2.trans s3) o1) fun C4 H4 t S4 => t Φ σ F3 H4 x S4
/-! ### pure tests, pure values -/
abbrev EtP (j : J) (Γ : Gm) (C : List Cell) (e : Expr) (B : Bool) : Prop := Et j Γ C e fun C' b => C' = C ∧ b = B
abbrev EtwP (j : J) (Γ : Gm) (C : List Cell) (e : Expr) (B : Bool) : Prop := Etw j Γ C e fun C' b => C' = C ∧ b = B
abbrev EvP (j : J) (Γ : Gm) (C : List Cell) (e : Expr) (p : Pr) : Prop := Ev j Γ C e fun C' q => C' = C ∧ q = p
variable {a b c : Expr} {es : List Expr} {A B : Bool}
theorem et_use {R : List Cell → Bool → Prop} (h : EtP j Γ C c B) (k : R C B) : Et j Γ C c R := h.imp fun C' b ⟨e1, e2⟩ => by subst e1; subst e2; exact k
theorem ev_use (h : EvP j Γ C c p) (k : R C p) : Ev j Γ C c R := h.imp fun C' b ⟨e1, e2⟩ => by subst e1; subst e2; exact k
theorem etp_and (h : EtP j Γ C a A) (k : A = true → EtwP j Γ C (.BoolOp .And (b :: es) pos) B) : EtwP j Γ C (.BoolOp .And (a :: b :: es) pos) (A && B) :=
  etw_and (h.imp fun C' x ⟨e1, e2⟩ => by
    subst e1
    subst e2
    refine ⟨fun z => ?_, fun z => ⟨rfl, by rw [z]; rfl⟩⟩
    rw [z]
    exact k z)
theorem etp_or (h : EtP j Γ C a A) (k : A = false → EtwP j Γ C (.BoolOp .Or (b :: es) pos) B) : EtwP j Γ C (.BoolOp .Or (a :: b :: es) pos) (A || B) :=
  etw_or (h.imp fun C' x ⟨e1, e2⟩ => by
    subst e1
    subst e2
    refine ⟨fun z => ⟨rfl, by rw [z]; rfl⟩, fun z => ?_⟩
    rw [z]
    exact k z)
theorem etp_not (h : EtP j Γ C a A) : EtP j Γ C (.UnaryOp .Not a pos) (!A) := et_not (h.imp fun C' x ⟨e1, e2⟩ => ⟨e1, by rw [e2]⟩)
/-- both values of a conditional expression, of one kind -/
theorem evp_ifV {u z : V} (h : EtP j Γ C c B) (h1 : B = true → EvP j Γ C a (isV u)) (h2 : B = false → EvP j Γ C b (isV z)) : EvP j Γ C (.IfExp c a b pos) (isV (if B then u else z)) :=
  ev_ifx (h.imp fun C' x ⟨e1, e2⟩ => by
    subst e1
    subst e2
    refine ⟨fun y => ?_, fun y => ?_⟩
    · rw [y]; exact h1 y
    · rw [y]; exact h2 y)
end
end Z

end
section
set_option Elab.async false
set_option linter.all false
set_option maxRecDepth 100000
/-! Z11: dicts by place; += ; targets in a row. -/
namespace Z
open PySem PySem.Spec PyProof.Rows L2
open PySem.W (Datum Tup)
open Rep (pr)
section
variable {α : Type}
theorem vP_at : ∀ {kps : List (Key × α)} {i : Nat} {k : Key} {q : α}, (kps.map Prod.fst).Nodup → kps[i]? = some (k, q) → vP kps k = some q
  | [], _, _, _, _, h => by simp at h
  | (g, u) :: l, 0, k, q, _, h => by
    simp at h
    obtain ⟨rfl, rfl⟩ := h
    simp [vP]
  | (g, u) :: l, i + 1, k, q, nd, h => by
    have h' : l[i]? = some (k, q) := by simpa using h
    rw [List.map_cons, List.nodup_cons] at nd
    have ne : ¬ g = k := fun e => by
      subst e
      exact nd.1 (List.mem_map.mpr ⟨_, List.mem_of_getElem? h', rfl⟩)
    have ih := vP_at nd.2 h'
    unfold vP at ih ⊢
    rw [List.find?_cons]
    simp only [ne, decide_false]
    exact ih
theorem vP_no : ∀ {kps : List (Key × α)} {k : Key}, k ∉ kps.map Prod.fst → vP kps k = none
  | [], _, _ => rfl
  | (g, u) :: l, k, h => by
    rw [List.map_cons, List.mem_cons, not_or] at h
    have ih := vP_no h.2
    unfold vP at ih ⊢
    rw [List.find?_cons]
    simp only [show ¬ g = k from fun e => h.1 e.symm, decide_false]
    exact ih
theorem pP_at {p : α} : ∀ {kps : List (Key × α)} {i : Nat} {k : Key}, (kps.map Prod.fst).Nodup → (kps.map Prod.fst)[i]? = some k → pP kps k p = kps.set i (k, p) := by
  intro kps i k nd h
  have hm : (kps.any fun kv => decide (kv.1 = k)) = true := by
    rw [List.any_eq_true]
    rw [List.getElem?_map] at h
    cases e : kps[i]? with
    | none => rw [e] at h; cases h
    | some q => rw [e] at h; cases h; exact ⟨q, List.mem_of_getElem? e, by simp⟩
  unfold pP
  rw [if_pos hm]
  clear hm
  induction kps generalizing i with
  | nil => rfl
  | cons q l ih =>
    rw [List.map_cons, List.nodup_cons] at nd
    cases i with
    | zero =>
      simp at h
      subst h
      rw [List.map_cons, if_pos rfl, List.set_cons_zero]
      congr 1
      clear ih
      have : ∀ r ∈ l, (if r.1 = q.1 then (r.1, p) else r) = r := fun r hr => by
        rw [if_neg fun e => nd.1 (List.mem_map.mpr ⟨r, hr, e⟩)]
      exact (List.map_congr_left this).trans (List.map_id' l)
    | succ i =>
      have h' : (l.map Prod.fst)[i]? = some k := by simpa using h
      have ne : ¬ q.1 = k := fun e => by
        subst e
        exact nd.1 (List.mem_of_getElem? h')
      rw [List.map_cons, if_neg ne, List.set_cons_succ, ih nd.2 h']
theorem pP_new {kps : List (Key × α)} {k : Key} {p : α} (h : k ∉ kps.map Prod.fst) : pP kps k p = kps ++ [(k, p)] := by
  unfold pP
  rw [if_neg]
  intro hm
  obtain ⟨q, hq, e⟩ := List.any_eq_true.mp hm
  exact h (List.mem_map.mpr ⟨q, hq, of_decide_eq_true e⟩)
end
section
variable {j : J} {Γ : Gm} {C : List Cell} {R : Ps} {p q : Pr} {ps : List Pr} {P : Po} {rest body : List Stmt} {pos pos' pos2 : Pos} {o e ke : Expr} {m : Addr} {kps : List (Key × Pr)} {k : Key}
/-- d[k], the i-th key -/
theorem okA_ixDi (i : Nat) (hd : DicOk j C p kps) (nd : (kps.map Prod.fst).Nodup) (hv : kps[i]? = some (k, q)) (r : R C q) : OpOk j Γ (rIxA j.X.K) p (isV (kV k)) C R := okA_ixD hd (vP_at nd hv) r
theorem so_Di (i c : Nat) {T : List Cell → Prop} (hc : C[c]? = some (cK m kps)) (hl : kps.length < sizeLine) (nd : (kps.map Prod.fst).Nodup) (hk : (kps.map Prod.fst)[i]? = some k) (t : T (C.set c (cK m (kps.set i (k, q))))) : SetOk j (isR m) (isV (kV k)) q C T :=
  so_D hc hl (by rw [pP_at nd hk]; exact t)
theorem so_Dn (c : Nat) {T : List Cell → Prop} (hc : C[c]? = some (cK m kps)) (hl : kps.length < sizeLine) (hk : k ∉ kps.map Prod.fst) (t : T (C.set c (cK m (kps ++ [(k, q)])))) : SetOk j (isR m) (isV (kV k)) q C T :=
  so_D hc hl (by rw [pP_new hk]; exact t)
/-! ### x += e -/
def IpOk (j : J) (Γ : Gm) (r : V → V → Hp → VK → Prop) (p q : Pr) (C : List Cell) (R : Ps) : Prop := OpOk j Γ r p q C R
theorem tr_aug (i : Nat) {x : Str} {op : Operator} {ti : TIp} (ho : PIp j.X op ti) (hp : Γ[i]? = some (some p)) (h : Ev j Γ C e fun C1 q => OpOk j Γ ti p q C1 fun C2 z => Tr j (Γ.set i (some z)) C2 rest P) (hN : j.X.N.Nodup) (hi : j.X.N[i]? = some x := by rfl)
    (hx : Loc j.X.env.scope x := by first | exact Or.inl rfl | exact Or.inr rfl) (hf : j.X.fn x = true ∨ j.X.env.scope.names.lookup x = some .local := by first | exact Or.inl rfl | exact Or.inr rfl) : Tr j Γ C (.AugAssign (.Name x pos') op e pos :: rest) P :=
  tr_lift (ps_aug hN hi hx pe_we ho hf) fun Φ σ F H x S => by
    obtain ⟨v, h1, h2⟩ := S.env.at_ i p hp
    exact ⟨v, h1, h Φ σ F H _ x S fun w F1 H1 C1 q r1 S1 s1 o1 => r1 Φ σ F1 H1 v w _ x S1 (p.mono s1 h2) o1 fun z F2 H2 C2 ρ r2 S2 s2 o2 => r2 Φ _ F2 H2 x (S2.setv i o2)⟩
theorem ok_ip {g : Int → Int → Int} {a b : Int} (r : R C (isI (g a b))) : OpOk j Γ (ipI g) (isI a) (isI b) C R := fun Φ σ F H v w Q x S o1 o2 K => ⟨a, b, o1, o2, K.now S r rfl⟩
/-- behind the value a cell's word is weakened -/
theorem ev_endW (i : Nat) (c' : Cell) (h : Ev j Γ C e fun C1 z => ∃ c, C1[i]? = some c ∧ c'.a = c.a ∧ (∀ F o, c.on F o → c'.on F o) ∧ R (C1.set i c') z) : Ev j Γ C e R := fun Φ σ F H Q x S K =>
  h Φ σ F H Q x S fun v F1 H1 C1 z ⟨c, hc, ha, ho, r⟩ S1 s1 o1 => K v F1 H1 _ z r (S1.weaki hc ha fun o _ => ho F1 o) s1 o1
/-! ### targets in a row -/
def Egs (j : J) (Γ : Gm) (C : List Cell) (ts : List Expr) (ps : List Pr) (N : Gm → List Cell → Prop) : Prop := ∃ t : TGs, PGs j.X ts t ∧ ∀ Φ σ F H vs (Q : L2.St → Hp → Prop), XW j Φ → Sta j.tb Φ Γ C σ F H → AllOn ps F vs → (∀ Γ' C' σ' F' H', N Γ' C' → Sta j.tb Φ Γ' C' σ' F' H' → L2.Same F F' → Q σ' H') → t vs σ H Q
end
end Z

end
section
set_option Elab.async false
set_option linter.all false
set_option maxRecDepth 100000
/-! Z12: list comprehensions. -/
namespace Z
open PySem PySem.Spec PyProof.Rows L2
open PySem.W (Datum Tup)
section
variable {tb : Tb} {Φ : Fx} {Γ : Gm} {C : List Cell} {σ : L2.St} {F H : Hp} {D : Addr} {o u : HO}
/-- what stands beside, written -/
theorem Sta.besideUpd (S : Sta tb Φ Γ C σ F H) (hD : H D = some u) (hF : F D = none) (h0 : Φ.H0 D = none) (hC : D ∉ C.map (·.a)) (u1 : ∀ ps, u ≠ .tbl ps) (u2 : ∀ φ, u ≠ .ext φ) : Sta tb Φ Γ C σ F (upd H D o) := by
  refine ⟨S.env, ⟨fun c hc => ?_, S.cells.nd⟩, fun b w e => ?_, S.fine, S.tab.fix (fix_upd hD u1 u2), S.base, S.fresh, fun b w e n d => ?_, S.own, fun b e => S.there b (upd_none_iff hD e)⟩
  · obtain ⟨w, h1, h2, h3⟩ := S.cells.at_ c hc
    exact ⟨w, by rw [upd_ne fun z => hC (List.mem_map.mpr ⟨c, hc, z⟩)]; exact h1, h2, h3⟩
  · have hb : b ≠ D := fun z => by rw [z, hF] at e; cases e
    unfold L2.Rd
    rw [upd_ne hb]
    exact S.sub b w e
  · have hb : b ≠ D := fun z => by rw [z, h0] at e; cases e
    rw [upd_ne hb]
    exact S.keep b w e n d
/-- what stands beside, frozen -/
theorem Sta.adopt (S : Sta tb Φ Γ C σ F H) (hD : H D = some o) (hF : F D = none) (h0 : Φ.H0 D = none) (hC : D ∉ C.map (·.a)) (ho : Fine o) : Sta tb Φ Γ C σ (upd F D o) H ∧ L2.Same F (upd F D o) := by
  have s := same_new (u := o) hF
  refine ⟨⟨S.env.mono s, ⟨fun c hc => ?_, S.cells.nd⟩, fun b w e => ?_, fun b w e => ?_, S.tab.grow s, fun b w e => s _ _ (S.base _ _ e), fun b w e n => ?_, S.keep, S.own, S.there⟩, s⟩
  · obtain ⟨w, h1, h2, h3⟩ := S.cells.at_ c hc
    exact ⟨w, h1, c.mono s h2, by rw [upd_ne fun z => hC (List.mem_map.mpr ⟨c, hc, z⟩)]; exact h3⟩
  · by_cases hb : b = D
    · subst hb
      rw [upd_same] at e
      cases e
      exact .inl hD
    · rw [upd_ne hb] at e
      exact S.sub b w e
  · by_cases hb : b = D
    · subst hb
      rw [upd_same] at e
      cases e
      exact ho
    · rw [upd_ne hb] at e
      exact S.fine b w e
  · by_cases hb : b = D
    · rw [hb]; exact h0
    · rw [upd_ne hb] at e
      exact S.fresh b w e n
theorem EnvOk.wipe1 {Γ : Gm} {F : Hp} {σ : L2.St} (h : EnvOk Γ F σ) (i : Nat) : EnvOk (Γ.set i none) F (σ.set i none) := by
  refine ⟨by simp [h.len], fun k q e => ?_⟩
  by_cases hk : i = k
  · subst hk
    by_cases hi : i < Γ.length
    · rw [List.getElem?_set_self hi] at e; cases e
    · rw [List.getElem?_eq_none (by simpa using hi)] at e; cases e
  · rw [List.getElem?_set_ne hk] at e
    obtain ⟨v, h1, h2⟩ := h.at_ k q e
    exact ⟨v, by rw [List.getElem?_set_ne hk]; exact h1, h2⟩
end
/-- the block's context -/
abbrev J.blk (j : J) (s : Shared) (H : Hp) (scope : Scope) (Cc : Addr) (cl : List (Str × Addr)) (fp : List Addr) : J := ⟨j.X.blk s H scope (compEnvC scope cl Cc j.X.env) fp, j.tb, fun _ _ => False⟩
theorem xw_none {j : J} {Φ : Fx} (h : ∀ c C, ¬ j.XP c C) : XW j Φ := fun u s ⟨_, _, _, _, _, _, _, _, _, _, _, _, _, _, _, _, C, F, h1, _⟩ => (h _ _ h1).elim
section
variable {j : J} {Γ : Gm} {C : List Cell} {R : Ps} {p q : Pr} {ps : List Pr} {P : Po} {rest : List Stmt} {pos pos' pos2 : Pos} {iter elt : Expr} {ifs : List Expr} {scope : Scope}
/-- a clause's tests: none, one -/
def Wif (X : L2.Cx) (ifs : List Expr) : TT := fun σ H Q => ∀ (pins : Pins) (s : Shared), Inv X pins σ H s →
    wpAny (model X.prog X.w) X.A (forIn ifs true fun c r => if r = true then do let ok ← isTrue c X.env (eval c X.env); pure (ForInStep.yield ok) else pure (ForInStep.yield r)) (TP X pins σ Q) X.xe s
theorem pts_wif {X : L2.Cx} {ifs : List Expr} : PTs X ifs (Wif X ifs) := ⟨fun pins s σ H Q I h => h pins s I⟩
def Eif (j : J) (Γ : Gm) (C : List Cell) (ifs : List Expr) (R : List Cell → Bool → Prop) : Prop := ∀ Φ σ F H Q, XW j Φ → Sta j.tb Φ Γ C σ F H → Kb j Φ Γ σ F R Q → Wif j.X ifs σ H Q
theorem eif_no {R : List Cell → Bool → Prop} (r : R C true) : Eif j Γ C [] R := fun Φ σ F H Q x S K pins s I => pts_nil.run pins s σ H Q I (K true F H C r S (L2.Same.refl F))
theorem eif_one {c : Expr} {R : List Cell → Bool → Prop} (h : Et j Γ C c R) : Eif j Γ C [c] R := fun Φ σ F H Q x S K pins s I => (pts_one pt_wt).run pins s σ H Q I (h Φ σ F H Q x S K)
/-- one turn of a comprehension's block, in every such block -/
def Turn1 (j : J) (scope : Scope) (Γ : Gm) (i : Nat) (q : Pr) (C : List Cell) (acc : List Pr) (elt : Expr) (ifs : List Expr) (N : List Cell → List Pr → Prop) : Prop :=
  ∀ (s : Shared) (H : Hp) (Cc : Addr) (cl : List (Str × Addr)) (fp : List Addr), Eif (j.blk s H scope Cc cl fp) ((Γ.set i none).set i (some q)) C ifs fun C2 b =>
    (b = true → ∀ (s : Shared) (H : Hp) (Cc : Addr) (cl : List (Str × Addr)) (fp : List Addr), Ev (j.blk s H scope Cc cl fp) ((Γ.set i none).set i (some q)) C2 elt fun C3 z => acc.length < sizeLine ∧ N C3 (acc ++ [z])) ∧ (b = false → N C2 acc)
/-- the readings for all blocks -/
def WifB (j : J) (scope : Scope) (ifs : List Expr) : TT := fun σ H Q => ∀ (s0 : Shared) (H0 : Hp) (Cc : Addr) (cl : List (Str × Addr)) (fp : List Addr), Wif (j.blk s0 H0 scope Cc cl fp).X ifs σ H Q
def WeB (j : J) (scope : Scope) (elt : Expr) : TE := fun σ H Q => ∀ (s0 : Shared) (H0 : Hp) (Cc : Addr) (cl : List (Str × Addr)) (fp : List Addr), We (j.blk s0 H0 scope Cc cl fp).X elt σ H Q
theorem pts_wifB {ifs : List Expr} : ∀ (s : Shared) (H : Hp) (Cc : Addr) (cl : List (Str × Addr)) (fp : List Addr), PTs (j.X.blk s H scope (compEnvC scope cl Cc j.X.env) fp) ifs (WifB j scope ifs) := fun s H Cc cl fp => ⟨fun pins s' σ H' Q I h => h s H Cc cl fp pins s' I⟩
theorem pe_weB {elt : Expr} : ∀ (s : Shared) (H : Hp) (Cc : Addr) (cl : List (Str × Addr)) (fp : List Addr), PE (j.X.blk s H scope (compEnvC scope cl Cc j.X.env) fp) elt (WeB j scope elt) := fun s H Cc cl fp => ⟨fun pins s' σ H' Q I h => h s H Cc cl fp pins s' I⟩
/-- the part of the turn that the reading asks -/
theorem turn_read {i : Nat} {acc : List Pr} {N : List Cell → List Pr → Prop} {Φ : Fx} {σ : L2.St} {F H : Hp} {D : Addr} {vs : List V} {v : V} (t : Turn1 j scope Γ i q C acc elt ifs N) (S : Sta j.tb Φ (Γ.set i none) C (σ.set i none) F H) (o : q.on F v)
    (hD : H D = some (.lst vs)) (hF : F D = none) (h0 : Φ.H0 D = none) (hC : D ∉ C.map (·.a)) (ha : AllOn acc F vs) {Nx : Hp → Prop}
    (K : ∀ C' acc' vs' F' H', N C' acc' → Sta j.tb Φ (Γ.set i none) C' (σ.set i none) F' H' → L2.Same F F' → H' D = some (.lst vs') → F' D = none → D ∉ C'.map (·.a) → AllOn acc' F' vs' → Nx H') :
    WifB j scope ifs ((σ.set i none).set i (some v)) H fun b H3 => if b = true then WeB j scope elt ((σ.set i none).set i (some v)) H3 fun y H4 => ∃ ac, H4 D = some (.lst ac) ∧ ac.length < sizeLine ∧ Nx (upd H4 D (.lst (ac ++ [y]))) else Nx H3 := by
  have xw : ∀ s0 H0 Cc cl fp Φ, XW (j.blk s0 H0 scope Cc cl fp) Φ := fun s0 H0 Cc cl fp Φ => xw_none fun _ _ z => z
  have S1 : Sta j.tb Φ ((Γ.set i none).set i (some q)) C ((σ.set i none).set i (some v)) F H := S.setv i o
  have back : ∀ {C' : List Cell} {F' H' : Hp}, Sta j.tb Φ ((Γ.set i none).set i (some q)) C' ((σ.set i none).set i (some v)) F' H' → Sta j.tb Φ (Γ.set i none) C' (σ.set i none) F' H' := fun {C' F' H'} S' => by
    have e := S'.env
    refine ⟨⟨by have := e.len; simpa using this, fun k q' hk => ?_⟩, S'.cells, S'.sub, S'.fine, S'.tab, S'.base, S'.fresh, S'.keep, S'.own, S'.there⟩
    by_cases hik : i = k
    · subst hik
      by_cases hi : i < Γ.length
      · rw [List.getElem?_set_self hi] at hk; cases hk
      · rw [List.getElem?_eq_none (by simpa using hi)] at hk; cases hk
    · obtain ⟨w, h1, h2⟩ := e.at_ k q' (by rw [List.getElem?_set_ne hik]; exact hk)
      exact ⟨w, by rw [List.getElem?_set_ne hik] at h1; exact h1, h2⟩
  -- what a step keeps beside
  have beside : ∀ {C1 C2 : List Cell} {F1 F2 H1 H2 : Hp} {Γ1 Γ2 : Gm} {σ1 σ2 : L2.St}, Sta j.tb (Fx.of F1 H1 C1) Γ2 C2 σ2 F2 H2 → H1 D = some (.lst vs) → F1 D = none → D ∉ C1.map (·.a) → H2 D = some (.lst vs) ∧ F2 D = none ∧ D ∉ C2.map (·.a) := fun {C1 C2 F1 F2 H1 H2 Γ1 Γ2 σ1 σ2} S' h1 h2 h3 => by
    refine ⟨S'.keep D _ h1 (fun _ z => nomatch z) h3, ?_, fun z => ?_⟩
    · cases e : F2 D with
      | none => rfl
      | some w =>
        have := S'.fresh D w e h2
        rw [show (Fx.of F1 H1 C1).H0 D = H1 D from rfl, h1] at this
        cases this
    · obtain ⟨c, hc, ec⟩ := List.mem_map.mp z
      rcases S'.own c hc with w | w
      · rw [ec] at w; exact h3 w
      · rw [ec, show (Fx.of F1 H1 C1).H0 D = H1 D from rfl, h1] at w; cases w
  intro s0 H0 Cc cl fp
  refine t s0 H0 Cc cl fp (Fx.of F H C) _ F H _ (xw _ _ _ _ _ _) S1.rebase fun b F2 H2 C2 ⟨k1, k2⟩ S2 s2 => ?_
  obtain ⟨d1, d2, d3⟩ := beside (Γ1 := Γ) (σ1 := σ) S2 hD hF hC
  have S2' := S1.trans S2
  cases b with
  | false => exact iteF (K C2 acc vs F2 H2 (k2 rfl) (back S2') s2 d1 d2 d3 (ha.mono s2))
  | true =>
    refine iteT fun s1 H1 Cc1 cl1 fp1 => k1 rfl s1 H1 Cc1 cl1 fp1 (Fx.of F2 H2 C2) _ F2 H2 _ (xw _ _ _ _ _ _) S2'.rebase fun y F3 H3 C3 z ⟨hz, n3⟩ S3 s3 o3 => ?_
    obtain ⟨e1, e2, e3⟩ := beside (Γ1 := Γ) (σ1 := σ) S3 d1 d2 d3
    have S3' := S2'.trans S3
    refine ⟨vs, e1, by rw [← ha.length]; exact hz, K C3 _ (vs ++ [y]) F3 _ n3 (back (S3'.besideUpd e1 e2 h0 e3 (fun _ z => nomatch z) (fun _ z => nomatch z))) (s2.trans s3) upd_same e2 e3 ((ha.mono (s2.trans s3)).snoc o3)⟩
/-- what a comprehension over a list asks -/
def LcL (j : J) (scope : Scope) (Γ : Gm) (C : List Cell) (i : Nat) (iter elt : Expr) (ifs : List Expr) (R : Ps) : Prop :=
  Ev j Γ C iter fun C1 p => ∃ ps, p = rL ps ∧ ∃ I : Nat → List Cell → List Pr → Prop, I 0 C1 [] ∧ (∀ n q Ci acc, ps[n]? = some q → I n Ci acc → Turn1 j scope Γ i q Ci acc elt ifs fun C' acc' => I (n + 1) C' acc') ∧ ∀ Cn acc, I ps.length Cn acc → R Cn (rL acc)
theorem lc_readL {i : Nat} {Φ : Fx} {σ : L2.St} {F H : Hp} {Q : VK} (h : LcL j scope Γ C i iter elt ifs R) (xw : XW j Φ) (S : Sta j.tb Φ Γ C σ F H) (K : Kv j Φ Γ σ F R Q) :
    tLc (iList j.X.K (We j.X iter)) (gName i) (WifB j scope ifs) (WeB j scope elt) [i] σ H Q := by
  refine h Φ σ F H _ xw S fun v F1 H1 C1 p ⟨ps, ep, I, i0, turn, fin⟩ S1 s1 o1 => ?_
  subst ep
  obtain ⟨al, ys, ev, hl, hy⟩ := o1
  refine ⟨al, ev, ⟨ys, .inl (S1.sub _ _ hl)⟩, fun D hD => ?_⟩
  have h0 : Φ.H0 D = none := S1.there D hD
  have w1 : ∀ {F' H' : Hp} {C' : List Cell}, Sta j.tb Φ Γ C' σ F' H' → Sta j.tb Φ (Γ.set i none) C' (σ.set i none) F' H' := fun S' => ⟨S'.env.wipe1 i, S'.cells, S'.sub, S'.fine, S'.tab, S'.base, S'.fresh, S'.keep, S'.own, S'.there⟩
  have dC : D ∉ C1.map (·.a) := fun z => by
    obtain ⟨c, hc, ec⟩ := List.mem_map.mp z
    obtain ⟨w, q1, _, _⟩ := S1.cells.at_ c hc
    rw [ec, hD] at q1
    cases q1
  refine lc_list (K := j.X.K) (a := al) (xs := ys) (fun n H => ∃ C' acc F' vs, I n C' acc ∧ Sta j.tb Φ (Γ.set i none) C' (σ.set i none) F' H ∧ L2.Same F1 F' ∧ H D = some (.lst vs) ∧ F' D = none ∧ D ∉ C'.map (·.a) ∧ AllOn acc F' vs)
    ⟨C1, [], F1, [], i0, w1 (S1.beside hD), L2.Same.refl _, upd_same, S1.notF hD, dC, .nil⟩ (fun n H' _ ⟨C', acc, F', vs, _, S', s', _⟩ => .inl (S'.sub _ _ (s' _ _ hl))) ?_ ?_
  · rintro n y H2 hyn ⟨C2, acc, F2, vs, i2, S2, s2, d1, d2, d3, ha⟩
    have hn : n < ps.length := by rw [hy.length]; exact (List.getElem?_eq_some_iff.mp hyn).1
    obtain ⟨y', e1, e2⟩ := hy.get (List.getElem?_eq_getElem hn)
    rw [hyn] at e1
    cases e1
    refine ⟨by show (((σ.set i none).set i (some y)).set i none) = σ.set i none; rw [List.set_set, List.set_set], ?_⟩
    refine turn_read (turn n ps[n] C2 acc (List.getElem?_eq_getElem hn) i2) S2 (ps[n].mono s2 e2) d1 d2 h0 d3 ha fun C' acc' vs' F' H' n' S' s' f1 f2 f3 f4 => ?_
    exact ⟨C', acc', F', vs', n', S', s2.trans s', f1, f2, f3, f4⟩
  · rintro H2 ⟨C2, acc, F2, vs, i2, S2, s2, d1, d2, d3, ha⟩
    have hlen : ps.length = ys.length := hy.length
    rw [← hlen] at i2
    have S3 : Sta j.tb Φ Γ C2 σ F2 H2 := ⟨S1.env.mono s2, S2.cells, S2.sub, S2.fine, S2.tab, S2.base, S2.fresh, S2.keep, S2.own, S2.there⟩
    obtain ⟨S4, s4⟩ := S3.adopt d1 d2 h0 d3 ⟨fun _ z => (nomatch z), fun _ _ z => (nomatch z)⟩
    exact K _ _ _ _ _ (fin C2 acc i2) S4 ((s1.trans s2).trans s4) ⟨D, vs, rfl, upd_same, ha.mono s4⟩
/-- [elt for x in e if ..], e a frozen list -/
theorem ev_lcL (i : Nat) {x : Str} {px : Pos} (h : LcL j scope Γ C i iter elt ifs R) (hN : j.X.N.Nodup) (ok : BlkOk j.X.N j.X.env.scope scope [(x, i)]) (hc : j.X.calm = true)
    (hg : ∀ (s : Shared) (H : Hp) (Cc : Addr) (cl : List (Str × Addr)) (fp : List Addr), PG (j.X.blk s H scope (compEnvC scope cl Cc j.X.env) fp) (.Name x px) (gName i)) (hs : ∀ x, foldedSetIterable iter j.X.env x = pure x := by intro _; rfl) :
    Ev j Γ C (.ListComp elt [⟨.Name x px, iter, ifs, 0⟩] scope pos) R :=
  ev_lift (pe_lc (own := [(x, i)]) hc hN (pi_list pe_we) ok hg pts_wifB pe_weB hs) fun Φ σ F H Q xw S K => lc_readL h xw S K
/-- y = [elt for x in e if ..] on one line -/
theorem tr_setLcL (k i : Nat) {x y : Str} {px py : Pos} (h : LcL j scope Γ C i iter elt ifs fun C1 z => Tr j (Γ.set k (some z)) C1 rest P) (hN : j.X.N.Nodup) (ok : BlkOk j.X.N j.X.env.scope scope [(x, i)]) (hc : j.X.calm = true)
    (hg : ∀ (s : Shared) (H : Hp) (Cc : Addr) (cl : List (Str × Addr)) (fp : List Addr), PG (j.X.blk s H scope (compEnvC scope cl Cc j.X.env) fp) (.Name x px) (gName i))
    (hsw : swapsWith (.ListComp elt [⟨.Name x px, iter, ifs, 0⟩] scope pos) (some (.Name y py)) pos2.line j.X.env = pure true) (hy : j.X.N[k]? = some y := by rfl) (hyl : j.X.env.scope.names.lookup y = some .local := by rfl) (hs : ∀ x, foldedSetIterable iter j.X.env x = pure x := by intro _; rfl) :
    Tr j Γ C (.Assign [.Name y py] (.ListComp elt [⟨.Name x px, iter, ifs, 0⟩] scope pos) pos2 :: rest) P :=
  tr_lift (ps_setLc (own := [(x, i)]) hc hN hy hyl hsw (pi_list pe_we) ok hg pts_wifB pe_weB hs) fun Φ σ F H xw S => by
    refine lc_readL (R := fun C1 z => Tr j (Γ.set k (some z)) C1 rest P) h xw S fun v F1 H1 C1 z t S1 s1 o1 => ?_
    exact t Φ _ F1 H1 xw (S1.setv k o1)
/-! ### over range(e) -/
def LcR (j : J) (scope : Scope) (Γ : Gm) (C : List Cell) (i : Nat) (a elt : Expr) (ifs : List Expr) (R : Ps) : Prop :=
  Ev j Γ C a fun C1 p => ∃ m : Int, p = isI m ∧ -(2 ^ 62) ≤ m ∧ m < 2 ^ 62 ∧ ∃ I : Nat → List Cell → List Pr → Prop, I 0 C1 [] ∧ (∀ (n : Nat) Ci acc, n < m.toNat → I n Ci acc → Turn1 j scope Γ i (isI n) Ci acc elt ifs fun C' acc' => I (n + 1) C' acc') ∧ ∀ Cn acc, I m.toNat Cn acc → R Cn (rL acc)
theorem lc_readR {i : Nat} {a : Expr} {Φ : Fx} {σ : L2.St} {F H : Hp} {Q : VK} (h : LcR j scope Γ C i a elt ifs R) (xw : XW j Φ) (S : Sta j.tb Φ Γ C σ F H) (K : Kv j Φ Γ σ F R Q) :
    tLc (iRng1 (tCons (We j.X a) tNil)) (gName i) (WifB j scope ifs) (WeB j scope elt) [i] σ H Q := by
  refine h Φ σ F H _ xw S fun v F1 H1 C1 p ⟨m, ep, m1, m2, I, i0, turn, fin⟩ S1 s1 o1 => ?_
  subst ep
  have ev : v = .int m := o1
  subst ev
  refine ⟨m, rfl, m1, m2, fun D hD => ?_⟩
  have h0 : Φ.H0 D = none := S1.there D hD
  have w1 : ∀ {F' H' : Hp} {C' : List Cell}, Sta j.tb Φ Γ C' σ F' H' → Sta j.tb Φ (Γ.set i none) C' (σ.set i none) F' H' := fun S' => ⟨S'.env.wipe1 i, S'.cells, S'.sub, S'.fine, S'.tab, S'.base, S'.fresh, S'.keep, S'.own, S'.there⟩
  have dC : D ∉ C1.map (·.a) := fun z => by
    obtain ⟨c, hc, ec⟩ := List.mem_map.mp z
    obtain ⟨w, q1, _, _⟩ := S1.cells.at_ c hc
    rw [ec, hD] at q1
    cases q1
  refine lc_range (lo := 0) (n := m.toNat) (fun n H => ∃ C' acc F' vs, I n C' acc ∧ Sta j.tb Φ (Γ.set i none) C' (σ.set i none) F' H ∧ L2.Same F1 F' ∧ H D = some (.lst vs) ∧ F' D = none ∧ D ∉ C'.map (·.a) ∧ AllOn acc F' vs)
    ⟨C1, [], F1, [], i0, w1 (S1.beside hD), L2.Same.refl _, upd_same, S1.notF hD, dC, .nil⟩ ?_ ?_
  · rintro n H2 hn ⟨C2, acc, F2, vs, i2, S2, s2, d1, d2, d3, ha⟩
    refine ⟨by show (((σ.set i none).set i (some _)).set i none) = σ.set i none; rw [List.set_set, List.set_set], ?_⟩
    refine turn_read (turn n C2 acc hn i2) S2 (show V.int (0 + (n : Int)) = V.int (n : Int) by rw [Int.zero_add]) d1 d2 h0 d3 ha fun C' acc' vs' F' H' n' S' s' f1 f2 f3 f4 => ?_
    exact ⟨C', acc', F', vs', n', S', s2.trans s', f1, f2, f3, f4⟩
  · rintro H2 ⟨C2, acc, F2, vs, i2, S2, s2, d1, d2, d3, ha⟩
    have S3 : Sta j.tb Φ Γ C2 σ F2 H2 := ⟨S1.env.mono s2, S2.cells, S2.sub, S2.fine, S2.tab, S2.base, S2.fresh, S2.keep, S2.own, S2.there⟩
    obtain ⟨S4, s4⟩ := S3.adopt d1 d2 h0 d3 ⟨fun _ z => (nomatch z), fun _ _ z => (nomatch z)⟩
    exact K _ _ _ _ _ (fin C2 acc i2) S4 ((s1.trans s2).trans s4) ⟨D, vs, rfl, upd_same, ha.mono s4⟩
theorem ev_lcR (i : Nat) {x : Str} {px pr1 pr2 : Pos} {a : Expr} (h : LcR j scope Γ C i a elt ifs R) (hm : j.X.mg "range" = none) (hN : j.X.N.Nodup) (ok : BlkOk j.X.N j.X.env.scope scope [(x, i)]) (hc : j.X.calm = true)
    (hg : ∀ (s : Shared) (H : Hp) (Cc : Addr) (cl : List (Str × Addr)) (fp : List Addr), PG (j.X.blk s H scope (compEnvC scope cl Cc j.X.env) fp) (.Name x px) (gName i)) (hgl : Gl j.X "range" := by rfl) (hst : starEach [a] j.X.env = [(false, eval a j.X.env)] := by rfl)
    (hs : ∀ x, foldedSetIterable (.Call (.Name "range" pr1) [a] [] pr2) j.X.env x = pure x := by intro _; rfl) :
    Ev j Γ C (.ListComp elt [⟨.Name x px, .Call (.Name "range" pr1) [a] [] pr2, ifs, 0⟩] scope pos) R :=
  ev_lift (pe_lc (own := [(x, i)]) hc hN (pi_range1 hgl hm (pa_cons pe_we pa_nil hst) hst) ok hg pts_wifB pe_weB hs) fun Φ σ F H Q xw S K => lc_readR h xw S K
theorem tr_setLcR (k i : Nat) {x y : Str} {px py pr1 pr2 : Pos} {a : Expr} (h : LcR j scope Γ C i a elt ifs fun C1 z => Tr j (Γ.set k (some z)) C1 rest P) (hm : j.X.mg "range" = none) (hN : j.X.N.Nodup) (ok : BlkOk j.X.N j.X.env.scope scope [(x, i)]) (hc : j.X.calm = true)
    (hg : ∀ (s : Shared) (H : Hp) (Cc : Addr) (cl : List (Str × Addr)) (fp : List Addr), PG (j.X.blk s H scope (compEnvC scope cl Cc j.X.env) fp) (.Name x px) (gName i))
    (hsw : swapsWith (.ListComp elt [⟨.Name x px, .Call (.Name "range" pr1) [a] [] pr2, ifs, 0⟩] scope pos) (some (.Name y py)) pos2.line j.X.env = pure true) (hy : j.X.N[k]? = some y := by rfl) (hyl : j.X.env.scope.names.lookup y = some .local := by rfl)
    (hgl : Gl j.X "range" := by rfl) (hst : starEach [a] j.X.env = [(false, eval a j.X.env)] := by rfl) (hs : ∀ x, foldedSetIterable (.Call (.Name "range" pr1) [a] [] pr2) j.X.env x = pure x := by intro _; rfl) :
    Tr j Γ C (.Assign [.Name y py] (.ListComp elt [⟨.Name x px, .Call (.Name "range" pr1) [a] [] pr2, ifs, 0⟩] scope pos) pos2 :: rest) P :=
  tr_lift (ps_setLc (own := [(x, i)]) hc hN hy hyl hsw (pi_range1 hgl hm (pa_cons pe_we pa_nil hst) hst) ok hg pts_wifB pe_weB hs) fun Φ σ F H xw S => by
    refine lc_readR (R := fun C1 z => Tr j (Γ.set k (some z)) C1 rest P) h xw S fun v F1 H1 C1 z t S1 s1 o1 => ?_
    exact t Φ _ F1 H1 xw (S1.setv k o1)
end
end Z

end
section
set_option Elab.async false
set_option linter.all false
set_option maxRecDepth 100000
/-! Z13: captured names shown to a callee, hidden from a closure's frame. -/
namespace Z
open PySem PySem.Spec PyProof.Rows L2 LamX NdefX
def topE : HO := .ext fun _ => True
abbrev frzC (ob : Obj) : HO := .frz ob topE
def del (H : Hp) (c : Addr) : Hp := fun b => if b = c then none else H b
theorem del_same {H : Hp} {c : Addr} : del H c c = none := by unfold del; rw [if_pos rfl]
theorem del_ne {H : Hp} {c b : Addr} (h : b ≠ c) : del H c b = H b := by unfold del; rw [if_neg h]
theorem del_some {H : Hp} {c b : Addr} {o : HO} (h : del H c b = some o) : b ≠ c ∧ H b = some o := by
  by_cases e : b = c
  · rw [e, del_same] at h
    cases h
  · rw [del_ne e] at h
    exact ⟨e, h⟩
section
variable {P : Program} {w : World} {H H' : Hp} {h : Heap} {c : Addr} {ob : Obj}
theorem objOk_top (e : h.get? c = some ob) : ObjOk P w H h c (frzC ob) := ⟨e, True.intro, ⟨ob, e⟩, fun _ _ _ _ => True.intro⟩
theorem hok_del (x : HOk P w H h) (hc : H c = some (frzC ob)) : HOk P w (del H c) h := fun a o e => by
  obtain ⟨ne, e'⟩ := del_some e
  refine (x a o e').stay (fun b u _ q => q) (fun b q => ?_) fun b xs q => ?_
  · rw [del_ne fun z => by rw [z, hc] at q; cases q]
    exact q
  · rw [del_ne fun z => by rw [z, hc] at q; cases q]
    exact q
theorem hok_upd (x : HOk P w H h) (hc : H c = none) (e : h.get? c = some ob) : HOk P w (upd H c (frzC ob)) h := fun a o q => by
  by_cases ha : a = c
  · subst ha
    rw [upd_same] at q
    cases q
    exact objOk_top e
  · rw [upd_ne ha] at q
    refine (x a o q).stay (fun b u _ q => q) (fun b q => ?_) fun b xs q => ?_
    · rw [upd_ne (ne_of_none q hc)]
      exact q
    · rw [upd_ne (ne_of_none q hc)]
      exact q
variable {outer : List Env} {s s' : Shared} {Q Q' : VK} {E E' : XK} {r : Result}
/-- the owner of a cell, behind a callee that knew it -/
theorem cr_hide1 (h0 : s.heap.get? c = some ob) (n : H c = none) (nf : c ∉ frs outer) (h : CR (L2.CX P w) outer P w (upd H c (frzC ob)) s Q E r s') (kQ : ∀ v H', H' c = some (frzC ob) → Q v H' → Q' v (del H' c))
    (kE : ∀ cls d H', H' c = some (frzC ob) → E cls d H' → E' cls d (del H' c)) : CR (L2.CX P w) outer P w H s Q' E' r s' := by
  have nt : ∀ {b o}, H b = some o → b ≠ c := fun {b o} e => ne_of_none e n
  cases r with
  | ok f =>
    cases f with
    | next => exact False.elim h
    | brk => exact False.elim h
    | cont => exact False.elim h
    | ret u =>
      obtain ⟨v, H', os, bare, un, hok, rv, q⟩ := h
      have hc := un.frzs c _ _ upd_same
      have at' : s'.heap.get? c = some ob := (hok c _ hc).1
      refine ⟨v, del H' c, os, bare, ⟨fun b o e n1 h1 h2 => ?_, fun b o e n1 h1 h2 => ?_, fun b o e n1 h2 => ?_, un.there, fun b xs e => ?_, fun b o u e => ?_, fun b ps e => ?_⟩, hok_del hok hc, rv, kQ v H' hc q⟩
      · by_cases hb : b = c
        · subst hb
          rw [h0] at e
          cases e
          exact at'
        · exact un.keep b o e (by rw [upd_ne hb]; exact n1) h1 h2
      · have hb : b ≠ c := fun z => nf (by rw [← z]; exact h1)
        exact un.slot b o e (by rw [upd_ne hb]; exact n1) h1 h2
      · by_cases hb : b = c
        · rw [hb, del_same]
        · rw [del_ne hb]
          exact un.free b o e (by rw [upd_ne hb]; exact n1) h2
      · rw [del_ne (nt e)]
        exact un.tups b xs (by rw [upd_ne (nt e)]; exact e)
      · rw [del_ne (nt e)]
        exact un.frzs b o u (by rw [upd_ne (nt e)]; exact e)
      · rw [del_ne (nt e)]
        exact un.tbls b ps (by rw [upd_ne (nt e)]; exact e)
  | error e =>
    obtain ⟨a, B, H', cls, d, eu, fl, hok, ub, na, os, ag, hE⟩ := h
    have hc := ub.frzs c _ _ upd_same
    have at' : B.get? c = some ob := (hok c _ hc).1
    refine ⟨a, B, del H' c, cls, d, eu, fl, hok_del hok hc, ⟨fun b o e n1 h1 => ?_, ub.slot, fun b o e n1 => ?_, ub.there, fun b xs e => ?_, fun b o u e => ?_, fun b ps e => ?_⟩, ?_, os, ag, kE cls d H' hc hE⟩
    · by_cases hb : b = c
      · subst hb
        rw [h0] at e
        cases e
        exact at'
      · exact ub.keep b o e (by rw [upd_ne hb]; exact n1) h1
    · by_cases hb : b = c
      · rw [hb, del_same]
      · rw [del_ne hb]
        exact ub.free b o e (by rw [upd_ne hb]; exact n1)
    · rw [del_ne (nt e)]
      exact ub.tups b xs (by rw [upd_ne (nt e)]; exact e)
    · rw [del_ne (nt e)]
      exact ub.frzs b o u (by rw [upd_ne (nt e)]; exact e)
    · rw [del_ne (nt e)]
      exact ub.tbls b ps (by rw [upd_ne (nt e)]; exact e)
    · by_cases hb : a = c
      · rw [hb, del_same]
      · rw [del_ne hb]
        exact na
/-- a closure's frame does not track what it captured; its caller does -/
theorem cr_show1 (hc : H c = some (frzC ob)) (h0 : s.heap.get? c = some ob) (nf : c ∉ frs outer) (h : CR (L2.CX P w) outer P w (del H c) s Q E r s') (kQ : ∀ v H', H' c = none → Q v H' → Q' v (upd H' c (frzC ob)))
    (kE : ∀ cls d H', H' c = none → E cls d H' → E' cls d (upd H' c (frzC ob))) : CR (L2.CX P w) outer P w H s Q' E' r s' := by
  have nn : ∀ {b}, H b = none → b ≠ c := fun {b} e z => by rw [z, hc] at e; cases e
  have nt : ∀ {b o}, H b = some o → o ≠ frzC ob → b ≠ c := fun {b o} e k z => by
    rw [z, hc] at e
    exact k (Option.some.inj e).symm
  cases r with
  | ok f =>
    cases f with
    | next => exact False.elim h
    | brk => exact False.elim h
    | cont => exact False.elim h
    | ret u =>
      obtain ⟨v, H', os, bare, un, hok, rv, q⟩ := h
      have hn : H' c = none := un.free c ob h0 del_same (by simp)
      have at' : s'.heap.get? c = some ob := un.keep c ob h0 del_same nf (by simp)
      refine ⟨v, upd H' c (frzC ob), os, bare, ⟨fun b o e n1 h1 h2 => ?_, fun b o e n1 h1 h2 => ?_, fun b o e n1 h2 => ?_, un.there, fun b xs e => ?_, fun b o u e => ?_, fun b ps e => ?_⟩, hok_upd hok hn at', rv, kQ v H' hn q⟩
      · exact un.keep b o e (by rw [del_ne (nn n1)]; exact n1) h1 h2
      · exact un.slot b o e (by rw [del_ne (nn n1)]; exact n1) h1 h2
      · rw [upd_ne (nn n1)]
        exact un.free b o e (by rw [del_ne (nn n1)]; exact n1) h2
      · have hb := nt e fun z => nomatch z
        rw [upd_ne hb]
        exact un.tups b xs (by rw [del_ne hb]; exact e)
      · by_cases hb : b = c
        · rw [hb, hc] at e
          rw [hb, upd_same]
          exact e
        · rw [upd_ne hb]
          exact un.frzs b o u (by rw [del_ne hb]; exact e)
      · have hb := nt e fun z => nomatch z
        rw [upd_ne hb]
        exact un.tbls b ps (by rw [del_ne hb]; exact e)
  | error e =>
    obtain ⟨a, B, H', cls, d, eu, fl, hok, ub, na, os, ag, hE⟩ := h
    have hn : H' c = none := ub.free c ob h0 del_same
    have at' : B.get? c = some ob := ub.keep c ob h0 del_same nf
    have ha : a ≠ c := fun z => by
      have q := fl.2.1
      rw [z, at'] at q
      cases q
    refine ⟨a, B, upd H' c (frzC ob), cls, d, eu, fl, hok_upd hok hn at', ⟨fun b o e n1 h1 => ?_, ub.slot, fun b o e n1 => ?_, ub.there, fun b xs e => ?_, fun b o u e => ?_, fun b ps e => ?_⟩, by rw [upd_ne ha]; exact na, os, ag, kE cls d H' hn hE⟩
    · exact ub.keep b o e (by rw [del_ne (nn n1)]; exact n1) h1
    · rw [upd_ne (nn n1)]
      exact ub.free b o e (by rw [del_ne (nn n1)]; exact n1)
    · have hb := nt e fun z => nomatch z
      rw [upd_ne hb]
      exact ub.tups b xs (by rw [del_ne hb]; exact e)
    · by_cases hb : b = c
      · rw [hb, hc] at e
        rw [hb, upd_same]
        exact e
      · rw [upd_ne hb]
        exact ub.frzs b o u (by rw [del_ne hb]; exact e)
    · have hb := nt e fun z => nomatch z
      rw [upd_ne hb]
      exact ub.tbls b ps (by rw [del_ne hb]; exact e)
end
/-! ### several -/
abbrev CL := List (Addr × Obj)
def shw : CL → Hp → Hp
  | [], H => H
  | p :: L, H => upd (shw L H) p.1 (frzC p.2)
def hid : CL → Hp → Hp
  | [], H => H
  | p :: L, H => hid L (del H p.1)
theorem shw_out {H : Hp} {b : Addr} : ∀ {L : CL}, b ∉ L.map Prod.fst → shw L H b = H b
  | [], _ => rfl
  | p :: L, h => by
    rw [List.map_cons, List.mem_cons, not_or] at h
    unfold shw
    rw [upd_ne h.1, shw_out h.2]
theorem shw_at {H : Hp} {p : Addr × Obj} : ∀ {L : CL}, (L.map Prod.fst).Nodup → p ∈ L → shw L H p.1 = some (frzC p.2)
  | [], _, h => by simp at h
  | q :: L, nd, h => by
    rw [List.map_cons, List.nodup_cons] at nd
    unfold shw
    rcases List.mem_cons.mp h with e | e
    · subst e
      rw [upd_same]
    · rw [upd_ne fun z => nd.1 (List.mem_map.mpr ⟨p, e, z⟩)]
      exact shw_at nd.2 e
theorem hid_out {b : Addr} : ∀ {L : CL} {H : Hp}, b ∉ L.map Prod.fst → hid L H b = H b
  | [], _, _ => rfl
  | p :: L, H, h => by
    rw [List.map_cons, List.mem_cons, not_or] at h
    unfold hid
    rw [hid_out h.2, del_ne h.1]
theorem hid_no {b : Addr} : ∀ {L : CL} {H : Hp}, H b = none → hid L H b = none
  | [], _, h => h
  | p :: L, H, h => by
    unfold hid
    refine hid_no ?_
    by_cases e : b = p.1
    · rw [e, del_same]
    · rw [del_ne e]
      exact h
theorem hid_in {b : Addr} : ∀ {L : CL} {H : Hp}, b ∈ L.map Prod.fst → hid L H b = none
  | [], _, h => by simp at h
  | p :: L, H, h => by
    unfold hid
    rw [List.map_cons] at h
    by_cases e : b = p.1
    · refine hid_no ?_
      rw [e, del_same]
    · rcases List.mem_cons.mp h with z | z
      · exact absurd z e
      · exact hid_in z
section
variable {P : Program} {w : World} {outer : List Env} {s s' : Shared} {r : Result}
theorem cr_hide : ∀ {L : CL} {H : Hp} {Q Q' : VK} {E E' : XK}, (L.map Prod.fst).Nodup → (∀ p ∈ L, s.heap.get? p.1 = some p.2 ∧ H p.1 = none ∧ p.1 ∉ frs outer) → CR (L2.CX P w) outer P w (shw L H) s Q E r s' →
    (∀ v H', (∀ p ∈ L, H' p.1 = some (frzC p.2)) → Q v H' → Q' v (hid L H')) → (∀ cls d H', (∀ p ∈ L, H' p.1 = some (frzC p.2)) → E cls d H' → E' cls d (hid L H')) → CR (L2.CX P w) outer P w H s Q' E' r s'
  | [], H, Q, Q', E, E', _, _, h, kQ, kE => by
    have kQ' : ∀ v H', Q v H' → Q' v H' := fun v H' q => kQ v H' (fun p hp => by simp at hp) q
    have kE' : ∀ c d H', E c d H' → E' c d H' := fun c d H' q => kE c d H' (fun p hp => by simp at hp) q
    cases r with
    | ok f =>
      cases f with
      | next => exact False.elim h
      | brk => exact False.elim h
      | cont => exact False.elim h
      | ret u =>
        obtain ⟨v, H', os, bare, un, hok, rv, q⟩ := h
        exact ⟨v, H', os, bare, un, hok, rv, kQ' v H' q⟩
    | error e =>
      obtain ⟨a, B, H', cls, d, eu, fl, hok, ub, na, os, ag, hE⟩ := h
      exact ⟨a, B, H', cls, d, eu, fl, hok, ub, na, os, ag, kE' cls d H' hE⟩
  | p :: L, H, Q, Q', E, E', nd, hL, h, kQ, kE => by
    rw [List.map_cons, List.nodup_cons] at nd
    obtain ⟨a1, a2, a3⟩ := hL p (by simp)
    have ne : ∀ q ∈ L, q.1 ≠ p.1 := fun q hq z => nd.1 (List.mem_map.mpr ⟨q, hq, z⟩)
    refine cr_hide (L := L) (Q := fun v H'' => ∃ H', H'' = del H' p.1 ∧ H' p.1 = some (frzC p.2) ∧ Q v H') (E := fun c d H'' => ∃ H', H'' = del H' p.1 ∧ H' p.1 = some (frzC p.2) ∧ E c d H') nd.2 (fun q hq => hL q (by simp [hq]))
      (cr_hide1 a1 (by rw [shw_out nd.1]; exact a2) a3 h (fun v H' e q => ⟨H', rfl, e, q⟩) fun c d H' e q => ⟨H', rfl, e, q⟩) (fun v H'' hq ⟨H', e1, e2, q⟩ => ?_) fun c d H'' hq ⟨H', e1, e2, q⟩ => ?_
    · subst e1
      refine kQ v H' (fun q' hq' => ?_) q
      rcases List.mem_cons.mp hq' with z | z
      · rw [z]; exact e2
      · have := hq q' z
        rw [del_ne (ne q' z)] at this
        exact this
    · subst e1
      refine kE c d H' (fun q' hq' => ?_) q
      rcases List.mem_cons.mp hq' with z | z
      · rw [z]; exact e2
      · have := hq q' z
        rw [del_ne (ne q' z)] at this
        exact this
theorem cr_show : ∀ {L : CL} {H : Hp} {Q Q' : VK} {E E' : XK}, (L.map Prod.fst).Nodup → (∀ p ∈ L, s.heap.get? p.1 = some p.2 ∧ H p.1 = some (frzC p.2) ∧ p.1 ∉ frs outer) → CR (L2.CX P w) outer P w (hid L H) s Q E r s' →
    (∀ v H', (∀ p ∈ L, H' p.1 = none) → Q v H' → Q' v (shw L H')) → (∀ cls d H', (∀ p ∈ L, H' p.1 = none) → E cls d H' → E' cls d (shw L H')) → CR (L2.CX P w) outer P w H s Q' E' r s'
  | [], H, Q, Q', E, E', nd, _, h, kQ, kE => cr_hide (L := []) nd (fun p hp => by simp at hp) h (fun v H' _ q => kQ v H' (fun p hp => by simp at hp) q) fun c d H' _ q => kE c d H' (fun p hp => by simp at hp) q
  | p :: L, H, Q, Q', E, E', nd, hL, h, kQ, kE => by
    rw [List.map_cons, List.nodup_cons] at nd
    obtain ⟨a1, a2, a3⟩ := hL p (by simp)
    have ne : ∀ q ∈ L, q.1 ≠ p.1 := fun q hq z => nd.1 (List.mem_map.mpr ⟨q, hq, z⟩)
    refine cr_show1 (Q := fun v H'' => ∃ H', H'' = shw L H' ∧ (∀ q ∈ L, H' q.1 = none) ∧ Q v H') (E := fun c d H'' => ∃ H', H'' = shw L H' ∧ (∀ q ∈ L, H' q.1 = none) ∧ E c d H') a2 a1 a3
      (cr_show (L := L) (H := del H p.1) nd.2 (fun q hq => ?_) h (fun v H' e q => ⟨H', rfl, e, q⟩) fun c d H' e q => ⟨H', rfl, e, q⟩) (fun v H'' hn ⟨H', e1, e2, q⟩ => ?_) fun c d H'' hn ⟨H', e1, e2, q⟩ => ?_
    · obtain ⟨b1, b2, b3⟩ := hL q (by simp [hq])
      exact ⟨b1, by rw [del_ne (ne q hq)]; exact b2, b3⟩
    · subst e1
      refine kQ v H' (fun q' hq' => ?_) q
      rcases List.mem_cons.mp hq' with z | z
      · rw [z]; exact (shw_out nd.1).symm.trans hn
      · exact e2 q' z
    · subst e1
      refine kE c d H' (fun q' hq' => ?_) q
      rcases List.mem_cons.mp hq' with z | z
      · rw [z]; exact (shw_out nd.1).symm.trans hn
      · exact e2 q' z
end
/-! ### the state at a call -/
section
variable {P : Program} {w : World} {K : PySem.W.Frag} {mg : Str → Option Value} {base : Heap} {A : Around} {outer : List Env} {s : Shared}
theorem env0_shw : ∀ {L : CL} {H : Hp}, Env0 P w K mg base A outer s H → (L.map Prod.fst).Nodup → (∀ p ∈ L, s.heap.get? p.1 = some p.2 ∧ H p.1 = none ∧ p.1 ∉ frs outer ∧ base.get? p.1 = none) → Env0 P w K mg base A outer s (shw L H)
  | [], H, e, _, _ => e
  | p :: L, H, e, nd, hL => by
    rw [List.map_cons, List.nodup_cons] at nd
    have e1 := env0_shw (L := L) e nd.2 fun q hq => hL q (by simp [hq])
    obtain ⟨a1, a2, a3, a4⟩ := hL p (by simp)
    have nP : shw L H p.1 = none := by rw [shw_out nd.1]; exact a2
    unfold shw
    refine ⟨e1.frames, e1.mod, fun b o q => ⟨(e1.bs b o q).1, ?_⟩, e1.bsz, e1.funs, fun b hb => ?_, hok_upd e1.hok nP a1, e1.bare⟩
    · rw [upd_ne fun z => by rw [z, a4] at q; cases q]
      exact (e1.bs b o q).2
    · rw [upd_ne fun z => a3 (by rw [← z]; exact hb)]
      exact e1.frf b hb
theorem env0_hid : ∀ {L : CL} {H : Hp}, Env0 P w K mg base A outer s H → (L.map Prod.fst).Nodup → (∀ p ∈ L, H p.1 = some (frzC p.2)) → Env0 P w K mg base A outer s (hid L H)
  | [], H, e, _, _ => e
  | p :: L, H, e, nd, hL => by
    rw [List.map_cons, List.nodup_cons] at nd
    unfold hid
    have ne : ∀ q ∈ L, q.1 ≠ p.1 := fun q hq z => nd.1 (List.mem_map.mpr ⟨q, hq, z⟩)
    refine env0_hid (L := L) (H := del H p.1) ⟨e.frames, e.mod, fun b o q => ⟨(e.bs b o q).1, ?_⟩, e.bsz, e.funs, fun b hb => ?_, hok_del e.hok (hL p (by simp)), e.bare⟩ nd.2 fun q hq => ?_
    · by_cases z : b = p.1
      · rw [z, del_same]
      · rw [del_ne z]
        exact (e.bs b o q).2
    · by_cases z : b = p.1
      · rw [z, del_same]
      · rw [del_ne z]
        exact e.frf b hb
    · rw [del_ne (ne q hq)]
      exact hL q (by simp [hq])
end
/-! ### our state -/
/-- a captured name's cell, shown -/
def cV (c : Addr) (p : Pr) : Cell := ⟨c, fun F o => ∃ ob u v, o = frzC ob ∧ ob.data = .cell (some u) ∧ RelV v u ∧ p.on F v, fun s ⟨ob, u, v, e1, e2, e3, e4⟩ => ⟨ob, u, v, e1, e2, e3, p.mono s e4⟩, fun ⟨ob, u, v, e, _⟩ => by subst e; exact fun _ z => (nomatch z)⟩
def capsC (cs : List (Addr × Pr)) : List Cell := cs.map fun q => cV q.1 q.2
theorem capsC_a (cs : List (Addr × Pr)) : (capsC cs).map (·.a) = cs.map Prod.fst := by
  unfold capsC
  rw [List.map_map]
  rfl
def CapOk (F : Hp) (q : Addr × Pr) (p : Addr × Obj) : Prop := q.1 = p.1 ∧ ∃ u v, p.2.data = .cell (some u) ∧ RelV v u ∧ q.2.on F v
theorem CapOk.mono {F F' : Hp} {q : Addr × Pr} {p : Addr × Obj} (s : L2.Same F F') (h : CapOk F q p) : CapOk F' q p := let ⟨a, u, v, b, c, d⟩ := h; ⟨a, u, v, b, c, q.2.mono s d⟩
abbrev CapsOk (F : Hp) : List (Addr × Pr) → CL → Prop := PySem.Paired (CapOk F)
theorem CapsOk.mono {F F' : Hp} (s : L2.Same F F') {cs : List (Addr × Pr)} {L : CL} (h : CapsOk F cs L) : CapsOk F' cs L := L2.Paired.mapP h fun _ _ => CapOk.mono s
theorem CapsOk.fst {F : Hp} : ∀ {cs : List (Addr × Pr)} {L : CL}, CapsOk F cs L → cs.map Prod.fst = L.map Prod.fst
  | _, _, .nil => rfl
  | _, _, .cons a b => by rw [List.map_cons, List.map_cons, a.1, CapsOk.fst b]
section
variable {tb : Tb} {Φ : Fx} {Γ : Gm} {C C' : List Cell} {σ : L2.St} {F H F' H' : Hp}
theorem Sta.shw (S : Sta tb Φ Γ C σ F H) : ∀ {cs : List (Addr × Pr)} {L : CL}, CapsOk F cs L → (∀ p ∈ L, H p.1 = none) → (L.map Prod.fst).Nodup → Sta tb Φ Γ (capsC cs ++ C) σ F (Z.shw L H)
  | _, _, .nil, _, _ => S
  | q :: cs, p :: L, .cons a b, hn, nd => by
    rw [List.map_cons, List.nodup_cons] at nd
    have S1 := Sta.shw S b (fun r hr => hn r (by simp [hr])) nd.2
    obtain ⟨e, u, v, h1, h2, h3⟩ := a
    have hq : Z.shw L H (cV q.1 q.2).a = none := by
      show Z.shw L H q.1 = none
      rw [e, shw_out nd.1]
      exact hn p (by simp)
    have S2 := S1.newC (c := cV q.1 q.2) (o := frzC p.2) hq ⟨p.2, u, v, rfl, h1, h2, h3⟩
    show Sta tb Φ Γ (cV q.1 q.2 :: (capsC cs ++ C)) σ F (upd (Z.shw L H) p.1 (frzC p.2))
    rw [← e]
    exact S2
theorem Sta.caps (S : Sta tb Φ Γ (capsC cs ++ C) σ F H) : ∃ L : CL, CapsOk F cs L ∧ ∀ p ∈ L, H p.1 = some (frzC p.2) := by
  have at_ : ∀ q ∈ cs, ∃ ob u v, H q.1 = some (frzC ob) ∧ ob.data = .cell (some u) ∧ RelV v u ∧ q.2.on F v := fun q hq => by
    obtain ⟨o, h1, ⟨ob, u, v, e, h2, h3, h4⟩, _⟩ := S.cells.at_ (cV q.1 q.2) (List.mem_append_left _ (List.mem_map.mpr ⟨q, hq, rfl⟩))
    subst e
    exact ⟨ob, u, v, h1, h2, h3, h4⟩
  clear S
  induction cs with
  | nil => exact ⟨[], .nil, fun p hp => by simp at hp⟩
  | cons q cs ih =>
    obtain ⟨L, h1, h2⟩ := ih fun r hr => at_ r (by simp [hr])
    obtain ⟨ob, u, v, g1, g2, g3, g4⟩ := at_ q (by simp)
    exact ⟨(q.1, ob) :: L, .cons ⟨rfl, u, v, g2, g3, g4⟩ h1, fun p hp => by
      rcases List.mem_cons.mp hp with z | z
      · rw [z]; exact g1
      · exact h2 p z⟩
theorem Sta.capsNd (S : Sta tb Φ Γ (capsC cs ++ C) σ F H) : (cs.map Prod.fst).Nodup := by
  have nd := S.cells.nd
  rw [List.map_append, capsC_a] at nd
  exact (List.nodup_append.mp nd).1
theorem fix_hid {L : CL} (hL : ∀ p ∈ L, H p.1 = some (frzC p.2)) : Fix H (hid L H) := fun b o e k => by
  rw [hid_out fun z => ?_]
  · exact e
  · obtain ⟨p, hp, ep⟩ := List.mem_map.mp z
    rw [← ep, hL p hp] at e
    cases e
    rcases k with ⟨ps, k⟩ | ⟨φ, k⟩ <;> cases k
/-- what stays when the shown cells are hidden -/
theorem Sta.hid' (S : Sta tb Φ Γ (capsC cs ++ C) σ F H) {L : CL} (hk : CapsOk F cs L) (hL : ∀ p ∈ L, H p.1 = some (frzC p.2)) :
    EnvOk Γ F σ ∧ CellsOk C F (hid L H) ∧ (∀ a o, F a = some o → L2.Rd (hid L H) a o) ∧ Tab tb F (hid L H) ∧ (∀ a, a ∈ L.map Prod.fst → F a = none) := by
  have fL : ∀ a, a ∈ L.map Prod.fst → F a = none := fun a ha => by
    rw [← hk.fst] at ha
    obtain ⟨q, hq, e⟩ := List.mem_map.mp ha
    obtain ⟨_, _, _, h⟩ := S.cells.at_ (cV q.1 q.2) (List.mem_append_left _ (List.mem_map.mpr ⟨q, hq, rfl⟩))
    rw [← e]
    exact h
  have nd := S.cells.nd
  rw [List.map_append, capsC_a, hk.fst] at nd
  obtain ⟨n1, n2, n3⟩ := List.nodup_append.mp nd
  refine ⟨S.env, ⟨fun c hc => ?_, n2⟩, fun a o e => ?_, S.tab.fix (fix_hid hL), fL⟩
  · obtain ⟨o, h1, h2, h3⟩ := S.cells.at_ c (by simp [hc])
    exact ⟨o, by rw [hid_out fun z => n3 c.a z c.a (List.mem_map.mpr ⟨c, hc, rfl⟩) rfl]; exact h1, h2, h3⟩
  · have ha : a ∉ L.map Prod.fst := fun z => by rw [fL a z] at e; cases e
    unfold L2.Rd
    rw [hid_out ha]
    exact S.sub a o e
/-- at the owner's -/
theorem Sta.hid (S : Sta tb Φ Γ (capsC cs ++ C) σ F H) {L : CL} (hk : CapsOk F cs L) (hL : ∀ p ∈ L, H p.1 = some (frzC p.2)) (h0 : ∀ p ∈ L, Φ.H0 p.1 = none) : Sta tb Φ Γ C σ F (Z.hid L H) := by
  obtain ⟨h1, h2, h3, h4, h5⟩ := S.hid' hk hL
  have h0' : ∀ a, a ∈ L.map Prod.fst → Φ.H0 a = none := fun a ha => by
    obtain ⟨p, hp, e⟩ := List.mem_map.mp ha
    rw [← e]
    exact h0 p hp
  refine ⟨h1, h2, h3, S.fine, h4, S.base, S.fresh, fun a o e n d => ?_, fun c hc => S.own c (by simp [hc]), fun a e => ?_⟩
  · rw [hid_out fun z => by rw [h0' a z] at e; cases e]
    exact S.keep a o e n d
  · by_cases ha : a ∈ L.map Prod.fst
    · exact h0' a ha
    · rw [hid_out ha] at e
      exact S.there a e
/-- at the closure's -/
theorem Sta.hidR (S : Sta tb Φ Γ (capsC cs ++ C) σ F H) {L : CL} (hk : CapsOk F cs L) (hL : ∀ p ∈ L, H p.1 = some (frzC p.2)) : Sta tb (Fx.of F (Z.hid L H) C) Γ C σ F (Z.hid L H) := by
  obtain ⟨h1, h2, h3, h4, _⟩ := S.hid' hk hL
  exact ⟨h1, h2, h3, S.fine, h4, L2.Same.refl F, fun a o e n => absurd ((show F a = none from n).symm.trans e) (fun z => (nomatch z)), fun a o e _ _ => e, fun c hc => .inl (List.mem_map.mpr ⟨c, hc, rfl⟩), fun a e => e⟩
/-- behind the closure's body -/
theorem Sta.showR (S : Sta tb Φ Γ (capsC cs ++ C) σ F H) {L : CL} {Γ' : Gm} {σ' : L2.St} (hk : CapsOk F cs L) (hL : ∀ p ∈ L, H p.1 = some (frzC p.2)) (S' : Sta tb (Fx.of F (Z.hid L H) C) Γ' C' σ' F' H') (hn : ∀ p ∈ L, H' p.1 = none) : Sta tb (Fx.of F H (capsC cs ++ C)) Γ' (capsC cs ++ C') σ' F' (Z.shw L H') := by
  have ndL : (L.map Prod.fst).Nodup := by rw [← hk.fst]; exact S.capsNd
  obtain ⟨_, _, _, _, fL⟩ := S.hid' hk hL
  have S1 := S'.shw (hk.mono S'.base) hn ndL
  have inD : ∀ a, a ∈ L.map Prod.fst → a ∈ (capsC cs ++ C).map (·.a) := fun a ha => by
    rw [List.map_append, capsC_a, hk.fst]
    exact List.mem_append_left _ ha
  have nn : ∀ a, Z.hid L H a = none → H a = none ∨ a ∈ L.map Prod.fst := fun a e => by
    by_cases ha : a ∈ L.map Prod.fst
    · exact .inr ha
    · rw [hid_out ha] at e
      exact .inl e
  refine ⟨S1.env, S1.cells, S1.sub, S1.fine, S1.tab, S1.base, fun a o e n => ?_, fun a o e n d => ?_, fun c hc => ?_, fun a e => ?_⟩
  · rcases nn a (S1.fresh a o e n) with z | z
    · exact z
    · have z' : a ∈ cs.map Prod.fst := by rw [hk.fst]; exact z
      obtain ⟨q, hq, eq⟩ := List.mem_map.mp z'
      obtain ⟨_, _, _, h⟩ := S1.cells.at_ (cV q.1 q.2) (List.mem_append_left _ (List.mem_map.mpr ⟨q, hq, rfl⟩))
      have h : F' q.1 = none := h
      rw [eq, e] at h
      cases h
  · have ha : a ∉ L.map Prod.fst := fun z => d (inD a z)
    refine S1.keep a o (by show Z.hid L H a = some o; rw [hid_out ha]; exact e) n fun z => d ?_
    show a ∈ (capsC cs ++ C).map (·.a)
    rw [List.map_append]
    exact List.mem_append_right _ z
  · rcases S1.own c hc with z | z
    · refine .inl ?_
      show c.a ∈ (capsC cs ++ C).map (·.a)
      rw [List.map_append]
      exact List.mem_append_right _ z
    · rcases nn c.a z with z | z
      · exact .inr z
      · exact .inl (inD _ z)
  · rcases nn a (S1.there a e) with z | z
    · exact z
    · obtain ⟨p, hp, ep⟩ := List.mem_map.mp z
      rw [← ep, shw_at ndL hp] at e
      cases e
end
end Z

end
section
set_option Elab.async false
set_option linter.all false
set_option maxRecDepth 100000
/-! Z14: lambdas: made, called; what their bodies promise. -/
namespace Z
open PySem PySem.Spec PyProof.Rows L2 LamX NdefX
/-! ### the object -/
abbrev lfd (G : NF) (body : Expr) (pm ctv : Value) : FuncData := PySem.W.kla_fn G.name G.qual G.params body G.scope G.cl pm (.ref G.c) ctv
def LamO (f : Addr) (G : NF) (body : Expr) : HO := .ext fun h => ∃ (od : Option Addr) (sl : Array (Option Value)) (pm ctv : Value), h.get? f = some (⟨.type "function", od, .func (lfd G body pm ctv), sl⟩ : Obj)
section
variable {P : Program} {w : World} {H : Hp} {h : Heap} {f c : Addr} {G : NF} {body : Expr} {q : Str}
theorem lamO_at (x : ObjOk P w H h f (LamO f G body)) : ∃ (od : Option Addr) (sl : Array (Option Value)) (pm ctv : Value), h.get? f = some (⟨.type "function", od, .func (lfd G body pm ctv), sl⟩ : Obj) := by
  obtain ⟨z, _, _⟩ := x
  exact z
theorem codeO_at' (x : ObjOk P w H h c (CodeO c q)) : h.CodeRec (.ref c) q := by
  obtain ⟨⟨oc, vs, t, h1, h2, h3⟩, _, _⟩ := x
  exact ⟨c, oc, vs, t, rfl, h1, h2, h3⟩
theorem fnAt_lam (x : ObjOk P w H h f (LamO f G body)) : PySem.W.FnAt f h := by
  obtain ⟨od, sl, pm, ctv, e⟩ := lamO_at x
  exact ⟨_, od, _, sl, e⟩
end
/-! ### made -/
abbrev lamG (X : L2.Cx) (params : Arguments) (scope : Scope) (c' : Addr) : NF := ⟨"<lambda>", X.env.qual ++ "<lambda>", params, [], scope, cloFrom X.env.cells scope.names [], c'⟩
def tLamM (X : L2.Cx) (P : Addr) (params : Arguments) (body : Expr) (scope : Scope) (pos : Pos) : TE := fun σ H Q => ∃ ps : Array Value, H P = some (.tbl ps) ∧ TriplesOk ps.toList ∧ (∀ (pos' : Pos) (cv : Value), codeAmong pos' ps.toList = some cv → ∃ c, cv = .ref c) ∧
  (∀ c' f : Addr, H c' = none → f ≠ c' → f ≠ P → H f = none → Q (.ref f) (upd (upd (upd H P (.tbl (ps ++ #[rawInt pos.line, rawInt pos.col, .ref c']))) c' (CodeO c' (X.env.qual ++ "<lambda>"))) f (LamO f (lamG X params scope c') body))) ∧
  ∀ c' f : Addr, codeAmong pos ps.toList = some (.ref c') → H f = none → Q (.ref f) (upd H f (LamO f (lamG X params scope c') body))
section
variable {X : L2.Cx}
theorem inv_lam {pins : List (Addr × Obj)} {σ : L2.St} {H : Hp} {s : Shared} {G : NF} {body : Expr} {t' : Nat} {pm ctv : Value} (I : Inv X pins σ H s) :
    Inv X pins σ (upd H s.heap.objs.size (LamO s.heap.objs.size G body)) { s with heap := s.heap.push ({ cls := .type "function", data := .func (lfd G body pm ctv) } : Obj), toks := t' } := by
  have e : (s.heap.push ({ cls := .type "function", data := .func (lfd G body pm ctv) } : Obj)).get? s.heap.objs.size = some ({ cls := .type "function", data := .func (lfd G body pm ctv) } : Obj) := Heap.get?_push_size _ rfl
  exact I.laid (a := s.heap.objs.size) (fun b u e => Heap.get?_push_of_some _ e) (Nat.le_refl _) ⟨⟨_, _, pm, ctv, e⟩, ⟨_, e⟩, fun h1 h2 ⟨od, sl, p, t, z⟩ st => ⟨od, sl, p, t, st _ z⟩⟩
theorem pe_lamM {c P : Addr} {params : Arguments} {body : Expr} {scope : Scope} {pos : Pos} (TB : TabB X.base X.mg c P) (hcode : X.env.code = .ref c) (hdef : defaultsOf params X.env = ([], []))
    (hfr : ∀ y ∈ scope.names, y.2 = .free → X.env.scope.names.lookup y.1 = some .cell ∨ X.env.scope.names.lookup y.1 = some .free) : PE X (.Lambda params body scope pos) (tLamM X P params body scope pos) := by
  refine ⟨fun pins s σ H Q I h => ?_⟩
  obtain ⟨ps, hP, ht, ha, miss, hit⟩ := h
  have hfree : ∀ y ∈ scope.names, y.2 = .free → ∃ c, X.env.cells.lookup y.1 = some c := fun y hy e => (hfr y hy e).elim (fun z => I.ok.has _ (.inl z)) fun z => I.ok.has _ (.inr z)
  refine PySem.W.kla_eval hdef ?_
  have bP : s.heap.BuiltinsAt X.mg P := TB.bm.keeps I.bk
  have hP' : s.heap.get? P = some { cls := .none, data := .fields ps } := I.hok P _ hP
  cases hc : codeAmong pos ps.toList with
  | none =>
    refine PySem.W.kla_makeFunction (mg := X.mg) (c := c) (P := P) (ps := ps) (closure_ok hfree) I.ok.glob (I.mod.glob.keeps I.bk) hcode (TB.code.keeps I.bk) hP' ht hc TB.gP bP fun c' ctv h' tk hx hge hlt hrec htb => ?_
    obtain ⟨c2, oc, vs, t, e2, hoc, hd, hv⟩ := hrec
    cases e2
    have I1 := inv_table (t' := tk) (more := #[rawInt pos.line, rawInt pos.col, .ref c']) (h' := h') I hP (fun b o hb e => hx b o hb e) htb hge ⟨oc, vs, t, hoc, hd, hv⟩
    have I2 := inv_lam (G := lamG X params scope c') (body := body) (pm := (X.mg "__name__").getD .none) (ctv := ctv) (t' := tk) I1
    have nP : P < s.heap.objs.size := Heap.lt_size hP'
    exact ⟨.ref h'.objs.size, _, I2, rfl, miss c' h'.objs.size (I.hok.fresh hge) (Nat.ne_of_gt hlt) (Nat.ne_of_gt (Nat.lt_of_lt_of_le nP (Nat.le_trans hge (Nat.le_of_lt hlt)))) (I.hok.fresh (Nat.le_trans hge (Nat.le_of_lt hlt)))⟩
  | some cv =>
    obtain ⟨c', e⟩ := ha pos cv hc
    subst e
    refine PySem.W.kla_makeFunctionHit (mg := X.mg) (c := c) (P := P) (ps := ps) (closure_ok hfree) I.ok.glob (I.mod.glob.keeps I.bk) hcode (TB.code.keeps I.bk) hP' ht hc bP fun ctv h' tk hx hsz => ?_
    have I1 : Inv X pins σ H { s with heap := h', toks := tk } := I.kept hx
    have I2 := inv_lam (G := lamG X params scope c') (body := body) (pm := (X.mg "__name__").getD .none) (ctv := ctv) (t' := tk) I1
    exact ⟨.ref h'.objs.size, _, I2, rfl, hit c' h'.objs.size hc (I.hok.fresh hsz)⟩
end
/-- a lambda's value -/
def rFu (mk : Addr → NF) (body : Expr) : Pr := ⟨fun F v => ∃ f c', v = .ref f ∧ F f = some (LamO f (mk c') body) ∧ F c' = some (CodeO c' (mk c').qual), fun s ⟨f, c', e, h1, h2⟩ => ⟨f, c', e, s _ _ h1, s _ _ h2⟩⟩
section
variable {tb : Tb} {Φ : Fx} {Γ : Gm} {C : List Cell} {σ : L2.St} {F H : Hp}
theorem fine_ext {φ : Heap → Prop} : Fine (.ext φ) := ⟨fun _ z => (nomatch z), fun _ _ z => (nomatch z)⟩
theorem Sta.notTab (S : Sta tb Φ Γ C σ F H) {P : Addr} {ps : Array Value} (hP : H P = some (.tbl ps)) : F P = none := by
  cases e : F P with
  | none => rfl
  | some o =>
    rcases S.sub P o e with z | ⟨ob, z⟩
    · rw [hP] at z
      cases z
      exact absurd rfl ((S.fine _ _ e).1 ps)
    · rw [hP] at z
      cases z
/-- a new code object in a table -/
theorem Sta.code (S : Sta tb Φ Γ C σ F H) {P c' : Addr} {nm : Nat → Nat → Str} {ps : Array Value} {pos : Pos} (hP : H P = some (.tbl ps)) (hm : (P, nm) ∈ tb.nt) (hu : ∀ p ∈ tb.nt, p.1 = P → p.2 = nm) (hc : H c' = none) :
    Sta tb Φ Γ C σ (upd F c' (CodeO c' (nm pos.line pos.col))) (upd (upd H P (.tbl (ps ++ #[rawInt pos.line, rawInt pos.col, .ref c']))) c' (CodeO c' (nm pos.line pos.col))) ∧ L2.Same F (upd F c' (CodeO c' (nm pos.line pos.col))) := by
  have hF := S.notF hc
  have s := same_new (u := CodeO c' (nm pos.line pos.col)) hF
  have nPc : P ≠ c' := ne_of_none hP hc
  have FP := S.notTab hP
  have hne : ∀ b o, H b = some o → NoTbl o → b ≠ P := fun b o e n z => by
    rw [z, hP] at e
    cases e
    exact n ps rfl
  refine ⟨⟨S.env.mono s, ⟨fun c hc' => ?_, S.cells.nd⟩, fun b u e => ?_, fun b u e => ?_, ⟨fun p hp => ?_⟩, fun b u e => s _ _ (S.base _ _ e), fun b u e n => ?_, fun b u e n d => ?_, S.own, fun b e => ?_⟩, s⟩
  · obtain ⟨o, h1, h2, h3⟩ := S.cells.at_ c hc'
    have n1 := ne_of_none h1 hc
    exact ⟨o, by rw [upd_ne n1, upd_ne (hne _ _ h1 (c.nt h2))]; exact h1, c.mono s h2, by rw [upd_ne n1]; exact h3⟩
  · by_cases hb : b = c'
    · subst hb
      rw [upd_same] at e
      cases e
      exact .inl upd_same
    · rw [upd_ne hb] at e
      have hbP : b ≠ P := fun z => by rw [z, FP] at e; cases e
      unfold L2.Rd
      rw [upd_ne hb, upd_ne hbP]
      exact S.sub b u e
  · by_cases hb : b = c'
    · subst hb
      rw [upd_same] at e
      cases e
      exact fine_ext
    · rw [upd_ne hb] at e
      exact S.fine b u e
  · obtain ⟨ps', h1, h2, h3⟩ := S.tab.nt p hp
    by_cases hb : p.1 = P
    · have e2 := hu p hp hb
      rw [hb, hP] at h1
      cases h1
      have eL : (ps ++ #[rawInt pos.line, rawInt pos.col, .ref c']).toList = ps.toList ++ [rawInt pos.line, rawInt pos.col, .ref c'] := by simp
      refine ⟨_, by rw [hb, upd_ne nPc, upd_same], by rw [eL]; exact PySem.TriplesOk_snoc _ _ _ _ h2, fun p' cv hcv => ?_⟩
      rw [eL] at hcv
      rcases among_app2 _ h2 hcv with z | ⟨z, z1, z2⟩
      · obtain ⟨c0, e1, e3⟩ := h3 p' cv z
        exact ⟨c0, e1, s _ _ e3⟩
      · refine ⟨c', z, ?_⟩
        rw [upd_same, e2, z1, z2]
    · refine ⟨ps', by rw [upd_ne (ne_of_none h1 hc), upd_ne hb]; exact h1, h2, fun p' cv hcv => ?_⟩
      obtain ⟨c0, e1, e3⟩ := h3 p' cv hcv
      exact ⟨c0, e1, s _ _ e3⟩
  · by_cases hb : b = c'
    · subst hb
      exact S.there b hc
    · rw [upd_ne hb] at e
      exact S.fresh b u e n
  · have h1 := S.keep b u e n d
    rw [upd_ne (ne_of_none h1 hc), upd_ne (hne _ _ h1 n)]
    exact h1
  · by_cases hb : b = c'
    · subst hb
      exact S.there b hc
    · rw [upd_ne hb] at e
      exact S.there b (upd_none_iff hP e)
end
section
variable {ω : Type} {j : J} {Γ : Gm} {C : List Cell} {R : Ps} {pos ppos : Pos} {params : Arguments} {body : Expr} {scope : Scope}
/-- lambda: .. -/
theorem ev_lam {c P : Addr} {nm : Nat → Nat → Str} (hm : (P, nm) ∈ j.tb.nt) (hn : nm pos.line pos.col = j.X.env.qual ++ "<lambda>") (hu : ∀ p ∈ j.tb.nt, p.1 = P → p.2 = nm) (TB : TabB j.X.base j.X.mg c P) (hcode : j.X.env.code = .ref c)
    (r : R C (rFu (lamG j.X params scope) body)) (hfr : ∀ y ∈ scope.names, y.2 = .free → j.X.env.scope.names.lookup y.1 = some .cell ∨ j.X.env.scope.names.lookup y.1 = some .free) (hdef : defaultsOf params j.X.env = ([], []) := by rfl) : Ev j Γ C (.Lambda params body scope pos) R :=
  ev_lift (pe_lamM TB hcode hdef hfr) fun Φ σ F H Q xw S K => by
    obtain ⟨ps, h1, h2, h3⟩ := S.tab.nt _ hm
    have h1 : H P = some (.tbl ps) := h1
    have h3 : ∀ (pos : Pos) (cv : Value), codeAmong pos ps.toList = some cv → ∃ c, cv = .ref c ∧ F c = some (CodeO c (nm pos.line pos.col)) := h3
    refine ⟨ps, h1, h2, fun p' cv hc => let ⟨c0, e, _⟩ := h3 p' cv hc; ⟨c0, e⟩, fun c' f n1 ne nP n2 => ?_, fun c' f hc n2 => ?_⟩
    · obtain ⟨S1, s1⟩ := S.code (pos := pos) h1 hm hu n1
      rw [hn] at S1 s1
      have n3 : upd (upd H P (.tbl (ps ++ #[rawInt pos.line, rawInt pos.col, .ref c']))) c' (CodeO c' (j.X.env.qual ++ "<lambda>")) f = none := by rw [upd_ne ne, upd_ne nP]; exact n2
      obtain ⟨S2, s2⟩ := S1.newF (o := LamO f (lamG j.X params scope c') body) n3 fine_ext
      exact K _ _ _ _ _ r S2 (s1.trans s2) ⟨f, c', rfl, upd_same, s2 _ _ upd_same⟩
    · obtain ⟨c0, e, hF⟩ := h3 pos _ hc
      cases e
      obtain ⟨S2, s2⟩ := S.newF (o := LamO f (lamG j.X params scope c') body) n2 fine_ext
      refine K _ _ _ _ _ r S2 s2 ⟨f, c', rfl, upd_same, s2 _ _ ?_⟩
      rw [hF, hn]
end
/-! ### called -/
structure CloOk (Pg : Program) (w : World) (K : PySem.W.Frag) (mg : Str → Option Value) (base : Heap) (k : Nat) (G : NF) (body : Expr) (sp : Sp) : Prop where
  run : ∀ (f : Addr) (A : Around) (outer : List Env) (s : Shared) (H : Hp) (us : List Value) (vs : List V) (Q : VK) (E : XK), Room k A → Env0 Pg w K mg base A outer s H → ObjOk Pg w H s.heap f (LamO f G body) → ObjOk Pg w H s.heap G.c (CodeO G.c G.qual) →
    Vals vs us → sp vs H Q E → codeAny (model Pg w) A (.call (.ref f) ⟨us, []⟩) (CR (L2.CX Pg w) outer Pg w H s Q E) s
theorem CloOk.mono {Pg : Program} {w : World} {K : PySem.W.Frag} {mg : Str → Option Value} {base : Heap} {i k : Nat} {G : NF} {body : Expr} {sp : Sp} (o : CloOk Pg w K mg base i G body sp) (h : i ≤ k) : CloOk Pg w K mg base k G body sp := ⟨fun f A outer s H us vs Q E hr => o.run f A outer s H us vs Q E (hr.mono h)⟩
def tClo (mk : Addr → NF) (body : Expr) (i : Nat) (sp : Sp) (E : XK) (t : TA) : TE := fun σ H Q => ∃ f c', σ[i]? = some (some (.ref f)) ∧ L2.Rd H f (LamO f (mk c') body) ∧
  t σ H fun vs H1 => L2.Rd H1 f (LamO f (mk c') body) ∧ L2.Rd H1 (mk c').c (CodeO (mk c').c (mk c').qual) ∧ sp vs H1 Q E
section
variable {X : L2.Cx} {mk : Addr → NF} {body : Expr} {i k : Nat} {x : Str} {sp : Sp} {E : XK} {t : TA} {e : Expr} {es : List Expr} {p pos : Pos}
theorem run_clo {pins : List (Addr × Obj)} {σ : L2.St} {H : Hp} {s : Shared} {Q : VK} {f : Addr} {G : NF} {us : List Value} {vs : List V} (Fn : CloOk X.prog X.w X.K X.mg X.base k G body sp) (hr : Room k X.A) (hx : Passes (L2.CX X.prog X.w) X E) (I : Inv X pins σ H s)
    (hf : L2.Rd H f (LamO f G body)) (hc : L2.Rd H G.c (CodeO G.c G.qual)) (r : Vals vs us) (q : sp vs H Q E) : wpAny (model X.prog X.w) X.A (call (.ref f) us) (EP X pins σ Q) X.xe s := by
  refine wpAny_call (codeAny_mono (Fn.run f X.A X.stack s H us vs Q E hr I.env0 (hf.ok I.hok) (hc.ok I.hok) r q) fun r s' hq => ?_)
  cases r with
  | error e => exact hx pins σ H s e s' I hq
  | ok fl =>
    cases fl with
    | ret u => exact I.after hq
    | next => exact False.elim hq
    | brk => exact False.elim hq
    | cont => exact False.elim hq
theorem pe_clo (Fn : ∀ c', CloOk X.prog X.w X.K X.mg X.base k (mk c') body sp) (hr : Room k X.A) (hx : Passes (L2.CX X.prog X.w) X E) (hN : X.N[i]? = some x) (hv : Vis X.env.scope x) (ha : PA X (e :: es) t)
    (hd : (x == ("__debug__" : Str)) = false := by decide) (hcd : (x == ("__classdict__" : Str)) = false := by decide)
    (he : starEach (e :: es) X.env = (false, eval e X.env) :: starEach es X.env := by rfl) (hpl : (backTo pos (starEach es X.env)).any (·.1) = false := by rfl) :
    PE X (.Call (.Name x p) (e :: es) [] pos) (tClo mk body i sp E t) := by
  refine ⟨fun pins s σ H Q I h => ?_⟩
  obtain ⟨f, c', hs, hf, ht⟩ := h
  refine wpAny_Call_Name_kw (thn ((pe_var (pos := p) hN hv hd hcd).run pins s σ H (fun v H1 => v = .ref f ∧ H1 = H) I ⟨.ref f, hs, rfl, rfl⟩) fun u s1 ⟨v, H1, I1, r1, q1⟩ => ?_)
  obtain ⟨ev, eH⟩ := q1
  subst ev
  rw [eH] at I1
  obtain rfl : u = Value.ref f := r1
  refine PySem.W.callWith_F (first := []) (fnAt_lam (hf.ok I1.hok)) (thn (ha.run pos pins s1 σ H _ I1 ht) fun us s2 ⟨vs, H2, I2, r, h1, h2, q⟩ => ⟨fnAt_lam (h1.ok I2.hok), ?_⟩) he hpl
  show wpAny _ _ (call (.ref f) us) _ _ _
  exact run_clo (Fn c') hr hx I2 h1 h2 r q
theorem pe_clo0 (Fn : ∀ c', CloOk X.prog X.w X.K X.mg X.base k (mk c') body sp) (hr : Room k X.A) (hx : Passes (L2.CX X.prog X.w) X E) (hN : X.N[i]? = some x) (hv : Vis X.env.scope x)
    (hd : (x == ("__debug__" : Str)) = false := by decide) (hcd : (x == ("__classdict__" : Str)) = false := by decide) : PE X (.Call (.Name x p) [] [] pos) (tClo mk body i sp E tNil) := by
  refine ⟨fun pins s σ H Q I h => ?_⟩
  obtain ⟨f, c', hs, hf, h1, h2, q⟩ := h
  refine wpAny_Call_Name_kw (thn ((pe_var (pos := p) hN hv hd hcd).run pins s σ H (fun v H1 => v = .ref f ∧ H1 = H) I ⟨.ref f, hs, rfl, rfl⟩) fun u s1 ⟨v, H1, I1, r1, q1⟩ => ?_)
  obtain ⟨ev, eH⟩ := q1
  subst ev
  rw [eH] at I1
  obtain rfl : u = Value.ref f := r1
  refine PySem.W.callWith_F0 (first := []) (fnAt_lam (hf.ok I1.hok)) ?_
  show wpAny _ _ (call (.ref f) []) _ _ _
  exact run_clo (Fn c') hr hx I1 h1 h2 .nil q
end
section
variable {ω : Type} {p : Prom ω} {j : J} {Γ : Gm} {C : List Cell} {R : Ps} {pos ppos : Pos} {e : Expr} {es : List Expr} {x : Str} {k : Nat} {mk : Addr → NF} {body : Expr}
/-- x(e, ..), x a name that holds a lambda -/
theorem ev_clo (i : Nat) (Fn : ∀ c', CloOk j.X.prog j.X.w j.X.K j.X.mg j.X.base k (mk c') body (p.sp j.tb)) (hr : Room k j.X.A) (hc : ∀ c', (mk c').c = c') (hΓ : Γ[i]? = some (some (rFu mk body)))
    (h : Ea j Γ C (e :: es) fun C1 qs => ∃ o Cr, p.pre o ∧ qs = p.ps o ∧ C1.Perm (p.C o ++ Cr) ∧ Away j p o Cr R)
    (hN : j.X.N[i]? = some x := by rfl) (hv : Vis j.X.env.scope x := by first | exact Or.inl rfl | exact Or.inr (Or.inl rfl) | exact Or.inr (Or.inr rfl))
    (hd : (x == ("__debug__" : Str)) = false := by decide) (hcd : (x == ("__classdict__" : Str)) = false := by decide)
    (he : starEach (e :: es) j.X.env = (false, eval e j.X.env) :: starEach es j.X.env := by rfl) (hpl : (backTo pos (starEach es j.X.env)).any (·.1) = false := by rfl) :
    Ev j Γ C (.Call (.Name x ppos) (e :: es) [] pos) R := fun Φ σ F H Q xw S K =>
  we_of (pe_clo Fn hr (takes_w xw) hN hv pa_wa hd hcd he hpl) (by
    obtain ⟨v, hs, f, c', ev, h1, h2⟩ := S.env.at_ i _ hΓ
    subst ev
    refine ⟨f, c', hs, S.sub _ _ h1, h Φ σ F H _ xw S fun vs F1 H1 C1 qs ⟨o, Cr, hp, eq, hc', aw⟩ S1 s1 o1 => ?_⟩
    subst eq
    refine ⟨S1.sub _ _ (s1 _ _ h1), ?_, sp_call S1 (K.same s1) hp o1 hc' aw⟩
    rw [hc c']
    exact S1.sub _ _ (s1 _ _ h2))
theorem ev_clo0 (i : Nat) (Fn : ∀ c', CloOk j.X.prog j.X.w j.X.K j.X.mg j.X.base k (mk c') body (p.sp j.tb)) (hr : Room k j.X.A) (hc : ∀ c', (mk c').c = c') (hΓ : Γ[i]? = some (some (rFu mk body)))
    (h : ∃ o Cr, p.pre o ∧ [] = p.ps o ∧ C.Perm (p.C o ++ Cr) ∧ Away j p o Cr R)
    (hN : j.X.N[i]? = some x := by rfl) (hv : Vis j.X.env.scope x := by first | exact Or.inl rfl | exact Or.inr (Or.inl rfl) | exact Or.inr (Or.inr rfl))
    (hd : (x == ("__debug__" : Str)) = false := by decide) (hcd : (x == ("__classdict__" : Str)) = false := by decide) :
    Ev j Γ C (.Call (.Name x ppos) [] [] pos) R := fun Φ σ F H Q xw S K =>
  we_of (pe_clo0 Fn hr (takes_w xw) hN hv hd hcd) (by
    obtain ⟨v, hs, f, c', ev, h1, h2⟩ := S.env.at_ i _ hΓ
    subst ev
    obtain ⟨o, Cr, hp, eq, hc', aw⟩ := h
    refine ⟨f, c', hs, S.sub _ _ h1, S.sub _ _ h1, ?_, sp_call S K hp (by rw [← eq]; exact .nil) hc' aw⟩
    rw [hc c']
    exact S.sub _ _ h2)
end
/-! ### by its body -/
theorem EnvOk.app {F : Hp} {Γ1 Γ2 : Gm} {σ1 σ2 : L2.St} (a : EnvOk Γ1 F σ1) (b : EnvOk Γ2 F σ2) : EnvOk (Γ1 ++ Γ2) F (σ1 ++ σ2) := by
  refine ⟨by simp [a.len, b.len], fun i p e => ?_⟩
  by_cases h : i < Γ1.length
  · rw [List.getElem?_append_left h] at e
    obtain ⟨v, h1, h2⟩ := a.at_ i p e
    exact ⟨v, by rw [List.getElem?_append_left (by rw [a.len]; exact h)]; exact h1, h2⟩
  · rw [List.getElem?_append_right (by omega)] at e
    obtain ⟨v, h1, h2⟩ := b.at_ _ p e
    exact ⟨v, by rw [List.getElem?_append_right (by rw [a.len]; omega), a.len]; exact h1, h2⟩
theorem EnvOk.all {F : Hp} : ∀ {ps : List Pr} {vs : List V}, AllOn ps F vs → EnvOk (ps.map some) F (vs.map some)
  | _, _, .nil => ⟨rfl, fun i p e => by simp at e⟩
  | _, _, .cons a b => by
    have ih := EnvOk.all b
    refine ⟨by simp [AllOn.length b], fun i p e => ?_⟩
    cases i with
    | zero =>
      simp at e
      subst e
      exact ⟨_, rfl, a⟩
    | succ i =>
      obtain ⟨v, h1, h2⟩ := ih.at_ i p (by simpa using e)
      exact ⟨v, by simpa using h1, h2⟩
theorem EnvOk.nones {F : Hp} (n : Nat) : EnvOk (List.replicate n none) F (List.replicate n none) := ⟨by simp, fun i p e => by
  rw [List.getElem?_replicate] at e
  split at e <;> cases e⟩
/-- the captured names' addresses -/
structure CloAt (cl : List (Str × Addr)) (fr : List Str) (as : List Addr) : Prop where
  len : as.length = fr.length
  nd : as.Nodup
  has : ∀ (i : Nat) (y : Str), fr[i]? = some y → ∃ a, as[i]? = some a ∧ cl.lookup y = some a
  sub : ∀ (y : Str) (c : Addr), cl.lookup y = some c → ∃ i : Nat, fr[i]? = some y ∧ as[i]? = some c
theorem CapsOk.vals {F : Hp} : ∀ {cs : List (Addr × Pr)} {L : CL}, CapsOk F cs L → ∃ ws : List V, AllOn (cs.map Prod.snd) F ws ∧ ∀ (i : Nat) (v : V), ws[i]? = some v → ∃ p u, L[i]? = some p ∧ p.2.data = .cell (some u) ∧ RelV v u
  | _, _, .nil => ⟨[], .nil, fun i v e => by simp at e⟩
  | _, _, .cons a b => by
    obtain ⟨ws, h1, h2⟩ := CapsOk.vals b
    obtain ⟨_, u, v, g1, g2, g3⟩ := a
    refine ⟨v :: ws, .cons g3 h1, fun i w e => ?_⟩
    cases i with
    | zero =>
      simp at e
      subst e
      exact ⟨_, u, rfl, g1, g2⟩
    | succ i =>
      obtain ⟨p, u', e1, e2⟩ := h2 i w (by simpa using e)
      exact ⟨p, u', by simpa using e1, e2⟩
def Prom.cap {ω : Type} (q : Prom ω) (caps : ω → List (Addr × Pr)) : Prom ω := { q with C := fun o => capsC (caps o) ++ q.C o, R := fun o C' ρ => ∃ C'', C' = capsC (caps o) ++ C'' ∧ q.R o C'' ρ, XP := fun o cls C' => ∃ C'', C' = capsC (caps o) ++ C'' ∧ q.XP o cls C'' }
/-- THE RULE: a lambda by its body -/
theorem clo_ok {ω : Type} {Pg : Program} {w : World} {K : PySem.W.Frag} {mg : Str → Option Value} {base : Heap} {k : Nat} {G : NF} {body : Expr} {tb : Tb} {q : Prom ω} {caps : ω → List (Addr × Pr)} {N ps fr : List Str} {as : List Addr}
    (hfs : ∀ o, q.pre o → (caps o).map Prod.fst = as) (Sc : NScope N ps fr G.scope) (CA : CloAt G.cl fr as) (hb : ∀ (pm ctv : Value) (us : List Value), us.length = ps.length → bindArgs (lfd G body pm ctv) ⟨us, []⟩ = pure (ps.zip us)) (len : ∀ o, (q.ps o).length = ps.length)
    (hbody : ∀ (o : ω) (f : Addr) (A : Around) (outer : List Env) (s : Shared) (H : Hp) (E : XK), q.pre o → Room k (A.deeper (envF G f s.heap.objs.size)) →
      Ev ⟨ncx (L2.CX Pg w) Pg w K mg base N G f A outer s H E, tb, q.XP o⟩ ((q.ps o).map some ++ (((caps o).map Prod.snd).map some ++ List.replicate (N.length - ps.length - fr.length) none)) (q.C o) body (q.R o)) :
    CloOk Pg w K mg base (k + 1) G body ((q.cap caps).sp tb) := by
  refine ⟨fun f A outer s H us vs Q E hr e0 hf hc r hsp => ?_⟩
  obtain ⟨o, F, hp, ha, S, kR, kX⟩ := hsp
  have ha : AllOn (q.ps o) F vs := ha
  have hp : q.pre o := hp
  have S : Sta tb (Fx.of F H (capsC (caps o) ++ q.C o)) [] (capsC (caps o) ++ q.C o) [] F H := S
  obtain ⟨L, hk, hL⟩ := S.caps
  have eas : L.map Prod.fst = as := by rw [← hk.fst]; exact hfs o hp
  have ndL : (L.map Prod.fst).Nodup := by rw [eas]; exact CA.nd
  have e1 := env0_hid e0 ndL hL
  have hLs : ∀ p ∈ L, s.heap.get? p.1 = some p.2 := fun p hp => (e0.hok _ _ (hL p hp)).1
  have hLf : ∀ p ∈ L, p.1 ∉ frs outer := fun p hp z => by
    have q := e0.frf _ z
    rw [hL p hp] at q
    cases q
  have SR := S.hidR hk hL
  refine codeAny_mono (R := CR (L2.CX Pg w) outer Pg w (hid L H) s (fun v H' => ∃ F' C' ρ, q.R o C' ρ ∧ Sta tb (Fx.of F (hid L H) (q.C o)) [] C' [] F' H' ∧ ρ.on F' v) (fun cls d H' => ∃ C' F', q.XP o cls C' ∧ Sta tb (Fx.of F (hid L H) (q.C o)) [] C' [] F' H')) ?_ fun r s' h =>
    cr_show ndL (fun p hp => ⟨hLs p hp, hL p hp, hLf p hp⟩) h (fun v H' hn ⟨F', C', ρ, r, S', o'⟩ => kR v F' _ _ ρ ⟨C', rfl, r⟩ (S.showR hk hL S' hn) o') fun cls d H' hn ⟨C', F', r, S'⟩ => kX cls d F' _ _ ⟨C', rfl, r⟩ (S.showR hk hL S' hn)
  obtain ⟨od, sl, pm, ctv, ho⟩ := lamO_at hf
  obtain ⟨ws, w1, w2⟩ := hk.vals
  have hl : vs.length = ps.length := by rw [← ha.length]; exact len o
  have wl : ws.length = fr.length := by
    rw [← w1.length, List.length_map, ← CA.len, ← hfs o hp, List.length_map]
  have CellsK : CellsAt G.cl fr (ws.map some) s.heap (hid L H) := by
    have inL : ∀ {i : Nat} {c : Addr}, as[i]? = some c → ∃ p, L[i]? = some p ∧ p.1 = c := fun {i c} e => by
      rw [← eas, List.getElem?_map] at e
      cases q : L[i]? with
      | none => rw [q] at e; cases e
      | some p =>
        rw [q] at e
        cases e
        exact ⟨p, rfl, rfl⟩
    refine ⟨by rw [List.length_map, wl], fun y c e => ?_, fun x y c e1 e2 => ?_, fun i y e => ?_⟩
    · obtain ⟨i, h1, h2⟩ := CA.sub y c e
      obtain ⟨p, p1, p2⟩ := inL h2
      have pm := List.mem_of_getElem? p1
      refine ⟨hid_in (List.mem_map.mpr ⟨p, pm, p2⟩), ?_⟩
      have hi : i < ws.length := by
        rw [wl, ← CA.len]
        exact (List.getElem?_eq_some_iff.mp h2).1
      obtain ⟨p', u, q1, q2, q3⟩ := w2 i _ (List.getElem?_eq_getElem hi)
      rw [p1] at q1
      cases q1
      exact ⟨some u, p.2, by rw [← p2]; exact hLs p pm, q2⟩
    · obtain ⟨i, h1, h2⟩ := CA.sub x c e1
      obtain ⟨i', h3, h4⟩ := CA.sub y c e2
      have ei : i = i' := (List.getElem?_inj (List.getElem?_eq_some_iff.mp h2).1 CA.nd).mp (h2.trans h4.symm)
      subst ei
      rw [h1] at h3
      exact Option.some.inj h3
    · obtain ⟨a, h1, h2⟩ := CA.has i y e
      refine ⟨a, h2, fun v ev => ?_⟩
      rw [List.getElem?_map] at ev
      cases q : ws[i]? with
      | none => rw [q] at ev; cases ev
      | some v' =>
        rw [q] at ev
        cases ev
        obtain ⟨p, u, q1, q2, q3⟩ := w2 i v q
        obtain ⟨p', p1, p2⟩ := inL h1
        rw [q1] at p1
        cases p1
        exact ⟨u, q3, p.2, by rw [← p2]; exact hLs p (List.mem_of_getElem? q1), q2⟩
  have lim : s.heap.NoLimit := e1.mod.nolimit.keeps fun b o e => (e1.bs b o e).1
  refine PySem.W.kla_callFunE hr.depth ho rfl Sc.co Sc.gen rfl (codeO_at' hc) ?_
  rw [hb pm ctv us (by rw [← r.length]; exact hl)]
  refine wpAny_pure (wpAny_newFunctionEnv Sc.nocell (fun ⟨n, _⟩ hy => Sc.par n (List.of_mem_zip hy).1) (fun h₁ hns hsb => ⟨lim.fresh _ hsb, ?_⟩) Sc.kind)
  show codeAny _ _ (.expr body (envF G f s.heap.objs.size)) _ _
  have kp : ∀ b o, s.heap.get? b = some o → h₁.get? b = some o := fun b o e => hsb.extBut b o (Nat.ne_of_lt (Heap.lt_size e)) (Heap.get?_push_of_some _ e)
  have tk : ∀ E : XK, Takes (ncx (L2.CX Pg w) Pg w K mg base N G f A outer s (hid L H) E) (fun cls d _ H => E cls d H) := fun E => takes_of rfl rfl rfl rfl
  have xw : XW ⟨ncx (L2.CX Pg w) Pg w K mg base N G f A outer s (hid L H) (fun cls d H' => ∃ C' F', q.XP o cls C' ∧ Sta tb (Fx.of F (hid L H) (q.C o)) [] C' [] F' H'), tb, q.XP o⟩ (Fx.of F (hid L H) (q.C o)) := (tk _).imp fun cls d σ H' ⟨C', F', h1, S'⟩ => ⟨C', F', h1, S'⟩
  have I : Inv (ncx (L2.CX Pg w) Pg w K mg base N G f A outer s (hid L H) (fun cls d H' => ∃ C' F', q.XP o cls C' ∧ Sta tb (Fx.of F (hid L H) (q.C o)) [] C' [] F' H')) [] (startF N vs (ws.map some)) (hid L H) { s with heap := h₁, toks := s.toks + (ps.zip us).length } := inv_startN Sc hr.hd e1 hl r CellsK hns kp
  have env : EnvOk ((q.ps o).map some ++ (((caps o).map Prod.snd).map some ++ List.replicate (N.length - ps.length - fr.length) none)) F (startF N vs (ws.map some)) := by
    unfold startF
    rw [List.length_map, wl, hl]
    exact (EnvOk.all ha).app ((EnvOk.all w1).app (EnvOk.nones _))
  refine PySem.W.kla_codeExpr (wpAny_mono (hbody o f A outer s (hid L H) _ hp (hr.deeper _) (Fx.of F (hid L H) (q.C o)) _ F (hid L H) (fun v H' => ∃ F' C' ρ, q.R o C' ρ ∧ Sta tb (Fx.of F (hid L H) (q.C o)) [] C' [] F' H' ∧ ρ.on F' v) xw (SR.env' env) (fun v F' H' C' ρ r S' s' o' => ⟨F', C', ρ, r, S'.noenv, o'⟩) [] _ I) (fun v s' hq => ?_) fun e s' hq => hq)
  obtain ⟨w', H', J', rv, q⟩ := hq
  exact ⟨w', H', J'.os, J'.bare, J'.base, J'.hok, rv, q⟩
end Z

end
section
set_option Elab.async false
set_option linter.all false
set_option maxRecDepth 100000
/-! Z15: calls that show captured names. -/
namespace Z
open PySem PySem.Spec PyProof.Rows L2 LamX NdefX
def cellAt (X : L2.Cx) (y : Str) : Addr := (X.env.cells.lookup y).getD 0
/-- names that a def's own frame holds in cells: the slots, the names -/
structure Owns (X : L2.Cx) (is : List (Nat × Str)) : Prop where
  ix : ∀ q ∈ is, X.N[q.1]? = some q.2 ∧ X.fn q.2 = true ∧ X.env.scope.names.lookup q.2 = some .cell
  nd : (is.map Prod.snd).Nodup
def SlotR (X : L2.Cx) (σ : L2.St) (q : Nat × Str) (p : Addr × Obj) : Prop := p.1 = cellAt X q.2 ∧ ∀ v, σ[q.1]? = some (some v) → ∃ u, p.2.data = .cell (some u) ∧ RelV v u
def CapR (X : L2.Cx) (Γ : Gm) (q : Nat × Str) (c : Addr × Pr) : Prop := c.1 = cellAt X q.2 ∧ Γ[q.1]? = some (some c.2)
theorem caps_ok {X : L2.Cx} {σ : L2.St} {Γ : Gm} {F : Hp} (E : EnvOk Γ F σ) : ∀ {is : List (Nat × Str)} {L : CL} {cs : List (Addr × Pr)}, Paired (SlotR X σ) is L → Paired (CapR X Γ) is cs → CapsOk F cs L
  | _, _, _, .nil, .nil => .nil
  | _, _, _, .cons a b, .cons c d => by
    refine .cons ⟨c.1.trans a.1.symm, ?_⟩ (caps_ok E b d)
    obtain ⟨v, h1, h2⟩ := E.at_ _ _ c.2
    obtain ⟨u, h3, h4⟩ := a.2 v h1
    exact ⟨u, v, h3, h4, h2⟩
theorem slots_fst {X : L2.Cx} {σ : L2.St} : ∀ {is : List (Nat × Str)} {L : CL}, Paired (SlotR X σ) is L → L.map Prod.fst = is.map fun q => cellAt X q.2
  | _, _, .nil => rfl
  | _, _, .cons a b => by rw [List.map_cons, List.map_cons, a.1, slots_fst b]
section
variable {X : L2.Cx} {pins : List (Addr × Obj)} {σ : L2.St} {H : Hp} {s : Shared} {is : List (Nat × Str)}
/-- what is true of a shown cell -/
def Shown (X : L2.Cx) (H : Hp) (s : Shared) (p : Addr × Obj) : Prop := s.heap.get? p.1 = some p.2 ∧ H p.1 = none ∧ p.1 ∉ frs X.stack ∧ X.base.get? p.1 = none
theorem inv_caps (I : Inv X pins σ H s) (O : Owns X is) : ∃ L : CL, Paired (SlotR X σ) is L ∧ (L.map Prod.fst).Nodup ∧ ∀ p ∈ L, Shown X H s p := by
  have at_ : ∀ q ∈ is, ∃ c, X.env.cells.lookup q.2 = some c := fun q hq => I.ok.has _ (.inl (O.ix q hq).2.2)
  have one : ∀ q ∈ is, ∃ p : Addr × Obj, SlotR X σ q p ∧ Shown X H s p := fun q hq => by
    obtain ⟨c, hc⟩ := at_ q hq
    obtain ⟨o1, o2, o3⟩ := O.ix q hq
    obtain ⟨v, ob, ho, hd⟩ := I.cell _ c hc
    have ec : cellAt X q.2 = c := by unfold cellAt; rw [hc]; rfl
    have ge := I.ok.cab _ c o2 hc
    refine ⟨(c, ob), ⟨ec.symm, fun v' e => ?_⟩, ho, I.freeC _ c hc, fun z => ?_, Heap.get?_none_of_le (Nat.le_trans I.ok.bsz ge)⟩
    · obtain ⟨m, hn, hl⟩ := I.loc
      obtain ⟨u, r, l⟩ := hl q.1 q.2 v' o1 e (.inr (.inl o3))
      rcases l with ⟨z, _⟩ | ⟨_, c', hc', ob', ho', hd'⟩
      · have z' : X.env.scope.names.lookup q.2 = some .local := z
        rw [o3] at z'
        cases z'
      · rw [hc] at hc'
        cases hc'
        rw [ho] at ho'
        cases ho'
        exact ⟨u, hd', r⟩
    · rcases List.mem_cons.mp (I.stkSub _ z) with e | e
      · exact I.cne _ c hc e
      · obtain ⟨_, o, ho', _⟩ := I.ok.funs.mem e
        exact absurd (Nat.lt_of_lt_of_le (Heap.lt_size ho') ge) (Nat.lt_irrefl _)
  have build : ∀ js : List (Nat × Str), (∀ q ∈ js, q ∈ is) → ∃ L : CL, Paired (SlotR X σ) js L ∧ ∀ p ∈ L, Shown X H s p := fun js => by
    induction js with
    | nil => exact fun _ => ⟨[], .nil, fun p hp => by simp at hp⟩
    | cons q js ih =>
      intro h
      obtain ⟨L, h1, h2⟩ := ih fun r hr => h r (by simp [hr])
      obtain ⟨p, g1, g2⟩ := one q (h q (by simp))
      exact ⟨p :: L, .cons g1 h1, fun p' hp => by
        rcases List.mem_cons.mp hp with z | z
        · rw [z]; exact g2
        · exact h2 p' z⟩
  obtain ⟨L, h1, h2⟩ := build is fun q h => h
  refine ⟨L, h1, ?_, h2⟩
  rw [slots_fst h1]
  have e2 : (is.map fun q => cellAt X q.2) = (is.map Prod.snd).map (cellAt X) := by rw [List.map_map]; rfl
  rw [e2]
  have inj : ∀ x ∈ is.map Prod.snd, ∀ y ∈ is.map Prod.snd, cellAt X x = cellAt X y → x = y := fun x hx y hy e => by
    obtain ⟨q, hq, rfl⟩ := List.mem_map.mp hx
    obtain ⟨q', hq', rfl⟩ := List.mem_map.mp hy
    obtain ⟨c, hc⟩ := at_ q hq
    obtain ⟨c', hc'⟩ := at_ q' hq'
    unfold cellAt at e
    rw [hc, hc'] at e
    have e : c = c' := e
    subst e
    exact I.ok.inj _ _ c hc hc'
  have nd := O.nd
  generalize is.map Prod.snd = ys at nd inj
  clear e2
  induction ys with
  | nil => exact List.nodup_nil
  | cons y ys ih =>
    rw [List.nodup_cons] at nd
    rw [List.map_cons, List.nodup_cons]
    refine ⟨fun z => ?_, ih nd.2 fun x hx y' hy => inj x (List.mem_cons_of_mem _ hx) y' (List.mem_cons_of_mem _ hy)⟩
    obtain ⟨y', hy', e⟩ := List.mem_map.mp z
    have := inj y' (by simp [hy']) y (by simp) e
    subst this
    exact nd.1 hy'
end
/-! ### the calls -/
def QX (L : CL) (Q : VK) : VK := fun v H' => (∀ p ∈ L, H' p.1 = some (frzC p.2)) → Q v (hid L H')
def EX (L : CL) (E : XK) : XK := fun cls d H' => (∀ p ∈ L, H' p.1 = some (frzC p.2)) → E cls d (hid L H')
section
variable {X : L2.Cx} {k : Nat} {f C : Addr} {fd : FuncData} {ps : List Str} {sp : Sp} {E : XK} {x m : Str} {p pos apos : Pos} {e o : Expr} {es : List Expr} {ta : TE} {t : TA} {is : List (Nat × Str)}
theorem run_fnX {pins : List (Addr × Obj)} {σ : L2.St} {H : Hp} {s : Shared} {Q : VK} {us : List Value} {vs : List V} {L : CL} (F : FnOk X.prog X.w X.K X.mg X.base (L2.CX X.prog X.w) k f fd ps sp) (hr : Room k X.A) (hb : Binds X.K fd ps []) (hx : Passes (L2.CX X.prog X.w) X E)
    (I : Inv X pins σ H s) (r : Vals vs us) (nd : (L.map Prod.fst).Nodup) (hL : ∀ p ∈ L, Shown X H s p) (h : sp vs (shw L H) (QX L Q) (EX L E)) : wpAny (model X.prog X.w) X.A (call (.ref f) us) (EP X pins σ Q) X.xe s := by
  have hl : (us ++ []).length = ps.length := by rw [List.append_nil, ← r.length]; exact F.len _ _ _ _ h
  have hb' := hb s us I.kIn hl
  rw [List.append_nil] at hb'
  refine wpAny_call (codeAny_mono (F.run X.A X.stack s (shw L H) ⟨us, []⟩ us vs _ _ hr (env0_shw I.env0 nd hL) hb' r h) fun r s' hq => ?_)
  have hq := cr_hide (Q' := Q) (E' := E) nd (fun p hp => ⟨(hL p hp).1, (hL p hp).2.1, (hL p hp).2.2.1⟩) hq (fun v H' k q => q k) fun c d H' k q => q k
  cases r with
  | error e => exact hx pins σ H s e s' I hq
  | ok fl =>
    cases fl with
    | ret u => exact I.after hq
    | next => exact False.elim hq
    | brk => exact False.elim hq
    | cont => exact False.elim hq
/-- what is asked at the call: the shown cells come -/
def spX (X : L2.Cx) (is : List (Nat × Str)) (sp : Sp) (E : XK) (σ : L2.St) (vs : List V) (H : Hp) (Q : VK) : Prop := ∀ L : CL, Paired (SlotR X σ) is L → (L.map Prod.fst).Nodup → (∀ p ∈ L, H p.1 = none) → sp vs (shw L H) (QX L Q) (EX L E)
def tCallX (X : L2.Cx) (is : List (Nat × Str)) (sp : Sp) (E : XK) (t : TA) : TE := fun σ H Q => t σ H fun vs H1 => spX X is sp E σ vs H1 Q
def tMethX (X : L2.Cx) (is : List (Nat × Str)) (C : Addr) (m : Str) (sp : Sp) (E : XK) (ta : TE) (t : TA) : TE := fun σ H Q => ta σ H fun x H1 => ∃ a dx fs, x = .ref a ∧ H1 a = some (.ins C dx fs) ∧ fs.lookup m = none ∧ t σ H1 fun vs H2 => spX X is sp E σ (x :: vs) H2 Q
theorem run_spX {pins : List (Addr × Obj)} {σ : L2.St} {H : Hp} {s : Shared} {Q : VK} {us : List Value} {vs : List V} (F : FnOk X.prog X.w X.K X.mg X.base (L2.CX X.prog X.w) k f fd ps sp) (hr : Room k X.A) (hb : Binds X.K fd ps []) (hx : Passes (L2.CX X.prog X.w) X E) (O : Owns X is)
    (I : Inv X pins σ H s) (r : Vals vs us) (h : spX X is sp E σ vs H Q) : wpAny (model X.prog X.w) X.A (call (.ref f) us) (EP X pins σ Q) X.xe s := by
  obtain ⟨L, h1, h2, h3⟩ := inv_caps I O
  exact run_fnX F hr hb hx I r h2 h3 (h L h1 h2 fun p hp => (h3 p hp).2.1)
theorem pe_callX (F : FnOk X.prog X.w X.K X.mg X.base (L2.CX X.prog X.w) k f fd ps sp) (hr : Room k X.A) (hg : Gl X x) (hm : X.mg x = some (.ref f)) (hk : PySem.W.keepIn X.K (.ref f) = true) (hb : Binds X.K fd ps []) (hx : Passes (L2.CX X.prog X.w) X E) (O : Owns X is)
    (ha : PA X (e :: es) t) (hdb : (x == ("__debug__" : Str)) = false := by decide) (he : starEach (e :: es) X.env = (false, eval e X.env) :: starEach es X.env := by rfl) (hpl : (backTo pos (starEach es X.env)).any (·.1) = false := by rfl) :
    PE X (.Call (.Name x p) (e :: es) [] pos) (tCallX X is sp E t) := by
  refine ⟨fun pins s σ H Q I h => ?_⟩
  refine wpAny_Call_Name_kw (ld_glob I hg hm ?_ hdb)
  refine PySem.W.callWith_K (h₀ := X.base) I.ok.mod.kin hk (thn (ha.run pos pins s σ H _ I h) fun us s1 ⟨vs, H1, I1, r, q⟩ => ⟨I1.kIn, ?_⟩) he hpl
  exact run_spX F hr hb hx O I1 r q
theorem pe_methX {pl : Sem Bool} (he : PE X o ta) (c : Cls X.K C) (hm : Meth X.K C m f) (F : FnOk X.prog X.w X.K X.mg X.base (L2.CX X.prog X.w) k f fd ps sp) (hr : Room k X.A) (hb : Binds X.K fd ps []) (hx : Passes (L2.CX X.prog X.w) X E) (O : Owns X is) (ha : PA X (e :: es) t)
    (hst : starEach (e :: es) X.env = (false, eval e X.env) :: starEach es X.env := by rfl) (hpl : (backTo pos (starEach es X.env)).any (·.1) = false := by rfl)
    (ht : eval (.Call (.Attribute o m apos) (e :: es) [] pos) X.env = (do
      let ov ← eval o X.env
      standAt apos.atName
      let (f, first) ← holding [ov] (getMethod ov m pl)
      callWith pos f first (backTo pos (starEach (e :: es) X.env)) (backToKw pos (keywordEach [] X.env))) := by rfl) :
    PE X (.Call (.Attribute o m apos) (e :: es) [] pos) (tMethX X is C m sp E ta t) := by
  refine ⟨fun pins s σ H Q I h => ?_⟩
  refine PySem.W.methodCall_KW (pl := pl) (thn (he.run pins s σ H _ I h) fun u s1 ⟨x, H1, I1, rx, a, dx, fs, ex, ea, l, q⟩ => ?_) ht
  subst ex
  obtain rfl : u = Value.ref a := rx
  refine getmeth_ok I1 ea c hm l ?_
  refine PySem.W.callWith_K (first := [.ref a]) (h₀ := X.base) I.ok.mod.kin hm.kp (thn (ha.run pos pins s1 σ H1 _ I1 q) fun us s2 ⟨vs, H2, I2, r, q2⟩ => ⟨I2.kIn, ?_⟩) hst hpl
  exact run_spX (us := .ref a :: us) (vs := .ref a :: vs) F hr hb hx O I2 (.cons rfl r) q2
end
section
variable {ω : Type} {tb : Tb} {p : Prom ω}
theorem sp_mono {vs : List V} {H : Hp} {Q Q' : VK} {E E' : XK} (h : p.sp tb vs H Q E) (kQ : ∀ v H, Q v H → Q' v H) (kE : ∀ c d H, E c d H → E' c d H) : p.sp tb vs H Q' E' := by
  obtain ⟨o, F, h1, h2, h3, h4, h5⟩ := h
  exact ⟨o, F, h1, h2, h3, fun v F' H' C' ρ r S o => kQ _ _ (h4 v F' H' C' ρ r S o), fun c d F' H' C' r S => kE _ _ _ (h5 c d F' H' C' r S)⟩
/-- what must follow a call that showed cs -/
def AwayX (j : J) (p : Prom ω) (o : ω) (Cr : List Cell) (cs : List (Addr × Pr)) (R : Ps) : Prop := (∀ C' ρ, p.R o C' ρ → ∃ C'', (C' ++ Cr).Perm (capsC cs ++ C'') ∧ R C'' ρ) ∧ ∀ cls C', p.XP o cls C' → ∃ C'', (C' ++ Cr).Perm (capsC cs ++ C'') ∧ j.XP cls C''
variable {j : J} {Γ : Gm} {C : List Cell} {R : Ps} {pos ppos apos : Pos} {e ob : Expr} {es : List Expr} {x : Str} {k : Nat} {f : Addr} {fd : FuncData} {ps : List Str} {is : List (Nat × Str)}
theorem sp_callX {Φ : Fx} {σ : L2.St} {F H : Hp} {Q : VK} {vs : List V} {o : ω} {Cr : List Cell} {cs : List (Addr × Pr)} (S : Sta j.tb Φ Γ C σ F H) (K : Kv j Φ Γ σ F R Q) (hp : p.pre o) (ha : AllOn (p.ps o) F vs) (hcs : Paired (CapR j.X Γ) is cs)
    (hc : (capsC cs ++ C).Perm (p.C o ++ Cr)) (aw : AwayX j p o Cr cs R) : spX j.X is (p.sp j.tb) (fun cls _ H => ∃ C F, j.XP cls C ∧ Sta j.tb Φ [] C [] F H) σ vs H Q := by
  intro L hs nd hn
  have hk := caps_ok S.env hs hcs
  have S1 := S.shw hk hn nd
  have h0 : ∀ p ∈ L, Φ.H0 p.1 = none := fun p hp => S.there _ (hn p hp)
  have K1 : Kv j Φ Γ σ F (fun C' ρ => ∃ C'', C'.Perm (capsC cs ++ C'') ∧ R C'' ρ) (QX L Q) := fun v F' H' C' ρ ⟨C'', pm, r⟩ S' s' o' hL => K v F' _ C'' ρ r ((S'.perm pm).hid (hk.mono s') hL h0) s' o'
  have S2 := S1.perm hc
  exact ⟨o, F, hp, ha, S2.part, fun v F' H' C' ρ r S' o' => K1 v F' H' _ ρ (aw.1 C' ρ r) (S2.join S') S'.base o', fun cls d F' H' C' r S' hL => by
    obtain ⟨C'', pm, x⟩ := aw.2 cls C' r
    exact ⟨C'', F', x, (((S2.join S').perm pm).hid (hk.mono S'.base) hL h0).noenv⟩⟩
/-- f(e, ..), a closure among what is handed -/
theorem ev_callX (is : List (Nat × Str)) (Fn : FnOk j.X.prog j.X.w j.X.K j.X.mg j.X.base (L2.CX j.X.prog j.X.w) k f fd ps (p.sp j.tb)) (hr : Room k j.X.A) (hm : j.X.mg x = some (.ref f)) (hk : PySem.W.keepIn j.X.K (.ref f) = true) (hb : Binds j.X.K fd ps []) (O : Owns j.X is)
    (h : Ea j Γ C (e :: es) fun C1 qs => ∃ o Cr cs, Paired (CapR j.X Γ) is cs ∧ p.pre o ∧ qs = p.ps o ∧ (capsC cs ++ C1).Perm (p.C o ++ Cr) ∧ AwayX j p o Cr cs R)
    (hg : Gl j.X x := by rfl) (hdb : (x == ("__debug__" : Str)) = false := by decide) (he : starEach (e :: es) j.X.env = (false, eval e j.X.env) :: starEach es j.X.env := by rfl) (hpl : (backTo pos (starEach es j.X.env)).any (·.1) = false := by rfl) :
    Ev j Γ C (.Call (.Name x ppos) (e :: es) [] pos) R := fun Φ σ F H Q xw S K =>
  we_of (pe_callX Fn hr hg hm hk hb (takes_w xw) O pa_wa hdb he hpl) (h Φ σ F H _ xw S fun vs F1 H1 C1 qs ⟨o, Cr, cs, hcs, hp, eq, hc, aw⟩ S1 s1 o1 => by
    subst eq
    exact sp_callX S1 (K.same s1) hp o1 hcs hc aw)
/-- o.m(e, ..) -/
theorem ev_methX (is : List (Nat × Str)) {Cl : Addr} {m : Str} (Fn : FnOk j.X.prog j.X.w j.X.K j.X.mg j.X.base (L2.CX j.X.prog j.X.w) k f fd ps (p.sp j.tb)) (hr : Room k j.X.A) (cl : Cls j.X.K Cl) (hm : Meth j.X.K Cl m f) (hb : Binds j.X.K fd ps []) (O : Owns j.X is)
    (h : Ev j Γ C ob fun C0 q0 => InsOk j C0 q0 Cl m ∧ Ea j Γ C0 (e :: es) fun C1 qs => ∃ o Cr cs, Paired (CapR j.X Γ) is cs ∧ p.pre o ∧ q0 :: qs = p.ps o ∧ (capsC cs ++ C1).Perm (p.C o ++ Cr) ∧ AwayX j p o Cr cs R) {pl : Sem Bool}
    (hst : starEach (e :: es) j.X.env = (false, eval e j.X.env) :: starEach es j.X.env := by rfl) (hpl : (backTo pos (starEach es j.X.env)).any (·.1) = false := by rfl)
    (ht : eval (.Call (.Attribute ob m apos) (e :: es) [] pos) j.X.env = (do
      let ov ← eval ob j.X.env
      standAt apos.atName
      let (f, first) ← holding [ov] (getMethod ov m pl)
      callWith pos f first (backTo pos (starEach (e :: es) j.X.env)) (backToKw pos (keywordEach [] j.X.env))) := by rfl) :
    Ev j Γ C (.Call (.Attribute ob m apos) (e :: es) [] pos) R := fun Φ σ F H Q xw S K =>
  we_of (pe_methX pe_we cl hm Fn hr hb (takes_w xw) O pa_wa hst hpl ht) (h Φ σ F H _ xw S fun v F0 H0 C0 q0 ⟨io, ha⟩ S0 s0 o0 => by
    obtain ⟨a, dx, fs, ev, h1, h2⟩ := io _ _ _ _ _ _ _ S0 o0
    refine ⟨a, dx, fs, ev, h1, h2, ha Φ σ F0 H0 _ xw S0 fun vs F1 H1 C1 qs ⟨o, Cr, cs, hcs, hp, eq, hc, aw⟩ S1 s1 o1 => ?_⟩
    exact sp_callX S1 (K.same (s0.trans s1)) hp (by rw [← eq]; exact .cons (q0.mono s1 o0) o1) hcs hc aw)
end
end Z

end
section
set_option Elab.async false
set_option linter.all false
set_option maxRecDepth 100000
/-! Z16: cells reordered and dropped, targets, displays, more loops, try. -/
namespace Z
open PySem PySem.Spec PyProof.Rows L2
open PySem.W (Datum Tup)
open Rep (pr)
section
variable {tb : Tb} {Φ : Fx} {Γ : Gm} {C C' D' : List Cell} {σ : L2.St} {F H : Hp} {D : Addr} {o u : HO}
theorem Sta.drop (S : Sta tb Φ Γ (C ++ D') σ F H) : Sta tb Φ Γ C σ F H :=
  ⟨S.env, ⟨fun c hc => S.cells.at_ c (List.mem_append_left _ hc), by
    have nd := S.cells.nd
    rw [List.map_append] at nd
    exact (List.nodup_append.mp nd).1⟩, S.sub, S.fine, S.tab, S.base, S.fresh, S.keep, fun c hc => S.own c (List.mem_append_left _ hc), S.there⟩
theorem Sta.keepC (S : Sta tb Φ Γ C σ F H) (p : C.Perm (C' ++ D')) : Sta tb Φ Γ C' σ F H := (S.perm p).drop
/-- what stands beside becomes a cell -/
theorem Sta.besideC (S : Sta tb Φ Γ C σ F H) {c : Cell} (hD : H c.a = some o) (hF : F c.a = none) (h0 : Φ.H0 c.a = none) (hC : c.a ∉ C.map (·.a)) (ho : c.on F o) : Sta tb Φ Γ (c :: C) σ F H := by
  refine ⟨S.env, ⟨fun d hd => ?_, ?_⟩, S.sub, S.fine, S.tab, S.base, S.fresh, S.keep, fun d hd => ?_, S.there⟩
  · rcases List.mem_cons.mp hd with z | z
    · subst z
      exact ⟨o, hD, ho, hF⟩
    · exact S.cells.at_ d z
  · rw [List.map_cons, List.nodup_cons]
    exact ⟨hC, S.cells.nd⟩
  · rcases List.mem_cons.mp hd with z | z
    · subst z
      exact .inr h0
    · exact S.own d z
/-- what a step keeps beside -/
theorem Sta.besideKeep {Γ2 : Gm} {C1 C2 : List Cell} {σ2 : L2.St} {F1 F2 H1 H2 : Hp} (S' : Sta tb (Fx.of F1 H1 C1) Γ2 C2 σ2 F2 H2) (h1 : H1 D = some o) (nt : NoTbl o) (h2 : F1 D = none) (h3 : D ∉ C1.map (·.a)) : H2 D = some o ∧ F2 D = none ∧ D ∉ C2.map (·.a) := by
  refine ⟨S'.keep D _ h1 nt h3, ?_, fun z => ?_⟩
  · cases e : F2 D with
    | none => rfl
    | some w =>
      have := S'.fresh D w e h2
      rw [show (Fx.of F1 H1 C1).H0 D = H1 D from rfl, h1] at this
      cases this
  · obtain ⟨c, hc, ec⟩ := List.mem_map.mp z
    rcases S'.own c hc with w | w
    · rw [ec] at w; exact h3 w
    · rw [ec, show (Fx.of F1 H1 C1).H0 D = H1 D from rfl, h1] at w; cases w
end
section
variable {ω : Type} {j : J} {Γ Γ' : Gm} {C C' D' : List Cell} {R : Ps} {p q : Pr} {ps qs : List Pr} {P : Po} {rest body : List Stmt} {pos pos' pos2 : Pos} {e a b o ke : Expr} {es : List Expr} {sts : List Stmt}
theorem tr_keep (h : C.Perm (C' ++ D')) (t : Tr j Γ C' sts P) : Tr j Γ C sts P := fun Φ σ F H x S => t Φ σ F H x (S.keepC h)
theorem ev_keep (h : C.Perm (C' ++ D')) (t : Ev j Γ C' e R) : Ev j Γ C e R := fun Φ σ F H Q x S K => t Φ σ F H Q x (S.keepC h) K
theorem tr_perm (h : C.Perm C') (t : Tr j Γ C' sts P) : Tr j Γ C sts P := fun Φ σ F H x S => t Φ σ F H x (S.perm h)
theorem ev_perm (h : C.Perm C') (t : Ev j Γ C' e R) : Ev j Γ C e R := fun Φ σ F H Q x S K => t Φ σ F H Q x (S.perm h) K
/-- behind a value, cells reordered -/
theorem ev_end (h : Ev j Γ C e fun C1 z => ∃ C2 D2, C1.Perm (C2 ++ D2) ∧ R C2 z) : Ev j Γ C e R := fun Φ σ F H Q x S K =>
  h Φ σ F H Q x S fun v F1 H1 C1 z ⟨C2, D2, hp, r⟩ S1 s1 o1 => K v F1 H1 _ z r (S1.keepC hp) s1 o1
/-! ### targets -/
variable {N : Gm → List Cell → Prop}
theorem eg_lift {tg : Expr} {g : TG} (h : PG j.X tg g) (k : ∀ Φ σ F H v (Q : L2.St → Hp → Prop), XW j Φ → Sta j.tb Φ Γ C σ F H → p.on F v → (∀ Γ' C' σ' F' H', N Γ' C' → Sta j.tb Φ Γ' C' σ' F' H' → L2.Same F F' → Q σ' H') → g v σ H Q) : Eg j Γ C tg p N :=
  fun Φ σ F H v Q x S o K pins s u I r => h.run pins s σ H v u Q I r (k Φ σ F H v Q x S o K)
/-- o[k] = .. -/
theorem eg_sub (hu : j.X.A.units + 1 < cLine) {xo : Expr} (h : Ev j Γ C xo fun C2 r => Ev j Γ C2 ke fun C3 kp => SetOk j r kp p C3 fun C4 => N Γ C4)
    (ha : ∀ v, assign (.Subscript xo ke pos') j.X.env v = (do
      let ov ← holding [v] (eval xo j.X.env)
      let iv ← holding [v, ov] (eval ke j.X.env)
      standAt pos'
      holding [v, ov, iv] (setItem ov iv v)
      release [v, ov, iv] []) := by intro _; rfl) : Eg j Γ C (.Subscript xo ke pos') p N :=
  eg_lift (pg_sub pe_we pe_we (set_all hu) ha) fun Φ σ F H v Q x S o1 K => h Φ σ F H _ x S fun w F2 H2 C2 r r2 S2 s2 o2 => r2 Φ σ F2 H2 _ x S2 fun u F3 H3 C3 kp so S3 s3 o3 =>
    so _ _ _ _ _ _ _ _ _ _ S3 (r.mono s3 o2) o3 (p.mono (s2.trans s3) o1) fun C4 H4 t S4 => K _ _ _ _ _ t S4 (s2.trans s3)
/-- o.f = .. -/
def gFld (K : PySem.W.Frag) (to : TE) (f : Str) : TG := fun v σ H Q => to σ H fun x H1 => ∃ a C dx fs, x = .ref a ∧ H1 a = some (.ins C dx fs) ∧ Cls K C ∧ NoAttr K C f ∧ fs.length < 1000 ∧ Q σ (upd H1 a (.ins C dx (putF f v fs)))
theorem pg_fld {X : L2.Cx} {o : Expr} {to : TE} {f : Str} {pos : Pos} (ho : PE X o to) : PG X (.Attribute o f pos) (gFld X.K to f) := by
  refine ⟨fun pins s σ H v u Q I r h => ?_⟩
  rw [arm_assign_Attribute]
  refine wpAny_bind (wpAny_holding (thn (ho.run pins s σ H _ I h) fun ov s1 ⟨x, H1, I1, rx, a, C, dx, fs, ex, ea, c, n, l, q⟩ => ?_))
  subst ex
  obtain rfl : ov = Value.ref a := rx
  refine wpAny_bind (wpAny_standAt (wpAny_bind (wpAny_holding (setattr_ok I1 ea c n l r fun s3 I3 => ?_))))
  exact wpAny_release ⟨σ, _, I3, q⟩
theorem eg_fld (i : Nat) {f : Str} {Cl : Addr} {fns : List Str} (cl : Cls j.X.K Cl) (na : NoAttr j.X.K Cl f) (nd : fns.Nodup) (hn : fns[i]? = some f) (hl : fns.length < 1000)
    (h : Ev j Γ C o fun C2 q => ∃ m ps k, q = isR m ∧ C2[k]? = some (cI m Cl fns ps) ∧ N Γ (C2.set k (cI m Cl fns (ps.set i p)))) : Eg j Γ C (.Attribute o f pos') p N :=
  eg_lift (pg_fld pe_we) fun Φ σ F H v Q x S o1 K => h Φ σ F H _ x S fun w F2 H2 C2 q ⟨m, ps, k, ep, hc, t⟩ S2 s2 o2 => by
    subst ep
    obtain ⟨dx, fs, h1, n, h2⟩ := S2.ins (List.mem_of_getElem? hc)
    subst n
    refine ⟨m, Cl, dx, fs, o2, h1, cl, na, by simpa using hl, ?_⟩
    refine K _ _ _ _ _ t (S2.puti hc rfl h1 (fun _ z => nomatch z) ⟨dx, putF f v fs, rfl, ?_, ?_⟩) s2
    · rw [putF_at nd hn, map_set_self Prod.fst (by exact hn)]
    · rw [putF_at nd hn, map_set_snd]
      exact h2.set i (p.mono s2 o1)
/-- targets one after another -/
def EgL (j : J) (Γ : Gm) (C : List Cell) (ts : List Expr) (ps : List Pr) (N : Gm → List Cell → Prop) : Prop := ∀ Φ σ F H vs (Q : L2.St → Hp → Prop), XW j Φ → Sta j.tb Φ Γ C σ F H → AllOn ps F vs → (∀ Γ' C' σ' F' H', N Γ' C' → Sta j.tb Φ Γ' C' σ' F' H' → L2.Same F F' → Q σ' H') →
  ∀ (pins : Pins) (s : Shared) (us : List Value), Inv j.X pins σ H s → Vals vs us → wpAny (model j.X.prog j.X.w) j.X.A (assignInOrder ((assignEach ts j.X.env).map (·.2)) us) (fun _ s' => ∃ σ' H', Inv j.X pins σ' H' s' ∧ Q σ' H') j.X.xe s
theorem egl_nil (h : N Γ C) : EgL j Γ C [] [] N := fun Φ σ F H vs Q x S o K pins s us I r => by
  cases o
  cases r
  exact assignInOrder_nil ⟨σ, H, I, K _ _ _ _ _ h S (L2.Same.refl F)⟩
theorem egl_cons {t : Expr} {ts : List Expr} (h : Eg j Γ C t p fun Γ1 C1 => EgL j Γ1 C1 ts ps N) (hs : (assignEach (t :: ts) j.X.env).map (·.2) = assign t j.X.env :: (assignEach ts j.X.env).map (·.2) := by rfl) : EgL j Γ C (t :: ts) (p :: ps) N := fun Φ σ F H vs Q x S o K pins s us I r => by
  cases o with
  | cons o1 o2 =>
    cases r with
    | cons r1 r2 =>
      rw [hs]
      refine assignInOrder_cons ?_
      refine wpAny_mono (h Φ σ F H _ (fun σ' H' => ∃ Γ1 C1 F1, EgL j Γ1 C1 ts ps N ∧ Sta j.tb Φ Γ1 C1 σ' F1 H' ∧ L2.Same F F1) x S o1 (fun Γ1 C1 σ1 F1 H1 n S1 s1 => ⟨Γ1, C1, F1, n, S1, s1⟩) pins s _ I r1) (fun _ s' ⟨σ1, H1, I1, Γ1, C1, F1, n, S1, s1⟩ => ?_) fun _ _ h => h
      exact n Φ σ1 F1 H1 _ Q x S1 (AllOn.mono s1 o2) (fun Γ' C' σ' F' H' k S' s' => K Γ' C' σ' F' H' k S' (s1.trans s')) pins s' _ I1 r2
/-- (t, ..) = .. -/
theorem eg_tup {ts : List Expr} {k n : Nat} (hc : j.X.calm = true) (hp : TupOk j p ps) (hl : ps.length = n) (h : EgL j Γ C ts ps N) (hn : (assignEach ts j.X.env).length = n := by rfl) (hst : (assignEach ts j.X.env).findIdx? (·.1) = none := by rfl) : Eg j Γ C (.Tuple ts k pos) p N :=
  eg_lift (pg_tup (t := fun vs σ H Q => ∀ (pins : Pins) (s : Shared) (us : List Value), Inv j.X pins σ H s → Vals vs us → wpAny (model j.X.prog j.X.w) j.X.A (assignInOrder ((assignEach ts j.X.env).map (·.2)) us) (fun _ s' => ∃ σ' H', Inv j.X pins σ' H' s' ∧ Q σ' H') j.X.xe s) hc
    ⟨fun pins s σ H vs us Q I r h => h pins s us I r⟩ hn hst) fun Φ σ F H v Q x S o K => by
    obtain ⟨l, vs, ev, h1, h2⟩ := hp _ _ _ _ _ _ _ _ S o
    exact ⟨l, vs, ev, h1, by rw [← h2.length]; exact hl, h Φ σ F H vs Q x S h2 K⟩
/-- t = e, t any target -/
theorem tr_asg {t : Expr} (h : Ev j Γ C e fun C1 p => Eg j Γ C1 t p fun Γ2 C2 => Tr j Γ2 C2 rest P) (hs : swapsWithSole [t] e pos.line j.X.env = pure false := by rfl) (hw : swappedStores [t] e j.X.env = pure none := by rfl)
    (h1 : (assignEach [t] j.X.env).map (·.2) = [assign t j.X.env] := by rfl) : Tr j Γ C (.Assign [t] e pos :: rest) P :=
  tr_lift (ps_asg pe_we pg_wg hs hw h1) fun Φ σ F H x S => h Φ σ F H _ x S fun v F1 H1 C1 p g S1 s1 o1 => g Φ σ F1 H1 v _ x S1 o1 fun Γ2 C2 σ2 F2 H2 t2 S2 s2 => t2 Φ σ2 F2 H2 x S2
/-- x, y = a, b: two plain names -/
theorem tr_par (i k : Nat) {x y : Str} {px py pt pt2 : Pos} {kt k2 : Nat} (h : Ea j Γ C [a, b] fun C1 qs => ∃ p q, qs = [p, q] ∧ Tr j ((Γ.set i (some p)).set k (some q)) C1 rest P) (hc : j.X.calm = true) (hN : j.X.N.Nodup) (hik : i ≠ k)
    (hw : swappedStores [.Tuple [.Name x px, .Name y py] kt pt] (.Tuple [a, b] k2 pt2) j.X.env = pure (some [x, y]) := by rfl) (hi : j.X.N[i]? = some x := by rfl) (hk : j.X.N[k]? = some y := by rfl)
    (hx : j.X.env.scope.names.lookup x = some .local := by rfl) (hy : j.X.env.scope.names.lookup y = some .local := by rfl) (hs : swapsWithSole [.Tuple [.Name x px, .Name y py] kt pt] (.Tuple [a, b] k2 pt2) pos.line j.X.env = pure false := by rfl) :
    Tr j Γ C (.Assign [.Tuple [.Name x px, .Name y py] kt pt] (.Tuple [a, b] k2 pt2) pos :: rest) P :=
  tr_lift (ps_par hc hN hi hk hik hx hy pa_wa hw hs) fun Φ σ F H xw S => h Φ σ F H _ xw S fun vs F1 H1 C1 qs ⟨p, q, eq, t⟩ S1 s1 o1 => by
    subst eq
    obtain ⟨v, w, ev, o2, o3⟩ := all2 o1
    exact ⟨v, w, ev, t Φ _ F1 H1 xw ((S1.setv i o2).setv k o3)⟩
end
end Z

end
section
set_option Elab.async false
set_option linter.all false
set_option maxRecDepth 100000
/-! Z17: displays, loops over dicts and cells, data within tuples, or, try. -/
namespace Z
open PySem PySem.Spec PyProof.Rows L2
open PySem.W (Datum Tup)
open Rep (pr)
section
variable {ω : Type} {j : J} {Γ Γ' : Gm} {C C' D' : List Cell} {R : Ps} {p q : Pr} {ps qs : List Pr} {P : Po} {rest body : List Stmt} {pos pos' pos2 : Pos} {e a b o ke : Expr} {es : List Expr} {sts : List Stmt} {N : Gm → List Cell → Prop}
/-! ### {k: e, ..} -/
def EpL (j : J) (Γ : Gm) (C : List Cell) (trs : List (TE × TE)) (R : List Cell → List (Str × Pr) → Prop) : Prop := ∀ Φ σ F H (Q : List (V × V) → Hp → Prop), XW j Φ → Sta j.tb Φ Γ C σ F H →
  (∀ (kvs : List (Str × V)) F' H' C' kps, R C' kps → Sta j.tb Φ Γ C' σ F' H' → L2.Same F F' → Paired (fun (p : Str × Pr) (q : Str × V) => p.1 = q.1 ∧ p.2.on F' q.2) kps kvs → Q (kvs.map fun kv => (V.str kv.1, kv.2)) H') → tPairs trs σ H Q
theorem epl_nil {R : List Cell → List (Str × Pr) → Prop} (r : R C []) : EpL j Γ C [] R := fun Φ σ F H Q x S K => K [] F H C [] r S (L2.Same.refl F) .nil
theorem paired_mono {F F' : Hp} (s : L2.Same F F') : ∀ {kps : List (Str × Pr)} {kvs : List (Str × V)}, Paired (fun (p : Str × Pr) (q : Str × V) => p.1 = q.1 ∧ p.2.on F q.2) kps kvs → Paired (fun (p : Str × Pr) (q : Str × V) => p.1 = q.1 ∧ p.2.on F' q.2) kps kvs
  | _, _, .nil => .nil
  | p :: _, _, .cons a b => .cons ⟨a.1, p.2.mono s a.2⟩ (paired_mono s b)
theorem epl_cons {k : Str} {trs : List (TE × TE)} {R : List Cell → List (Str × Pr) → Prop} (h : Ev j Γ C e fun C1 q => EpL j Γ C1 trs fun C2 kps => R C2 ((k, q) :: kps)) : EpL j Γ C ((fun σ H Q => Q (.str k) H, We j.X e) :: trs) R := fun Φ σ F H Q x S K =>
  h Φ σ F H _ x S fun v F1 H1 C1 q r S1 s1 o1 => r Φ σ F1 H1 _ x S1 fun kvs F2 H2 C2 kps r2 S2 s2 o2 => K ((k, v) :: kvs) F2 H2 C2 _ r2 S2 (s1.trans s2) (.cons ⟨rfl, q.mono s2 o1⟩ o2)
def keyed (kps : List (Str × Pr)) : List (Key × Pr) := kps.map fun kv => (.inr kv.1, kv.2)
theorem merge_new : ∀ (more kvs : List (Key × V)), ((kvs ++ more).map Prod.fst).Nodup → mergeK kvs more = kvs ++ more
  | [], kvs, _ => by simp [mergeK]
  | p :: r, kvs, nd => by
    have h1 : putK kvs p.1 p.2 = kvs ++ [p] := by
      have nk : ¬ (kvs.any fun kv => decide (kv.1 = p.1)) = true := fun z => by
        obtain ⟨q, hq, e⟩ := List.any_eq_true.mp z
        have e : q.1 = p.1 := of_decide_eq_true e
        rw [List.map_append, List.nodup_append] at nd
        exact nd.2.2 q.1 (List.mem_map.mpr ⟨q, hq, rfl⟩) p.1 (by simp) e
      unfold putK
      rw [if_neg nk]
    show mergeK (putK kvs p.1 p.2) r = _
    rw [h1, merge_new r (kvs ++ [p]) (by simpa using nd)]
    simp
theorem paired_fst {F : Hp} : ∀ {kps : List (Str × Pr)} {kvs : List (Str × V)}, Paired (fun (p : Str × Pr) (q : Str × V) => p.1 = q.1 ∧ p.2.on F q.2) kps kvs → kvs.map Prod.fst = kps.map Prod.fst
  | _, _, .nil => rfl
  | _, _, .cons a b => by rw [List.map_cons, List.map_cons, paired_fst b, a.1]
theorem paired_kv {F : Hp} : ∀ {kps : List (Str × Pr)} {kvs : List (Str × V)}, Paired (fun (p : Str × Pr) (q : Str × V) => p.1 = q.1 ∧ p.2.on F q.2) kps kvs → KvOn (keyed kps) F (kvs.map fun kv => ((Sum.inr kv.1 : Key), kv.2))
  | _, _, .nil => .nil
  | _, _, .cons a b => .cons ⟨congrArg Sum.inr a.1, a.2⟩ (paired_kv b)
/-- a dict display with keys that are texts, as a cell -/
theorem ev_disp {keys : List (Option Expr)} {values : List Expr} {trs : List (TE × TE)} {ks : List Str} (hp : PPs j.X pos keys values trs) (h : EpL j Γ C trs fun C1 kps => kps.map Prod.fst = ks ∧ ∀ d, R (cK d (keyed kps) :: C1) (isR d)) (nd : ks.Nodup) (hk : ks.length ≤ 15)
    (hall : keys.all (·.isSome) = true := by rfl) (hl : keys.length = values.length := by rfl) (h0 : keys ≠ [] := by exact fun z => nomatch z) (h15 : keys.length ≤ 15 := by decide) : Ev j Γ C (.Dict keys values pos) R :=
  ev_lift (pe_disp hp hall hl h0 h15) fun Φ σ F H Q x S K d hd => by
    have S0 := S.beside (o := .dK []) hd
    have dC : d ∉ C.map (·.a) := fun z => by
      obtain ⟨c, hc, ec⟩ := List.mem_map.mp z
      obtain ⟨w, q1, _, _⟩ := S.cells.at_ c hc
      rw [ec, hd] at q1
      cases q1
    refine h (Fx.of F (upd H d (.dK [])) C) σ F _ _ (x.rebase S0) S0.rebase fun kvs F1 H1 C1 kps ⟨ek, r⟩ S1 s1 o1 => ?_
    obtain ⟨b1, b2, b3⟩ := S1.besideKeep upd_same (fun _ z => (nomatch z)) (S.notF hd) dC
    have ln := Paired.length o1
    have S2 := S0.trans S1
    have hks : kvs.map Prod.fst = ks := (paired_fst o1).trans ek
    have kvO := paired_kv o1
    refine ⟨b1, kvs.map fun kv => ((Sum.inr kv.1 : Key), kv.2), by rw [List.map_map]; rfl, by rw [List.length_map, ← List.length_map (f := Prod.fst), hks]; exact hk, ?_⟩
    have em : mergeK [] (kvs.map fun kv => ((Sum.inr kv.1 : Key), kv.2)) = kvs.map fun kv => ((Sum.inr kv.1 : Key), kv.2) := by
      rw [merge_new _ [] ?_]
      · rfl
      · rw [List.nil_append, List.map_map]
        have e2 : (Prod.fst ∘ fun kv : Str × V => ((Sum.inr kv.1 : Key), kv.2)) = (fun y : Str => (Sum.inr y : Key)) ∘ Prod.fst := rfl
        rw [e2, ← List.map_map, hks]
        exact List.Pairwise.map _ (fun a b ne e => ne (Sum.inr.inj e)) nd
    rw [em]
    have h0 : Φ.H0 d = none := S.there d hd
    have S3 := S2.besideUpd (o := .dK (kvs.map fun kv => ((Sum.inr kv.1 : Key), kv.2))) b1 b2 h0 b3 (fun _ z => (nomatch z)) (fun _ z => (nomatch z))
    exact K _ _ _ _ _ (r d) (S3.besideC (c := cK d (keyed kps)) upd_same b2 h0 b3 ⟨_, rfl, kvO⟩) s1 rfl
/-! ### for over a cell's list, a tuple -/
theorem tr_forW {tg : Expr} {wi : TI} {n : Nat} (I : Nat → Gm → List Cell → Prop) (hi : PI j.X tg e wi)
    (k : ∀ Φ σ F H (R : It → Hp → Prop), XW j Φ → Sta j.tb Φ Γ C σ F H → (∀ (J : It) (G : Hp → Prop) (Y : Nat → Hp → V → Hp → Prop) C1 F1 H1, L2.Walk J n G Y → I 0 Γ C1 → Sta j.tb Φ Γ C1 σ F1 H1 →
      (∀ i Γ' C' σ' F' H', i ≤ n → I i Γ' C' → Sta j.tb Φ Γ' C' σ' F' H' → G H') →
      (∀ i x Γ' C' σ' F' H' H'', i < n → I i Γ' C' → Sta j.tb Φ Γ' C' σ' F' H' → Y i H' x H'' → ∃ q, H'' = H' ∧ q.on F' x ∧ Eg j Γ' C' tg q fun Γ2 C2 => Tr j Γ2 C2 body { nx := I (i + 1), ct := I (i + 1), bk := N, rt := P.rt }) → R J H1) → wi σ H R)
    (hd : ∀ Γ' C', I n Γ' C' → N Γ' C') (kr : ∀ Γ' C', N Γ' C' → Tr j Γ' C' rest P) (hp : PassesOwn (model j.X.prog j.X.w) j.X.A j.X.env j.X.xe) (hc : j.X.calm = true) (hs : ∀ x, foldedSetIterable e j.X.env x = pure x := by intro _; rfl) : Tr j Γ C (.For tg e body [] pos :: rest) P :=
  tr_lift (ps_for hp hc hi pg_wg pss_wb hs) fun Φ σ F H x S => k Φ σ F H _ x S fun J G Y C1 F1 H1 w i0 S1 hG hs => by
    refine for_it w (fun i σ H => ∃ Γ C F, I i Γ C ∧ Sta j.tb Φ Γ C σ F H) ⟨Γ, C1, F1, i0, S1⟩ (fun i σ' H' hi ⟨Γ', C', F', i', S'⟩ => hG i Γ' C' σ' F' H' hi i' S') ?_ ?_
    · rintro i y σ2 H2 H2' hi ⟨Γ2, C2, F2, i2, S2⟩ hy
      obtain ⟨q, e1, o, g⟩ := hs i y Γ2 C2 σ2 F2 H2 H2' hi i2 S2 hy
      subst e1
      refine g Φ σ2 F2 H2' y _ x S2 o fun Γ3 C3 σ3 F3 H3 t3 S3 s3 => ?_
      refine Wb.mono (t3 Φ σ3 F3 H3 x S3) (fun σ4 H4 h => h) (fun v4 H4 h => h) (fun σ4 H4 ⟨Γ4, C4, F4, n4, S4⟩ => kr Γ4 C4 n4 Φ σ4 F4 H4 x S4) fun σ4 H4 h => h
    · rintro σ2 H2 ⟨Γ2, C2, F2, i2, S2⟩
      exact kr Γ2 C2 (hd Γ2 C2 i2) Φ σ2 F2 H2 x S2
/-- for over a tuple -/
theorem tr_forT {tg : Expr} (I : Nat → Gm → List Cell → Prop) (N : Gm → List Cell → Prop)
    (k : Ev j Γ C e fun C1 p => ∃ ps, p = rT j.X.K ps ∧ I 0 Γ C1 ∧
      (∀ i q Γ' C', ps[i]? = some q → I i Γ' C' → Eg j Γ' C' tg q fun Γ2 C2 => Tr j Γ2 C2 body { nx := I (i + 1), ct := I (i + 1), bk := N, rt := P.rt }) ∧ (∀ Γ' C', I ps.length Γ' C' → N Γ' C'))
    (kr : ∀ Γ' C', N Γ' C' → Tr j Γ' C' rest P) (hp : PassesOwn (model j.X.prog j.X.w) j.X.A j.X.env j.X.xe) (hc : j.X.calm = true) (hs : ∀ x, foldedSetIterable e j.X.env x = pure x := by intro _; rfl) : Tr j Γ C (.For tg e body [] pos :: rest) P :=
  tr_lift (ps_for hp hc (pi_tup pe_we) pg_wg pss_wb hs) fun Φ σ F H x S => k Φ σ F H _ x S fun v F1 H1 C1 p ⟨ps, ep, i0, hs, hd⟩ S1 s1 o1 => by
    subst ep
    obtain ⟨al, vs, ev, hl, ho⟩ := o1
    refine ⟨al, ev, ⟨vs, S1.seqT hl⟩, for_it (walk_tup (K := j.X.K) (a := al) (xs := vs)) (fun i σ H => ∃ Γ C F, I i Γ C ∧ Sta j.tb Φ Γ C σ F H ∧ SqT j.X.K F al vs ∧ AllOn ps F vs) ⟨Γ, C1, F1, i0, S1, hl, ho⟩ (fun i σ H _ ⟨Γ', C', F', _, S', hl', _⟩ => S'.seqT hl') ?_ ?_⟩
    · rintro i y σ2 H2 H2' hi ⟨Γ2, C2, F2, i2, S2, hl2, ho2⟩ ⟨eH, hy⟩
      subst eH
      have hi' : i < ps.length := by rw [ho2.length]; exact hi
      obtain ⟨y', e1, e2⟩ := ho2.get (List.getElem?_eq_getElem hi')
      rw [hy] at e1
      cases e1
      refine hs i ps[i] Γ2 C2 (List.getElem?_eq_getElem hi') i2 Φ σ2 F2 H2' y _ x S2 e2 fun Γ3 C3 σ3 F3 H3 t3 S3 s3 => ?_
      refine Wb.mono (Tr.at t3 x S3) (fun σ4 H4 ⟨Γ4, C4, F4, n4, S4, s4⟩ => ?_) (fun v4 H4 ⟨Γ4, C4, F4, σ4, ρ4, r4, S4, o4, _⟩ => ⟨Γ4, C4, F4, σ4, ρ4, r4, S4, o4⟩) (fun σ4 H4 ⟨Γ4, C4, F4, n4, S4, s4⟩ => ?_) fun σ4 H4 ⟨Γ4, C4, F4, n4, S4, s4⟩ => ?_
      · exact ⟨Γ4, C4, F4, n4, S4, seqT_mono (s3.trans s4) hl2, ho2.mono (s3.trans s4)⟩
      · exact kr Γ4 C4 n4 Φ σ4 F4 H4 x S4
      · exact ⟨Γ4, C4, F4, n4, S4, seqT_mono (s3.trans s4) hl2, ho2.mono (s3.trans s4)⟩
    · rintro σ2 H2 ⟨Γ2, C2, F2, i2, S2, _, _⟩
      have hlen : ps.length = vs.length := ho.length
      rw [← hlen] at i2
      exact kr Γ2 C2 (hd Γ2 C2 i2) Φ σ2 F2 H2 x S2
/-! ### for over a dict's keys: the dict is locked meanwhile, nothing is raised -/
def jq (j : J) : J := ⟨j.X, j.tb, fun _ _ => False⟩
theorem Sta.lockD {tb : Tb} {Φ : Fx} {σ : L2.St} {F H : Hp} {k : Nat} {d : Addr} {kps : List (Key × Pr)} (S : Sta tb Φ Γ C σ F H) (hc : C[k]? = some (cK d kps)) : ∃ kvs, H d = some (.dK kvs) ∧ KvOn kps F kvs ∧ ∀ od, Sta tb Φ Γ (C.set k (cZ d od kvs kps)) σ F (upd H d (.frz od (.dK kvs))) := by
  obtain ⟨kvs, h1, h2⟩ := S.dic (List.mem_of_getElem? hc)
  exact ⟨kvs, h1, h2, fun od => S.puti hc rfl h1 (fun _ z => nomatch z) ⟨rfl, h2⟩⟩
theorem tr_forD {tg : Expr} (c : Nat) {d : Addr} {kps : List (Key × Pr)} (I : Obj → List (Key × V) → Nat → Gm → List Cell → Prop) (N : Gm → List Cell → Prop)
    (he : ∀ Γ' C' (R' : Ps), (∀ C'', C'' = C' → R' C'' (isR d)) → Γ' = Γ → Ev (jq j) Γ' C' e R') (hcell : C[c]? = some (cK d kps))
    (k : ∀ od kvs, kps.map Prod.fst = kvs.map Prod.fst → I od kvs 0 Γ (C.set c (cZ d od kvs kps)) ∧
      (∀ i kp Γ' C', kps[i]? = some kp → I od kvs i Γ' C' → cZ d od kvs kps ∈ C' ∧ Eg (jq j) Γ' C' tg (isV (kV kp.1)) fun Γ2 C2 => Tr (jq j) Γ2 C2 body { nx := I od kvs (i + 1), ct := I od kvs (i + 1), bk := fun Γ' C' => C'[c]? = some (cZ d od kvs kps) ∧ N Γ' (C'.set c (cK d kps)), rt := fun C' ρ => C'[c]? = some (cZ d od kvs kps) ∧ P.rt (C'.set c (cK d kps)) ρ }) ∧
      (∀ Γ' C', I od kvs kps.length Γ' C' → C'[c]? = some (cZ d od kvs kps) ∧ N Γ' (C'.set c (cK d kps))))
    (kr : ∀ Γ' C', N Γ' C' → Tr j Γ' C' rest P) (hp : PassesOwn (model j.X.prog j.X.w) j.X.A j.X.env j.X.xe) (hcm : j.X.calm = true) (hs : ∀ x, foldedSetIterable e j.X.env x = pure x := by intro _; rfl) : Tr j Γ C (.For tg e body [] pos :: rest) P :=
  tr_lift (ps_lock (ps_for hp hcm (pi_keys pe_we) pg_wg pss_wb hs)) fun Φ σ F H x S => by
    obtain ⟨kvs, h1, h2, h3⟩ := S.lockD hcell
    have xq : XW (jq j) Φ := xw_none fun _ _ z => z
    refine ⟨d, .dK kvs, h1, True.intro, fun od => ?_⟩
    obtain ⟨i0, turn, fin⟩ := k od kvs h2.keys
    have S1 := h3 od
    have un : ∀ {Γ' : Gm} {C' : List Cell} {σ' : L2.St} {F' H' : Hp}, C'[c]? = some (cZ d od kvs kps) → Sta j.tb Φ Γ' C' σ' F' H' → H' d = some (.frz od (.dK kvs)) ∧ Sta j.tb Φ Γ' (C'.set c (cK d kps)) σ' F' (upd H' d (.dK kvs)) := fun {Γ' C' σ' F' H'} hc S' => by
      obtain ⟨u, q1, ⟨q2, q3⟩, _⟩ := S'.cells.at_ _ (List.mem_of_getElem? hc)
      subst q2
      exact ⟨q1, S'.puti (c := cZ d od kvs kps) (c' := cK d kps) hc rfl q1 (fun _ z => nomatch z) ⟨kvs, rfl, q3⟩⟩
    refine he Γ (C.set c (cZ d od kvs kps)) (fun C'' p => C'' = C.set c (cZ d od kvs kps) ∧ p = isR d) (fun C'' e => ⟨e, rfl⟩) rfl Φ σ F _ _ xq S1 fun v F1 H1 C1 p ⟨e1, e2⟩ S2 s2 o2 => ?_
    subst e1
    subst e2
    have zin : (C.set c (cZ d od kvs kps))[c]? = some (cZ d od kvs kps) := List.getElem?_set_self (List.getElem?_eq_some_iff.mp hcell).1
    obtain ⟨z1, _⟩ := un zin S2
    refine ⟨d, od, o2, .inl ⟨kvs, z1, ?_⟩⟩
    refine for_it (walk_keys (d := d) (o := od) (kvs := kvs)) (fun i σ H => ∃ Γ C F, I od kvs i Γ C ∧ Sta j.tb Φ Γ C σ F H) ⟨Γ, _, F1, i0, S2⟩ (fun i σ' H' hi ⟨Γ', C', F', i', S'⟩ => ?_) ?_ ?_
    · by_cases hlt : i < kvs.length
      · have hlt' : i < kps.length := by rw [h2.len]; exact hlt
        obtain ⟨hz, _⟩ := turn i _ Γ' C' (List.getElem?_eq_getElem hlt') i'
        obtain ⟨u, q1, ⟨q2, q3⟩, _⟩ := S'.cells.at_ _ hz
        subst q2
        exact q1
      · have e : i = kps.length := by rw [h2.len]; omega
        subst e
        obtain ⟨hz, _⟩ := fin Γ' C' i'
        exact (un hz S').1
    · rintro i y σ2 H2 H2' hi ⟨Γ2, C2, F2, i2, S2'⟩ ⟨eH, k1, v1, hk, ey⟩
      subst eH
      subst ey
      have hi' : i < kps.length := by rw [h2.len]; exact hi
      obtain ⟨_, g⟩ := turn i _ Γ2 C2 (List.getElem?_eq_getElem hi') i2
      have ek : kps[i].1 = k1 := by
        have q := congrArg (fun l => l[i]?) h2.keys
        simp only [List.getElem?_map, hk, List.getElem?_eq_getElem hi', Option.map_some, Option.some.injEq] at q
        exact q
      refine g Φ σ2 F2 H2' _ _ xq S2' (by rw [ek]; exact rfl) fun Γ3 C3 σ3 F3 H3 t3 S3 s3 => ?_
      refine Wb.mono (t3 Φ σ3 F3 H3 xq S3) (fun σ4 H4 h => h) (fun v4 H4 ⟨Γ4, C4, F4, σ4, ρ4, ⟨hz, r4⟩, S4, o4⟩ => ?_) (fun σ4 H4 ⟨Γ4, C4, F4, ⟨hz, n4⟩, S4⟩ => ?_) fun σ4 H4 h => h
      · obtain ⟨z, S5⟩ := un hz S4
        exact ⟨z, Γ4, _, F4, σ4, ρ4, r4, S5, o4⟩
      · obtain ⟨z, S5⟩ := un hz S4
        exact ⟨z, kr Γ4 _ n4 Φ σ4 F4 _ x S5⟩
    · rintro σ2 H2 ⟨Γ2, C2, F2, i2, S2'⟩
      rw [← h2.len] at i2
      obtain ⟨hz, n2⟩ := fin Γ2 C2 i2
      obtain ⟨z, S5⟩ := un hz S2'
      exact ⟨z, kr Γ2 _ n2 Φ σ2 F2 _ x S5⟩
/-! ### or, as a value -/
theorem ev_orV (h : Ev j Γ C a fun C1 p => TruOk j Γ p C1 fun C2 x => C2 = C1 ∧ (x = true → R C1 p) ∧ (x = false → Ev j Γ C1 (.BoolOp .Or (b :: es) pos) R)) : Ev j Γ C (.BoolOp .Or (a :: b :: es) pos) R :=
  ev_lift (pe_orT pe_we pe_we) fun Φ σ F H Q x S K => h Φ σ F H _ x S fun v F1 H1 C1 p r S1 s1 o1 => by
    obtain ⟨k, h1, e, r1, r2⟩ := r Φ σ F1 H1 v S1 o1
    refine ⟨k, h1, ?_⟩
    cases k with
    | true => exact iteT (K _ _ _ _ _ (r1 rfl) S1 s1 o1)
    | false => exact iteF (r2 rfl Φ σ F1 H1 Q x S1 (K.same s1))
theorem ev_andV (h : Ev j Γ C a fun C1 p => TruOk j Γ p C1 fun C2 x => C2 = C1 ∧ (x = true → Ev j Γ C1 (.BoolOp .And (b :: es) pos) R) ∧ (x = false → R C1 p)) : Ev j Γ C (.BoolOp .And (a :: b :: es) pos) R :=
  ev_lift (pe_andT pe_we pe_we) fun Φ σ F H Q x S K => h Φ σ F H _ x S fun v F1 H1 C1 p r S1 s1 o1 => by
    obtain ⟨k, h1, e, r1, r2⟩ := r Φ σ F1 H1 v S1 o1
    refine ⟨k, h1, ?_⟩
    cases k with
    | true => exact iteT (r1 rfl Φ σ F1 H1 Q x S1 (K.same s1))
    | false => exact iteF (K _ _ _ _ _ (r2 rfl) S1 s1 o1)
/-! ### try: return e / except X: return 'x' -/
abbrev J.tr (j : J) (pn : List (Addr × Obj)) (xe : Value → Shared → Prop) (XP' : Value → List Cell → Prop) : J := ⟨j.X.tr pn xe, j.tb, XP'⟩
theorem tr_tryRet {x ret : Str} {k : Nat} {c : Value} {p1 p2 p3 p4 p5 : Pos} (XP' : Value → List Cell → Prop) (hs : j.X.stack = j.X.env :: j.X.outer) (hf : j.X.env.frame = some j.X.env.locals) (hc : Names j.X x c)
    (h : ∀ pn xe, Ev (j.tr pn xe XP') Γ C e P.rt) (hx : ∀ cls C', XP' cls C' → ∃ b, PySem.W.exmOne j.X.K cls c = some b ∧ (b = true → P.rt C' (isS ret)) ∧ (b = false → j.XP cls C')) :
    Tr j Γ C (.Try [.Return (some e) p1] [.ExceptHandler (some (.Name x p2)) none [.Return (some (.Constant (.str ret) k p3)) p4] p5] [] [] pos :: rest) P := fun Φ σ F H xw S => by
  refine wb_of (pss_cons (ps_try_only (X := j.X) (Wout := WXof j Φ) (tb := fun W D σ H => ∀ pn xe, Takes (j.X.tr pn xe) W → We (j.X.tr pn xe) e σ H D.rt) (ts := fun a cls d D σ H => D.rt (.str ret) H) hs hf hc xw (fun W pn xe tk _ => ?_) fun a oe cls d pn _ _ => pss_one (ps_ret pe_str)) pss_wb) ?_
  · exact ⟨fun pins s σ H D I h => (pss_one (ps_ret pe_we)).run pins s σ H D I (h pn xe tk)⟩
  · intro pn xe tk
    refine h pn xe Φ σ F H _ (Takes.imp tk fun cls d σ' H' ⟨C', F', r, S'⟩ => ?_) S fun v F' H' C' ρ r S' s' o' => ⟨Γ, C', F', σ, ρ, r, S', o'⟩
    obtain ⟨b, e1, e2, e3⟩ := hx cls C' r
    exact ⟨b, e1, fun hb _ _ => ⟨[], C', F', [], isS ret, e2 hb, S', rfl⟩, fun hb => ⟨C', F', e3 hb, S'⟩⟩
end
/-! ### data within a tuple -/
section
variable {j : J} {C : List Cell} {α β γ δ ε : Type} [DecidableEq α] [Datum α] [DecidableEq β] [Datum β] [DecidableEq γ] [Datum γ] [DecidableEq δ] [Datum δ] [DecidableEq ε] [Datum ε] {p1 p2 p3 p4 p5 : Pr}
theorem dat_T5 {a : α} {b : β} {c : γ} {d : δ} {e : ε} (h1 : DatOk j C p1 a) (h2 : DatOk j C p2 b) (h3 : DatOk j C p3 c) (h4 : DatOk j C p4 d) (h5 : DatOk j C p5 e) : DatOk j C (rT j.X.K [p1, p2, p3, p4, p5]) (⟨a, b, c, d, e⟩ : T5 α β γ δ ε) := fun tb Φ Γ σ F H v S ⟨l, vs, ev, h, o⟩ => by
  cases o with | cons o1 o => cases o with | cons o2 o => cases o with | cons o3 o => cases o with | cons o4 o => cases o with | cons o5 o =>
    cases o
    rw [ev]
    exact .tup (S.seqT h) (.cons (h1 _ _ _ _ _ _ _ S o1) (.cons (h2 _ _ _ _ _ _ _ S o2) (.cons (h3 _ _ _ _ _ _ _ S o3) (.cons (h4 _ _ _ _ _ _ _ S o4) (.cons (h5 _ _ _ _ _ _ _ S o5) .nil)))))
end
end Z

end
section
set_option Elab.async false
set_option linter.all false
set_option maxRecDepth 100000
/-! Z18: more cells, globals. -/
namespace Z
open PySem PySem.Spec PyProof.Rows L2
open PySem.W (Datum Tup)
open Rep (pr)
section
variable {j : J} {Γ : Gm} {C : List Cell} {R : Ps} {p q : Pr} {ps qs : List Pr} {P : Po} {rest : List Stmt}
/-- a slice as a new cell -/
theorem ok_slLC {a b : Option Int} (h : LstOk j C p ps) (r : ∀ m, R (cL m (cutP ps a b) :: C) (isR m)) : SlOk j Γ (rSlL j.X.K) p a b C R := fun Φ σ F H v Q x S o K => by
  obtain ⟨l, vs, e, h1, k1⟩ := h _ _ _ _ _ _ _ S o
  exact ⟨l, vs, e, h1, fun z hz => K.newCL S (r z) (k1.cut a b) hz⟩
theorem ea_perm {C' : List Cell} {es : List Expr} {R' : List Cell → List Pr → Prop} (h : C.Perm C') (t : Ea j Γ C' es R') : Ea j Γ C es R' := fun Φ σ F H Q x S K => t Φ σ F H Q x (S.perm h) K
theorem et_perm {C' : List Cell} {c : Expr} {R' : List Cell → Bool → Prop} (h : C.Perm C') (t : Et j Γ C' c R') : Et j Γ C c R' := fun Φ σ F H Q x S K => t Φ σ F H Q x (S.perm h) K
/-- a tuple of the module's top -/
theorem tup_G {W : Addr} {vs : List V} (h : ∀ H, SqT j.X.K H W vs) (o : ∀ F, AllOn ps F vs) : TupOk j (isR W) ps := fun tb Φ Γ C σ F H v S e => ⟨W, vs, e, h H, o F⟩
theorem tru_Lc (h : LstOk j C p ps) {R : List Cell → Bool → Prop} (r : R C (!ps.isEmpty)) : TruOk j Γ p C R := tru_L h r
end
end Z

end
section
set_option Elab.async false
set_option linter.all false
set_option maxRecDepth 100000
/-! Z19: a list comprehension whose block sees shown cells. -/
namespace Z
open PySem PySem.Spec PyProof.Rows L2
theorem hok_shw {P : Program} {w : World} {h : Heap} : ∀ {L : CL} {H : Hp}, HOk P w H h → (L.map Prod.fst).Nodup → (∀ p ∈ L, h.get? p.1 = some p.2 ∧ H p.1 = none) → HOk P w (shw L H) h
  | [], H, x, _, _ => x
  | p :: L, H, x, nd, hL => by
    rw [List.map_cons, List.nodup_cons] at nd
    exact hok_upd (hok_shw x nd.2 fun q hq => hL q (by simp [hq])) (by rw [shw_out nd.1]; exact (hL p (by simp)).2) (hL p (by simp)).1
theorem hok_hid {P : Program} {w : World} {h : Heap} : ∀ {L : CL} {H : Hp}, HOk P w H h → (L.map Prod.fst).Nodup → (∀ p ∈ L, H p.1 = some (frzC p.2)) → HOk P w (hid L H) h
  | [], H, x, _, _ => x
  | p :: L, H, x, nd, hL => by
    rw [List.map_cons, List.nodup_cons] at nd
    refine hok_hid (L := L) (H := del H p.1) (hok_del x (hL p (by simp))) nd.2 fun q hq => ?_
    rw [del_ne fun z => nd.1 (List.mem_map.mpr ⟨q, hq, z⟩)]
    exact hL q (by simp [hq])
theorem shw_none {L : CL} {H : Hp} {b : Addr} (h : shw L H b = none) : b ∉ L.map Prod.fst ∧ H b = none := by
  induction L with
  | nil => exact ⟨by simp, h⟩
  | cons p L ih =>
    unfold shw at h
    by_cases e : b = p.1
    · rw [e, upd_same] at h
      cases h
    · rw [upd_ne e] at h
      obtain ⟨h1, h2⟩ := ih h
      refine ⟨?_, h2⟩
      rw [List.map_cons, List.mem_cons, not_or]
      exact ⟨e, h1⟩
theorem un_hide {P : Program} {w : World} {fs ex : List Addr} {L : CL} {H H' : Hp} {h h' : Heap} (un : Un fs ex (shw L H) H' h h') (hL : ∀ p ∈ L, h.get? p.1 = some p.2 ∧ H p.1 = none ∧ p.1 ∉ fs) (hF : ∀ p ∈ L, H' p.1 = some (frzC p.2)) (hok : HOk P w H' h') : Un fs ex H (hid L H') h h' := by
  have inL : ∀ b, b ∈ L.map Prod.fst → ∃ p ∈ L, p.1 = b := fun b hb => let ⟨p, hp, e⟩ := List.mem_map.mp hb; ⟨p, hp, e⟩
  have out : ∀ b o, H b = some o → b ∉ L.map Prod.fst := fun b o e z => by
    obtain ⟨p, hp, ep⟩ := inL b z
    rw [← ep, (hL p hp).2.1] at e
    cases e
  refine ⟨fun b o e n h1 h2 => ?_, fun b o e n h1 h2 => ?_, fun b o e n h2 => ?_, un.there, fun b xs e => ?_, fun b o u e => ?_, fun b ps e => ?_⟩
  · by_cases hb : b ∈ L.map Prod.fst
    · obtain ⟨p, hp, ep⟩ := inL b hb
      rw [← ep] at e ⊢
      rw [(hL p hp).1] at e
      cases e
      exact (hok _ _ (hF p hp)).1
    · exact un.keep b o e (by rw [shw_out hb]; exact n) h1 h2
  · have hb : b ∉ L.map Prod.fst := fun z => by
      obtain ⟨p, hp, ep⟩ := inL b z
      exact (hL p hp).2.2 (by rw [ep]; exact h1)
    exact un.slot b o e (by rw [shw_out hb]; exact n) h1 h2
  · by_cases hb : b ∈ L.map Prod.fst
    · exact hid_in hb
    · rw [hid_out hb]
      exact un.free b o e (by rw [shw_out hb]; exact n) h2
  · rw [hid_out (out _ _ e)]
    exact un.tups b xs (by rw [shw_out (out _ _ e)]; exact e)
  · rw [hid_out (out _ _ e)]
    exact un.frzs b o u (by rw [shw_out (out _ _ e)]; exact e)
  · rw [hid_out (out _ _ e)]
    exact un.tbls b ps (by rw [shw_out (out _ _ e)]; exact e)
section
variable {X : L2.Cx} {pins : List (Addr × Obj)} {σ : L2.St} {H : Hp} {s s4 : Shared}
/-- the block's state, with cells of the frame around it shown -/
theorem blk_show {scope : Scope} {ce : Env} {fp : List Addr} {L : CL} (I : Inv (X.blk s H scope ce fp) [] σ H s4) (nd : (L.map Prod.fst).Nodup) (hL : ∀ p ∈ L, s4.heap.get? p.1 = some p.2 ∧ H p.1 = none ∧ p.1 ∉ frs X.stack ∧ X.base.get? p.1 = none)
    (hce : ∀ y c, ce.cells.lookup y = some c → c ∉ L.map Prod.fst) (hlo : ce.locals ∉ L.map Prod.fst) : Inv (X.blk s (shw L H) scope ce fp) [] σ (shw L H) s4 := by
  have ok := I.ok
  refine ⟨⟨ok.mod, ok.kind, ok.glob, ok.blt, ok.above, ok.inj, ok.has, ok.cab, ok.hd, ok.frames, ok.stk, ok.exf, fun b o e => ⟨(ok.bs b o e).1, ?_⟩, ok.bsz, ok.noex, ok.exfs, ok.funs, fun b hb => ?_⟩, I.os, I.bare,
    ⟨fun b o e n h1 h2 => I.base.keep b o e (shw_none n).2 h1 h2, fun b o e n h1 h2 => I.base.slot b o e (shw_none n).2 h1 h2, fun b o e n _ => n, I.base.there, fun b xs e => e, fun b o u e => e, fun b ps e => ⟨#[], by rw [Array.append_empty]; exact e⟩⟩, I.loc, I.cell, ?_, fun y c e => ?_, fun p hp => absurd (show p ∈ ([] : List (Addr × Obj)) ++ [] from hp) (by simp), hok_shw I.hok nd fun p hp => ⟨(hL p hp).1, (hL p hp).2.1⟩, I.len⟩
  · show shw L H b = none
    rw [shw_out fun z => ?_]
    · exact (ok.bs b o e).2
    · obtain ⟨p, hp, ep⟩ := List.mem_map.mp z
      have e : X.base.get? b = some o := e
      rw [← ep, (hL p hp).2.2.2] at e
      cases e
  · show shw L H b = none
    rw [shw_out fun z => ?_]
    · exact ok.frf b hb
    · obtain ⟨p, hp, ep⟩ := List.mem_map.mp z
      exact (hL p hp).2.2.1 (by rw [ep]; exact hb)
  · show shw L H ce.locals = none
    rw [shw_out hlo]
    exact I.free
  · rw [shw_out (hce y c e)]
    exact I.freeC y c e
/-- [elt for tg in iter if ..], the frame's cells of is shown meanwhile -/
def tLcX (X : L2.Cx) (is : List (Nat × Str)) (wi : TI) (g : TG) (tt : TT) (te : TE) (vs : List Nat) : TE := fun σ H Q => wi σ H fun J H1 => ∀ D, H1 D = none → ∀ L : CL, Paired (SlotR X σ) is L → (L.map Prod.fst).Nodup → (∀ p ∈ L, H1 p.1 = none ∧ p.1 ≠ D) →
  ∃ W : Nat → Nat → Hp → Prop, (∃ m, W 0 m (shw L (upd H1 D (.lst [])))) ∧ ∀ i m H, W i m H →
  (J.stop i H ∧ ((∀ p ∈ L, H p.1 = some (frzC p.2)) → Q (.ref D) (hid L H))) ∨ (J.go i H ∧ ∃ Nx : Hp → Prop, (∀ H', Nx H' → ∃ m', m' < m ∧ W (i + 1) m' H') ∧ ∀ x H', J.yld i H x H' → g x (wipe σ vs) H' fun σ2 H2 => wipe σ2 vs = wipe σ vs ∧ tt σ2 H2 fun b H3 =>
    if b = true then te σ2 H3 fun y H4 => ∃ acc, H4 D = some (.lst acc) ∧ acc.length < sizeLine ∧ Nx (upd H4 D (.lst (acc ++ [y]))) else Nx H3)
theorem pe_lcX {is : List (Nat × Str)} {elt tg iter : Expr} {ifs : List Expr} {scope : Scope} {own : List (Str × Nat)} {pos : Pos} {wi : TI} {g : TG} {tt : TT} {te : TE} (hc : X.calm = true) (hN : X.N.Nodup) (hi : PI X tg iter wi) (ok : BlkOk X.N X.env.scope scope own) (O : Owns X is) (hno : ∀ q ∈ is, (q.2, NameKind.free) ∉ scope.names)
    (hg : ∀ (s : Shared) (H : Hp) (C : Addr) (cl : List (Str × Addr)) (fp : List Addr), PG (X.blk s H scope (compEnvC scope cl C X.env) fp) tg g) (ht : ∀ (s : Shared) (H : Hp) (C : Addr) (cl : List (Str × Addr)) (fp : List Addr), PTs (X.blk s H scope (compEnvC scope cl C X.env) fp) ifs tt)
    (he : ∀ (s : Shared) (H : Hp) (C : Addr) (cl : List (Str × Addr)) (fp : List Addr), PE (X.blk s H scope (compEnvC scope cl C X.env) fp) elt te) (hs : ∀ x, foldedSetIterable iter X.env x = pure x := by intro _; rfl) :
    PE X (.ListComp elt [⟨tg, iter, ifs, 0⟩] scope pos) (tLcX X is wi g tt te (own.map (·.2))) := by
  refine ⟨fun pins s σ H Q I h => ?_⟩
  have hfree : ∀ y ∈ scope.names, y.2 = .free → ∃ c, X.env.cells.lookup y.1 = some c := fun y hy e => by
    rcases ok.free y hy e with z | z
    · exact I.ok.has _ (.inl z)
    · exact I.ok.has _ (.inr z)
  rw [eval_ListComp]
  refine wpAny_comprehension_free (use := none) rfl hs (closure_ok hfree) ok.kind (fun y hy e => by rw [ok.uniq y hy, e]) (thn (hi.run pins s σ H _ I h) fun xv s1 hx => thn hx fun itv s2 h2 => ?_)
  obtain ⟨it, fp, tn, J, H2, e, I2, T, st2, f2, q⟩ := h2
  subst e
  refine wpAny_newObj_type (newEnv_comp ?_) (by show 0 ≤ sizeLine; decide)
  -- the new list at D
  obtain ⟨D, hD⟩ : ∃ D : Addr, D = s2.heap.objs.size := ⟨_, rfl⟩
  obtain ⟨s3, hs3⟩ : ∃ s3 : Shared, s3 = ({ s2 with heap := s2.heap.push { cls := .type "list", data := .seq ([] : List Value).toArray } } : Shared) := ⟨_, rfl⟩
  have h3 : s3.heap = s2.heap.push { cls := .type "list", data := .seq ([] : List Value).toArray } := by rw [hs3]
  have hDn : H2 D = none := I2.hok.fresh (Nat.le_of_eq hD.symm)
  have keepL : ∀ b o, s2.heap.get? b = some o → s3.heap.get? b = some o := fun b o e => by
    rw [h3]
    exact Heap.get?_push_of_some _ e
  have I3 : Inv X pins σ (upd H2 D (.lst [])) s3 := by
    have z := I2.laid (t' := s2.toks) (fun b o e => Heap.get?_push_of_some _ e) (Nat.le_refl _) (o := .lst []) (a := s2.heap.objs.size) (h' := s2.heap.push { cls := .type "list", data := .seq ([] : List Value).toArray }) ⟨Nat.zero_le _, [], 0, .nil, Heap.get?_push_size _ rfl⟩
    rw [hs3, hD]
    exact z
  have szf : ∀ b ∈ fp, b < s2.heap.objs.size := fun b hb => let ⟨_, e, _⟩ := T.obj _ _ st2 b hb; Heap.lt_size e
  have f3 : ∀ b ∈ fp, FpOk X pins (upd H2 D (.lst [])) b ∧ b < s3.heap.objs.size := fun b hb => by
    refine ⟨⟨?_, (f2 b hb).2⟩, by rw [h3, Heap.size_push]; exact Nat.lt_succ_of_lt (szf b hb)⟩
    rw [upd_ne (by rw [hD]; exact Nat.ne_of_lt (szf b hb))]
    exact (f2 b hb).1
  have st3 : tn 0 s3.heap := T.keep _ _ _ st2 fun b _ o e => keepL b o e
  rw [← hD, ← hs3]
  -- the shown cells
  obtain ⟨L, l1, l2, l3⟩ := inv_caps I3 O
  have lD : ∀ p ∈ L, H2 p.1 = none ∧ p.1 ≠ D := fun p hp => by
    have z := (l3 p hp).2.1
    by_cases e : p.1 = D
    · rw [e, upd_same] at z
      cases z
    · rw [upd_ne e] at z
      exact ⟨z, e⟩
  obtain ⟨W, ⟨m0, w0⟩, turn⟩ := q D hDn L l1 l2 lD
  have I4 := block_start I3 ok hN f3
  show codeAny _ _ (.compStart (.ListComp elt [⟨tg, iter, ifs, 0⟩] scope pos) 0 (.ref it) (.ref D) (compEnvC scope (cellsFrom (s3.heap.objs.size + 1) scope.names (cloFrom X.env.cells scope.names [])) s3.heap.objs.size X.env)) (compPost (model X.prog X.w) X.A X.xe none (EP X pins σ Q) (.ref D) s3.heap.objs.size) { s3 with heap := pushCells (s3.heap.push { cls := .type "dict", data := .dict #[] }) scope.names }
  obtain ⟨Hs, hHs⟩ : ∃ Hs : Hp, Hs = shw L (upd H2 D (.lst [])) := ⟨_, rfl⟩
  have pg := hg s3 Hs s3.heap.objs.size (cellsFrom (s3.heap.objs.size + 1) scope.names (cloFrom X.env.cells scope.names [])) fp
  have pt := ht s3 Hs s3.heap.objs.size (cellsFrom (s3.heap.objs.size + 1) scope.names (cloFrom X.env.cells scope.names [])) fp
  have pe := he s3 Hs s3.heap.objs.size (cellsFrom (s3.heap.objs.size + 1) scope.names (cloFrom X.env.cells scope.names [])) fp
  have hcl : (compEnvC scope (cellsFrom (s3.heap.objs.size + 1) scope.names (cloFrom X.env.cells scope.names [])) s3.heap.objs.size X.env).cells = cellsFrom (s3.heap.objs.size + 1) scope.names (cloFrom X.env.cells scope.names []) := rfl
  have cL : (compEnvC scope (cellsFrom (s3.heap.objs.size + 1) scope.names (cloFrom X.env.cells scope.names [])) s3.heap.objs.size X.env).locals = s3.heap.objs.size := rfl
  generalize compEnvC scope (cellsFrom (s3.heap.objs.size + 1) scope.names (cloFrom X.env.cells scope.names [])) s3.heap.objs.size X.env = ce at I4 pg pt pe hcl cL ⊢
  obtain ⟨s4, hs4⟩ : ∃ s4 : Shared, s4 = ({ s3 with heap := pushCells (s3.heap.push { cls := .type "dict", data := .dict #[] }) scope.names } : Shared) := ⟨_, rfl⟩
  rw [← hs4] at I4 ⊢
  have keep4 : ∀ b o, s3.heap.get? b = some o → s4.heap.get? b = some o := fun b o e => by
    rw [hs4]
    exact pushCells_keeps _ _ _ _ (Heap.get?_push_of_some _ e)
  have st4 : tn 0 s4.heap := T.keep _ _ _ st3 fun b _ o e => keep4 b o e
  have ltL : ∀ p ∈ L, p.1 < s3.heap.objs.size := fun p hp => Heap.lt_size (l3 p hp).1
  have inL : ∀ b, b ∈ L.map Prod.fst → ∃ p ∈ L, p.1 = b := fun b hb => let ⟨p, hp, e⟩ := List.mem_map.mp hb; ⟨p, hp, e⟩
  have I4s : Inv (X.blk s3 Hs scope ce fp) [] (wipe σ (own.map (·.2))) Hs s4 := by
    rw [hHs]
    refine blk_show I4 l2 (fun p hp => ⟨keep4 _ _ (l3 p hp).1, (l3 p hp).2.1, (l3 p hp).2.2.1, (l3 p hp).2.2.2⟩) (fun y c e z => ?_) fun z => ?_
    · obtain ⟨p, hp, ep⟩ := inL c z
      have lt := ltL p hp
      rw [hcl, ← Heap.size_push s3.heap { cls := .type "dict", data := .dict #[] }] at e
      rcases cells_mem (PySem.mem_of_lookup e) with hm | ⟨_, k2, _⟩
      · rcases cloFrom_mem hm with hm | ⟨k1, k2⟩
        · cases hm
        · -- y is captured by the block: it is one of is
          obtain ⟨c1, hc1⟩ := hfree _ k1 rfl
          have hc1 : X.env.cells.lookup y = some c1 := hc1
          have ec : c = c1 := by
            rw [k2, hc1]
            rfl
          have hmm : c ∈ is.map fun q => cellAt X q.2 := by
            rw [← slots_fst l1]
            exact z
          obtain ⟨q, hq, eq⟩ := List.mem_map.mp hmm
          obtain ⟨c2, hc2⟩ := I3.ok.has q.2 (.inl (O.ix q hq).2.2)
          have e2 : cellAt X q.2 = c2 := by unfold cellAt; rw [hc2]; rfl
          have e3 : c2 = c1 := by rw [← e2, eq, ec]
          rw [e3] at hc2
          have e4 := I3.ok.inj _ _ _ hc1 hc2
          rw [e4] at k1
          exact hno q hq k1
      · rw [Heap.size_push] at k2
        rw [ep] at lt
        exact absurd (Nat.lt_of_lt_of_le lt (Nat.le_of_succ_le k2)) (Nat.lt_irrefl _)
    · obtain ⟨p, hp, ep⟩ := inL _ z
      have lt := ltL p hp
      rw [ep, cL] at lt
      exact Nat.lt_irrefl _ lt
  have nfp : ∀ b ∈ fp, Hs b = none := fun b hb => by
    rw [hHs, shw_out fun z => ?_]
    · exact (f3 b hb).1.1
    · have hmm : b ∈ is.map fun q => cellAt X q.2 := by
        rw [← slots_fst l1]
        exact z
      obtain ⟨q, hq, eq⟩ := List.mem_map.mp hmm
      obtain ⟨c2, hc2⟩ := I3.ok.has q.2 (.inl (O.ix q hq).2.2)
      have e2 : cellAt X q.2 = c2 := by unfold cellAt; rw [hc2]; rfl
      exact (f3 b hb).1.2.2.2.2.1 _ _ hc2 (by rw [← e2]; exact eq)
  rw [← hHs] at w0
  have stat : ∀ {σ' : L2.St} {H' : Hp} {s' : Shared}, Inv (X.blk s3 Hs scope ce fp) [] σ' H' s' → (∀ b ∈ fp, H' b = none) → ∀ b ∈ fp, FpOk (X.blk s3 Hs scope ce fp) [] H' b := fun {σ' H' s'} I' hn b hb =>
    ⟨hn b hb, (I'.ok.exf b hb).1, I'.ok.exfs b hb, .inl hb, fun x c e => (I'.ok.exf b hb).2 x c e, fun p hp => absurd (show p ∈ ([] : List (Addr × Obj)) ++ [] from hp) (by simp)⟩
  have loop : codeAny (model X.prog X.w) X.A (.compLoop (.ListComp elt [⟨tg, iter, ifs, 0⟩] scope pos) 0 (.ref it) (.ref D) ce) (compPost (model X.prog X.w) X.A X.xe none (EP X pins σ Q) (.ref D) s3.heap.objs.size) s4 := by
    refine compLoop_any (fun n s' => ∃ i H', Inv (X.blk s3 Hs scope ce fp) [] (wipe σ (own.map (·.2))) H' s' ∧ tn i s'.heap ∧ (∀ b ∈ fp, H' b = none) ∧ W i n H') ?_ m0 ⟨0, Hs, I4s, st4, nfp, w0⟩
    rintro n s5 ⟨i, H5, I5, st5, n5, w5⟩
    rcases turn i n H5 w5 with ⟨stop, qq⟩ | ⟨go, Nx, hNx, step⟩
    · -- the end: the cells are hidden again
      refine thnF (T.done (X.blk s3 Hs scope ce fp) rfl rfl rfl hc i [] s5 _ H5 (fun _ _ => False) I5 (stat I5 n5) st5 stop) fun r s6 ⟨hr, I6⟩ => ?_
      subst hr
      have sees : ∀ p ∈ L, H5 p.1 = some (frzC p.2) := fun p hp => I6.base.frzs p.1 _ _ (by show Hs p.1 = _; rw [hHs]; exact shw_at l2 hp)
      have un : Un (frs X.stack) fp (upd H2 D (.lst [])) (hid L H5) s3.heap s6.heap := by
        have z : Un (frs X.stack) fp Hs H5 s3.heap s6.heap := I6.base
        rw [hHs] at z
        exact un_hide z (fun p hp => ⟨(l3 p hp).1, (l3 p hp).2.1, (l3 p hp).2.2.1⟩) sees I6.hok
      have I7 : Inv X pins σ (hid L H5) s6 := I3.call' (ch := fp) I6.os un (hok_hid I6.hok l2 sees) I6.bare fun b hb => ⟨(f3 b hb).1.2.2.2.1, (f3 b hb).1.2.1, (f3 b hb).1.2.2.2.2.1, (f3 b hb).1.2.2.2.2.2⟩
      have nC : hid L H5 s3.heap.objs.size = none := by
        refine hid_no ?_
        have z : H5 ce.locals = none := I6.free
        rw [cL] at z
        exact z
      obtain ⟨m, hn, _⟩ := I6.loc
      have hn : s6.heap.Ns ce.locals m := hn
      rw [cL] at hn
      refine ⟨m, hn, fun h'' sb => ?_⟩
      obtain ⟨g0, g1, g2, g3, g4, g5⟩ := I3.fpOk (H' := hid L H5) (Nat.le_refl _) nC
      exact ⟨.ref D, hid L H5, I7.turned (t' := s6.toks) (fun b o hb e => (sb.2 b hb).trans e) g0 g1 g3 g4 g5, rfl, qq sees⟩
    · refine thnF (T.item (X.blk s3 Hs scope ce fp) rfl rfl rfl hc i [] s5 _ H5 (fun _ _ => False) I5 (stat I5 n5) st5 go) fun r s6 ⟨u, hr, h6⟩ => ?_
      subst hr
      refine thnF h6 fun _ s7 ⟨x, H7, I7, r7, y7, st7, n7⟩ => ?_
      refine thnF (pg.run _ s7 _ H7 x u _ (I7.pinned (stat I7 n7) (T.obj _ _ st7)) r7 (step x H7 y7)) fun _ s8 ⟨σ8, H8, I8, hw8, q8⟩ => ?_
      refine thnF (pt.run _ s8 σ8 H8 _ I8 q8) fun bb s9 ⟨H9, I9, q9⟩ => ?_
      have fin : ∀ {s' : Shared} {H' : Hp}, Inv (X.blk s3 Hs scope ce fp) ([] ++ pinsAt fp s7.heap) σ8 H' s' → Nx H' → ∃ m, m < n ∧ ∃ i H', Inv (X.blk s3 Hs scope ce fp) [] (wipe σ (own.map (·.2))) H' s' ∧ tn i s'.heap ∧ (∀ b ∈ fp, H' b = none) ∧ W i m H' := fun {s' H'} I' nx => by
        obtain ⟨m', hm, w'⟩ := hNx H' nx
        have still : ∀ b ∈ fp, ∀ o, s7.heap.get? b = some o → s'.heap.get? b = some o ∧ H' b = none := fun b hb o e =>
          let z := I'.pin (b, o) (List.mem_append_right _ (List.mem_append_right _ (mem_pinsAt hb e)))
          ⟨z.1, z.2.1⟩
        refine ⟨m', hm, i + 1, H', (I'.unpinned (pins := [])).weak (by rw [← hw8, wipe_length]) (fun j v e => ?_), T.keep _ _ _ st7 fun b hb o e => (still b hb o e).1, fun b hb => ?_, w'⟩
        · rw [← hw8] at e
          exact (wipe_some e).1
        · obtain ⟨o, e, _⟩ := T.obj _ _ st7 b hb
          exact (still b hb o e).2
      cases bb with
      | false =>
        simp only [Bool.false_eq_true, if_false] at q9 ⊢
        exact fin I9 q9
      | true =>
        simp only [if_true] at q9 ⊢
        refine thnF (pe.run _ s9 σ8 H9 _ I9 q9) fun z s10 ⟨yv, H10, I10, r10, acc, hD10, hz10, nx⟩ => ?_
        exact app_ok (X := X.blk s3 Hs scope ce fp) I10 hD10 hz10 r10 fun s11 I11 => fin I11 nx
  exact codeAny_compStart_list loop (T.self X.A 0 _ _ _ st4 loop)
end
section
variable {j : J} {Γ : Gm} {C : List Cell} {R : Ps} {pos : Pos} {iter elt : Expr} {ifs : List Expr} {scope : Scope}
/-- [elt for x in e if ..], e a frozen list; the block sees the frame's cells of is -/
theorem ev_lcX (i : Nat) (is : List (Nat × Str)) {x : Str} {px : Pos} (O : Owns j.X is)
    (h : Ev j Γ C iter fun C1 p => ∃ ps, p = rL ps ∧ ∃ cs, Paired (CapR j.X Γ) is cs ∧ ∃ I : Nat → List Cell → List Pr → Prop, I 0 (capsC cs ++ C1) [] ∧ (∀ n q Ci acc, ps[n]? = some q → I n Ci acc → Turn1 j scope Γ i q Ci acc elt ifs fun C' acc' => I (n + 1) C' acc') ∧ ∀ Cn acc, I ps.length Cn acc → ∃ C'', Cn.Perm (capsC cs ++ C'') ∧ R C'' (rL acc))
    (hN : j.X.N.Nodup) (ok : BlkOk j.X.N j.X.env.scope scope [(x, i)]) (hno : ∀ q ∈ is, (q.2, NameKind.free) ∉ scope.names) (hc : j.X.calm = true)
    (hg : ∀ (s : Shared) (H : Hp) (Cc : Addr) (cl : List (Str × Addr)) (fp : List Addr), PG (j.X.blk s H scope (compEnvC scope cl Cc j.X.env) fp) (.Name x px) (gName i)) (hs : ∀ x, foldedSetIterable iter j.X.env x = pure x := by intro _; rfl) :
    Ev j Γ C (.ListComp elt [⟨.Name x px, iter, ifs, 0⟩] scope pos) R :=
  ev_lift (pe_lcX (own := [(x, i)]) hc hN (pi_list pe_we) ok O hno hg pts_wifB pe_weB hs) fun Φ σ F H Q xw S K => by
    refine h Φ σ F H _ xw S fun v F1 H1 C1 p ⟨ps, ep, cs, hcs, I, i0, turn, fin⟩ S1 s1 o1 => ?_
    subst ep
    obtain ⟨al, ys, ev, hl, hy⟩ := o1
    refine ⟨al, ev, ⟨ys, .inl (S1.sub _ _ hl)⟩, fun D hD L l1 l2 l3 => ?_⟩
    have h0 : Φ.H0 D = none := S1.there D hD
    have w1 : ∀ {F' H' : Hp} {C' : List Cell}, Sta j.tb Φ Γ C' σ F' H' → Sta j.tb Φ (Γ.set i none) C' (σ.set i none) F' H' := fun S' => ⟨S'.env.wipe1 i, S'.cells, S'.sub, S'.fine, S'.tab, S'.base, S'.fresh, S'.keep, S'.own, S'.there⟩
    have hk := caps_ok S1.env l1 hcs
    have hn : ∀ p ∈ L, upd H1 D (.lst []) p.1 = none := fun p hp => by
      rw [upd_ne (l3 p hp).2]
      exact (l3 p hp).1
    have SX := (S1.beside (o := .lst []) hD).shw hk hn l2
    have dL : D ∉ L.map Prod.fst := fun z => by
      obtain ⟨p, hp, e⟩ := List.mem_map.mp z
      exact (l3 p hp).2 e
    have dC : D ∉ (capsC cs ++ C1).map (·.a) := fun z => by
      rw [List.map_append, capsC_a, hk.fst] at z
      rcases List.mem_append.mp z with z | z
      · exact dL z
      · obtain ⟨c, hc, ec⟩ := List.mem_map.mp z
        obtain ⟨w, q1, _, _⟩ := S1.cells.at_ c hc
        rw [ec, hD] at q1
        cases q1
    have hD' : Z.shw L (upd H1 D (.lst [])) D = some (.lst []) := by rw [shw_out dL, upd_same]
    have wl := walk_list (K := j.X.K) (a := al) (xs := ys)
    have hlen : ps.length = ys.length := hy.length
    refine ⟨fun n m H => m = ys.length - n ∧ n ≤ ys.length ∧ ∃ C' acc F' vs, I n C' acc ∧ Sta j.tb Φ (Γ.set i none) C' (σ.set i none) F' H ∧ L2.Same F1 F' ∧ H D = some (.lst vs) ∧ F' D = none ∧ D ∉ C'.map (·.a) ∧ AllOn acc F' vs,
      ⟨ys.length, by simp, Nat.zero_le _, capsC cs ++ C1, [], F1, [], i0, w1 SX, L2.Same.refl _, hD', S1.notF hD, dC, .nil⟩, ?_⟩
    rintro n m H2 ⟨rfl, hn2, C2, acc, F2, vs, i2, S2, s2, d1, d2, d3, ha⟩
    have hsq : SqL j.X.K H2 al ys := .inl (S2.sub _ _ (s2 _ _ hl))
    by_cases hlt : n < ys.length
    · refine .inr ⟨wl.goes n H2 hlt hsq, fun H' => ∃ C' acc F' vs, I (n + 1) C' acc ∧ Sta j.tb Φ (Γ.set i none) C' (σ.set i none) F' H' ∧ L2.Same F1 F' ∧ H' D = some (.lst vs) ∧ F' D = none ∧ D ∉ C'.map (·.a) ∧ AllOn acc F' vs, fun H' p' => ⟨ys.length - (n + 1), by omega, rfl, hlt, p'⟩, fun y H' yl => ?_⟩
      obtain ⟨eH, hyn⟩ := wl.yields n H2 y H' hlt hsq yl
      subst eH
      have hn : n < ps.length := by omega
      obtain ⟨y', e1, e2⟩ := hy.get (List.getElem?_eq_getElem hn)
      rw [hyn] at e1
      cases e1
      refine ⟨by show (((σ.set i none).set i (some y)).set i none) = σ.set i none; rw [List.set_set, List.set_set], ?_⟩
      refine turn_read (turn n ps[n] C2 acc (List.getElem?_eq_getElem hn) i2) S2 (ps[n].mono s2 e2) d1 d2 h0 d3 ha fun C' acc' vs' F' H' n' S' s' f1 f2 f3 f4 => ?_
      exact ⟨C', acc', F', vs', n', S', s2.trans s', f1, f2, f3, f4⟩
    · have en : n = ys.length := by omega
      subst en
      refine .inl ⟨wl.stops H2 hsq, fun sees => ?_⟩
      rw [← hlen] at i2
      obtain ⟨C'', pm, r⟩ := fin C2 acc i2
      have S3 : Sta j.tb Φ Γ C2 σ F2 H2 := ⟨S1.env.mono s2, S2.cells, S2.sub, S2.fine, S2.tab, S2.base, S2.fresh, S2.keep, S2.own, S2.there⟩
      obtain ⟨S4, s4⟩ := S3.adopt d1 d2 h0 d3 ⟨fun _ z => (nomatch z), fun _ _ z => (nomatch z)⟩
      have S5 := (S4.perm pm).hid (hk.mono (s2.trans s4)) sees fun p hp => S1.there _ (l3 p hp).1
      exact K _ _ _ _ _ r S5 ((s1.trans s2).trans s4) ⟨D, vs, rfl, upd_same, ha.mono s4⟩
end
end Z

end
section
set_option Elab.async false
set_option linter.all false
set_option maxRecDepth 100000
/-! Z20: a def by its body, its code object known. -/
namespace Z
open PySem PySem.Spec PyProof.Rows L2
theorem def_okC {ω : Type} {p : Prom ω} {tb : Tb} {Pg : Program} {w : World} {K : PySem.W.Frag} {mg : Str → Option Value} {base : Heap} {st : Stmt} {name qual : Str} {N ps : List Str} {k : Nat} {f : Addr} {dV kV doc pm cdv ct oc : Value} {an od : Option Addr} {osl : Array (Option Value)}
    (lk : K.lookup f = some ⟨oc, od, .func (PySem.W.fnOf name qual (defArgs st) (defBody st) (defScope st) dV kV doc pm an cdv ct), osl⟩) (hcd : PySem.W.codeIn K cdv qual = true) (Sc : FnScope N ps (defScope st)) (len : ∀ o, (p.ps o).length = ps.length)
    (body : ∀ (o : ω) (A : Around) (outer : List Env) (s : Shared) (H : Hp) (E : XK), p.pre o → Room k (A.deeper (envOfC qual (defScope st) s.heap.objs.size f cdv)) →
      PassesOwn (model Pg w) (cxOf (L2.CX Pg w) Pg w K mg base N qual (defScope st) f cdv A outer s H E).A (cxOf (L2.CX Pg w) Pg w K mg base N qual (defScope st) f cdv A outer s H E).env (cxOf (L2.CX Pg w) Pg w K mg base N qual (defScope st) f cdv A outer s H E).xe →
      Tr ⟨cxOf (L2.CX Pg w) Pg w K mg base N qual (defScope st) f cdv A outer s H E, tb, p.XP o⟩ ((p.ps o).map some ++ List.replicate (N.length - ps.length) none) (p.C o) (defBody st) { rt := p.R o, nx := fun _ C => p.R o C isN }) :
    FnOk Pg w K mg base (L2.CX Pg w) (k + 1) f (PySem.W.fnOf name qual (defArgs st) (defBody st) (defScope st) dV kV doc pm an cdv ct) ps (p.sp tb) := by
  refine fn_of lk hcd Sc (fun vs H Q E h => ?_) (fun A outer s H vs Q E hr h => ?_)
  · obtain ⟨o, F, _, ha, _⟩ := h
    rw [← ha.length]
    exact len o
  · obtain ⟨o, F, hp, ha, S, kR, kX⟩ := h
    have tk : Takes (cxOf (L2.CX Pg w) Pg w K mg base N qual (defScope st) f cdv A outer s H E) (fun cls d _ H => E cls d H) := takes_of rfl rfl rfl rfl
    have t := body o A outer s H E hp hr (passes_of (K := fun e s'' => L2.CX Pg w outer H s E e s'') rfl)
    refine ⟨Wb _ (defBody st), pss_wb, ?_⟩
    have xw : XW ⟨cxOf (L2.CX Pg w) Pg w K mg base N qual (defScope st) f cdv A outer s H E, tb, p.XP o⟩ (Fx.of F H (p.C o)) := tk.imp fun cls d σ H' ⟨C', F', h1, S'⟩ => kX cls d F' H' C' h1 S'
    have hl : vs.length = ps.length := by rw [← ha.length]; exact len o
    have env : EnvOk ((p.ps o).map some ++ List.replicate (N.length - ps.length) none) F (L2.start N vs) := by
      unfold L2.start
      rw [hl]
      exact (EnvOk.all ha).app (EnvOk.nones _)
    refine (t _ _ F H xw (S.env' env)).mono (fun σ' H' ⟨Γ', C', F', n, S'⟩ => ?_) (fun v H' ⟨Γ', C', F', σ', ρ, r, S', o'⟩ => kR v F' H' C' ρ r S'.noenv o') (fun σ' H' ⟨Γ', C', F', n, S'⟩ => n.elim) fun σ' H' ⟨Γ', C', F', n, S'⟩ => n.elim
    exact kR .non F' H' C' isN n S'.noenv rfl
section
variable {j : J} {Γ : Gm} {C : List Cell} {R R' : Ps} {pos pos' pos2 : Pos} {a b c e : Expr} {P : Po} {st : Stmt} {rest body : List Stmt}
/-- for over a frozen list; the invariant by what the list is -/
theorem tr_forA {κ : Type} {tg : Expr} (I : κ → Nat → Gm → List Cell → Prop) (N : Gm → List Cell → Prop)
    (k : Ev j Γ C e fun C1 p => ∃ (y : κ) (ps : List Pr), p = rL ps ∧ I y 0 Γ C1 ∧
      (∀ i q Γ' C', ps[i]? = some q → I y i Γ' C' → Eg j Γ' C' tg q fun Γ2 C2 => Tr j Γ2 C2 body { nx := I y (i + 1), ct := I y (i + 1), bk := N, rt := P.rt }) ∧ (∀ Γ' C', I y ps.length Γ' C' → N Γ' C'))
    (kr : ∀ Γ' C', N Γ' C' → Tr j Γ' C' rest P) (hp : PassesOwn (model j.X.prog j.X.w) j.X.A j.X.env j.X.xe) (hc : j.X.calm = true) (hs : ∀ x, foldedSetIterable e j.X.env x = pure x := by intro _; rfl) : Tr j Γ C (.For tg e body [] pos :: rest) P :=
  tr_lift (ps_for hp hc (pi_list pe_we) pg_wg pss_wb hs) fun Φ σ F H x S => k Φ σ F H _ x S fun v F1 H1 C1 p ⟨y0, ps, ep, i0, hs, hd⟩ S1 s1 o1 => by
    subst ep
    obtain ⟨al, vs, ev, hl, ho⟩ := o1
    refine ⟨al, ev, ⟨vs, .inl (S1.sub _ _ hl)⟩, for_list (K := j.X.K) (a := al) (xs := vs) (fun i σ H => ∃ Γ C F, I y0 i Γ C ∧ Sta j.tb Φ Γ C σ F H ∧ F al = some (.lst vs) ∧ AllOn ps F vs) ⟨Γ, C1, F1, i0, S1, hl, ho⟩ (fun i σ H _ ⟨Γ', C', F', _, S', hl', _⟩ => .inl (S'.sub _ _ hl')) ?_ ?_⟩
    · rintro i y σ2 H2 hy ⟨Γ2, C2, F2, i2, S2, hl2, ho2⟩
      have hi : i < vs.length := (List.getElem?_eq_some_iff.mp hy).1
      have hi' : i < ps.length := by rw [ho2.length]; exact hi
      obtain ⟨y', e1, e2⟩ := ho2.get (List.getElem?_eq_getElem hi')
      rw [hy] at e1
      cases e1
      refine hs i ps[i] Γ2 C2 (List.getElem?_eq_getElem hi') i2 Φ σ2 F2 H2 y _ x S2 e2 fun Γ3 C3 σ3 F3 H3 t3 S3 s3 => ?_
      refine Wb.mono (Tr.at t3 x S3) (fun σ4 H4 ⟨Γ4, C4, F4, n4, S4, s4⟩ => ?_) (fun v4 H4 ⟨Γ4, C4, F4, σ4, ρ4, r4, S4, o4, _⟩ => ⟨Γ4, C4, F4, σ4, ρ4, r4, S4, o4⟩) (fun σ4 H4 ⟨Γ4, C4, F4, n4, S4, s4⟩ => ?_) fun σ4 H4 ⟨Γ4, C4, F4, n4, S4, s4⟩ => ?_
      · exact ⟨Γ4, C4, F4, n4, S4, (s3.trans s4) _ _ hl2, ho2.mono (s3.trans s4)⟩
      · exact kr Γ4 C4 n4 Φ σ4 F4 H4 x S4
      · exact ⟨Γ4, C4, F4, n4, S4, (s3.trans s4) _ _ hl2, ho2.mono (s3.trans s4)⟩
    · rintro σ2 H2 ⟨Γ2, C2, F2, i2, S2, _, _⟩
      have hlen : ps.length = vs.length := ho.length
      rw [← hlen] at i2
      exact kr Γ2 C2 (hd Γ2 C2 i2) Φ σ2 F2 H2 x S2
end
end Z

end
section
set_option Elab.async false
set_option linter.all false
set_option maxRecDepth 100000
open PySem PySem.Spec PyProof.Rows L2 Z
/-! short rows -/
local macro_rules | `(tactic| walk_at "zmem") => `(tactic| first
  | exact List.Mem.head _
  | exact List.Mem.tail _ (List.Mem.head _)
  | exact List.Mem.tail _ (List.Mem.tail _ (List.Mem.head _))
  | exact List.Mem.tail _ (List.Mem.tail _ (List.Mem.tail _ (List.Mem.head _)))
  | exact List.Mem.tail _ (List.Mem.tail _ (List.Mem.tail _ (List.Mem.tail _ (List.Mem.head _)))))
local macro_rules | `(tactic| walk_at "zlst") => `(tactic| first | exact lst_F | exact lst_S | exact lst_C (by walk_at "zmem") | assumption)
local macro_rules | `(tactic| walk_at "ztup") => `(tactic| first | exact tup_F | assumption)
local macro_rules | `(tactic| walk_at "zdic") => `(tactic| first | exact dic_F | exact dic_C (by walk_at "zmem") | exact dic_Z (by walk_at "zmem") | assumption)
local macro_rules | `(tactic| walk_at "zside") => `(tactic| first | assumption | decide | (show _ ≤ sizeLine; decide) | omega)
local macro_rules | `(tactic| walk_at "zadd") => `(tactic| first | refine okA_addI ?_ | refine okA_addS (by walk_at "zside") ?_ | refine okA_addL (by walk_at "zlst") (by walk_at "zlst") (by walk_at "zside") ?_)
local macro_rules | `(tactic| walk_at "zsub") => `(tactic| refine ok_rI0 ?_)
local macro_rules | `(tactic| walk_at "zmul") => `(tactic| first | refine okA_mulI (by walk_at "zside") ?_ | refine okA_mulL (by walk_at "zside") (by walk_at "zside") (by walk_at "zside") ?_)
local macro_rules | `(tactic| walk_at "zdiv") => `(tactic| refine ok_rI (by first | assumption | exact ⟨by decide, by decide⟩) ?_)
local macro_rules | `(tactic| walk_at "zmod") => `(tactic| refine ok_rI (by first | assumption | decide) ?_)
local macro_rules | `(tactic| walk_at "zpow") => `(tactic| refine ok_rI (by exact ⟨by decide, by decide, by decide⟩) ?_)
local macro_rules | `(tactic| walk_at "zlt") => `(tactic| refine ok_rI0 ?_)
local macro_rules | `(tactic| walk_at "zeq") => `(tactic| refine okA_eqS rfl ?_)
local macro_rules | `(tactic| walk_at "zne") => `(tactic| refine okA_neS rfl ?_)
local macro_rules | `(tactic| walk_at "zix") => `(tactic| first | refine okA_ixL (by walk_at "zlst") (by rfl) ?_ | refine okA_ixT (by walk_at "ztup") (by rfl) ?_ | refine okA_ixD (by walk_at "zdic") (by assumption) ?_)
local macro_rules | `(tactic| walk_at "zfld") => `(tactic| refine ⟨_, _, _, rfl, by walk_at "zmem", rfl, ?_⟩)
local macro_rules | `(tactic| walk_at "zc_len") => `(tactic| first | refine okA_lenL (by walk_at "zlst") ?_ | refine okA_lenT (by walk_at "ztup") ?_ | refine okA_lenD (by walk_at "zdic") ?_ | refine okA_lenS (by walk_at "zside") ?_)
local macro_rules | `(tactic| walk_at "zc_int") => `(tactic| first | refine ok_intI ?_ | refine ok_intB ?_)
local macro_rules | `(tactic| walk_at "zc_abs") => `(tactic| refine ok_abs ?_)
local macro_rules | `(tactic| walk_at "zc_str") => `(tactic| refine ok_strI (by walk_at "zside") ?_)
local macro_rules | `(tactic| walk_at "zso") => `(tactic| first
  | refine so_L (i := 0) rfl rfl ?_ | refine so_L (i := 1) rfl rfl ?_ | refine so_L (i := 2) rfl rfl ?_ | refine so_L (i := 3) rfl rfl ?_)
local macro_rules | `(tactic| walk_at "zuse") => `(tactic| apply et_use)
local macro_rules | `(tactic| walk_at "zev") => `(tactic| apply ev_use)
local macro_rules | `(tactic| walk_at "zand") => `(tactic| apply etp_and)
local macro_rules | `(tactic| walk_at "zor") => `(tactic| apply etp_or)
local macro_rules | `(tactic| walk_at "znot") => `(tactic| apply etp_not)
namespace K17
open PySem.W (Datum Tup)
open Rep (pr)
def top (i : Nat) : Stmt := PySem.Challenge.pw_landstack_k17_news_that_are_told_to_othe.main.body.getD i (.Pass ⟨0, 0, 0, 0⟩)
abbrev sDice : Stmt := top 9
abbrev sRoll : Stmt := top 10
/-- the dice -/
def cDi (d : Addr) : Cell := ⟨d, fun _ o => ∃ a b c : Int, o = .lst [.int a, .int b, .int c], fun _ h => h, fun ⟨a, b, c, e⟩ => by subst e; exact fun _ z => (nomatch z)⟩
theorem di_of {d : Addr} {a b c : Int} (F : Hp) (o : HO) (h : (cL d [isI a, isI b, isI c]).on F o) : (cDi d).on F o := by
  obtain ⟨vs, e, h⟩ := h
  cases h with
  | cons h1 h => cases h with
    | cons h2 h => cases h with
      | cons h3 h =>
        cases h
        exact ⟨a, b, c, by rw [e, show _ = V.int a from h1, show _ = V.int b from h2, show _ = V.int c from h3]⟩
theorem di_to {d : Addr} (F : Hp) (o : HO) (h : (cDi d).on F o) : ∃ z : Int × Int × Int, (cL d [isI z.1, isI z.2.1, isI z.2.2]).on F o := by
  obtain ⟨a, b, c, e⟩ := h
  exact ⟨(a, b, c), _, e, .cons rfl (.cons rfl (.cons rfl .nil))⟩
def pDice : Prom Int := { ps := fun c => [isI c], R := fun _ C ρ => ∃ d a b c, C = [cL d [isI a, isI b, isI c]] ∧ ρ = isR d }
structure DO where
  d : Addr
  n : Int
def pRoll : Prom DO := { ps := fun o => [isR o.d, isI o.n], C := fun o => [cDi o.d], pre := fun o => 0 < o.n ∧ o.n ≤ 100000000, R := fun o C ρ => ∃ r : Int, 0 ≤ r ∧ r < o.n ∧ C = [cDi o.d] ∧ ρ = isI r }
section
variable {Pg : Program} {w : World} {K : PySem.W.Frag} {mg : Str → Option Value} {base : Heap} {tb : Tb}
theorem scDice : FnScope ["cell"] ["cell"] (defScope sDice) := ⟨rfl, rfl, rfl, by decide +kernel, rfl, by decide +kernel, by decide +kernel⟩
theorem ok_dice {f : Addr} {fd : FuncData} (Fn : Fun K "_law_dice" "_law_dice" sDice f fd) (zAbs : mg "abs" = none) (zInt : mg "int" = none) : FnOk Pg w K mg base (L2.CX Pg w) 1 f fd ["cell"] (pDice.sp tb) :=
  def_ok Fn scDice (fun _ => rfl) fun cell cdv A outer s H E _ hr own => by
    refine tr_ifx ?_
    refine et_chain op_lt op_lt rfl ?_
    refine ev_op op_sub ?_
    refine ev_int ?_
    refine ev_int ?_
    refine ok_rI0 ?_
    refine ev_name 0 rfl ?_
    refine ok_rI0 ?_
    have big : ∀ {P : Po} {rest : List Stmt}, P.rt = pDice.R cell → Tr ⟨cxOf (L2.CX Pg w) Pg w K mg base ["cell"] "_law_dice" (defScope sDice) f cdv A outer s H E, tb, pDice.XP cell⟩ [some (isI cell)] [] ((defBody sDice).drop 1) P := by
      intro P rest hP
      refine tr_ret ?_
      refine ev_lstC ?_
      refine ea_cons ?_
      refine ev_name 0 rfl ?_
      refine ea_cons ?_
      refine ev_op op_addA ?_
      refine ev_int ?_
      refine ev_op op_mod ?_
      refine ev_callTy call_int1 zInt (by decide +kernel) ?_
      refine ea_cons ?_
      refine ev_name 0 rfl ?_
      refine ea_nil ?_
      walk_at "zc_int"
      refine ev_int ?_
      walk_at "zmod"
      walk_at "zadd"
      refine ea_cons ?_
      refine ev_callTy call_int1 zInt (by decide +kernel) ?_
      refine ea_cons ?_
      refine ev_cmp op_ge rfl ?_
      refine ev_name 0 rfl ?_
      refine ev_op op_pow ?_
      refine ev_int ?_
      refine ev_int ?_
      walk_at "zpow"
      walk_at "zlt"
      refine ea_nil ?_
      walk_at "zc_int"
      refine ea_nil ?_
      refine ⟨by show 3 ≤ sizeLine; decide, fun p => ?_⟩
      rw [hP]
      exact ⟨_, _, _, _, rfl, rfl⟩
    refine ⟨_, rfl, fun h1 => ?_, fun h1 => ⟨fun z => (nomatch z), fun _ => big (rest := []) rfl⟩⟩
    refine ev_int ?_
    refine ok_rI0 ?_
    refine ⟨_, rfl, fun h2 => ?_, fun h2 => big (rest := []) rfl⟩
    refine tr_ret ?_
    refine ev_lstC ?_
    refine ea_cons ?_
    refine ev_callB call_abs zAbs (by decide +kernel) ?_
    refine ea_cons ?_
    refine ev_name 0 rfl ?_
    refine ea_nil ?_
    refine ok_abs ?_
    refine ea_cons ?_
    refine ev_int ?_
    refine ea_cons ?_
    refine ev_int ?_
    refine ea_nil ?_
    exact ⟨by show 3 ≤ sizeLine; decide, fun p => ⟨_, _, _, _, rfl, rfl⟩⟩
theorem scRoll : FnScope ["dice", "many", "found"] ["dice", "many"] (defScope sRoll) := ⟨rfl, rfl, rfl, by decide +kernel, rfl, by decide +kernel, by decide +kernel⟩
theorem ok_roll {f : Addr} {fd : FuncData} (Fn : Fun K "_law_roll" "_law_roll" sRoll f fd) (zInt : mg "int" = none) : FnOk Pg w K mg base (L2.CX Pg w) 1 f fd ["dice", "many"] (pRoll.sp tb) :=
  def_ok Fn scRoll (fun _ => rfl) fun o cdv A outer s H E hpre hr own => by
    obtain ⟨d, n⟩ := o
    obtain ⟨n0, n1⟩ := hpre
    have u1 := hu_of hr
    have hmod : 0 < n := n0
    have hdiv : CDiv n 0 ∨ CDiv 7 7 := .inr ⟨by decide, by decide⟩
    have hdivn : ∀ i : Int, CDiv i n := fun i => ⟨n0, by dsimp only at n1; omega⟩
    refine tr_open (i := 0) (fun z : Int × Int × Int => cL d [isI z.1, isI z.2.1, isI z.2.2]) rfl (fun _ => rfl) di_to ?_
    rintro ⟨a, b, c⟩
    -- if dice[2] == 2 or (dice[2] == 1 and dice[0] > 0):
    refine tr_ifx ?_
    walk_at "zuse"
    · refine et_w ?_
      walk_at "zor"
      · refine et_cmp op_eqA rfl ?_
        refine ev_ix (ix_all u1) ?_
        refine ev_name 0 rfl ?_ -- dice
        refine ev_int ?_
        walk_at "zix"
        refine ev_int ?_
        walk_at "zeq"
        refine ⟨_, rfl, ?_⟩
        exact ⟨rfl, rfl⟩
      intro h3
      refine etw_or1 ?_
      refine et_w ?_
      walk_at "zand"
      · refine et_cmp op_eqA rfl ?_
        refine ev_ix (ix_all u1) ?_
        refine ev_name 0 rfl ?_ -- dice
        refine ev_int ?_
        walk_at "zix"
        refine ev_int ?_
        walk_at "zeq"
        refine ⟨_, rfl, ?_⟩
        exact ⟨rfl, rfl⟩
      intro h4
      refine etw_and1 ?_
      refine et_cmp op_gt rfl ?_
      refine ev_ix (ix_all u1) ?_
      refine ev_name 0 rfl ?_ -- dice
      refine ev_int ?_
      walk_at "zix"
      refine ev_int ?_
      walk_at "zlt"
      refine ⟨_, rfl, ?_⟩
      exact ⟨rfl, rfl⟩
    refine bB (fun h1 => ?_) (fun h2 => ?_)
    · -- found = int(dice[0]) % many
      refine tr_set 2 ?_ scRoll.nd -- found
      refine ev_op op_mod ?_
      refine ev_callTy call_int1 zInt (by decide +kernel) ?_
      refine ea_cons ?_
      refine ev_ix (ix_all u1) ?_
      refine ev_name 0 rfl ?_ -- dice
      refine ev_int ?_
      walk_at "zix"
      refine ea_nil ?_
      walk_at "zc_int"
      refine ev_name 1 rfl ?_ -- many
      walk_at "zmod"
      -- dice[0] = dice[0] // many
      refine tr_sput u1 ?_
      refine ev_op op_fdiv ?_
      refine ev_ix (ix_all u1) ?_
      refine ev_name 0 rfl ?_ -- dice
      refine ev_int ?_
      walk_at "zix"
      refine ev_name 1 rfl ?_ -- many
      refine ok_rI (hdivn _) ?_
      refine ev_name 0 rfl ?_ -- dice
      refine ev_int ?_
      walk_at "zso"
      -- return found
      refine tr_weak (i := 0) (c' := cDi d) rfl rfl di_of ?_
      refine tr_ret ?_
      refine ev_name 2 rfl ?_ -- found
      exact ⟨_, Int.emod_nonneg _ (Int.ne_of_gt n0), Int.emod_lt_of_pos _ n0, rfl, rfl⟩
    -- dice[2] = 0
    refine tr_sput u1 ?_
    refine ev_int ?_
    refine ev_name 0 rfl ?_ -- dice
    refine ev_int ?_
    walk_at "zso"
    -- if many > 100000000:
    refine tr_ifx ?_
    walk_at "zuse"
    · refine et_cmp op_gt rfl ?_
      refine ev_name 1 rfl ?_ -- many
      refine ev_int ?_
      walk_at "zlt"
      refine ⟨_, rfl, ?_⟩
      exact ⟨rfl, rfl⟩
    refine bD (fun h1 => absurd h1 (by dsimp only at n1 ⊢; omega)) (fun h2 => ?_)
    -- dice[0] = int(dice[0] * 48271 + dice[1] * 69621 + 11) % 2147483647
    refine tr_sput u1 ?_
    refine ev_op op_mod ?_
    refine ev_callTy call_int1 zInt (by decide +kernel) ?_
    refine ea_cons ?_
    refine ev_op op_addA ?_
    refine ev_op op_addA ?_
    refine ev_op op_mulA ?_
    refine ev_ix (ix_all u1) ?_
    refine ev_name 0 rfl ?_ -- dice
    refine ev_int ?_
    walk_at "zix"
    refine ev_int ?_
    refine okA_mulI (.inr ⟨by decide, by decide⟩) ?_
    refine ev_op op_mulA ?_
    refine ev_ix (ix_all u1) ?_
    refine ev_name 0 rfl ?_ -- dice
    refine ev_int ?_
    walk_at "zix"
    refine ev_int ?_
    refine okA_mulI (.inr ⟨by decide, by decide⟩) ?_
    walk_at "zadd"
    refine ev_int ?_
    walk_at "zadd"
    refine ea_nil ?_
    walk_at "zc_int"
    refine ev_int ?_
    walk_at "zmod"
    refine ev_name 0 rfl ?_ -- dice
    refine ev_int ?_
    walk_at "zso"
    -- dice[1] = dice[1] + 1
    refine tr_sput u1 ?_
    refine ev_op op_addA ?_
    refine ev_ix (ix_all u1) ?_
    refine ev_name 0 rfl ?_ -- dice
    refine ev_int ?_
    walk_at "zix"
    refine ev_int ?_
    walk_at "zadd"
    refine ev_name 0 rfl ?_ -- dice
    refine ev_int ?_
    walk_at "zso"
    -- return int(dice[0] // 7) % many
    refine tr_ret ?_
    refine ev_endW 0 (cDi d) ?_
    refine ev_op op_mod ?_
    refine ev_callTy call_int1 zInt (by decide +kernel) ?_
    refine ea_cons ?_
    refine ev_op op_fdiv ?_
    refine ev_ix (ix_all u1) ?_
    refine ev_name 0 rfl ?_ -- dice
    refine ev_int ?_
    walk_at "zix"
    refine ev_int ?_
    walk_at "zdiv"
    refine ea_nil ?_
    walk_at "zc_int"
    refine ev_name 1 rfl ?_ -- many
    walk_at "zmod"
    exact ⟨_, rfl, rfl, di_of, _, Int.emod_nonneg _ (Int.ne_of_gt n0), Int.emod_lt_of_pos _ n0, rfl, rfl⟩
end
end K17

end
section
set_option Elab.async false
set_option linter.all false
set_option maxRecDepth 100000
open PySem PySem.Spec PyProof.Rows L2 Z
namespace K17
open PySem.W (Datum Tup)
open Rep (pr)
abbrev sHInit : Stmt := inClass (top 6) 0
abbrev sTInit : Stmt := inClass (top 7) 0
abbrev sAdd : Stmt := inClass (top 7) 1
abbrev sHook : Stmt := inClass (top 7) 2
abbrev sHappen : Stmt := inClass (top 7) 3
abbrev sTick : Stmt := inClass (top 7) 4
abbrev sTell : Stmt := inClass (top 7) 5
abbrev sSwitch : Stmt := inClass (top 7) 6
/-! the data -/
abbrev Evt := T3 Int Str Str
abbrev Rw := T3 Str Evt Bool
structure GH where
  name : Str
  words : List Str
  held : List Evt
  tries : Int
  due : Int
  state : Str
  missed : Int
structure HK where
  a : Addr
  l : Addr
  g : GH
structure TK where
  t : Addr
  d : Addr
  time : Int
  count : Int
  hs : List HK
abbrev hFs : List Str := ["name", "words", "held", "tries", "due_at", "state", "missed"]
abbrev tFs : List Str := ["hooks", "time", "count"]
abbrev cHk (K : PySem.W.Frag) (CH : Addr) (h : HK) : Cell := cI h.a CH hFs [isS h.g.name, rT K (h.g.words.map (pr K)), isR h.l, isI h.g.tries, isI h.g.due, isS h.g.state, isI h.g.missed]
abbrev cHl (K : PySem.W.Frag) (h : HK) : Cell := cL h.l (h.g.held.map (pr K))
abbrev kpsH (hs : List HK) : List (Key × Pr) := hs.map fun h => (Sum.inr h.g.name, isR h.a)
abbrev cTe (CT : Addr) (t : TK) : Cell := cI t.t CT tFs [isR t.d, isI t.time, isI t.count]
abbrev cTd (t : TK) : Cell := cK t.d (kpsH t.hs)
def hc (K : PySem.W.Frag) (CH : Addr) (hs : List HK) : List Cell := hs.flatMap fun h => [cHk K CH h, cHl K h]
abbrev tc (K : PySem.W.Frag) (CT CH : Addr) (t : TK) : List Cell := cTe CT t :: cTd t :: hc K CH t.hs
section
variable {K : PySem.W.Frag} {CH CT : Addr} {S : List Cell}
theorem hc_cons {h : HK} {hs : List HK} : hc K CH (h :: hs) ++ S = cHk K CH h :: cHl K h :: (hc K CH hs ++ S) := rfl
theorem hc_at : ∀ {hs : List HK} {i : Nat} {h : HK}, hs[i]? = some h → (hc K CH hs ++ S)[2 * i]? = some (cHk K CH h) ∧ (hc K CH hs ++ S)[2 * i + 1]? = some (cHl K h)
  | [], _, _, e => by simp at e
  | g :: hs, 0, h, e => by
    simp at e
    subst e
    exact ⟨rfl, rfl⟩
  | g :: hs, i + 1, h, e => by
    have e' : hs[i]? = some h := by simpa using e
    rw [hc_cons]
    exact hc_at e'
theorem hc_set2 {h' : HK} : ∀ {hs : List HK} {i : Nat}, i < hs.length → ((hc K CH hs ++ S).set (2 * i) (cHk K CH h')).set (2 * i + 1) (cHl K h') = hc K CH (hs.set i h') ++ S
  | [], _, e => by simp at e
  | g :: hs, 0, e => rfl
  | g :: hs, i + 1, e => by
    have e' : i < hs.length := by simpa using e
    rw [hc_cons, List.set_cons_succ, hc_cons, ← hc_set2 e']
    rfl
theorem set_id {α : Type} {l : List α} {i : Nat} {x : α} (h : l[i]? = some x) : l.set i x = l := by
  refine List.ext_getElem? fun j => ?_
  by_cases e : i = j
  · subst e
    rw [List.getElem?_set_self (List.getElem?_eq_some_iff.mp h).1, h]
  · rw [List.getElem?_set_ne e]
theorem kps_set {hs : List HK} {i : Nat} {h h' : HK} (e : hs[i]? = some h) (ha : h'.a = h.a) (hn : h'.g.name = h.g.name) : kpsH (hs.set i h') = kpsH hs := by
  unfold kpsH
  rw [List.map_set, ha, hn]
  refine set_id ?_
  rw [List.getElem?_map, e]
  rfl
variable {t : TK} {i : Nat} {h h' : HK}
theorem tc_at (e : t.hs[i]? = some h) : (tc K CT CH t ++ S)[2 * i + 2]? = some (cHk K CH h) ∧ (tc K CT CH t ++ S)[2 * i + 3]? = some (cHl K h) := hc_at e
theorem tc_set2 (e : t.hs[i]? = some h) (ha : h'.a = h.a) (hn : h'.g.name = h.g.name) : ((tc K CT CH t ++ S).set (2 * i + 2) (cHk K CH h')).set (2 * i + 3) (cHl K h') = tc K CT CH { t with hs := t.hs.set i h' } ++ S := by
  show cTe CT t :: cTd t :: (((hc K CH t.hs ++ S).set (2 * i) (cHk K CH h')).set (2 * i + 1) (cHl K h')) = cTe CT t :: cK t.d (kpsH (t.hs.set i h')) :: (hc K CH (t.hs.set i h') ++ S)
  rw [hc_set2 (List.getElem?_eq_some_iff.mp e).1, kps_set e ha hn]
theorem tc_set0 (e : t.hs[i]? = some h) (ha : h'.a = h.a) (hn : h'.g.name = h.g.name) (hl : cHl K h' = cHl K h) : (tc K CT CH t ++ S).set (2 * i + 2) (cHk K CH h') = tc K CT CH { t with hs := t.hs.set i h' } ++ S := by
  rw [← tc_set2 e ha hn, hl]
  refine (set_id ?_).symm
  rw [List.getElem?_set_ne (by omega)]
  exact (tc_at e).2
theorem tc_set1 (e : t.hs[i]? = some h) (ha : h'.a = h.a) (hn : h'.g.name = h.g.name) (hk : cHk K CH h' = cHk K CH h) : (tc K CT CH t ++ S).set (2 * i + 3) (cHl K h') = tc K CT CH { t with hs := t.hs.set i h' } ++ S := by
  rw [← tc_set2 e ha hn, hk]
  rw [set_id (tc_at e).1]
end
theorem perm_new {L : List Cell} {k : Nat} {old new : Cell} (h : L[k]? = some old) : (new :: L).Perm (L.set k new ++ [old]) := by
  obtain ⟨e1, e2⟩ := Z.set_split (y := new) h
  rw [e2]
  conv => lhs; rw [e1]
  generalize L.take k = A
  generalize L.drop (k + 1) = B
  have p1 : (new :: (A ++ old :: B)).Perm (new :: old :: (A ++ B)) := List.Perm.cons _ List.perm_middle
  have p2 : ((A ++ new :: B) ++ [old]).Perm (new :: old :: (A ++ B)) := ((List.perm_append_comm (l₁ := A ++ new :: B) (l₂ := [old])).trans (List.Perm.cons _ List.perm_middle)).trans (List.Perm.swap _ _ _)
  exact p1.trans p2.symm
/-! short rows -/
local macro_rules | `(tactic| walk_at "zmem") => `(tactic| first
  | exact List.Mem.head _
  | exact List.Mem.tail _ (List.Mem.head _)
  | exact List.Mem.tail _ (List.Mem.tail _ (List.Mem.head _))
  | exact List.Mem.tail _ (List.Mem.tail _ (List.Mem.tail _ (List.Mem.head _)))
  | exact List.Mem.tail _ (List.Mem.tail _ (List.Mem.tail _ (List.Mem.tail _ (List.Mem.head _)))))
local macro_rules | `(tactic| walk_at "zlst") => `(tactic| first | exact lst_F | exact lst_S | exact lst_C (by walk_at "zmem") | assumption)
local macro_rules | `(tactic| walk_at "ztup") => `(tactic| first | exact tup_F | assumption)
local macro_rules | `(tactic| walk_at "zdic") => `(tactic| first | exact dic_F | exact dic_C (by walk_at "zmem") | exact dic_Z (by walk_at "zmem") | assumption)
local macro_rules | `(tactic| walk_at "zside") => `(tactic| first | assumption | decide | (show _ ≤ sizeLine; decide) | omega)
local macro_rules | `(tactic| walk_at "zadd") => `(tactic| first | refine okA_addI ?_ | refine okA_addS (by walk_at "zside") ?_ | refine okA_addL (by walk_at "zlst") (by walk_at "zlst") (by walk_at "zside") ?_)
local macro_rules | `(tactic| walk_at "zsub") => `(tactic| refine ok_rI0 ?_)
local macro_rules | `(tactic| walk_at "zmul") => `(tactic| first | refine okA_mulI (by walk_at "zside") ?_ | refine okA_mulL (by walk_at "zside") (by walk_at "zside") (by walk_at "zside") ?_)
local macro_rules | `(tactic| walk_at "zdiv") => `(tactic| refine ok_rI (by first | assumption | exact ⟨by decide, by decide⟩) ?_)
local macro_rules | `(tactic| walk_at "zmod") => `(tactic| refine ok_rI (by first | assumption | decide) ?_)
local macro_rules | `(tactic| walk_at "zpow") => `(tactic| refine ok_rI (by exact ⟨by decide, by decide, by decide⟩) ?_)
local macro_rules | `(tactic| walk_at "zlt") => `(tactic| refine ok_rI0 ?_)
local macro_rules | `(tactic| walk_at "zeq") => `(tactic| refine okA_eqS rfl ?_)
local macro_rules | `(tactic| walk_at "zne") => `(tactic| refine okA_neS rfl ?_)
local macro_rules | `(tactic| walk_at "zix") => `(tactic| first | refine okA_ixL (by walk_at "zlst") (by rfl) ?_ | refine okA_ixT (by walk_at "ztup") (by rfl) ?_ | refine okA_ixD (by walk_at "zdic") (by assumption) ?_)
local macro_rules | `(tactic| walk_at "zfld") => `(tactic| refine ⟨_, _, _, rfl, by walk_at "zmem", rfl, ?_⟩)
local macro_rules | `(tactic| walk_at "zc_len") => `(tactic| first | refine okA_lenL (by walk_at "zlst") ?_ | refine okA_lenT (by walk_at "ztup") ?_ | refine okA_lenD (by walk_at "zdic") ?_ | refine okA_lenS (by walk_at "zside") ?_)
local macro_rules | `(tactic| walk_at "zc_int") => `(tactic| first | refine ok_intI ?_ | refine ok_intB ?_)
local macro_rules | `(tactic| walk_at "zc_abs") => `(tactic| refine ok_abs ?_)
local macro_rules | `(tactic| walk_at "zc_str") => `(tactic| refine ok_strI (by walk_at "zside") ?_)
local macro_rules | `(tactic| walk_at "zso") => `(tactic| first
  | refine so_L (i := 0) rfl rfl ?_ | refine so_L (i := 1) rfl rfl ?_ | refine so_L (i := 2) rfl rfl ?_ | refine so_L (i := 3) rfl rfl ?_)
local macro_rules | `(tactic| walk_at "zuse") => `(tactic| apply et_use)
local macro_rules | `(tactic| walk_at "zev") => `(tactic| apply ev_use)
local macro_rules | `(tactic| walk_at "zand") => `(tactic| apply etp_and)
local macro_rules | `(tactic| walk_at "zor") => `(tactic| apply etp_or)
local macro_rules | `(tactic| walk_at "znot") => `(tactic| apply etp_not)
def g0 (name : Str) (ws : List Str) : GH := ⟨name, ws, [], 0, 0, "on", 0⟩
structure IO where
  a : Addr
  name : Str
  ws : List Str
structure Txt (K : PySem.W.Frag) (mg : Str → Option Value) (CH CT CE W : Addr) : Prop where
  clH : Cls K CH
  clT : Cls K CT
  nName : NoAttr K CH "name"
  nWords : NoAttr K CH "words"
  nHeld : NoAttr K CH "held"
  nTries : NoAttr K CH "tries"
  nDue : NoAttr K CH "due_at"
  nState : NoAttr K CH "state"
  nMissed : NoAttr K CH "missed"
  nHooks : NoAttr K CT "hooks"
  nTime : NoAttr K CT "time"
  nCount : NoAttr K CT "count"
  gH : mg "Hook" = some (.ref CH)
  gT : mg "Teller" = some (.ref CT)
  gE : mg "HookError" = some (.ref CE)
  kE : PySem.W.keepIn K (.ref CE) = true
  xE : PySem.W.excIn K CE [.type "ValueError", .type "Exception", .type "BaseException", .type "object"] "ValueError.__new__" = true
  bE : PySem.W.subIn K (.ref CE) (.type "BaseException") = some true
  tE : PySem.W.typeIn K (.ref CE) = some (.type "type")
  mE : PySem.W.exmOne K (.ref CE) (.ref CE) = some true
  gW : mg "WAITS_OF_HOOKS" = some (.ref W)
  sW : ∀ H, SqT K H W [V.int 1, V.int 2, V.int 4, V.int 8, V.int 16]
  gM : ∃ u, mg "MOST_HELD" = some u ∧ RelV (.int 100) u
  zLen : mg "len" = none
  zSorted : mg "sorted" = none
  zTuple : mg "tuple" = none
theorem nodH : hFs.Nodup := by decide +kernel
theorem nodT : tFs.Nodup := by decide +kernel
def pHInit (K : PySem.W.Frag) (CH : Addr) : Prom IO := { ps := fun o => [isR o.a, isS o.name, rL (o.ws.map (pr K))], C := fun o => [cI o.a CH [] []], R := fun o C ρ => ρ = isN ∧ ∃ l, C = [cHl K ⟨o.a, l, g0 o.name o.ws⟩, cHk K CH ⟨o.a, l, g0 o.name o.ws⟩] }
def pTInit (CT : Addr) : Prom Addr := { ps := fun o => [isR o], C := fun o => [cI o CT [] []], R := fun o C ρ => ρ = isN ∧ ∃ d, C = [cTd ⟨o, d, 0, 0, []⟩, cTe CT ⟨o, d, 0, 0, []⟩] }
section
variable {Pg : Program} {w : World} {K : PySem.W.Frag} {mg : Str → Option Value} {base : Heap} {tb : Tb} {CH CT CE W : Addr}
theorem scHInit : FnScope ["self", "name", "words"] ["self", "name", "words"] (defScope sHInit) := ⟨rfl, rfl, rfl, by decide +kernel, rfl, by decide +kernel, by decide +kernel⟩
theorem ok_hinit {f : Addr} {fd : FuncData} (Fn : Fun K "__init__" "Hook.__init__" sHInit f fd) (T : Txt K mg CH CT CE W) : FnOk Pg w K mg base (L2.CX Pg w) 1 f fd ["self", "name", "words"] ((pHInit K CH).sp tb) :=
  def_ok Fn scHInit (fun _ => rfl) fun o cdv A outer s H E _ hr own => by
    -- self.name = name
    refine tr_fldN (fns := []) T.clH T.nName (by decide +kernel) (by decide) ?_
    refine ev_name 1 rfl ?_ -- name
    refine ev_name 0 rfl ?_ -- self
    refine ⟨_, _, 0, rfl, rfl, ?_⟩
    -- self.words = tuple(words)
    refine tr_fldN (fns := ["name"]) T.clH T.nWords (by decide +kernel) (by decide) ?_
    refine ev_callTy call_tuple_of T.zTuple (by decide +kernel) ?_
    refine ea_cons ?_
    refine ev_name 2 rfl ?_ -- words
    refine ea_nil ?_
    refine ok_tupleL lst_F ?_
    refine ev_name 0 rfl ?_ -- self
    refine ⟨_, _, 0, rfl, rfl, ?_⟩
    -- self.held = []
    refine tr_fldN (fns := ["name", "words"]) T.clH T.nHeld (by decide +kernel) (by decide) ?_
    refine ev_lstC ?_
    refine ea_nil ?_
    refine ⟨by show 0 ≤ sizeLine; decide, fun l => ?_⟩
    refine ev_name 0 rfl ?_ -- self
    refine ⟨_, _, 1, rfl, rfl, ?_⟩
    refine tr_fldN (fns := ["name", "words", "held"]) T.clH T.nTries (by decide +kernel) (by decide) ?_
    refine ev_int ?_
    refine ev_name 0 rfl ?_ -- self
    refine ⟨_, _, 1, rfl, rfl, ?_⟩
    refine tr_fldN (fns := ["name", "words", "held", "tries"]) T.clH T.nDue (by decide +kernel) (by decide) ?_
    refine ev_int ?_
    refine ev_name 0 rfl ?_ -- self
    refine ⟨_, _, 1, rfl, rfl, ?_⟩
    refine tr_fldN (fns := ["name", "words", "held", "tries", "due_at"]) T.clH T.nState (by decide +kernel) (by decide) ?_
    refine ev_str ?_
    refine ev_name 0 rfl ?_ -- self
    refine ⟨_, _, 1, rfl, rfl, ?_⟩
    refine tr_fldN (fns := ["name", "words", "held", "tries", "due_at", "state"]) T.clH T.nMissed (by decide +kernel) (by decide) ?_
    refine ev_int ?_
    refine ev_name 0 rfl ?_ -- self
    refine ⟨_, _, 1, rfl, rfl, ?_⟩
    refine tr_nil ?_
    exact ⟨rfl, l, rfl⟩
theorem scTInit : FnScope ["self"] ["self"] (defScope sTInit) := ⟨rfl, rfl, rfl, by decide +kernel, rfl, by decide +kernel, by decide +kernel⟩
theorem ok_tinit {f : Addr} {fd : FuncData} (Fn : Fun K "__init__" "Teller.__init__" sTInit f fd) (T : Txt K mg CH CT CE W) : FnOk Pg w K mg base (L2.CX Pg w) 1 f fd ["self"] ((pTInit CT).sp tb) :=
  def_ok Fn scTInit (fun _ => rfl) fun o cdv A outer s H E _ hr own => by
    refine tr_fldN (fns := []) T.clT T.nHooks (by decide +kernel) (by decide) ?_
    refine ev_dicC fun d => ?_
    refine ev_name 0 rfl ?_ -- self
    refine ⟨_, _, 1, rfl, rfl, ?_⟩
    refine tr_fldN (fns := ["hooks"]) T.clT T.nTime (by decide +kernel) (by decide) ?_
    refine ev_int ?_
    refine ev_name 0 rfl ?_ -- self
    refine ⟨_, _, 1, rfl, rfl, ?_⟩
    refine tr_fldN (fns := ["hooks", "time"]) T.clT T.nCount (by decide +kernel) (by decide) ?_
    refine ev_int ?_
    refine ev_name 0 rfl ?_ -- self
    refine ⟨_, _, 1, rfl, rfl, ?_⟩
    refine tr_nil ?_
    exact ⟨rfl, d, rfl⟩
structure AO where
  tk : TK
  name : Str
  ws : List Str
def AO.good (o : AO) : Bool := !((decide (o.name ∈ o.tk.hs.map fun h => h.g.name)) || (decide (o.ws = []) || decide (o.name = "")))
theorem kps_fst (hs : List HK) : (kpsH hs).map Prod.fst = (hs.map fun h => h.g.name).map Sum.inr := by
  unfold kpsH
  rw [List.map_map, List.map_map]
  rfl
theorem vP_some {hs : List HK} {n : Str} : (vP (kpsH hs) (Sum.inr n)).isSome = decide (n ∈ hs.map fun h => h.g.name) := by
  unfold kpsH
  induction hs with
  | nil => rfl
  | cons h hs ih =>
    unfold vP at ih ⊢
    rw [List.map_cons, List.find?_cons, List.map_cons]
    by_cases e : h.g.name = n
    · have e1 : decide ((Sum.inr h.g.name : Key) = Sum.inr n) = true := decide_eq_true (by rw [e])
      simp only [e1]
      simp [e]
    · have e1 : decide ((Sum.inr h.g.name : Key) = Sum.inr n) = false := decide_eq_false fun z => e (Sum.inr.inj z)
      simp only [e1]
      rw [ih]
      have : ¬ n = h.g.name := fun z => e z.symm
      simp [this]
def pAdd (K : PySem.W.Frag) (CT CH CE : Addr) : Prom AO := { ps := fun o => [isR o.tk.t, isS o.name, rL (o.ws.map (pr K))], C := fun o => tc K CT CH o.tk, pre := fun o => o.tk.hs.length < 60, R := fun o C ρ => o.good = true ∧ ρ = isN ∧ ∃ a l, C.Perm (tc K CT CH { o.tk with hs := o.tk.hs ++ [⟨a, l, g0 o.name o.ws⟩] }), XP := fun o cls C => o.good = false ∧ cls = .ref CE ∧ C = tc K CT CH o.tk }
theorem scAdd : FnScope ["self", "name", "words"] ["self", "name", "words"] (defScope sAdd) := ⟨rfl, rfl, rfl, by decide +kernel, rfl, by decide +kernel, by decide +kernel⟩
theorem ok_add {f fI : Addr} {fd fdI : FuncData} (Fn : Fun K "add" "Teller.add" sAdd f fd) (T : Txt K mg CH CT CE W) (M : Mk K CH fI) (GI : FnOk Pg w K mg base (L2.CX Pg w) 1 fI fdI ["self", "name", "words"] ((pHInit K CH).sp tb)) (bI : Binds K fdI ["self", "name", "words"] []) :
    FnOk Pg w K mg base (L2.CX Pg w) 3 f fd ["self", "name", "words"] ((pAdd K CT CH CE).sp tb) :=
  def_ok Fn scAdd (fun _ => rfl) fun o cdv A outer s H E hpre hr own => by
    have u1 := hu_of hr
    have hlen : o.tk.hs.length < 60 := hpre
    refine tr_ifx ?_
    walk_at "zuse"
    · refine et_w ?_
      walk_at "zor"
      · refine et_cmp (op_inA u1) rfl ?_
        refine ev_name 1 rfl ?_ -- name
        refine ev_fld 0 T.clT T.nHooks nodT rfl ?_
        refine ev_name 0 rfl ?_ -- self
        walk_at "zfld"
        refine okA_inD (k := Sum.inr o.name) (dic_C (by walk_at "zmem")) ?_
        refine ⟨_, rfl, ?_⟩
        exact ⟨rfl, rfl⟩
      intro h3
      walk_at "zor"
      · refine et_cmp op_eqA rfl ?_
        refine ev_callB call_lenA T.zLen (by decide +kernel) ?_
        refine ea_cons ?_
        refine ev_name 2 rfl ?_ -- words
        refine ea_nil ?_
        refine okA_lenL lst_F ?_
        refine ev_int ?_
        walk_at "zeq"
        refine ⟨_, rfl, ?_⟩
        exact ⟨rfl, rfl⟩
      intro h4
      refine etw_or1 ?_
      refine et_cmp op_eqA rfl ?_
      refine ev_name 1 rfl ?_ -- name
      refine ev_str ?_
      walk_at "zeq"
      refine ⟨_, rfl, ?_⟩
      exact ⟨rfl, rfl⟩
    have eg : ((vP (kpsH o.tk.hs) (Sum.inr o.name)).isSome || (decide (V.int ((o.ws.map (pr K)).length : Nat) = V.int 0) || decide (V.str o.name = V.str ""))) = !o.good := by
      unfold AO.good
      rw [vP_some, Bool.not_not]
      have e1 : decide (V.int ((o.ws.map (pr K)).length : Nat) = V.int 0) = decide (o.ws = []) := by
        cases o.ws <;> simp
        omega
      have e2 : decide (V.str o.name = V.str "") = decide (o.name = "") := by
        by_cases e : o.name = "" <;> simp [e]
      rw [e1, e2]
    refine bB (fun h1 => ?_) (fun h2 => ?_)
    · have hg : o.good = false := by
        have := eg.symm.trans h1
        simpa using this
      refine tr_raise PySem.F.excBase_ValueError T.xE T.gE T.kE (raises_own T.bE T.tE) rfl ?_
      exact ⟨hg, rfl, rfl⟩
    have hg : o.good = true := by
      have := eg.symm.trans h2
      simpa using this
    refine tr_sput u1 ?_
    refine ev_make M GI hr T.gH bI ?_
    refine ea_cons ?_
    refine ev_name 1 rfl ?_ -- name
    refine ea_cons ?_
    refine ev_name 2 rfl ?_ -- words
    refine ea_nil ?_
    refine fun a => ⟨⟨a, o.name, o.ws⟩, tc K CT CH o.tk, True.intro, rfl, List.Perm.refl _, ?_⟩
    refine ⟨?_, fun cls C' z => z.elim⟩
    rintro C' ρ ⟨e1, l, e2⟩
    subst e1
    subst e2
    refine ⟨rfl, ?_⟩
    refine ev_fld 0 T.clT T.nHooks nodT rfl ?_
    refine ev_name 0 rfl ?_ -- self
    refine ⟨_, _, _, rfl, List.Mem.tail _ (List.Mem.tail _ (List.Mem.head _)), rfl, ?_⟩
    refine ev_name 1 rfl ?_ -- name
    have hn : (Sum.inr o.name : Key) ∉ (kpsH o.tk.hs).map Prod.fst := fun z => by
      rw [kps_fst] at z
      obtain ⟨n, hn, e⟩ := List.mem_map.mp z
      cases e
      unfold AO.good at hg
      simp [hn] at hg
    refine so_Dn (k := Sum.inr o.name) 3 rfl (by rw [List.length_map]; exact Nat.lt_of_lt_of_le hlen (by decide)) hn ?_
    refine tr_nil ?_
    refine ⟨hg, rfl, a, l, ?_⟩
    show [cHl K ⟨a, l, g0 o.name o.ws⟩, cHk K CH ⟨a, l, g0 o.name o.ws⟩, cTe CT o.tk, cK o.tk.d (kpsH o.tk.hs ++ [(Sum.inr o.name, isR a)])] ++ hc K CH o.tk.hs |>.Perm _
    have e1 : kpsH (o.tk.hs ++ [⟨a, l, g0 o.name o.ws⟩]) = kpsH o.tk.hs ++ [(Sum.inr o.name, isR a)] := by
      unfold kpsH
      rw [List.map_append]
      rfl
    have e2 : hc K CH (o.tk.hs ++ [⟨a, l, g0 o.name o.ws⟩]) = hc K CH o.tk.hs ++ [cHk K CH ⟨a, l, g0 o.name o.ws⟩, cHl K ⟨a, l, g0 o.name o.ws⟩] := by
      unfold hc
      rw [List.flatMap_append]
      rfl
    show List.Perm _ (cTe CT o.tk :: cK o.tk.d (kpsH (o.tk.hs ++ [⟨a, l, g0 o.name o.ws⟩])) :: hc K CH (o.tk.hs ++ [⟨a, l, g0 o.name o.ws⟩]))
    rw [e1, e2]
    refine (List.perm_append_comm (l₁ := [cHl K ⟨a, l, g0 o.name o.ws⟩, cHk K CH ⟨a, l, g0 o.name o.ws⟩]) (l₂ := cTe CT o.tk :: cK o.tk.d (kpsH o.tk.hs ++ [(Sum.inr o.name, isR a)]) :: hc K CH o.tk.hs)).trans ?_
    refine List.Perm.append_left (cTe CT o.tk :: cK o.tk.d (kpsH o.tk.hs ++ [(Sum.inr o.name, isR a)]) :: hc K CH o.tk.hs) (List.Perm.swap _ _ _)
structure HO' where
  tk : TK
  name : Str
def pHook (K : PySem.W.Frag) (CT CH CE : Addr) : Prom HO' := { ps := fun o => [isR o.tk.t, isS o.name], C := fun o => tc K CT CH o.tk, pre := fun o => (o.tk.hs.map fun h => h.g.name).Nodup, R := fun o C ρ => C = tc K CT CH o.tk ∧ ∃ (i : Nat) (h : HK), o.tk.hs[i]? = some h ∧ h.g.name = o.name ∧ ρ = isR h.a, XP := fun o cls C => o.name ∉ (o.tk.hs.map fun h => h.g.name) ∧ cls = .ref CE ∧ C = tc K CT CH o.tk }
theorem scHook : FnScope ["self", "name"] ["self", "name"] (defScope sHook) := ⟨rfl, rfl, rfl, by decide +kernel, rfl, by decide +kernel, by decide +kernel⟩
theorem kps_nd {hs : List HK} (h : (hs.map fun h => h.g.name).Nodup) : ((kpsH hs).map Prod.fst).Nodup := by
  rw [kps_fst]
  exact List.Pairwise.map _ (fun a b ne e => ne (Sum.inr.inj e)) h
theorem kps_at {hs : List HK} {i : Nat} {h : HK} (e : hs[i]? = some h) : (kpsH hs)[i]? = some (Sum.inr h.g.name, isR h.a) := by
  unfold kpsH
  rw [List.getElem?_map, e]
  rfl
theorem ok_hook {f : Addr} {fd : FuncData} (Fn : Fun K "hook" "Teller.hook" sHook f fd) (T : Txt K mg CH CT CE W) : FnOk Pg w K mg base (L2.CX Pg w) 1 f fd ["self", "name"] ((pHook K CT CH CE).sp tb) :=
  def_ok Fn scHook (fun _ => rfl) fun o cdv A outer s H E hpre hr own => by
    have u1 := hu_of hr
    have nd : (o.tk.hs.map fun h => h.g.name).Nodup := hpre
    refine tr_ifx ?_
    walk_at "zuse"
    · refine et_cmp (op_notInA u1) rfl ?_
      refine ev_name 1 rfl ?_ -- name
      refine ev_fld 0 T.clT T.nHooks nodT rfl ?_
      refine ev_name 0 rfl ?_ -- self
      walk_at "zfld"
      refine okA_notInD (k := Sum.inr o.name) (dic_C (by walk_at "zmem")) ?_
      refine ⟨_, rfl, ?_⟩
      exact ⟨rfl, rfl⟩
    refine bB (fun h1 => ?_) (fun h2 => ?_)
    · rw [vP_some] at h1
      have hn : o.name ∉ (o.tk.hs.map fun h => h.g.name) := by simpa using h1
      refine tr_raise PySem.F.excBase_ValueError T.xE T.gE T.kE (raises_own T.bE T.tE) rfl ?_
      exact ⟨hn, rfl, rfl⟩
    rw [vP_some] at h2
    have hn : o.name ∈ (o.tk.hs.map fun h => h.g.name) := by simpa using h2
    obtain ⟨h, hm, e⟩ := List.mem_map.mp hn
    obtain ⟨i, hi⟩ := List.mem_iff_getElem?.mp hm
    refine tr_ret ?_
    refine ev_ix (ix_all u1) ?_
    refine ev_fld 0 T.clT T.nHooks nodT rfl ?_
    refine ev_name 0 rfl ?_ -- self
    walk_at "zfld"
    refine ev_name 1 rfl ?_ -- name
    have hk := kps_at hi
    rw [e] at hk
    refine okA_ixDi (k := Sum.inr o.name) i (dic_C (by walk_at "zmem")) (kps_nd nd) hk ?_
    exact ⟨rfl, i, h, hi, e, rfl⟩
end
end K17

end
section
set_option Elab.async false
set_option linter.all false
set_option maxRecDepth 100000
open PySem PySem.Spec PyProof.Rows L2 Z
namespace K17
open PySem.W (Datum Tup)
open Rep (pr)
/-! the sending, in plain words -/
def goodAt (ans : List Bool) (n : Nat) : Bool := (ans[n % 7]?).getD false
def waitOf (t : Int) : Int := (atI ([1, 2, 4, 8, 16] : List Int) t).getD 0
def tst (time : Int) (g : GH) : Bool := decide (g.state = "on") && (decide (g.held ≠ []) && decide (g.due ≤ time))
def tellG (ans : List Bool) (time : Int) : Nat → GH → List Rw → GH × List Rw
  | 0, g, sent => (g, sent)
  | n + 1, g, sent => if tst time g = true then match g.held with
      | [] => (g, sent)
      | e :: r => if goodAt ans sent.length = true then tellG ans time n { g with held := r, tries := 0 } (sent ++ [⟨g.name, e, true⟩])
        else if g.tries = 5 then ({ g with state := "broken" }, sent ++ [⟨g.name, e, false⟩])
        else ({ g with due := time + waitOf g.tries, tries := g.tries + 1 }, sent ++ [⟨g.name, e, false⟩])
    else (g, sent)
structure OkG (g : GH) : Prop where
  t0 : 0 ≤ g.tries
  t5 : g.tries ≤ 5
  h100 : g.held.length ≤ 100
theorem tellG_no {ans : List Bool} {time : Int} {n : Nat} {g : GH} {sent : List Rw} (h : tst time g = false) : tellG ans time n g sent = (g, sent) := by
  cases n with
  | zero => rfl
  | succ n =>
    unfold tellG
    rw [h]
    rfl
theorem tst_held {time : Int} {g : GH} (h : tst time g = true) : ∃ e r, g.held = e :: r := by
  unfold tst at h
  simp only [Bool.and_eq_true, decide_eq_true_eq] at h
  cases e : g.held with
  | nil => exact absurd e h.2.1
  | cons a r => exact ⟨a, r, rfl⟩
theorem wait_pos {t : Int} (h0 : 0 ≤ t) (h5 : t ≤ 5) (ne : t ≠ 5) : 0 < waitOf t ∧ atI ([isI 1, isI 2, isI 4, isI 8, isI 16] : List Pr) t = some (isI (waitOf t)) := by
  have : t = 0 ∨ t = 1 ∨ t = 2 ∨ t = 3 ∨ t = 4 := by omega
  rcases this with e | e | e | e | e <;> subst e <;> exact ⟨by decide, rfl⟩
theorem tellG_ok {ans : List Bool} {time : Int} : ∀ {n : Nat} {g : GH} {sent : List Rw}, OkG g → OkG (tellG ans time n g sent).1 ∧ (tellG ans time n g sent).1.name = g.name ∧ (tellG ans time n g sent).1.words = g.words ∧ (tellG ans time n g sent).1.missed = g.missed ∧ (tellG ans time n g sent).2.length ≤ sent.length + g.held.length ∧ (tellG ans time n g sent).1.held.length ≤ g.held.length
  | 0, g, sent, o => ⟨o, rfl, rfl, rfl, Nat.le_add_right _ _, Nat.le_refl _⟩
  | n + 1, g, sent, o => by
    unfold tellG
    cases ht : tst time g with
    | false => exact ⟨o, rfl, rfl, rfl, Nat.le_add_right _ _, Nat.le_refl _⟩
    | true =>
      obtain ⟨e, r, eh⟩ := tst_held ht
      have hl : g.held.length = r.length + 1 := by rw [eh]; rfl
      have h100 := o.h100
      rw [if_pos rfl]
      split
      · rename_i z
        rw [eh] at z
        cases z
      · rename_i e' r' z
        rw [eh] at z
        cases z
        cases hg : goodAt ans sent.length with
        | true =>
          rw [if_pos rfl]
          have ih := tellG_ok (ans := ans) (time := time) (n := n) (g := { g with held := r, tries := 0 }) (sent := sent ++ [⟨g.name, e, true⟩]) ⟨by show (0 : Int) ≤ 0; decide, by show (0 : Int) ≤ 5; decide, by show r.length ≤ 100; omega⟩
          obtain ⟨i1, i2, i3, i4, i5, i6⟩ := ih
          refine ⟨i1, i2, i3, i4, ?_, ?_⟩
          · have i5 : _ ≤ (sent ++ [(⟨g.name, e, true⟩ : Rw)]).length + r.length := i5
            rw [List.length_append] at i5
            simp only [List.length_singleton] at i5
            omega
          · have i6 : _ ≤ r.length := i6
            omega
        | false =>
          rw [if_neg (by decide)]
          have t0 := o.t0
          have t5 := o.t5
          by_cases h5 : g.tries = 5
          · rw [if_pos h5]
            refine ⟨⟨t0, t5, h100⟩, rfl, rfl, rfl, ?_, Nat.le_refl _⟩
            show (sent ++ [(⟨g.name, e, false⟩ : Rw)]).length ≤ _
            rw [List.length_append]
            simp only [List.length_singleton]
            omega
          · rw [if_neg h5]
            refine ⟨⟨by show 0 ≤ g.tries + 1; omega, by show g.tries + 1 ≤ 5; omega, h100⟩, rfl, rfl, rfl, ?_, Nat.le_refl _⟩
            show (sent ++ [(⟨g.name, e, false⟩ : Rw)]).length ≤ _
            rw [List.length_append]
            simp only [List.length_singleton]
            omega
theorem cut_tail {p : Pr} {ps : List Pr} : cutP (p :: ps) (some 1) none = ps := by
  unfold cutP
  have e1 : HT.sIx (p :: ps).length 0 (some 1) = 1 := by
    show HT.sIx _ 0 (some ((1 : Nat) : Int)) = 1
    rw [HT.sIx_nat, List.length_cons]
    omega
  rw [e1]
  show (List.drop 1 (p :: ps)).take (HT.sIx (p :: ps).length (p :: ps).length none - 1) = ps
  have e2 : HT.sIx (p :: ps).length (p :: ps).length none = ps.length + 1 := rfl
  rw [e2]
  simp
theorem at0 {α : Type} (x : α) (l : List α) : atI (x :: l) 0 = some x := by
  unfold atI ixN
  rw [if_pos (by decide), if_pos (by rw [List.length_cons]; omega)]
  rfl
theorem tellG_good {ans : List Bool} {time : Int} {n : Nat} {g : GH} {sent : List Rw} {e : Evt} {r : List Evt} (h : tst time g = true) (eh : g.held = e :: r) (hg : goodAt ans sent.length = true) :
    tellG ans time (n + 1) g sent = tellG ans time n { g with held := r, tries := 0 } (sent ++ [⟨g.name, e, true⟩]) := by
  rw [tellG, if_pos h]
  split
  · rename_i z
    rw [eh] at z
    cases z
  · rename_i e' r' z
    rw [eh] at z
    cases z
    rw [if_pos hg]
theorem tellG_bad {ans : List Bool} {time : Int} {n : Nat} {g : GH} {sent : List Rw} {e : Evt} {r : List Evt} (h : tst time g = true) (eh : g.held = e :: r) (hg : goodAt ans sent.length = false) :
    tellG ans time (n + 1) g sent = (if g.tries = 5 then { g with state := "broken" } else { g with due := time + waitOf g.tries, tries := g.tries + 1 }, sent ++ [⟨g.name, e, false⟩]) := by
  rw [tellG, if_pos h]
  split
  · rename_i z
    rw [eh] at z
    cases z
  · rename_i e' r' z
    rw [eh] at z
    cases z
    rw [hg, if_neg (by decide)]
    by_cases h5 : g.tries = 5
    · rw [if_pos h5, if_pos h5]
    · rw [if_neg h5, if_neg h5]
theorem tst_broken {time : Int} {g : GH} : tst time { g with state := "broken" } = false := by
  unfold tst
  rw [show decide (({ g with state := "broken" } : GH).state = "on") = false from by show decide (("broken" : Str) = "on") = false; decide +kernel]
  rfl
theorem tst_late {time d : Int} {g : GH} {t : Int} (h : 0 < d) : tst time { g with due := time + d, tries := t } = false := by
  unfold tst
  have : decide (({ g with due := time + d, tries := t } : GH).due ≤ time) = false := decide_eq_false (by show ¬ time + d ≤ time; omega)
  rw [this, Bool.and_false, Bool.and_false]
/-! short rows -/
local macro_rules | `(tactic| walk_at "zmem") => `(tactic| first
  | exact List.Mem.head _
  | exact List.Mem.tail _ (List.Mem.head _)
  | exact List.Mem.tail _ (List.Mem.tail _ (List.Mem.head _))
  | exact List.Mem.tail _ (List.Mem.tail _ (List.Mem.tail _ (List.Mem.head _)))
  | exact List.Mem.tail _ (List.Mem.tail _ (List.Mem.tail _ (List.Mem.tail _ (List.Mem.head _)))))
local macro_rules | `(tactic| walk_at "zlst") => `(tactic| first | exact lst_F | exact lst_S | exact lst_C (by walk_at "zmem") | assumption)
local macro_rules | `(tactic| walk_at "ztup") => `(tactic| first | exact tup_F | assumption)
local macro_rules | `(tactic| walk_at "zdic") => `(tactic| first | exact dic_F | exact dic_C (by walk_at "zmem") | exact dic_Z (by walk_at "zmem") | assumption)
local macro_rules | `(tactic| walk_at "zside") => `(tactic| first | assumption | decide | (show _ ≤ sizeLine; decide) | omega)
local macro_rules | `(tactic| walk_at "zadd") => `(tactic| first | refine okA_addI ?_ | refine okA_addS (by walk_at "zside") ?_ | refine okA_addL (by walk_at "zlst") (by walk_at "zlst") (by walk_at "zside") ?_)
local macro_rules | `(tactic| walk_at "zsub") => `(tactic| refine ok_rI0 ?_)
local macro_rules | `(tactic| walk_at "zmul") => `(tactic| first | refine okA_mulI (by walk_at "zside") ?_ | refine okA_mulL (by walk_at "zside") (by walk_at "zside") (by walk_at "zside") ?_)
local macro_rules | `(tactic| walk_at "zdiv") => `(tactic| refine ok_rI (by first | assumption | exact ⟨by decide, by decide⟩) ?_)
local macro_rules | `(tactic| walk_at "zmod") => `(tactic| refine ok_rI (by first | assumption | decide) ?_)
local macro_rules | `(tactic| walk_at "zpow") => `(tactic| refine ok_rI (by exact ⟨by decide, by decide, by decide⟩) ?_)
local macro_rules | `(tactic| walk_at "zlt") => `(tactic| refine ok_rI0 ?_)
local macro_rules | `(tactic| walk_at "zeq") => `(tactic| refine okA_eqS rfl ?_)
local macro_rules | `(tactic| walk_at "zne") => `(tactic| refine okA_neS rfl ?_)
local macro_rules | `(tactic| walk_at "zix") => `(tactic| first | refine okA_ixL (by walk_at "zlst") (by rfl) ?_ | refine okA_ixT (by walk_at "ztup") (by rfl) ?_ | refine okA_ixD (by walk_at "zdic") (by assumption) ?_)
local macro_rules | `(tactic| walk_at "zfld") => `(tactic| refine ⟨_, _, _, rfl, by walk_at "zmem", rfl, ?_⟩)
local macro_rules | `(tactic| walk_at "zc_len") => `(tactic| first | refine okA_lenL (by walk_at "zlst") ?_ | refine okA_lenT (by walk_at "ztup") ?_ | refine okA_lenD (by walk_at "zdic") ?_ | refine okA_lenS (by walk_at "zside") ?_)
local macro_rules | `(tactic| walk_at "zc_int") => `(tactic| first | refine ok_intI ?_ | refine ok_intB ?_)
local macro_rules | `(tactic| walk_at "zc_abs") => `(tactic| refine ok_abs ?_)
local macro_rules | `(tactic| walk_at "zc_str") => `(tactic| refine ok_strI (by walk_at "zside") ?_)
local macro_rules | `(tactic| walk_at "zso") => `(tactic| first
  | refine so_L (i := 0) rfl rfl ?_ | refine so_L (i := 1) rfl rfl ?_ | refine so_L (i := 2) rfl rfl ?_ | refine so_L (i := 3) rfl rfl ?_)
local macro_rules | `(tactic| walk_at "zuse") => `(tactic| apply et_use)
local macro_rules | `(tactic| walk_at "zev") => `(tactic| apply ev_use)
local macro_rules | `(tactic| walk_at "zand") => `(tactic| apply etp_and)
local macro_rules | `(tactic| walk_at "zor") => `(tactic| apply etp_or)
local macro_rules | `(tactic| walk_at "znot") => `(tactic| apply etp_not)
/-! the closure handed to tick -/
structure SO where
  sl : Addr
  aA : Addr
  aS : Addr
  ans : List Bool
  sent : List Rw
  nm : Str
  ev : Evt
abbrev capsS (K : PySem.W.Frag) (o : SO) : List (Addr × Pr) := [(o.aA, rL (o.ans.map (pr K))), (o.aS, isR o.sl)]
abbrev cSl (K : PySem.W.Frag) (o : SO) : Cell := cL o.sl (o.sent.map (pr K))
def qSend (K : PySem.W.Frag) (aA aS : Addr) : Prom SO := { ps := fun o => [isS o.nm, pr K o.ev], C := fun o => [cSl K o], pre := fun o => o.aA = aA ∧ o.aS = aS ∧ o.ans.length = 7 ∧ o.sent.length < 1000, R := fun o C ρ => C = [cSl K { o with sent := o.sent ++ [⟨o.nm, o.ev, goodAt o.ans o.sent.length⟩] }] ∧ ρ = isB (goodAt o.ans o.sent.length) }
abbrev pSend (K : PySem.W.Frag) (aA aS : Addr) : Prom SO := (qSend K aA aS).cap (capsS K)
abbrev SC (K : PySem.W.Frag) (o : SO) : List Cell := capsC (capsS K o) ++ [cSl K o]
structure LO where
  tk : TK
  i : Nat
  h : HK
  so : SO
abbrev LO.fin (o : LO) : GH × List Rw := tellG o.so.ans o.tk.time (o.h.g.held.length + 1) o.h.g o.so.sent
def pTell (K : PySem.W.Frag) (CT CH aA aS : Addr) (mk : Addr → NdefX.NF) (body : Expr) : Prom LO := { ps := fun o => [isR o.tk.t, isR o.h.a, rFu mk body], C := fun o => tc K CT CH o.tk ++ SC K o.so, pre := fun o => o.tk.hs[o.i]? = some o.h ∧ OkG o.h.g ∧ o.so.aA = aA ∧ o.so.aS = aS ∧ o.so.ans.length = 7 ∧ o.so.sent.length + o.h.g.held.length < 1000, R := fun o C ρ => ρ = isN ∧ ∃ l, C = tc K CT CH { o.tk with hs := o.tk.hs.set o.i ⟨o.h.a, l, o.fin.1⟩ } ++ SC K { o.so with sent := o.fin.2 } }
section
variable {Pg : Program} {w : World} {K : PySem.W.Frag} {mg : Str → Option Value} {base : Heap} {tb : Tb} {CH CT CE W aA aS : Addr} {mk : Addr → NdefX.NF} {bodyL : Expr}
def tellI (K : PySem.W.Frag) (CT CH : Addr) (mk : Addr → NdefX.NF) (bodyL : Expr) (tk : TK) (i : Nat) (h : HK) (so : SO) (m : Nat) (Γ : Gm) (C : List Cell) : Prop := Γ = [some (isR tk.t), some (isR h.a), some (rFu mk bodyL)] ∧ ∃ (l : Addr) (g : GH) (sent : List Rw) (fuel : Nat), C = tc K CT CH { tk with hs := tk.hs.set i ⟨h.a, l, g⟩ } ++ SC K { so with sent := sent } ∧ m = (if tst tk.time g = true then g.held.length + 1 else 0) ∧ (tst tk.time g = true → g.held.length < fuel) ∧  tellG so.ans tk.time fuel g sent = LO.fin ⟨tk, i, h, so⟩ ∧ OkG g ∧ (tst tk.time g = true → sent.length + g.held.length < 1000) ∧ g.name = h.g.name
theorem scTell : FnScope ["self", "one", "send"] ["self", "one", "send"] (defScope sTell) := ⟨rfl, rfl, rfl, by decide +kernel, rfl, by decide +kernel, by decide +kernel⟩
theorem dec_str (a b : Str) : decide (V.str a = V.str b) = decide (a = b) := by
  by_cases e : a = b <;> simp [e]
theorem ok_tell {f : Addr} {fd : FuncData} (Fn : Fun K "tell" "Teller.tell" sTell f fd) (T : Txt K mg CH CT CE W) (GS : ∀ c', CloOk Pg w K mg base 1 (mk c') bodyL ((pSend K aA aS).sp tb)) (hmc : ∀ c', (mk c').c = c') :
    FnOk Pg w K mg base (L2.CX Pg w) 2 f fd ["self", "one", "send"] ((pTell K CT CH aA aS mk bodyL).sp tb) :=
  def_ok Fn scTell (fun _ => rfl) fun o cdv A outer s H E hpre hr own => by
    have u1 := hu_of hr
    have u64 := hr.units
    obtain ⟨tk, i, h, so⟩ := o
    obtain ⟨hi, okg, eA, eS, hans, hlen⟩ := hpre
    have hi : tk.hs[i]? = some h := hi
    refine tr_while (tellI K CT CH mk bodyL tk i h so) (fun Γ C => ∃ l, C = tc K CT CH { tk with hs := tk.hs.set i ⟨h.a, l, (LO.fin ⟨tk, i, h, so⟩).1⟩ } ++ SC K { so with sent := (LO.fin ⟨tk, i, h, so⟩).2 }) _ ⟨rfl, h.l, h.g, so.sent, h.g.held.length + 1, ?_, rfl, fun _ => Nat.lt_succ_self _, rfl, okg, fun _ => hlen, rfl⟩ ?_ ?_ own
    · show tc K CT CH tk ++ SC K so = tc K CT CH { tk with hs := tk.hs.set i ⟨h.a, h.l, h.g⟩ } ++ SC K { so with sent := so.sent }
      rw [show (⟨h.a, h.l, h.g⟩ : HK) = h from rfl, set_id hi]
    · rintro m Γ C ⟨rfl, l, g, sent, fuel, rfl, em, hf, hfin, okg, hs1, hnm⟩
      have hk : ({ tk with hs := tk.hs.set i ⟨h.a, l, g⟩ } : TK).hs[i]? = some ⟨h.a, l, g⟩ := by
        show (tk.hs.set i ⟨h.a, l, g⟩)[i]? = _
        rw [List.getElem?_set_self (List.getElem?_eq_some_iff.mp hi).1]
      generalize etk : ({ tk with hs := tk.hs.set i ⟨h.a, l, g⟩ } : TK) = tk' at hk
      have et : tk'.t = tk.t := by rw [← etk]
      have ett : tk'.time = tk.time := by rw [← etk]
      obtain ⟨i0, i1⟩ := tc_at (K := K) (CT := CT) (CH := CH) (S := SC K { so with sent := sent }) hk
      have mH := List.mem_of_getElem? i0
      have mL := List.mem_of_getElem? i1
      have mT : cI tk.t CT tFs [isR tk'.d, isI tk'.time, isI tk'.count] ∈ tc K CT CH tk' ++ SC K { so with sent := sent } := by
        rw [← et]
        exact List.Mem.head _
      walk_at "zuse"
      · refine et_w ?_
        walk_at "zand"
        · refine et_cmp op_eqA rfl ?_
          refine ev_fld 5 T.clH T.nState nodH rfl ?_
          refine ev_name 1 rfl ?_ -- one
          refine ⟨_, _, _, rfl, mH, rfl, ?_⟩
          refine ev_str ?_
          walk_at "zeq"
          refine ⟨_, rfl, ?_⟩
          exact ⟨rfl, rfl⟩
        intro h1
        walk_at "zand"
        · refine et_cmp op_neA rfl ?_
          refine ev_fld 2 T.clH T.nHeld nodH rfl ?_
          refine ev_name 1 rfl ?_ -- one
          refine ⟨_, _, _, rfl, mH, rfl, ?_⟩
          refine ev_lst ?_
          refine ea_nil ?_
          refine ⟨by show 0 ≤ sizeLine; decide, ?_⟩
          refine okA_neT (α := List Evt) (a := g.held) (b := []) (dat_C mL) (dat_F (a := ([] : List Evt))) (Nat.lt_of_le_of_lt (Nat.add_le_add_left (by decide) _) u64) ?_
          refine ⟨_, rfl, ?_⟩
          exact ⟨rfl, rfl⟩
        intro h2
        refine etw_and1 ?_
        refine et_cmp op_le rfl ?_
        refine ev_fld 4 T.clH T.nDue nodH rfl ?_
        refine ev_name 1 rfl ?_ -- one
        refine ⟨_, _, _, rfl, mH, rfl, ?_⟩
        refine ev_fld 1 T.clT T.nTime nodT rfl ?_
        refine ev_name 0 rfl ?_ -- self
        refine ⟨_, _, _, rfl, mT, rfl, ?_⟩
        walk_at "zlt"
        refine ⟨_, rfl, ?_⟩
        exact ⟨rfl, rfl⟩
      have et' : (decide (V.str g.state = V.str "on") && (decide (g.held ≠ []) && decide (g.due ≤ tk'.time))) = tst tk.time g := by
        unfold tst
        rw [dec_str, ett]
      rw [et']
      refine bB (fun h1 => ?_) (fun h2 => ?_)
      · have hst := h1
        obtain ⟨e, r, eh⟩ := tst_held h1
        have hfu := hf h1
        have hsl := hs1 h1
        have hlr : g.held.length = r.length + 1 := by rw [eh]; rfl
        have ehp : g.held.map (pr K) = pr K e :: r.map (pr K) := by rw [eh]; rfl
        obtain ⟨fu, rfl⟩ : ∃ n, fuel = n + 1 := ⟨fuel - 1, by omega⟩
        have ltB : sent.length < 1000 := by omega
        -- if send(one.name, one.held[0]):
        refine tr_if (fun Γ' C' => ∃ m', m' < m ∧ tellI K CT CH mk bodyL tk i h so m' Γ' C') ?_ fun Γ' C' n => tr_nil n
        refine et_truth ?_
        refine ev_clo 2 GS hr hmc rfl ?_
        refine ea_cons ?_
        refine ev_fld 0 T.clH T.nName nodH rfl ?_
        refine ev_name 1 rfl ?_ -- one
        refine ⟨_, _, _, rfl, mH, rfl, ?_⟩
        refine ea_cons ?_
        refine ev_ix (ix_all u1) ?_
        refine ev_fld 2 T.clH T.nHeld nodH rfl ?_
        refine ev_name 1 rfl ?_ -- one
        refine ⟨_, _, _, rfl, mH, rfl, ?_⟩
        refine ev_int ?_
        refine okA_ixL (q := pr K e) (lst_C mL) (by rw [ehp]; exact at0 _ _) ?_
        refine ea_nil ?_
        refine ⟨⟨so.sl, so.aA, so.aS, so.ans, sent, g.name, e⟩, tc K CT CH tk', ⟨eA, eS, hans, ltB⟩, rfl, List.perm_append_comm, ?_⟩
        refine ⟨?_, fun cls C' ⟨_, _, z⟩ => z.elim⟩
        rintro C' ρ ⟨C'', rfl, rfl, rfl⟩
        refine tru_B ?_
        refine bB (fun hg => ?_) (fun hg => ?_)
        · refine tr_perm (C' := tc K CT CH tk' ++ SC K { so with sent := sent ++ [⟨g.name, e, goodAt so.ans sent.length⟩] }) List.perm_append_comm ?_
          rw [hg]
          generalize eS2 : SC K { so with sent := sent ++ [(⟨g.name, e, true⟩ : Rw)] } = S2
          obtain ⟨j0, j1⟩ := tc_at (K := K) (CT := CT) (CH := CH) (S := S2) hk
          have nH := List.mem_of_getElem? j0
          have nL := List.mem_of_getElem? j1
          -- one.held = one.held[1:]
          refine tr_fld 2 T.clH T.nHeld nodH rfl (by decide) ?_
          refine ev_slice sl_list ?_
          refine ev_fld 2 T.clH T.nHeld nodH rfl ?_
          refine ev_name 1 rfl ?_ -- one
          refine ⟨_, _, _, rfl, nH, rfl, ?_⟩
          refine eo_some ?_
          refine ev_int ?_
          refine ⟨_, rfl, ?_⟩
          refine eo_none ?_
          refine ok_slLC (lst_C nL) fun l' => ?_
          refine ev_name 1 rfl ?_ -- one
          refine ⟨_, _, 2 * i + 3, rfl, j0, ?_⟩
          -- one.tries = 0
          refine tr_fld 3 T.clH T.nTries nodH rfl (by decide) ?_
          refine ev_int ?_
          refine ev_name 1 rfl ?_ -- one
          have k0 : ((tc K CT CH tk' ++ S2).set (2 * i + 2) (cHk K CH ⟨h.a, l', g⟩))[2 * i + 2]? = some (cHk K CH ⟨h.a, l', g⟩) := List.getElem?_set_self (List.getElem?_eq_some_iff.mp j0).1
          refine ⟨_, _, 2 * i + 3, rfl, k0, ?_⟩
          have p := perm_new (L := (tc K CT CH tk' ++ S2).set (2 * i + 2) (cHk K CH ⟨h.a, l', { g with held := r, tries := 0 }⟩)) (k := 2 * i + 3) (new := cHl K ⟨h.a, l', { g with held := r, tries := 0 }⟩) (by rw [List.getElem?_set_ne (by omega)]; exact j1)
          rw [tc_set2 (h' := ⟨h.a, l', { g with held := r, tries := 0 }⟩) hk rfl rfl] at p
          have ec : cL l' (cutP (g.held.map (pr K)) (some 1) none) = cHl K ⟨h.a, l', { g with held := r, tries := 0 }⟩ := by
            rw [ehp, cut_tail]
          refine tr_keep (C' := tc K CT CH { tk' with hs := tk'.hs.set i ⟨h.a, l', { g with held := r, tries := 0 }⟩ } ++ S2) (D' := [cHl K ⟨h.a, l, g⟩]) ?_ (tr_nil ⟨if tst tk.time { g with held := r, tries := 0 } = true then r.length + 1 else 0, ?_, rfl, l', { g with held := r, tries := 0 }, sent ++ [⟨g.name, e, true⟩], fu, ?_, rfl, fun _ => ?_, ?_, ?_, fun _ => ?_, hnm⟩)
          · show List.Perm (cL l' (cutP (g.held.map (pr K)) (some 1) none) :: (((tc K CT CH tk' ++ S2).set (2 * i + 2) (cHk K CH ⟨h.a, l', g⟩)).set (2 * i + 2) (cHk K CH ⟨h.a, l', { g with held := r, tries := 0 }⟩))) _
            rw [ec, List.set_set]
            exact p
          · rw [em, if_pos hst]
            split <;> omega
          · rw [eS2, ← etk]
            show tc K CT CH { tk with hs := (tk.hs.set i _).set i _ } ++ S2 = _
            rw [List.set_set]
          · show r.length < fu
            omega
          · rw [← hfin, tellG_good hst eh hg]
          · exact ⟨by show (0 : Int) ≤ 0; decide, by show (0 : Int) ≤ 5; decide, by have := okg.h100; show r.length ≤ 100; omega⟩
          · show (sent ++ [(⟨g.name, e, true⟩ : Rw)]).length + r.length < 1000
            rw [List.length_append, List.length_singleton]
            omega
        · refine tr_perm (C' := tc K CT CH tk' ++ SC K { so with sent := sent ++ [⟨g.name, e, goodAt so.ans sent.length⟩] }) List.perm_append_comm ?_
          rw [hg]
          generalize eS2 : SC K { so with sent := sent ++ [(⟨g.name, e, false⟩ : Rw)] } = S2
          obtain ⟨j0, j1⟩ := tc_at (K := K) (CT := CT) (CH := CH) (S := S2) hk
          have nH := List.mem_of_getElem? j0
          have nT : cI tk.t CT tFs [isR tk'.d, isI tk'.time, isI tk'.count] ∈ tc K CT CH tk' ++ S2 := by
            rw [← et]
            exact List.Mem.head _
          have bad := tellG_bad (n := fu) hst eh hg
          rw [hfin] at bad
          -- what is wanted behind
          have fin : ∀ g' : GH, g' = (if g.tries = 5 then { g with state := "broken" } else { g with due := tk.time + waitOf g.tries, tries := g.tries + 1 }) → tst tk.time g' = false → OkG g' → g'.name = g.name → tellI K CT CH mk bodyL tk i h so 0 [some (isR tk.t), some (isR h.a), some (rFu mk bodyL)] (tc K CT CH { tk' with hs := tk'.hs.set i ⟨h.a, l, g'⟩ } ++ S2) := by
            intro g' e1 e2 e3 e4
            refine ⟨rfl, l, g', sent ++ [⟨g.name, e, false⟩], 0, ?_, ?_, ?_, ?_, e3, ?_, e4.trans hnm⟩
            · rw [eS2, ← etk]
              show tc K CT CH { tk with hs := (tk.hs.set i _).set i _ } ++ S2 = _
              rw [List.set_set]
            · rw [e2, if_neg (by decide)]
            · rw [e2]
              exact fun z => nomatch z
            · rw [tellG_no e2, bad, e1]
            · rw [e2]
              exact fun z => nomatch z
          have m0 : 0 < m := by
            rw [em, if_pos hst]
            omega
          -- elif one.tries >= len(WAITS_OF_HOOKS):
          refine tr_if (fun Γ' C' => ∃ m', m' < m ∧ tellI K CT CH mk bodyL tk i h so m' Γ' C') ?_ fun Γ' C' n => tr_nil n
          walk_at "zuse"
          · refine et_cmp op_ge rfl ?_
            refine ev_fld 3 T.clH T.nTries nodH rfl ?_
            refine ev_name 1 rfl ?_ -- one
            refine ⟨_, _, _, rfl, nH, rfl, ?_⟩
            refine ev_callB call_lenA T.zLen (by decide +kernel) ?_
            refine ea_cons ?_
            refine ev_glob (v := .ref W) T.gW rfl ?_
            refine ea_nil ?_
            refine okA_lenT (ps := [isI 1, isI 2, isI 4, isI 8, isI 16]) (tup_G T.sW fun F => .cons rfl (.cons rfl (.cons rfl (.cons rfl (.cons rfl .nil))))) ?_
            walk_at "zlt"
            refine ⟨_, rfl, ?_⟩
            exact ⟨rfl, rfl⟩
          refine bD (fun h7 => ?_) (fun h8 => ?_)
          · have h7 : g.tries ≥ 5 := h7
            have e5 : g.tries = 5 := by have := okg.t5; omega
            -- one.state = 'broken'
            refine tr_fld 5 T.clH T.nState nodH rfl (by decide) ?_
            refine ev_str ?_
            refine ev_name 1 rfl ?_ -- one
            refine ⟨_, _, 2 * i + 2, rfl, j0, ?_⟩
            refine tr_nil ⟨0, m0, ?_⟩
            have q := fin { g with state := "broken" } (by rw [if_pos e5]) tst_broken ⟨okg.t0, okg.t5, okg.h100⟩ rfl
            rw [← tc_set0 (h' := ⟨h.a, l, { g with state := "broken" }⟩) hk rfl rfl rfl] at q
            exact q
          · have h8 : ¬ g.tries ≥ 5 := h8
            have n5 : g.tries ≠ 5 := by omega
            obtain ⟨w0, w1⟩ := wait_pos okg.t0 okg.t5 n5
            -- one.due_at = self.time + WAITS_OF_HOOKS[one.tries]
            refine tr_fld 4 T.clH T.nDue nodH rfl (by decide) ?_
            refine ev_op op_addA ?_
            refine ev_fld 1 T.clT T.nTime nodT rfl ?_
            refine ev_name 0 rfl ?_ -- self
            refine ⟨_, _, _, rfl, nT, rfl, ?_⟩
            refine ev_ix (ix_all u1) ?_
            refine ev_glob (v := .ref W) T.gW rfl ?_
            refine ev_fld 3 T.clH T.nTries nodH rfl ?_
            refine ev_name 1 rfl ?_ -- one
            refine ⟨_, _, _, rfl, nH, rfl, ?_⟩
            refine okA_ixT (ps := [isI 1, isI 2, isI 4, isI 8, isI 16]) (tup_G T.sW fun F => .cons rfl (.cons rfl (.cons rfl (.cons rfl (.cons rfl .nil))))) w1 ?_
            walk_at "zadd"
            refine ev_name 1 rfl ?_ -- one
            refine ⟨_, _, 2 * i + 2, rfl, j0, ?_⟩
            -- one.tries += 1
            refine tr_fldaug 3 T.clH T.nTries nodH rfl (by decide) in_add ?_
            refine ev_name 1 rfl ?_ -- one
            have k0 : ((tc K CT CH tk' ++ S2).set (2 * i + 2) (cHk K CH ⟨h.a, l, { g with due := tk'.time + waitOf g.tries }⟩))[2 * i + 2]? = some (cHk K CH ⟨h.a, l, { g with due := tk'.time + waitOf g.tries }⟩) := List.getElem?_set_self (List.getElem?_eq_some_iff.mp j0).1
            refine ⟨_, _, 2 * i + 2, g.tries, 1, rfl, k0, rfl, ev_int ⟨rfl, rfl⟩, ?_⟩
            refine tr_nil ⟨0, m0, ?_⟩
            have q := fin { g with due := tk.time + waitOf g.tries, tries := g.tries + 1 } (by rw [if_neg n5]) (tst_late w0) ⟨by have := okg.t0; show 0 ≤ g.tries + 1; omega, by have := okg.t5; show g.tries + 1 ≤ 5; omega, okg.h100⟩ rfl
            rw [← tc_set0 (h' := ⟨h.a, l, { g with due := tk.time + waitOf g.tries, tries := g.tries + 1 }⟩) hk rfl rfl rfl, ← ett] at q
            show tellI K CT CH mk bodyL tk i h so 0 _ (((tc K CT CH tk' ++ S2).set (2 * i + 2) (cHk K CH ⟨h.a, l, { g with due := tk'.time + waitOf g.tries }⟩)).set (2 * i + 2) (cHk K CH ⟨h.a, l, { g with due := tk'.time + waitOf g.tries, tries := g.tries + 1 }⟩))
            rw [List.set_set]
            exact q
      · refine ⟨l, ?_⟩
        rw [← hfin, tellG_no h2]
        dsimp only
        rw [etk]
    · rintro Γ' C' ⟨l, e⟩
      refine tr_nil ?_
      exact ⟨rfl, l, e⟩
end
end K17

end
section
set_option Elab.async false
set_option linter.all false
set_option maxRecDepth 100000
open PySem PySem.Spec PyProof.Rows L2 Z
namespace K17
open PySem.W (Datum Tup)
open Rep (pr)
/-! names in order -/
def Abc (ks : List Str) : Prop := ks = [] ∨ ks = (["a"] : List Str) ∨ ks = (["a", "b"] : List Str) ∨ ks = (["a", "b", "c"] : List Str)
theorem Abc.nd {ks : List Str} (h : Abc ks) : ks.Nodup := by
  rcases h with e | e | e | e <;> subst e <;> decide +kernel
theorem Abc.len {ks : List Str} (h : Abc ks) : ks.length ≤ 3 := by
  rcases h with e | e | e | e <;> subst e <;> decide
theorem Abc.sorted {ks ys : List Str} (h : Abc ks) (p : ys.Perm ks) (s : sortedS ys = true) : ys = ks := by
  have nb1 : sortedS (["b", "a"] : List Str) = false := by decide +kernel
  have n1 : sortedS (["a", "c", "b"] : List Str) = false := by decide +kernel
  have n2 : sortedS (["b", "a", "c"] : List Str) = false := by decide +kernel
  have n3 : sortedS (["b", "c", "a"] : List Str) = false := by decide +kernel
  have n4 : sortedS (["c", "a", "b"] : List Str) = false := by decide +kernel
  have n5 : sortedS (["c", "b", "a"] : List Str) = false := by decide +kernel
  have nd : ys.Nodup := p.nodup_iff.mpr h.nd
  have len := p.length_eq
  rcases h with e | e | e | e <;> subst e
  · exact List.length_eq_zero_iff.mp len
  · match ys, len with
    | [x], _ =>
      have hx := p.mem_iff.mp (List.mem_cons_self (a := x))
      simp at hx
      rw [hx]
  · match ys, len with
    | [x, y], _ =>
      have hx := p.mem_iff.mp (show x ∈ [x, y] by simp)
      have hy := p.mem_iff.mp (show y ∈ [x, y] by simp)
      simp only [List.mem_cons, List.not_mem_nil, or_false] at hx hy
      rcases hx with rfl | rfl <;> rcases hy with rfl | rfl
      · simp at nd
      · rfl
      · rw [nb1] at s; cases s
      · simp at nd
  · match ys, len with
    | [x, y, z], _ =>
      have hx := p.mem_iff.mp (show x ∈ [x, y, z] by simp)
      have hy := p.mem_iff.mp (show y ∈ [x, y, z] by simp)
      have hz := p.mem_iff.mp (show z ∈ [x, y, z] by simp)
      simp only [List.mem_cons, List.not_mem_nil, or_false] at hx hy hz
      rcases hx with rfl | rfl | rfl <;> rcases hy with rfl | rfl | rfl <;> rcases hz with rfl | rfl | rfl <;> first
        | rfl
        | (exfalso; revert nd; decide +kernel)
        | (exfalso; rw [n1] at s; cases s)
        | (exfalso; rw [n2] at s; cases s)
        | (exfalso; rw [n3] at s; cases s)
        | (exfalso; rw [n4] at s; cases s)
        | (exfalso; rw [n5] at s; cases s)
/-! a tick, in plain words -/
def tickStep (ans : List Bool) (time : Int) (a : List GH × List Rw) (g : GH) : List GH × List Rw := (a.1 ++ [(tellG ans time (g.held.length + 1) g a.2).1], (tellG ans time (g.held.length + 1) g a.2).2)
def tickG (ans : List Bool) (time : Int) (gs : List GH) (sent : List Rw) : List GH × List Rw := gs.foldl (tickStep ans time) ([], sent)
section
variable {ans : List Bool} {time : Int} {gs : List GH} {sent : List Rw}
theorem tickG_snoc (g : GH) : tickG ans time (gs ++ [g]) sent = tickStep ans time (tickG ans time gs sent) g := by
  unfold tickG
  rw [List.foldl_append]
  rfl
theorem tick_inv : ∀ {gs : List GH} {a : List GH × List Rw}, (∀ g ∈ gs, OkG g) → (∀ g ∈ a.1, OkG g) →
    (gs.foldl (tickStep ans time) a).1.length = a.1.length + gs.length ∧ (gs.foldl (tickStep ans time) a).1.map (·.name) = a.1.map (·.name) ++ gs.map (·.name) ∧ (∀ g ∈ (gs.foldl (tickStep ans time) a).1, OkG g) ∧ (gs.foldl (tickStep ans time) a).2.length ≤ a.2.length + 100 * gs.length
  | [], a, _, h2 => ⟨rfl, by simp, h2, by simp⟩
  | g :: gs, a, h1, h2 => by
    obtain ⟨k1, k2, k3, k4, k5, k6⟩ := tellG_ok (ans := ans) (time := time) (n := g.held.length + 1) (g := g) (sent := a.2) (h1 g (by simp))
    have ih := tick_inv (gs := gs) (a := tickStep ans time a g) (fun x hx => h1 x (by simp [hx])) (fun x hx => by
      rcases List.mem_append.mp hx with z | z
      · exact h2 x z
      · rw [List.mem_singleton] at z
        rw [z]
        exact k1)
    have h100 := (h1 g (by simp)).h100
    obtain ⟨i1, i2, i3, i4⟩ := ih
    refine ⟨?_, ?_, i3, ?_⟩
    · rw [List.foldl_cons, i1]
      show (a.1 ++ [_]).length + gs.length = _
      simp only [List.length_append, List.length_cons, List.length_nil]
      omega
    · rw [List.foldl_cons, i2]
      show (a.1 ++ [(tellG ans time (g.held.length + 1) g a.2).1]).map (fun g : GH => g.name) ++ _ = _
      rw [List.map_append, List.map_cons, List.map_nil, k2, List.map_cons, List.append_assoc]
      rfl
    · rw [List.foldl_cons]
      have : (tickStep ans time a g).2.length ≤ a.2.length + g.held.length := k5
      rw [List.length_cons]
      omega
theorem tickG_ok (h : ∀ g ∈ gs, OkG g) : (tickG ans time gs sent).1.length = gs.length ∧ (tickG ans time gs sent).1.map (·.name) = gs.map (·.name) ∧ (∀ g ∈ (tickG ans time gs sent).1, OkG g) ∧ (tickG ans time gs sent).2.length ≤ sent.length + 100 * gs.length := by
  have := tick_inv (ans := ans) (time := time) (gs := gs) (a := ([], sent)) h (by simp)
  simpa [tickG] using this
/-- the row of states in the middle of a tick -/
def midG (ans : List Bool) (time : Int) (gs : List GH) (sent : List Rw) (i : Nat) : List GH := (tickG ans time (gs.take i) sent).1 ++ gs.drop i
def midS (ans : List Bool) (time : Int) (gs : List GH) (sent : List Rw) (i : Nat) : List Rw := (tickG ans time (gs.take i) sent).2
theorem mid_at (h : ∀ g ∈ gs, OkG g) {i : Nat} {g : GH} (e : gs[i]? = some g) : (midG ans time gs sent i)[i]? = some g ∧
    midG ans time gs sent (i + 1) = (midG ans time gs sent i).set i (tellG ans time (g.held.length + 1) g (midS ans time gs sent i)).1 ∧ midS ans time gs sent (i + 1) = (tellG ans time (g.held.length + 1) g (midS ans time gs sent i)).2 := by
  have hi : i < gs.length := (List.getElem?_eq_some_iff.mp e).1
  have et : gs.take (i + 1) = gs.take i ++ [g] := by rw [List.take_add_one, e]; rfl
  have ed : gs.drop i = g :: gs.drop (i + 1) := by
    rw [List.drop_eq_getElem_cons hi]
    rw [(List.getElem?_eq_some_iff.mp e).2]
  have hl : (tickG ans time (gs.take i) sent).1.length = i := by
    rw [(tickG_ok (fun x hx => h x (List.mem_of_mem_take hx))).1, List.length_take]
    omega
  have es : tickG ans time (gs.take (i + 1)) sent = tickStep ans time (tickG ans time (gs.take i) sent) g := by rw [et, tickG_snoc]
  refine ⟨?_, ?_, ?_⟩
  · unfold midG
    rw [List.getElem?_append_right (by omega), hl, Nat.sub_self, ed]
    rfl
  · unfold midG midS
    rw [es, ed, List.set_append_right _ _ (by omega), hl, Nat.sub_self]
    show (_ ++ [_]) ++ _ = _
    rw [List.append_assoc]
    rfl
  · unfold midS
    rw [es]
    rfl
theorem mid_name (h : ∀ g ∈ gs, OkG g) (i : Nat) : (midG ans time gs sent i).map (·.name) = gs.map (·.name) := by
  unfold midG
  rw [List.map_append, (tickG_ok (fun x hx => h x (List.mem_of_mem_take hx))).2.1, ← List.map_append, List.take_append_drop]
theorem mid_len (h : ∀ g ∈ gs, OkG g) (i : Nat) : (midS ans time gs sent i).length ≤ sent.length + 100 * gs.length := by
  unfold midS
  have := (tickG_ok (ans := ans) (time := time) (sent := sent) (gs := gs.take i) (fun x hx => h x (List.mem_of_mem_take hx))).2.2.2
  have h2 : (gs.take i).length ≤ gs.length := by rw [List.length_take]; omega
  omega
theorem mid_end (h : gs.length = n) : midG ans time gs sent n = (tickG ans time gs sent).1 ∧ midS ans time gs sent n = (tickG ans time gs sent).2 := by
  unfold midG midS
  rw [← h, List.take_length, List.drop_length, List.append_nil]
  exact ⟨rfl, rfl⟩
end
/-! short rows -/
local macro_rules | `(tactic| walk_at "zmem") => `(tactic| first
  | exact List.Mem.head _
  | exact List.Mem.tail _ (List.Mem.head _)
  | exact List.Mem.tail _ (List.Mem.tail _ (List.Mem.head _))
  | exact List.Mem.tail _ (List.Mem.tail _ (List.Mem.tail _ (List.Mem.head _)))
  | exact List.Mem.tail _ (List.Mem.tail _ (List.Mem.tail _ (List.Mem.tail _ (List.Mem.head _)))))
local macro_rules | `(tactic| walk_at "zlst") => `(tactic| first | exact lst_F | exact lst_S | exact lst_C (by walk_at "zmem") | assumption)
local macro_rules | `(tactic| walk_at "ztup") => `(tactic| first | exact tup_F | assumption)
local macro_rules | `(tactic| walk_at "zdic") => `(tactic| first | exact dic_F | exact dic_C (by walk_at "zmem") | exact dic_Z (by walk_at "zmem") | assumption)
local macro_rules | `(tactic| walk_at "zside") => `(tactic| first | assumption | decide | (show _ ≤ sizeLine; decide) | omega)
local macro_rules | `(tactic| walk_at "zadd") => `(tactic| first | refine okA_addI ?_ | refine okA_addS (by walk_at "zside") ?_ | refine okA_addL (by walk_at "zlst") (by walk_at "zlst") (by walk_at "zside") ?_)
local macro_rules | `(tactic| walk_at "zsub") => `(tactic| refine ok_rI0 ?_)
local macro_rules | `(tactic| walk_at "zmul") => `(tactic| first | refine okA_mulI (by walk_at "zside") ?_ | refine okA_mulL (by walk_at "zside") (by walk_at "zside") (by walk_at "zside") ?_)
local macro_rules | `(tactic| walk_at "zdiv") => `(tactic| refine ok_rI (by first | assumption | exact ⟨by decide, by decide⟩) ?_)
local macro_rules | `(tactic| walk_at "zmod") => `(tactic| refine ok_rI (by first | assumption | decide) ?_)
local macro_rules | `(tactic| walk_at "zpow") => `(tactic| refine ok_rI (by exact ⟨by decide, by decide, by decide⟩) ?_)
local macro_rules | `(tactic| walk_at "zlt") => `(tactic| refine ok_rI0 ?_)
local macro_rules | `(tactic| walk_at "zeq") => `(tactic| refine okA_eqS rfl ?_)
local macro_rules | `(tactic| walk_at "zne") => `(tactic| refine okA_neS rfl ?_)
local macro_rules | `(tactic| walk_at "zix") => `(tactic| first | refine okA_ixL (by walk_at "zlst") (by rfl) ?_ | refine okA_ixT (by walk_at "ztup") (by rfl) ?_ | refine okA_ixD (by walk_at "zdic") (by assumption) ?_)
local macro_rules | `(tactic| walk_at "zfld") => `(tactic| refine ⟨_, _, _, rfl, by walk_at "zmem", rfl, ?_⟩)
local macro_rules | `(tactic| walk_at "zc_len") => `(tactic| first | refine okA_lenL (by walk_at "zlst") ?_ | refine okA_lenT (by walk_at "ztup") ?_ | refine okA_lenD (by walk_at "zdic") ?_ | refine okA_lenS (by walk_at "zside") ?_)
local macro_rules | `(tactic| walk_at "zc_int") => `(tactic| first | refine ok_intI ?_ | refine ok_intB ?_)
local macro_rules | `(tactic| walk_at "zc_abs") => `(tactic| refine ok_abs ?_)
local macro_rules | `(tactic| walk_at "zc_str") => `(tactic| refine ok_strI (by walk_at "zside") ?_)
local macro_rules | `(tactic| walk_at "zso") => `(tactic| first
  | refine so_L (i := 0) rfl rfl ?_ | refine so_L (i := 1) rfl rfl ?_ | refine so_L (i := 2) rfl rfl ?_ | refine so_L (i := 3) rfl rfl ?_)
local macro_rules | `(tactic| walk_at "zuse") => `(tactic| apply et_use)
local macro_rules | `(tactic| walk_at "zev") => `(tactic| apply ev_use)
local macro_rules | `(tactic| walk_at "zand") => `(tactic| apply etp_and)
local macro_rules | `(tactic| walk_at "zor") => `(tactic| apply etp_or)
local macro_rules | `(tactic| walk_at "znot") => `(tactic| apply etp_not)
structure XO where
  tk : TK
  so : SO
abbrev TK.gs (t : TK) : List GH := t.hs.map (·.g)
abbrev TK.names (t : TK) : List Str := t.hs.map fun h => h.g.name
def pTick (K : PySem.W.Frag) (CT CH aA aS : Addr) (mk : Addr → NdefX.NF) (body : Expr) : Prom XO := { ps := fun o => [isR o.tk.t, rFu mk body], C := fun o => tc K CT CH o.tk ++ SC K o.so, pre := fun o => Abc o.tk.names ∧ (∀ g ∈ o.tk.gs, OkG g) ∧ o.so.aA = aA ∧ o.so.aS = aS ∧ o.so.ans.length = 7 ∧ o.so.sent.length < 100, R := fun o C ρ => ρ = isN ∧ ∃ hs', hs'.map (·.a) = o.tk.hs.map (·.a) ∧ hs'.map (·.g) = (tickG o.so.ans (o.tk.time + 1) o.tk.gs o.so.sent).1 ∧ C = tc K CT CH { o.tk with time := o.tk.time + 1, hs := hs' } ++ SC K { o.so with sent := (tickG o.so.ans (o.tk.time + 1) o.tk.gs o.so.sent).2 } }
section
variable {Pg : Program} {w : World} {K : PySem.W.Frag} {mg : Str → Option Value} {base : Heap} {tb : Tb} {CH CT CE W aA aS : Addr} {mk : Addr → NdefX.NF} {bodyL : Expr}
theorem map_at {α β : Type} {f : α → β} {l : List α} {i : Nat} {b : β} (h : (l.map f)[i]? = some b) : ∃ a, l[i]? = some a ∧ f a = b := by
  rw [List.getElem?_map] at h
  cases e : l[i]? with
  | none => rw [e] at h; cases h
  | some a =>
    rw [e] at h
    exact ⟨a, rfl, Option.some.inj h⟩
theorem scTick : FnScope ["self", "send", "name"] ["self", "send"] (defScope sTick) := ⟨rfl, rfl, rfl, by decide +kernel, rfl, by decide +kernel, by decide +kernel⟩
theorem ok_tick {f fT : Addr} {fd fdT : FuncData} (Fn : Fun K "tick" "Teller.tick" sTick f fd) (T : Txt K mg CH CT CE W) (GT : FnOk Pg w K mg base (L2.CX Pg w) 2 fT fdT ["self", "one", "send"] ((pTell K CT CH aA aS mk bodyL).sp tb)) (mT : Meth K CT "tell" fT) (bT : Binds K fdT ["self", "one", "send"] []) :
    FnOk Pg w K mg base (L2.CX Pg w) 3 f fd ["self", "send"] ((pTick K CT CH aA aS mk bodyL).sp tb) :=
  def_ok Fn scTick (fun _ => rfl) fun o cdv A outer s H E hpre hr own => by
    have u1 := hu_of hr
    obtain ⟨tk, so⟩ := o
    obtain ⟨habc, hok, eA, eS, hans, hlen⟩ := hpre
    have habc : Abc tk.names := habc
    have hok : ∀ g ∈ tk.gs, OkG g := hok
    have hlen : so.sent.length < 100 := hlen
    -- self.time += 1
    refine tr_fldaug 1 T.clT T.nTime nodT rfl (by decide) in_add ?_
    refine ev_name 0 rfl ?_ -- self
    refine ⟨_, _, 0, tk.time, 1, rfl, rfl, rfl, ev_int ⟨rfl, rfl⟩, ?_⟩
    -- for name in sorted(self.hooks):
    refine tr_for (fun i Γ C => (∃ x, Γ = [some (isR tk.t), some (rFu mk bodyL), x]) ∧ ∃ hs', hs'.map (·.a) = tk.hs.map (·.a) ∧ hs'.map (·.g) = midG so.ans (tk.time + 1) tk.gs so.sent i ∧ C = tc K CT CH { tk with time := tk.time + 1, hs := hs' } ++ SC K { so with sent := midS so.ans (tk.time + 1) tk.gs so.sent i })
      (fun Γ C => ∃ hs', hs'.map (·.a) = tk.hs.map (·.a) ∧ hs'.map (·.g) = (tickG so.ans (tk.time + 1) tk.gs so.sent).1 ∧ C = tc K CT CH { tk with time := tk.time + 1, hs := hs' } ++ SC K { so with sent := (tickG so.ans (tk.time + 1) tk.gs so.sent).2 }) ?_ ?_ own rfl
    · refine ev_callB (call_sortedD rfl) T.zSorted (by decide +kernel) ?_
      refine ea_cons ?_
      refine ev_fld 0 T.clT T.nHooks nodT rfl ?_
      refine ev_name 0 rfl ?_ -- self
      refine ⟨_, _, _, rfl, List.Mem.head _, rfl, ?_⟩
      refine ea_nil ?_
      refine ok_sortedD (kps := kpsH tk.hs) (ks := tk.names) (dic_C (List.Mem.tail _ (List.Mem.head _))) (kps_fst tk.hs) (Nat.lt_of_le_of_lt habc.len (by decide)) fun ys hy hs => ?_
      have ey := habc.sorted hy hs
      subst ey
      refine ⟨_, rfl, ⟨⟨_, rfl⟩, tk.hs, rfl, ?_, rfl⟩, fun i q Γ C hi hI => ?_, fun Γ C hI => ?_⟩
      · rfl
      · obtain ⟨⟨x, rfl⟩, hs', ha, hg, rfl⟩ := hI
        obtain ⟨nm, hnm, rfl⟩ := map_at hi
        obtain ⟨h0, hh0, en⟩ := map_at hnm
        have hgi : tk.gs[i]? = some h0.g := by
          show (tk.hs.map (·.g))[i]? = _
          rw [List.getElem?_map, hh0]
          rfl
        obtain ⟨m1, m2, m3⟩ := mid_at (ans := so.ans) (time := tk.time + 1) (sent := so.sent) hok hgi
        rw [← hg] at m1
        obtain ⟨h', hh', eg⟩ := map_at m1
        have ln := mid_len (ans := so.ans) (time := tk.time + 1) (sent := so.sent) hok i
        have l3 : tk.gs.length ≤ 3 := by
          have := habc.len
          simp only [List.length_map] at this ⊢
          exact this
        have okh : OkG h'.g := by
          rw [eg]
          exact hok _ (List.mem_of_getElem? hgi)
        have hnd : (hs'.map fun h => h.g.name).Nodup := by
          have e1 : (hs'.map fun h => h.g.name) = (hs'.map (·.g)).map (·.name) := by rw [List.map_map]; rfl
          rw [e1, hg, mid_name hok, List.map_map]
          exact habc.nd
        refine eg_name 2 ?_ scTick.nd -- name
        -- self.tell(self.hooks[name], send)
        refine tr_expr ?_
        refine ev_meth GT hr T.clT mT bT ?_
        refine ev_name 0 rfl ?_ -- self
        refine ⟨ins_C (fns := tFs) (List.Mem.head _) (by decide +kernel), ?_⟩
        refine ea_cons ?_
        refine ev_ix (ix_all u1) ?_
        refine ev_fld 0 T.clT T.nHooks nodT rfl ?_
        refine ev_name 0 rfl ?_ -- self
        refine ⟨_, _, _, rfl, List.Mem.head _, rfl, ?_⟩
        refine ev_name 2 rfl ?_ -- name
        have hk := kps_at hh'
        rw [eg, en] at hk
        refine okA_ixDi (k := Sum.inr nm) i (dic_C (List.Mem.tail _ (List.Mem.head _))) (kps_nd hnd) hk ?_
        refine ea_cons ?_
        refine ev_name 1 rfl ?_ -- send
        refine ea_nil ?_
        refine ⟨⟨{ tk with time := tk.time + 1, hs := hs' }, i, h', { so with sent := midS so.ans (tk.time + 1) tk.gs so.sent i }⟩, [], ⟨hh', okh, eA, eS, hans, ?_⟩, rfl, ?_, ?_, fun cls C' z => z.elim⟩
        · show (midS so.ans (tk.time + 1) tk.gs so.sent i).length + h'.g.held.length < 1000
          have := okh.h100
          omega
        · rw [List.append_nil]
          exact List.Perm.refl _
        · rintro C' ρ ⟨rfl, l, rfl⟩
          refine tr_nil ?_
          rw [List.append_nil]
          refine ⟨⟨_, rfl⟩, hs'.set i ⟨h'.a, l, (tellG so.ans (tk.time + 1) (h'.g.held.length + 1) h'.g (midS so.ans (tk.time + 1) tk.gs so.sent i)).1⟩, ?_, ?_, ?_⟩
          · rw [List.map_set, set_id, ha]
            rw [List.getElem?_map, hh']
            rfl
          · rw [List.map_set, hg, m2, eg]
          · rw [m3, ← eg]
      · obtain ⟨⟨x, rfl⟩, hs', ha, hg, rfl⟩ := hI
        have e1 : tk.gs.length = (tk.names.map isS).length := by simp
        obtain ⟨f1, f2⟩ := mid_end (ans := so.ans) (time := tk.time + 1) (sent := so.sent) e1
        rw [f1] at hg
        rw [f2]
        exact ⟨hs', ha, hg, rfl⟩
    · rintro Γ C ⟨hs', ha, hg, rfl⟩
      refine tr_nil ?_
      exact ⟨rfl, hs', ha, hg, rfl⟩
end
end K17

end
section
set_option Elab.async false
set_option linter.all false
set_option maxRecDepth 100000
open PySem PySem.Spec PyProof.Rows L2 Z
namespace K17
open PySem.W (Datum Tup)
open Rep (pr)
/-! short rows -/
local macro_rules | `(tactic| walk_at "zmem") => `(tactic| first
  | exact List.Mem.head _
  | exact List.Mem.tail _ (List.Mem.head _)
  | exact List.Mem.tail _ (List.Mem.tail _ (List.Mem.head _))
  | exact List.Mem.tail _ (List.Mem.tail _ (List.Mem.tail _ (List.Mem.head _)))
  | exact List.Mem.tail _ (List.Mem.tail _ (List.Mem.tail _ (List.Mem.tail _ (List.Mem.head _)))))
local macro_rules | `(tactic| walk_at "zlst") => `(tactic| first | exact lst_F | exact lst_S | exact lst_C (by walk_at "zmem") | assumption)
local macro_rules | `(tactic| walk_at "ztup") => `(tactic| first | exact tup_F | assumption)
local macro_rules | `(tactic| walk_at "zdic") => `(tactic| first | exact dic_F | exact dic_C (by walk_at "zmem") | exact dic_Z (by walk_at "zmem") | assumption)
local macro_rules | `(tactic| walk_at "zside") => `(tactic| first | assumption | decide | (show _ ≤ sizeLine; decide) | omega)
local macro_rules | `(tactic| walk_at "zadd") => `(tactic| first | refine okA_addI ?_ | refine okA_addS (by walk_at "zside") ?_ | refine okA_addL (by walk_at "zlst") (by walk_at "zlst") (by walk_at "zside") ?_)
local macro_rules | `(tactic| walk_at "zsub") => `(tactic| refine ok_rI0 ?_)
local macro_rules | `(tactic| walk_at "zmul") => `(tactic| first | refine okA_mulI (by walk_at "zside") ?_ | refine okA_mulL (by walk_at "zside") (by walk_at "zside") (by walk_at "zside") ?_)
local macro_rules | `(tactic| walk_at "zdiv") => `(tactic| refine ok_rI (by first | assumption | exact ⟨by decide, by decide⟩) ?_)
local macro_rules | `(tactic| walk_at "zmod") => `(tactic| refine ok_rI (by first | assumption | decide) ?_)
local macro_rules | `(tactic| walk_at "zpow") => `(tactic| refine ok_rI (by exact ⟨by decide, by decide, by decide⟩) ?_)
local macro_rules | `(tactic| walk_at "zlt") => `(tactic| refine ok_rI0 ?_)
local macro_rules | `(tactic| walk_at "zeq") => `(tactic| refine okA_eqS rfl ?_)
local macro_rules | `(tactic| walk_at "zne") => `(tactic| refine okA_neS rfl ?_)
local macro_rules | `(tactic| walk_at "zix") => `(tactic| first | refine okA_ixL (by walk_at "zlst") (by rfl) ?_ | refine okA_ixT (by walk_at "ztup") (by rfl) ?_ | refine okA_ixD (by walk_at "zdic") (by assumption) ?_)
local macro_rules | `(tactic| walk_at "zfld") => `(tactic| refine ⟨_, _, _, rfl, by walk_at "zmem", rfl, ?_⟩)
local macro_rules | `(tactic| walk_at "zc_len") => `(tactic| first | refine okA_lenL (by walk_at "zlst") ?_ | refine okA_lenT (by walk_at "ztup") ?_ | refine okA_lenD (by walk_at "zdic") ?_ | refine okA_lenS (by walk_at "zside") ?_)
local macro_rules | `(tactic| walk_at "zc_int") => `(tactic| first | refine ok_intI ?_ | refine ok_intB ?_)
local macro_rules | `(tactic| walk_at "zc_abs") => `(tactic| refine ok_abs ?_)
local macro_rules | `(tactic| walk_at "zc_str") => `(tactic| refine ok_strI (by walk_at "zside") ?_)
local macro_rules | `(tactic| walk_at "zso") => `(tactic| first
  | refine so_L (i := 0) rfl rfl ?_ | refine so_L (i := 1) rfl rfl ?_ | refine so_L (i := 2) rfl rfl ?_ | refine so_L (i := 3) rfl rfl ?_)
local macro_rules | `(tactic| walk_at "zuse") => `(tactic| apply et_use)
local macro_rules | `(tactic| walk_at "zev") => `(tactic| apply ev_use)
local macro_rules | `(tactic| walk_at "zand") => `(tactic| apply etp_and)
local macro_rules | `(tactic| walk_at "zor") => `(tactic| apply etp_or)
local macro_rules | `(tactic| walk_at "znot") => `(tactic| apply etp_not)
/-! an event, a switch, in plain words -/
def hapG (n : Int) (word text : Str) (g : GH) : GH := if g.state = "on" ∧ word ∈ g.words then (if 100 ≤ g.held.length then { g with missed := g.missed + 1 } else { g with held := g.held ++ [⟨n, word, text⟩] }) else g
def swG (on : Bool) (time : Int) (g : GH) : GH := { g with state := if on then "on" else "off", tries := 0, due := time, held := if on then g.held else [] }
theorem hap_name (n : Int) (word text : Str) (g : GH) : (hapG n word text g).name = g.name := by
  unfold hapG
  split
  · split <;> rfl
  · rfl
theorem hap_ok {n : Int} {word text : Str} {g : GH} (o : OkG g) : OkG (hapG n word text g) := by
  unfold hapG
  have t0 := o.t0
  have t5 := o.t5
  have h100 := o.h100
  split
  · split
    · exact ⟨t0, t5, h100⟩
    · refine ⟨t0, t5, ?_⟩
      show (g.held ++ [(⟨n, word, text⟩ : Evt)]).length ≤ 100
      rw [List.length_append, List.length_singleton]
      omega
  · exact o
abbrev hapH (n : Int) (word text : Str) (h : HK) : HK := { h with g := hapG n word text h.g }
structure EO where
  tk : TK
  word : Str
  text : Str
def pHappen (K : PySem.W.Frag) (CT CH : Addr) : Prom EO := { ps := fun o => [isR o.tk.t, isS o.word, isS o.text], C := fun o => tc K CT CH o.tk, pre := fun o => Abc o.tk.names ∧ (∀ g ∈ o.tk.gs, OkG g), R := fun o C ρ => ρ = isI (o.tk.count + 1) ∧ C = tc K CT CH { o.tk with count := o.tk.count + 1, hs := o.tk.hs.map (hapH (o.tk.count + 1) o.word o.text) } }
def midH (f : HK → HK) (hs : List HK) (i : Nat) : List HK := (hs.take i).map f ++ hs.drop i
theorem midH_at {f : HK → HK} {hs : List HK} {i : Nat} {h : HK} (e : hs[i]? = some h) : (midH f hs i)[i]? = some h ∧ midH f hs (i + 1) = (midH f hs i).set i (f h) := by
  have hi : i < hs.length := (List.getElem?_eq_some_iff.mp e).1
  have et : hs.take (i + 1) = hs.take i ++ [h] := by rw [List.take_add_one, e]; rfl
  have ed : hs.drop i = h :: hs.drop (i + 1) := by
    rw [List.drop_eq_getElem_cons hi, (List.getElem?_eq_some_iff.mp e).2]
  have hl : ((hs.take i).map f).length = i := by
    rw [List.length_map, List.length_take]
    omega
  refine ⟨?_, ?_⟩
  · unfold midH
    rw [List.getElem?_append_right (by omega), hl, Nat.sub_self, ed]
    rfl
  · unfold midH
    rw [et, ed, List.set_append_right _ _ (by omega), hl, Nat.sub_self, List.map_append]
    show (_ ++ [_]) ++ _ = _
    rw [List.append_assoc]
    rfl
theorem midH_end {f : HK → HK} {hs : List HK} {n : Nat} (h : hs.length = n) : midH f hs n = hs.map f := by
  unfold midH
  rw [← h, List.take_length, List.drop_length, List.append_nil]
theorem midH_name {n : Int} {word text : Str} {hs : List HK} (i : Nat) : (midH (hapH n word text) hs i).map (fun h => h.g.name) = hs.map (fun h => h.g.name) := by
  unfold midH
  rw [List.map_append, List.map_map, show ((fun h : HK => h.g.name) ∘ hapH n word text) = fun h : HK => h.g.name from funext fun h => hap_name _ _ _ _, ← List.map_append, List.take_append_drop]
section
variable {Pg : Program} {w : World} {K : PySem.W.Frag} {mg : Str → Option Value} {base : Heap} {tb : Tb} {CH CT CE W aA aS : Addr}
theorem scHappen : FnScope ["self", "word", "text", "name", "one"] ["self", "word", "text"] (defScope sHappen) := ⟨rfl, rfl, rfl, by decide +kernel, rfl, by decide +kernel, by decide +kernel⟩
theorem ok_happen {f : Addr} {fd : FuncData} (Fn : Fun K "happen" "Teller.happen" sHappen f fd) (T : Txt K mg CH CT CE W) : FnOk Pg w K mg base (L2.CX Pg w) 1 f fd ["self", "word", "text"] ((pHappen K CT CH).sp tb) :=
  def_ok Fn scHappen (fun _ => rfl) fun o cdv A outer s H E hpre hr own => by
    have u1 := hu_of hr
    have u64 := hr.units
    obtain ⟨tk, word, text⟩ := o
    obtain ⟨habc, hok⟩ := hpre
    have habc : Abc tk.names := habc
    have hok : ∀ g ∈ tk.gs, OkG g := hok
    obtain ⟨uM, gM, rM⟩ := T.gM
    -- self.count += 1
    refine tr_fldaug 2 T.clT T.nCount nodT rfl (by decide) in_add ?_
    refine ev_name 0 rfl ?_ -- self
    refine ⟨_, _, 0, tk.count, 1, rfl, rfl, rfl, ev_int ⟨rfl, rfl⟩, ?_⟩
    -- for name in sorted(self.hooks):
    refine tr_for (fun i Γ C => (∃ x y, Γ = [some (isR tk.t), some (isS word), some (isS text), x, y]) ∧ C = tc K CT CH { tk with count := tk.count + 1, hs := midH (hapH (tk.count + 1) word text) tk.hs i })
      (fun Γ C => (∃ x y, Γ = [some (isR tk.t), some (isS word), some (isS text), x, y]) ∧ C = tc K CT CH { tk with count := tk.count + 1, hs := tk.hs.map (hapH (tk.count + 1) word text) }) ?_ ?_ own rfl
    · refine ev_callB (call_sortedD rfl) T.zSorted (by decide +kernel) ?_
      refine ea_cons ?_
      refine ev_fld 0 T.clT T.nHooks nodT rfl ?_
      refine ev_name 0 rfl ?_ -- self
      refine ⟨_, _, _, rfl, List.Mem.head _, rfl, ?_⟩
      refine ea_nil ?_
      refine ok_sortedD (kps := kpsH tk.hs) (ks := tk.names) (dic_C (List.Mem.tail _ (List.Mem.head _))) (kps_fst tk.hs) (Nat.lt_of_le_of_lt habc.len (by decide)) fun ys hy hs => ?_
      have ey := habc.sorted hy hs
      subst ey
      refine ⟨_, rfl, ⟨⟨_, _, rfl⟩, rfl⟩, fun i q Γ C hi hI => ?_, fun Γ C hI => ?_⟩
      · obtain ⟨⟨x, y, rfl⟩, rfl⟩ := hI
        obtain ⟨nm, hnm, rfl⟩ := map_at hi
        obtain ⟨h, hh, en⟩ := map_at hnm
        obtain ⟨m1, m2⟩ := midH_at (f := hapH (tk.count + 1) word text) hh
        have hnd : ((midH (hapH (tk.count + 1) word text) tk.hs i).map fun h => h.g.name).Nodup := by
          rw [midH_name]
          exact habc.nd
        have okh : OkG h.g := hok _ (List.mem_map.mpr ⟨h, List.mem_of_getElem? hh, rfl⟩)
        rw [m2]
        have hk := kps_at m1
        rw [en] at hk
        generalize etk : ({ tk with count := tk.count + 1, hs := midH (hapH (tk.count + 1) word text) tk.hs i } : TK) = tk'
        have e1 : midH (hapH (tk.count + 1) word text) tk.hs i = tk'.hs := by rw [← etk]
        have e2 : tk.t = tk'.t := by rw [← etk]
        have e3 : tk.count + 1 = tk'.count := by rw [← etk]
        have e4 : ({ tk with count := tk.count + 1, hs := (midH (hapH (tk.count + 1) word text) tk.hs i).set i (hapH (tk.count + 1) word text h) } : TK) = { tk' with hs := tk'.hs.set i (hapH tk'.count word text h) } := by rw [← etk]
        rw [e1] at m1 hk hnd
        have g : ∀ j : J, True := fun _ => True.intro
        obtain ⟨i0, i1⟩ := tc_at (K := K) (CT := CT) (CH := CH) (S := []) m1
        rw [List.append_nil] at i0 i1
        have mH := List.mem_of_getElem? i0
        have mL := List.mem_of_getElem? i1
        have mT : cI tk.t CT tFs [isR tk'.d, isI tk'.time, isI tk'.count] ∈ tc K CT CH tk' := by
          rw [e2]
          exact List.Mem.head _
        refine eg_name 3 ?_ scHappen.nd -- name
        -- one = self.hooks[name]
        refine tr_set 4 ?_ scHappen.nd -- one
        refine ev_ix (ix_all u1) ?_
        refine ev_fld 0 T.clT T.nHooks nodT rfl ?_
        refine ev_name 0 rfl ?_ -- self
        refine ⟨_, _, _, rfl, mT, rfl, ?_⟩
        refine ev_name 3 rfl ?_ -- name
        refine okA_ixDi (k := Sum.inr nm) i (dic_C (List.Mem.tail _ (List.Mem.head _))) (kps_nd hnd) hk ?_
        -- if one.state == 'on' and word in one.words:
        rw [e4]
        have done : ∀ h' : HK, h' = hapH tk'.count word text h → h'.a = h.a → h'.g.name = h.g.name → tc K CT CH { tk' with hs := tk'.hs.set i h' } = tc K CT CH { tk' with hs := tk'.hs.set i (hapH tk'.count word text h) } := fun h' e _ _ => by rw [e]
        refine tr_if (fun Γ C => (∃ x y, Γ = [some (isR tk.t), some (isS word), some (isS text), x, y]) ∧ C = tc K CT CH { tk' with hs := tk'.hs.set i (hapH tk'.count word text h) }) ?_ fun Γ C n => tr_nil n
        walk_at "zuse"
        · refine et_w ?_
          walk_at "zand"
          · refine et_cmp op_eqA rfl ?_
            refine ev_fld 5 T.clH T.nState nodH rfl ?_
            refine ev_name 4 rfl ?_ -- one
            refine ⟨_, _, _, rfl, mH, rfl, ?_⟩
            refine ev_str ?_
            walk_at "zeq"
            refine ⟨_, rfl, ?_⟩
            exact ⟨rfl, rfl⟩
          intro h3
          refine etw_and1 ?_
          refine et_cmp (op_inA u1) rfl ?_
          refine ev_name 1 rfl ?_ -- word
          refine ev_fld 1 T.clH T.nWords nodH rfl ?_
          refine ev_name 4 rfl ?_ -- one
          refine ⟨_, _, _, rfl, mH, rfl, ?_⟩
          refine okA_inT (α := Str) (a := word) (xs := h.g.words) (dat_F (a := word)) tup_F (Nat.lt_of_le_of_lt (Nat.le_trans (Nat.le_of_eq (Nat.add_assoc _ _ _)) (Nat.add_le_add_left (by decide : 1 + Datum.depth Str ≤ 64) _)) u64) ?_
          refine ⟨_, rfl, ?_⟩
          exact ⟨rfl, rfl⟩
        refine bB (fun h1 => ?_) (fun h2 => ?_)
        · have hc : h.g.state = "on" ∧ word ∈ h.g.words := by
            rw [dec_str] at h1
            simpa using h1
          -- if len(one.held) >= MOST_HELD:
          refine tr_if (fun Γ C => (∃ x y, Γ = [some (isR tk.t), some (isS word), some (isS text), x, y]) ∧ C = tc K CT CH { tk' with hs := tk'.hs.set i (hapH tk'.count word text h) }) ?_ fun Γ C n => tr_nil n
          walk_at "zuse"
          · refine et_cmp op_ge rfl ?_
            refine ev_callB call_lenA T.zLen (by decide +kernel) ?_
            refine ea_cons ?_
            refine ev_fld 2 T.clH T.nHeld nodH rfl ?_
            refine ev_name 4 rfl ?_ -- one
            refine ⟨_, _, _, rfl, mH, rfl, ?_⟩
            refine ea_nil ?_
            refine okA_lenL (lst_C mL) ?_
            refine ev_glob gM rM ?_
            walk_at "zlt"
            refine ⟨_, rfl, ?_⟩
            exact ⟨rfl, rfl⟩
          refine bD (fun h4 => ?_) (fun h5 => ?_)
          · have h4 : 100 ≤ h.g.held.length := by
              simp only [List.length_map] at h4
              omega
            -- one.missed += 1
            refine tr_fldaug 6 T.clH T.nMissed nodH rfl (by decide) in_add ?_
            refine ev_name 4 rfl ?_ -- one
            refine ⟨_, _, 2 * i + 2, h.g.missed, 1, rfl, i0, rfl, ev_int ⟨rfl, rfl⟩, ?_⟩
            refine tr_nil ⟨⟨_, _, rfl⟩, ?_⟩
            have q := tc_set0 (K := K) (CT := CT) (CH := CH) (S := []) (h' := { h with g := { h.g with missed := h.g.missed + 1 } }) m1 rfl rfl rfl
            rw [List.append_nil, List.append_nil] at q
            have e5 : hapH tk'.count word text h = { h with g := { h.g with missed := h.g.missed + 1 } } := by
              unfold hapH hapG
              rw [if_pos hc, if_pos h4]
            rw [e5]
            exact q
          · have h5 : ¬ 100 ≤ h.g.held.length := fun z => h5 (by
              simp only [List.length_map]
              omega)
            -- one.held.append((self.count, word, text))
            refine tr_expr ?_
            refine ev_bm PySem.F.plainAttrs_list PySem.F.slot_list_append PySem.F.type_list_append mt_append ?_
            refine ev_fld 2 T.clH T.nHeld nodH rfl ?_
            refine ev_name 4 rfl ?_ -- one
            refine ⟨_, _, _, rfl, mH, rfl, ?_⟩
            refine ⟨ty_L (lst_C mL), ?_⟩
            refine ea_cons ?_
            refine ev_tup ?_
            refine ea_cons ?_
            refine ev_fld 2 T.clT T.nCount nodT rfl ?_
            refine ev_name 0 rfl ?_ -- self
            refine ⟨_, _, _, rfl, mT, rfl, ?_⟩
            refine ea_cons ?_
            refine ev_name 1 rfl ?_ -- word
            refine ea_cons ?_
            refine ev_name 2 rfl ?_ -- text
            refine ea_nil ?_
            refine ⟨by show 3 ≤ sizeLine; decide, ?_⟩
            refine ea_nil ?_
            refine ok_append (i := 2 * i + 3) i1 ?_ ?_
            · rw [List.length_map]
              have := okh.h100
              exact Nat.lt_of_le_of_lt this (by decide)
            refine tr_nil ⟨⟨_, _, rfl⟩, ?_⟩
            have q := tc_set1 (K := K) (CT := CT) (CH := CH) (S := []) (h' := { h with g := { h.g with held := h.g.held ++ [⟨tk'.count, word, text⟩] } }) m1 rfl rfl rfl
            rw [List.append_nil, List.append_nil] at q
            have e5 : hapH tk'.count word text h = { h with g := { h.g with held := h.g.held ++ [⟨tk'.count, word, text⟩] } } := by
              unfold hapH hapG
              rw [if_pos hc, if_neg h5]
            rw [e5, ← q]
            show _ = (tc K CT CH tk').set (2 * i + 3) (cL h.l ((h.g.held ++ [(⟨tk'.count, word, text⟩ : Evt)]).map (pr K)))
            rw [List.map_append]
            rfl
        · have hc : ¬ (h.g.state = "on" ∧ word ∈ h.g.words) := by
            rw [dec_str] at h2
            simpa using h2
          refine tr_nil ⟨⟨_, _, rfl⟩, ?_⟩
          have e5 : hapH tk'.count word text h = h := by
            unfold hapH hapG
            rw [if_neg hc]
          rw [e5, set_id m1]
      · obtain ⟨hΓ, rfl⟩ := hI
        have e1 : tk.hs.length = (tk.names.map isS).length := by simp
        rw [midH_end e1]
        exact ⟨hΓ, rfl⟩
    · rintro Γ C ⟨⟨x, y, rfl⟩, rfl⟩
      -- return self.count
      refine tr_ret ?_
      refine ev_fld 2 T.clT T.nCount nodT rfl ?_
      refine ev_name 0 rfl ?_ -- self
      refine ⟨_, _, _, rfl, List.Mem.head _, rfl, ?_⟩
      exact ⟨rfl, rfl⟩
end
end K17

end
section
set_option Elab.async false
set_option linter.all false
set_option maxRecDepth 100000
open PySem PySem.Spec PyProof.Rows L2 Z
namespace K17
open PySem.W (Datum Tup)
open Rep (pr)
/-! short rows -/
local macro_rules | `(tactic| walk_at "zmem") => `(tactic| first
  | exact List.Mem.head _
  | exact List.Mem.tail _ (List.Mem.head _)
  | exact List.Mem.tail _ (List.Mem.tail _ (List.Mem.head _))
  | exact List.Mem.tail _ (List.Mem.tail _ (List.Mem.tail _ (List.Mem.head _)))
  | exact List.Mem.tail _ (List.Mem.tail _ (List.Mem.tail _ (List.Mem.tail _ (List.Mem.head _)))))
local macro_rules | `(tactic| walk_at "zlst") => `(tactic| first | exact lst_F | exact lst_S | exact lst_C (by walk_at "zmem") | assumption)
local macro_rules | `(tactic| walk_at "ztup") => `(tactic| first | exact tup_F | assumption)
local macro_rules | `(tactic| walk_at "zdic") => `(tactic| first | exact dic_F | exact dic_C (by walk_at "zmem") | exact dic_Z (by walk_at "zmem") | assumption)
local macro_rules | `(tactic| walk_at "zside") => `(tactic| first | assumption | decide | (show _ ≤ sizeLine; decide) | omega)
local macro_rules | `(tactic| walk_at "zadd") => `(tactic| first | refine okA_addI ?_ | refine okA_addS (by walk_at "zside") ?_ | refine okA_addL (by walk_at "zlst") (by walk_at "zlst") (by walk_at "zside") ?_)
local macro_rules | `(tactic| walk_at "zsub") => `(tactic| refine ok_rI0 ?_)
local macro_rules | `(tactic| walk_at "zmul") => `(tactic| first | refine okA_mulI (by walk_at "zside") ?_ | refine okA_mulL (by walk_at "zside") (by walk_at "zside") (by walk_at "zside") ?_)
local macro_rules | `(tactic| walk_at "zdiv") => `(tactic| refine ok_rI (by first | assumption | exact ⟨by decide, by decide⟩) ?_)
local macro_rules | `(tactic| walk_at "zmod") => `(tactic| refine ok_rI (by first | assumption | decide) ?_)
local macro_rules | `(tactic| walk_at "zpow") => `(tactic| refine ok_rI (by exact ⟨by decide, by decide, by decide⟩) ?_)
local macro_rules | `(tactic| walk_at "zlt") => `(tactic| refine ok_rI0 ?_)
local macro_rules | `(tactic| walk_at "zeq") => `(tactic| refine okA_eqS rfl ?_)
local macro_rules | `(tactic| walk_at "zne") => `(tactic| refine okA_neS rfl ?_)
local macro_rules | `(tactic| walk_at "zix") => `(tactic| first | refine okA_ixL (by walk_at "zlst") (by rfl) ?_ | refine okA_ixT (by walk_at "ztup") (by rfl) ?_ | refine okA_ixD (by walk_at "zdic") (by assumption) ?_)
local macro_rules | `(tactic| walk_at "zfld") => `(tactic| refine ⟨_, _, _, rfl, by walk_at "zmem", rfl, ?_⟩)
local macro_rules | `(tactic| walk_at "zc_len") => `(tactic| first | refine okA_lenL (by walk_at "zlst") ?_ | refine okA_lenT (by walk_at "ztup") ?_ | refine okA_lenD (by walk_at "zdic") ?_ | refine okA_lenS (by walk_at "zside") ?_)
local macro_rules | `(tactic| walk_at "zc_int") => `(tactic| first | refine ok_intI ?_ | refine ok_intB ?_)
local macro_rules | `(tactic| walk_at "zc_abs") => `(tactic| refine ok_abs ?_)
local macro_rules | `(tactic| walk_at "zc_str") => `(tactic| refine ok_strI (by walk_at "zside") ?_)
local macro_rules | `(tactic| walk_at "zso") => `(tactic| first
  | refine so_L (i := 0) rfl rfl ?_ | refine so_L (i := 1) rfl rfl ?_ | refine so_L (i := 2) rfl rfl ?_ | refine so_L (i := 3) rfl rfl ?_)
local macro_rules | `(tactic| walk_at "zuse") => `(tactic| apply et_use)
local macro_rules | `(tactic| walk_at "zev") => `(tactic| apply ev_use)
local macro_rules | `(tactic| walk_at "zand") => `(tactic| apply etp_and)
local macro_rules | `(tactic| walk_at "zor") => `(tactic| apply etp_or)
local macro_rules | `(tactic| walk_at "znot") => `(tactic| apply etp_not)
abbrev sw1 (on : Bool) (time : Int) (g : GH) : GH := { g with state := if on then "on" else "off", tries := 0, due := time }
structure WO where
  tk : TK
  name : Str
  on : Bool
def pSwitch (K : PySem.W.Frag) (CT CH CE : Addr) : Prom WO := { ps := fun o => [isR o.tk.t, isS o.name, isB o.on], C := fun o => tc K CT CH o.tk, pre := fun o => Abc o.tk.names, R := fun o C ρ => ρ = isN ∧ ∃ (i : Nat) (h : HK) (l : Addr), o.tk.hs[i]? = some h ∧ h.g.name = o.name ∧ C = tc K CT CH { o.tk with hs := o.tk.hs.set i ⟨h.a, l, swG o.on o.tk.time h.g⟩ }, XP := fun o cls C => o.name ∉ o.tk.names ∧ cls = .ref CE ∧ C = tc K CT CH o.tk }
section
variable {Pg : Program} {w : World} {K : PySem.W.Frag} {mg : Str → Option Value} {base : Heap} {tb : Tb} {CH CT CE W aA aS : Addr}
theorem scSwitch : FnScope ["self", "name", "on", "one"] ["self", "name", "on"] (defScope sSwitch) := ⟨rfl, rfl, rfl, by decide +kernel, rfl, by decide +kernel, by decide +kernel⟩
theorem ok_switch {f fH : Addr} {fd fdH : FuncData} (Fn : Fun K "switch" "Teller.switch" sSwitch f fd) (T : Txt K mg CH CT CE W) (GHk : FnOk Pg w K mg base (L2.CX Pg w) 1 fH fdH ["self", "name"] ((pHook K CT CH CE).sp tb)) (mH : Meth K CT "hook" fH) (bH : Binds K fdH ["self", "name"] []) :
    FnOk Pg w K mg base (L2.CX Pg w) 2 f fd ["self", "name", "on"] ((pSwitch K CT CH CE).sp tb) :=
  def_ok Fn scSwitch (fun _ => rfl) fun o cdv A outer s H E hpre hr own => by
    obtain ⟨tk, name, on⟩ := o
    have habc : Abc tk.names := hpre
    refine tr_set 3 ?_ scSwitch.nd -- one
    refine ev_meth GHk hr T.clT mH bH ?_
    refine ev_name 0 rfl ?_ -- self
    refine ⟨ins_C (fns := tFs) (List.Mem.head _) (by decide +kernel), ?_⟩
    refine ea_cons ?_
    refine ev_name 1 rfl ?_ -- name
    refine ea_nil ?_
    refine ⟨⟨tk, name⟩, [], habc.nd, rfl, by rw [List.append_nil]; exact List.Perm.refl _, ?_, fun cls C' ⟨h1, h2, h3⟩ => ⟨h1, h2, by rw [List.append_nil]; exact h3⟩⟩
    rintro C' ρ ⟨rfl, i, h, hi, en, rfl⟩
    rw [List.append_nil]
    have hi : tk.hs[i]? = some h := hi
    obtain ⟨i0, i1⟩ := tc_at (K := K) (CT := CT) (CH := CH) (S := []) hi
    rw [List.append_nil] at i0 i1
    have nx : ∀ g : GH, g.name = h.g.name → g.held = h.g.held → (tc K CT CH tk).set (2 * i + 2) (cHk K CH ⟨h.a, h.l, g⟩) = tc K CT CH { tk with hs := tk.hs.set i ⟨h.a, h.l, g⟩ } := fun g e1 e2 => by
      have q := tc_set0 (K := K) (CT := CT) (CH := CH) (S := []) (h' := ⟨h.a, h.l, g⟩) hi rfl e1 (by show cL h.l (g.held.map _) = _; rw [e2])
      rw [List.append_nil, List.append_nil] at q
      exact q
    -- one.state = "on" if on else "off"
    refine tr_fld 5 T.clH T.nState nodH rfl (by decide) ?_
    refine ev_use (p := isS (if on then "on" else "off")) ?_ ?_
    · refine ev_ifx ?_
      refine et_truth ?_
      refine ev_name 2 rfl ?_ -- on
      refine tru_B ?_
      refine bB (fun h1 => ?_) (fun h1 => ?_)
      · refine ev_str ⟨rfl, ?_⟩
        rw [show on = _ from h1]
        rfl
      · refine ev_str ⟨rfl, ?_⟩
        rw [show on = _ from h1]
        rfl
    refine ev_name 3 rfl ?_ -- one
    refine ⟨_, _, 2 * i + 2, rfl, i0, ?_⟩
    have k0 : ∀ c, ((tc K CT CH tk).set (2 * i + 2) c)[2 * i + 2]? = some c := fun c => List.getElem?_set_self (List.getElem?_eq_some_iff.mp i0).1
    -- one.tries, one.due_at = 0, self.time
    refine tr_asg ?_
    refine ev_tup ?_
    refine ea_cons ?_
    refine ev_int ?_
    refine ea_cons ?_
    refine ev_fld 1 T.clT T.nTime nodT rfl ?_
    refine ev_name 0 rfl ?_ -- self
    refine ⟨_, _, _, rfl, List.Mem.head _, rfl, ?_⟩
    refine ea_nil ?_
    refine ⟨by show 2 ≤ sizeLine; decide, ?_⟩
    refine eg_tup rfl tup_F rfl ?_
    refine egl_cons ?_
    refine eg_fld 3 T.clH T.nTries nodH rfl (by decide) ?_
    refine ev_name 3 rfl ?_ -- one
    refine ⟨_, _, 2 * i + 2, rfl, k0 _, ?_⟩
    rw [List.set_set]
    refine egl_cons ?_
    refine eg_fld 4 T.clH T.nDue nodH rfl (by decide) ?_
    refine ev_name 3 rfl ?_ -- one
    refine ⟨_, _, 2 * i + 2, rfl, k0 _, ?_⟩
    rw [List.set_set]
    refine egl_nil ?_
    show Tr _ _ ((tc K CT CH tk).set (2 * i + 2) (cHk K CH ⟨h.a, h.l, sw1 on tk.time h.g⟩)) _ _
    rw [nx (sw1 on tk.time h.g) rfl rfl]
    have hk : ({ tk with hs := tk.hs.set i ⟨h.a, h.l, sw1 on tk.time h.g⟩ } : TK).hs[i]? = some ⟨h.a, h.l, sw1 on tk.time h.g⟩ := List.getElem?_set_self (List.getElem?_eq_some_iff.mp hi).1
    -- if not on:
    refine tr_if (fun Γ C => ∃ l, C = tc K CT CH { tk with hs := tk.hs.set i ⟨h.a, l, swG on tk.time h.g⟩ }) ?_ ?_
    · refine et_not ?_
      refine et_truth ?_
      refine ev_name 2 rfl ?_ -- on
      refine tru_B ?_
      cases on with
      | true =>
        refine bF ?_
        exact tr_nil ⟨h.l, rfl⟩
      | false =>
        refine bT ?_
        obtain ⟨j0, j1⟩ := tc_at (K := K) (CT := CT) (CH := CH) (S := []) hk
        rw [List.append_nil] at j0 j1
        -- one.held = []
        refine tr_fld 2 T.clH T.nHeld nodH rfl (by decide) ?_
        refine ev_lstC ?_
        refine ea_nil ?_
        refine ⟨by show 0 ≤ sizeLine; decide, fun l => ?_⟩
        refine ev_name 3 rfl ?_ -- one
        refine ⟨_, _, 2 * i + 3, rfl, j0, ?_⟩
        generalize hgg : sw1 false tk.time h.g = gg at hk j0 j1
        have p := perm_new (L := (tc K CT CH { tk with hs := tk.hs.set i ⟨h.a, h.l, gg⟩ }).set (2 * i + 2) (cHk K CH ⟨h.a, l, swG false tk.time h.g⟩)) (k := 2 * i + 3) (new := cHl K ⟨h.a, l, swG false tk.time h.g⟩) (by rw [List.getElem?_set_ne (by omega)]; exact j1)
        have q := tc_set2 (K := K) (CT := CT) (CH := CH) (S := []) (h' := ⟨h.a, l, swG false tk.time h.g⟩) hk rfl (by rw [← hgg]; rfl)
        rw [List.append_nil, List.append_nil] at q
        rw [q] at p
        refine tr_keep (C' := tc K CT CH { tk with hs := tk.hs.set i ⟨h.a, l, swG false tk.time h.g⟩ }) (D' := [cHl K ⟨h.a, h.l, gg⟩]) ?_ (tr_nil ⟨l, rfl⟩)
        have e : ({ tk with hs := (tk.hs.set i ⟨h.a, h.l, gg⟩).set i ⟨h.a, l, swG false tk.time h.g⟩ } : TK) = { tk with hs := tk.hs.set i ⟨h.a, l, swG false tk.time h.g⟩ } := by rw [List.set_set]
        rw [← e]
        subst hgg
        exact p
    · rintro Γ C ⟨l, rfl⟩
      refine tr_nil ?_
      exact ⟨rfl, i, h, l, hi, en, rfl⟩
end
end K17

end
section
set_option Elab.async false
set_option linter.all false
set_option maxRecDepth 100000
open PySem PySem.Spec PyProof.Rows L2 Z
namespace K17
open PySem.W (Datum Tup)
open Rep (pr)
/-! short rows -/
local macro_rules | `(tactic| walk_at "zmem") => `(tactic| first
  | exact List.Mem.head _
  | exact List.Mem.tail _ (List.Mem.head _)
  | exact List.Mem.tail _ (List.Mem.tail _ (List.Mem.head _))
  | exact List.Mem.tail _ (List.Mem.tail _ (List.Mem.tail _ (List.Mem.head _)))
  | exact List.Mem.tail _ (List.Mem.tail _ (List.Mem.tail _ (List.Mem.tail _ (List.Mem.head _)))))
local macro_rules | `(tactic| walk_at "zlst") => `(tactic| first | exact lst_F | exact lst_S | exact lst_C (by walk_at "zmem") | assumption)
local macro_rules | `(tactic| walk_at "ztup") => `(tactic| first | exact tup_F | assumption)
local macro_rules | `(tactic| walk_at "zdic") => `(tactic| first | exact dic_F | exact dic_C (by walk_at "zmem") | exact dic_Z (by walk_at "zmem") | assumption)
local macro_rules | `(tactic| walk_at "zside") => `(tactic| first | assumption | decide | (show _ ≤ sizeLine; decide) | omega)
local macro_rules | `(tactic| walk_at "zadd") => `(tactic| first | refine okA_addI ?_ | refine okA_addS (by walk_at "zside") ?_ | refine okA_addL (by walk_at "zlst") (by walk_at "zlst") (by walk_at "zside") ?_)
local macro_rules | `(tactic| walk_at "zsub") => `(tactic| refine ok_rI0 ?_)
local macro_rules | `(tactic| walk_at "zmul") => `(tactic| first | refine okA_mulI (by walk_at "zside") ?_ | refine okA_mulL (by walk_at "zside") (by walk_at "zside") (by walk_at "zside") ?_)
local macro_rules | `(tactic| walk_at "zdiv") => `(tactic| refine ok_rI (by first | assumption | exact ⟨by decide, by decide⟩) ?_)
local macro_rules | `(tactic| walk_at "zmod") => `(tactic| refine ok_rI (by first | assumption | decide) ?_)
local macro_rules | `(tactic| walk_at "zpow") => `(tactic| refine ok_rI (by exact ⟨by decide, by decide, by decide⟩) ?_)
local macro_rules | `(tactic| walk_at "zlt") => `(tactic| refine ok_rI0 ?_)
local macro_rules | `(tactic| walk_at "zeq") => `(tactic| refine okA_eqS rfl ?_)
local macro_rules | `(tactic| walk_at "zne") => `(tactic| refine okA_neS rfl ?_)
local macro_rules | `(tactic| walk_at "zix") => `(tactic| first | refine okA_ixL (by walk_at "zlst") (by rfl) ?_ | refine okA_ixT (by walk_at "ztup") (by rfl) ?_ | refine okA_ixD (by walk_at "zdic") (by assumption) ?_)
local macro_rules | `(tactic| walk_at "zfld") => `(tactic| refine ⟨_, _, _, rfl, by walk_at "zmem", rfl, ?_⟩)
local macro_rules | `(tactic| walk_at "zc_len") => `(tactic| first | refine okA_lenL (by walk_at "zlst") ?_ | refine okA_lenT (by walk_at "ztup") ?_ | refine okA_lenD (by walk_at "zdic") ?_ | refine okA_lenS (by walk_at "zside") ?_)
local macro_rules | `(tactic| walk_at "zc_int") => `(tactic| first | refine ok_intI ?_ | refine ok_intB ?_)
local macro_rules | `(tactic| walk_at "zc_abs") => `(tactic| refine ok_abs ?_)
local macro_rules | `(tactic| walk_at "zc_str") => `(tactic| refine ok_strI (by walk_at "zside") ?_)
local macro_rules | `(tactic| walk_at "zso") => `(tactic| first
  | refine so_L (i := 0) rfl rfl ?_ | refine so_L (i := 1) rfl rfl ?_ | refine so_L (i := 2) rfl rfl ?_ | refine so_L (i := 3) rfl rfl ?_)
local macro_rules | `(tactic| walk_at "zuse") => `(tactic| apply et_use)
local macro_rules | `(tactic| walk_at "zev") => `(tactic| apply ev_use)
local macro_rules | `(tactic| walk_at "zand") => `(tactic| apply etp_and)
local macro_rules | `(tactic| walk_at "zor") => `(tactic| apply etp_or)
local macro_rules | `(tactic| walk_at "znot") => `(tactic| apply etp_not)
abbrev sRounds : Stmt := top 11
abbrev sTold : Stmt := top 12
abbrev sTicked : Stmt := top 13
abbrev sLaw : Stmt := top 14
section
variable {Pg : Program} {w : World} {K : PySem.W.Frag} {mg : Str → Option Value} {base : Heap} {tb : Tb} {CH CT CE W aA aS : Addr} {mk : Addr → NdefX.NF} {bodyL : Expr}
def pTold {ω : Type} (p : Prom ω) (mk : Addr → NdefX.NF) (body : Expr) (CE : Addr) : Prom ω := { ps := fun _ => [rFu mk body], C := p.C, pre := fun o => p.pre o ∧ p.ps o = [] ∧ ∀ cls C, p.XP o cls C → cls = .ref CE, R := fun o C ρ => p.R o C ρ ∨ ((∃ cls, p.XP o cls C) ∧ ρ = isS "HookError") }
theorem scTold : FnScope ["what"] ["what"] (defScope sTold) := ⟨rfl, rfl, rfl, by decide +kernel, rfl, by decide +kernel, by decide +kernel⟩
theorem ok_told {ω : Type} {p : Prom ω} {k : Nat} {f : Addr} {fd : FuncData} (Fn : Fun K "_law_told" "_law_told" sTold f fd) (T : Txt K mg CH CT CE W) (GC : ∀ c', CloOk Pg w K mg base k (mk c') bodyL (p.sp tb)) (hmc : ∀ c', (mk c').c = c') :
    FnOk Pg w K mg base (L2.CX Pg w) (k + 1) f fd ["what"] ((pTold p mk bodyL CE).sp tb) :=
  def_ok Fn scTold (fun _ => rfl) fun o cdv A outer s H E hpre hr own => by
    obtain ⟨h1, h2, h3⟩ := hpre
    refine tr_tryRet (c := .ref CE) (fun cls C => p.XP o cls C) rfl rfl ⟨rfl, by decide, .inl T.gE⟩ (fun pn xe => ?_) fun cls C' h => ⟨true, ?_, fun _ => .inr ⟨⟨cls, h⟩, rfl⟩, fun z => nomatch z⟩
    · refine ev_clo0 0 GC hr hmc rfl ?_
      refine ⟨o, [], h1, h2.symm, by rw [List.append_nil]; exact List.Perm.refl _, fun C' ρ r => ?_, fun cls C' x => ?_⟩
      · rw [List.append_nil]
        exact .inl r
      · rw [List.append_nil]
        exact x
    · rw [h3 cls C' h]
      exact T.mE
/-! rounds -/
def pRounds (K : PySem.W.Frag) : Prom (List Int) := { ps := fun ns => [rLs K (ns.map isI), isI 1], R := fun ns C ρ => ∃ (d : Addr) (a b c : Int), C = [cL d [isI a, isI b, isI c]] ∧ ρ = rL [isR d] }
theorem scRounds : FnScope ["script", "most", "cells", "cell"] ["script", "most"] (defScope sRounds) := ⟨rfl, rfl, rfl, by decide +kernel, rfl, by decide +kernel, by decide +kernel⟩
theorem cut_take (ps : List Pr) : cutP ps none (some 1) = ps.take 1 := by
  unfold cutP
  have e1 : HT.sIx ps.length ps.length (some 1) = min 1 ps.length := HT.sIx_nat _ _ 1
  have e2 : HT.sIx ps.length 0 none = 0 := rfl
  rw [e1, e2]
  cases ps <;> simp
theorem ok_rounds {f fD : Addr} {fd fdD : FuncData} (Fn : Fun K "_law_rounds" "_law_rounds" sRounds f fd) (GD : FnOk Pg w K mg base (L2.CX Pg w) 1 fD fdD ["cell"] (pDice.sp tb)) (gD : mg "_law_dice" = some (.ref fD)) (kD : PySem.W.keepIn K (.ref fD) = true) (bD : Binds K fdD ["cell"] []) :
    FnOk Pg w K mg base (L2.CX Pg w) 2 f fd ["script", "most"] ((pRounds K).sp tb) :=
  def_ok Fn scRounds (fun _ => rfl) fun ns cdv A outer s H E _ hr own => by
    have u64 := hr.units
    -- cells = script[:most]
    refine tr_set 2 ?_ scRounds.nd -- cells
    refine ev_slice sl_list ?_
    refine ev_name 0 rfl ?_ -- script
    refine eo_none ?_
    refine eo_some ?_
    refine ev_name 1 rfl ?_ -- most
    refine ⟨_, rfl, ?_⟩
    refine ok_slL lst_S ?_
    rw [cut_take, ← List.map_take]
    -- if cells == []:
    refine tr_if (fun Γ C => C = [] ∧ ∃ (z : Int) (x : Option Pr), Γ = [some (rLs K (ns.map isI)), some (isI 1), some (rL [isI z]), x]) ?_ ?_
    · refine et_cmp op_eqA rfl ?_
      refine ev_name 2 rfl ?_ -- cells
      refine ev_lst ?_
      refine ea_nil ?_
      refine ⟨by show 0 ≤ sizeLine; decide, ?_⟩
      refine okA_eqT (α := List Int) (a := ns.take 1) (b := []) (dat_F (a := ns.take 1)) (dat_F (a := ([] : List Int))) (Nat.lt_of_le_of_lt (Nat.add_le_add_left (by decide : Datum.depth (List Int) ≤ 64) _) u64) ?_
      refine ⟨_, rfl, ?_⟩
      refine Z.bD (fun h1 => ?_) (fun h2 => ?_)
      · -- cells = [0]
        refine tr_set 2 ?_ scRounds.nd -- cells
        refine ev_lst ?_
        refine ea_cons ?_
        refine ev_int ?_
        refine ea_nil ?_
        refine ⟨by show 1 ≤ sizeLine; decide, ?_⟩
        exact tr_nil ⟨rfl, 0, _, rfl⟩
      · refine tr_nil ?_
        cases ns with
        | nil => exact absurd rfl h2
        | cons z r => exact ⟨rfl, z, _, rfl⟩
    · rintro Γ C ⟨rfl, z, x, rfl⟩
      -- return [_law_dice(cell) for cell in cells]
      refine tr_ret ?_
      refine ev_lcL 3 ?_ scRounds.nd (blkOk_by (by show blkC ["script", "most", "cells", "cell"] (defScope sRounds) _ _ = true; decide +kernel)) rfl (fun s H Cc cl fp => pg_name scRounds.nd rfl (Or.inl rfl) (Or.inr rfl))
      refine ev_name 2 rfl ?_ -- cells
      refine ⟨_, rfl, fun n C acc => (n = 0 ∧ C = [] ∧ acc = []) ∨ (n = 1 ∧ ∃ (d : Addr) (a b c : Int), C = [cL d [isI a, isI b, isI c]] ∧ acc = [isR d]), .inl ⟨rfl, rfl, rfl⟩, fun n q Ci acc hq hI => ?_, fun Cn acc hI => ?_⟩
      · have hn : n = 0 := by
          have := (List.getElem?_eq_some_iff.mp hq).1
          simp only [List.length_singleton] at this
          omega
        subst hn
        have hq : isI z = q := by simpa using hq
        subst hq
        rcases hI with ⟨_, rfl, rfl⟩ | ⟨h, _⟩
        · intro s H Cc cl fp
          refine eif_no ⟨fun _ => ?_, fun h => nomatch h⟩
          intro s H Cc cl fp
          refine ev_call GD (hr.mono (by decide)) gD kD bD ?_
          refine ea_cons ?_
          refine ev_name 3 rfl ?_ -- cell
          refine ea_nil ?_
          refine ⟨z, [], True.intro, rfl, List.Perm.nil, ?_, fun cls C' z => z.elim⟩
          rintro C' ρ ⟨d, a, b, c, rfl, rfl⟩
          exact ⟨by show 0 < sizeLine; decide, .inr ⟨rfl, d, a, b, c, rfl, rfl⟩⟩
        · cases h
      · rcases hI with ⟨h, _⟩ | ⟨_, d, a, b, c, rfl, rfl⟩
        · cases h
        · exact ⟨d, a, b, c, rfl, rfl⟩
end
end K17

end
section
set_option Elab.async false
set_option linter.all false
set_option maxRecDepth 100000
open PySem PySem.Spec PyProof.Rows L2 Z
namespace K17
open PySem.W (Datum Tup)
open Rep (pr)
/-! short rows -/
local macro_rules | `(tactic| walk_at "zmem") => `(tactic| first
  | exact List.Mem.head _
  | exact List.Mem.tail _ (List.Mem.head _)
  | exact List.Mem.tail _ (List.Mem.tail _ (List.Mem.head _))
  | exact List.Mem.tail _ (List.Mem.tail _ (List.Mem.tail _ (List.Mem.head _)))
  | exact List.Mem.tail _ (List.Mem.tail _ (List.Mem.tail _ (List.Mem.tail _ (List.Mem.head _)))))
local macro_rules | `(tactic| walk_at "zlst") => `(tactic| first | exact lst_F | exact lst_S | exact lst_C (by walk_at "zmem") | assumption)
local macro_rules | `(tactic| walk_at "ztup") => `(tactic| first | exact tup_F | assumption)
local macro_rules | `(tactic| walk_at "zdic") => `(tactic| first | exact dic_F | exact dic_C (by walk_at "zmem") | exact dic_Z (by walk_at "zmem") | assumption)
local macro_rules | `(tactic| walk_at "zside") => `(tactic| first | assumption | decide | (show _ ≤ sizeLine; decide) | omega)
local macro_rules | `(tactic| walk_at "zadd") => `(tactic| first | refine okA_addI ?_ | refine okA_addS (by walk_at "zside") ?_ | refine okA_addL (by walk_at "zlst") (by walk_at "zlst") (by walk_at "zside") ?_)
local macro_rules | `(tactic| walk_at "zsub") => `(tactic| refine ok_rI0 ?_)
local macro_rules | `(tactic| walk_at "zmul") => `(tactic| first | refine okA_mulI (by walk_at "zside") ?_ | refine okA_mulL (by walk_at "zside") (by walk_at "zside") (by walk_at "zside") ?_)
local macro_rules | `(tactic| walk_at "zdiv") => `(tactic| refine ok_rI (by first | assumption | exact ⟨by decide, by decide⟩) ?_)
local macro_rules | `(tactic| walk_at "zmod") => `(tactic| refine ok_rI (by first | assumption | decide) ?_)
local macro_rules | `(tactic| walk_at "zpow") => `(tactic| refine ok_rI (by exact ⟨by decide, by decide, by decide⟩) ?_)
local macro_rules | `(tactic| walk_at "zlt") => `(tactic| refine ok_rI0 ?_)
local macro_rules | `(tactic| walk_at "zeq") => `(tactic| refine okA_eqS rfl ?_)
local macro_rules | `(tactic| walk_at "zne") => `(tactic| refine okA_neS rfl ?_)
local macro_rules | `(tactic| walk_at "zix") => `(tactic| first | refine okA_ixL (by walk_at "zlst") (by rfl) ?_ | refine okA_ixT (by walk_at "ztup") (by rfl) ?_ | refine okA_ixD (by walk_at "zdic") (by assumption) ?_)
local macro_rules | `(tactic| walk_at "zfld") => `(tactic| refine ⟨_, _, _, rfl, by walk_at "zmem", rfl, ?_⟩)
local macro_rules | `(tactic| walk_at "zc_len") => `(tactic| first | refine okA_lenL (by walk_at "zlst") ?_ | refine okA_lenT (by walk_at "ztup") ?_ | refine okA_lenD (by walk_at "zdic") ?_ | refine okA_lenS (by walk_at "zside") ?_)
local macro_rules | `(tactic| walk_at "zc_int") => `(tactic| first | refine ok_intI ?_ | refine ok_intB ?_)
local macro_rules | `(tactic| walk_at "zc_abs") => `(tactic| refine ok_abs ?_)
local macro_rules | `(tactic| walk_at "zc_str") => `(tactic| refine ok_strI (by walk_at "zside") ?_)
local macro_rules | `(tactic| walk_at "zso") => `(tactic| first
  | refine so_L (i := 0) rfl rfl ?_ | refine so_L (i := 1) rfl rfl ?_ | refine so_L (i := 2) rfl rfl ?_ | refine so_L (i := 3) rfl rfl ?_)
local macro_rules | `(tactic| walk_at "zuse") => `(tactic| apply et_use)
local macro_rules | `(tactic| walk_at "zev") => `(tactic| apply ev_use)
local macro_rules | `(tactic| walk_at "zand") => `(tactic| apply etp_and)
local macro_rules | `(tactic| walk_at "zor") => `(tactic| apply etp_or)
local macro_rules | `(tactic| walk_at "znot") => `(tactic| apply etp_not)
/-! the law's own reckoning -/
structure OD where
  d : Addr
  g : GH
structure OW where
  od : Addr
  ds : List OD
abbrev OW.gs (o : OW) : List GH := o.ds.map (·.g)
abbrev OW.names (o : OW) : List Str := o.ds.map fun x => x.g.name
abbrev kO (K : PySem.W.Frag) (g : GH) : List (Key × Pr) := [(Sum.inr "words", rL (g.words.map (pr K))), (Sum.inr "held", rL (g.held.map (pr K))), (Sum.inr "tries", isI g.tries), (Sum.inr "due", isI g.due), (Sum.inr "state", isS g.state), (Sum.inr "missed", isI g.missed)]
abbrev cO (K : PySem.W.Frag) (x : OD) : Cell := cK x.d (kO K x.g)
abbrev kOd (ds : List OD) : List (Key × Pr) := ds.map fun x => (Sum.inr x.g.name, isR x.d)
abbrev oc (K : PySem.W.Frag) (o : OW) : List Cell := cK o.od (kOd o.ds) :: o.ds.map (cO K)
theorem nodO (K : PySem.W.Frag) (g : GH) : ((kO K g).map Prod.fst).Nodup := by
  show ([Sum.inr "words", Sum.inr "held", Sum.inr "tries", Sum.inr "due", Sum.inr "state", Sum.inr "missed"] : List Key).Nodup
  decide +kernel
theorem kOd_fst (ds : List OD) : (kOd ds).map Prod.fst = (ds.map fun x => x.g.name).map Sum.inr := by
  unfold kOd
  rw [List.map_map, List.map_map]
  rfl
theorem kOd_nd {ds : List OD} (h : (ds.map fun x => x.g.name).Nodup) : ((kOd ds).map Prod.fst).Nodup := by
  rw [kOd_fst]
  exact List.Pairwise.map _ (fun a b ne e => ne (Sum.inr.inj e)) h
theorem kOd_at {ds : List OD} {i : Nat} {x : OD} (e : ds[i]? = some x) : (kOd ds)[i]? = some (Sum.inr x.g.name, isR x.d) := by
  unfold kOd
  rw [List.getElem?_map, e]
  rfl
theorem kOd_set {ds : List OD} {i : Nat} {x y : OD} (e : ds[i]? = some x) (ha : y.d = x.d) (hn : y.g.name = x.g.name) : kOd (ds.set i y) = kOd ds := by
  unfold kOd
  rw [List.map_set, ha, hn]
  refine set_id ?_
  rw [List.getElem?_map, e]
  rfl
section
variable {K : PySem.W.Frag} {o : OW} {i : Nat} {x y : OD} {c : Cell} {S : List Cell}
theorem oc_at (e : o.ds[i]? = some x) : (oc K o)[i + 1]? = some (cO K x) := by
  show (o.ds.map (cO K))[i]? = _
  rw [List.getElem?_map, e]
  rfl
theorem oc_set (e : o.ds[i]? = some x) (ha : y.d = x.d) (hn : y.g.name = x.g.name) : (oc K o).set (i + 1) (cO K y) = oc K { o with ds := o.ds.set i y } := by
  show cK o.od (kOd o.ds) :: (o.ds.map (cO K)).set i (cO K y) = cK o.od (kOd (o.ds.set i y)) :: (o.ds.set i y).map (cO K)
  rw [kOd_set e ha hn, List.map_set]
end
structure UO where
  o : OW
  time : Int
  ans : List Bool
abbrev pTicked (K : PySem.W.Frag) : Prom UO := { ps := fun u => [isR u.o.od, isI u.time, rL (u.ans.map (pr K))], C := fun u => oc K u.o, pre := fun u => Abc u.o.names ∧ (∀ g ∈ u.o.gs, OkG g) ∧ u.ans.length = 7, R := fun u C ρ => ∃ sl ds', ds'.map (·.d) = u.o.ds.map (·.d) ∧ ds'.map (·.g) = (tickG u.ans u.time u.o.gs []).1 ∧ C = cL sl ((tickG u.ans u.time u.o.gs []).2.map (pr K)) :: oc K { u.o with ds := ds' } ∧ ρ = isR sl }
/-- the inner loop -/
def tckI (K : PySem.W.Frag) (o : OW) (time : Int) (ans : List Bool) (sl : Addr) (i : Nat) (x : OD) (fin : GH × List Rw) (m : Nat) (Γ : Gm) (C : List Cell) : Prop := (∃ y, Γ = [some (isR o.od), some (isI time), some (rL (ans.map (pr K))), some (isR sl), some (isS x.g.name), some (isR x.d), y]) ∧ ∃ (g : GH) (sent : List Rw) (fuel : Nat), C = cL sl (sent.map (pr K)) :: oc K { o with ds := o.ds.set i ⟨x.d, g⟩ } ∧ m = (if tst time g = true then g.held.length + 1 else 0) ∧ (tst time g = true → g.held.length < fuel) ∧
  tellG ans time fuel g sent = fin ∧ OkG g ∧ (tst time g = true → sent.length + g.held.length < 1000) ∧ g.name = x.g.name
section
variable {Pg : Program} {w : World} {K : PySem.W.Frag} {mg : Str → Option Value} {base : Heap} {tb : Tb} {CH CT CE W aA aS : Addr}
theorem scTicked : FnScope ["own", "time", "answers", "sent", "name", "one", "good"] ["own", "time", "answers"] (defScope sTicked) := ⟨rfl, rfl, rfl, by decide +kernel, rfl, by decide +kernel, by decide +kernel⟩
theorem good_at {K : PySem.W.Frag} {ans : List Bool} (h : ans.length = 7) (n : Nat) : atI (ans.map (pr K)) ((n : Int) % 7) = some (isB (goodAt ans n)) := by
  have e : ((n : Int) % 7) = ((n % 7 : Nat) : Int) := by omega
  rw [e]
  unfold atI ixN goodAt
  rw [if_pos (by omega), if_pos (by rw [List.length_map, h]; omega)]
  show (ans.map (pr K))[((n % 7 : Nat) : Int).toNat]? = _
  rw [Int.toNat_natCast, List.getElem?_map, List.getElem?_eq_getElem (by omega)]
  rfl
theorem ok_ticked {f : Addr} {fd : FuncData} (Fn : Fun K "_law_ticked" "_law_ticked" sTicked f fd) (T : Txt K mg CH CT CE W) : FnOk Pg w K mg base (L2.CX Pg w) 1 f fd ["own", "time", "answers"] ((pTicked K).sp tb) :=
  def_ok Fn scTicked (fun _ => rfl) fun u cdv A outer s H E hpre hr own => by
    have u1 := hu_of hr
    have u64 := hr.units
    obtain ⟨o, time, ans⟩ := u
    obtain ⟨habc, hok, hans⟩ := hpre
    have habc : Abc o.names := habc
    have hok : ∀ g ∈ o.gs, OkG g := hok
    have hans : ans.length = 7 := hans
    have a7 : ((ans.map (pr K)).length : Int) = 7 := by rw [List.length_map, hans]; rfl
    -- sent = []
    refine tr_set 3 ?_ scTicked.nd -- sent
    refine ev_lstC ?_
    refine ea_nil ?_
    refine ⟨by show 0 ≤ sizeLine; decide, fun sl => ?_⟩
    -- for name in sorted(own):
    refine tr_for (fun i Γ C => (∃ x y z, Γ = [some (isR o.od), some (isI time), some (rL (ans.map (pr K))), some (isR sl), x, y, z]) ∧ ∃ ds', ds'.map (·.d) = o.ds.map (·.d) ∧ ds'.map (·.g) = midG ans time o.gs [] i ∧ C = cL sl ((midS ans time o.gs [] i).map (pr K)) :: oc K { o with ds := ds' })
      (fun Γ C => (∃ x y z, Γ = [some (isR o.od), some (isI time), some (rL (ans.map (pr K))), some (isR sl), x, y, z]) ∧ ∃ ds', ds'.map (·.d) = o.ds.map (·.d) ∧ ds'.map (·.g) = (tickG ans time o.gs []).1 ∧ C = cL sl ((tickG ans time o.gs []).2.map (pr K)) :: oc K { o with ds := ds' }) ?_ ?_ own rfl
    · refine ev_callB (call_sortedD rfl) T.zSorted (by decide +kernel) ?_
      refine ea_cons ?_
      refine ev_name 0 rfl ?_ -- own
      refine ea_nil ?_
      refine ok_sortedD (kps := kOd o.ds) (ks := o.names) (dic_C (List.Mem.tail _ (List.Mem.head _))) (kOd_fst o.ds) (Nat.lt_of_le_of_lt habc.len (by decide)) fun ys hy hs => ?_
      have ey := habc.sorted hy hs
      subst ey
      refine ⟨_, rfl, ⟨⟨_, _, _, rfl⟩, o.ds, rfl, rfl, rfl⟩, fun i q Γ C hi hI => ?_, fun Γ C hI => ?_⟩
      · obtain ⟨⟨x1, x2, x3, rfl⟩, ds', ha, hg, rfl⟩ := hI
        obtain ⟨nm, hnm, rfl⟩ := map_at hi
        obtain ⟨h0, hh0, en⟩ := map_at hnm
        have hgi : o.gs[i]? = some h0.g := by
          show (o.ds.map (·.g))[i]? = _
          rw [List.getElem?_map, hh0]
          rfl
        obtain ⟨m1, m2, m3⟩ := mid_at (ans := ans) (time := time) (sent := []) hok hgi
        rw [← hg] at m1
        obtain ⟨x, hx, eg⟩ := map_at m1
        have ln := mid_len (ans := ans) (time := time) (sent := []) hok i
        have l3 : o.gs.length ≤ 3 := by
          have := habc.len
          simp only [List.length_map] at this ⊢
          exact this
        have okh : OkG x.g := by
          rw [eg]
          exact hok _ (List.mem_of_getElem? hgi)
        have hnd : (ds'.map fun h => h.g.name).Nodup := by
          have e1 : (ds'.map fun h => h.g.name) = (ds'.map (·.g)).map (·.name) := by rw [List.map_map]; rfl
          rw [e1, hg, mid_name hok, List.map_map]
          exact habc.nd
        have exn : x.g.name = nm := by rw [eg]; exact en
        rw [← exn]
        refine eg_name 4 ?_ scTicked.nd -- name
        -- one = own[name]
        refine tr_set 5 ?_ scTicked.nd -- one
        refine ev_ix (ix_all u1) ?_
        refine ev_name 0 rfl ?_ -- own
        refine ev_name 4 rfl ?_ -- name
        refine okA_ixDi (k := Sum.inr x.g.name) i (dic_C (List.Mem.tail _ (List.Mem.head _))) (kOd_nd hnd) (kOd_at hx) ?_
        generalize efin : tellG ans time (x.g.held.length + 1) x.g (midS ans time o.gs [] i) = fin
        refine tr_while (tckI K { o with ds := ds' } time ans sl i x fin) (fun Γ C => (∃ y, Γ = [some (isR o.od), some (isI time), some (rL (ans.map (pr K))), some (isR sl), some (isS x.g.name), some (isR x.d), y]) ∧ C = cL sl (fin.2.map (pr K)) :: oc K { o with ds := ds'.set i ⟨x.d, fin.1⟩ }) _ ⟨⟨_, rfl⟩, x.g, midS ans time o.gs [] i, x.g.held.length + 1, ?_, rfl, fun _ => Nat.lt_succ_self _, efin, okh, fun _ => ?_, rfl⟩ ?_ ?_ own
        · show _ = cL sl _ :: oc K { o with ds := ds'.set i x }
          rw [set_id hx]
        · have := okh.h100
          simp only [List.length_nil] at ln
          omega
        · rintro m Γ C ⟨⟨y, rfl⟩, g, sent, fuel, rfl, em, hf, hfin, okg, hs1, hnm⟩
          generalize eo' : ({ o with ds := ds'.set i ⟨x.d, g⟩ } : OW) = o'
          have hk : o'.ds[i]? = some ⟨x.d, g⟩ := by
            rw [← eo']
            exact List.getElem?_set_self (List.getElem?_eq_some_iff.mp hx).1
          have i0 : (cL sl (sent.map (pr K)) :: oc K o')[i + 2]? = some (cO K ⟨x.d, g⟩) := oc_at hk
          have mO := List.mem_of_getElem? i0
          walk_at "zuse"
          · refine et_w ?_
            walk_at "zand"
            · refine et_cmp op_eqA rfl ?_
              refine ev_ix (ix_all u1) ?_
              refine ev_name 5 rfl ?_ -- one
              refine ev_str ?_
              refine okA_ixDi (k := Sum.inr "state") 4 (dic_C mO) (nodO K g) rfl ?_
              refine ev_str ?_
              walk_at "zeq"
              refine ⟨_, rfl, ?_⟩
              exact ⟨rfl, rfl⟩
            intro h1
            walk_at "zand"
            · refine et_cmp op_neA rfl ?_
              refine ev_ix (ix_all u1) ?_
              refine ev_name 5 rfl ?_ -- one
              refine ev_str ?_
              refine okA_ixDi (k := Sum.inr "held") 1 (dic_C mO) (nodO K g) rfl ?_
              refine ev_lst ?_
              refine ea_nil ?_
              refine ⟨by show 0 ≤ sizeLine; decide, ?_⟩
              refine okA_neT (α := List Evt) (a := g.held) (b := []) (dat_F (a := g.held)) (dat_F (a := ([] : List Evt))) (Nat.lt_of_le_of_lt (Nat.add_le_add_left (by decide) _) u64) ?_
              refine ⟨_, rfl, ?_⟩
              exact ⟨rfl, rfl⟩
            intro h2
            refine etw_and1 ?_
            refine et_cmp op_le rfl ?_
            refine ev_ix (ix_all u1) ?_
            refine ev_name 5 rfl ?_ -- one
            refine ev_str ?_
            refine okA_ixDi (k := Sum.inr "due") 3 (dic_C mO) (nodO K g) rfl ?_
            refine ev_name 1 rfl ?_ -- time
            walk_at "zlt"
            refine ⟨_, rfl, ?_⟩
            exact ⟨rfl, rfl⟩
          have et' : (decide (V.str g.state = V.str "on") && (decide (g.held ≠ []) && decide (g.due ≤ time))) = tst time g := by
            unfold tst
            rw [dec_str]
          rw [et']
          refine bB (fun h1 => ?_) (fun h2 => ?_)
          · have hst := h1
            obtain ⟨e, r, eh⟩ := tst_held h1
            have hfu := hf h1
            have hsl := hs1 h1
            have hlr : g.held.length = r.length + 1 := by rw [eh]; rfl
            have ehp : g.held.map (pr K) = pr K e :: r.map (pr K) := by rw [eh]; rfl
            obtain ⟨fu, rfl⟩ : ∃ n, fuel = n + 1 := ⟨fuel - 1, by omega⟩
            have ltB : sent.length < 1000 := by omega
            -- good = answers[len(sent) % len(answers)]
            refine tr_set 6 ?_ scTicked.nd -- good
            refine ev_ix (ix_all u1) ?_
            refine ev_name 2 rfl ?_ -- answers
            refine ev_op op_mod ?_
            refine ev_callB call_lenA T.zLen (by decide +kernel) ?_
            refine ea_cons ?_
            refine ev_name 3 rfl ?_ -- sent
            refine ea_nil ?_
            refine okA_lenL (lst_C (List.Mem.head _)) ?_
            refine ev_callB call_lenA T.zLen (by decide +kernel) ?_
            refine ea_cons ?_
            refine ev_name 2 rfl ?_ -- answers
            refine ea_nil ?_
            refine okA_lenL lst_F ?_
            rw [a7]
            refine ok_rI (by decide) ?_
            rw [List.length_map]
            refine okA_ixL lst_F (good_at hans sent.length) ?_
            -- sent.append((name, one['held'][0], good))
            refine tr_expr ?_
            refine ev_bm PySem.F.plainAttrs_list PySem.F.slot_list_append PySem.F.type_list_append mt_append ?_
            refine ev_name 3 rfl ?_ -- sent
            refine ⟨ty_L (lst_C (List.Mem.head _)), ?_⟩
            refine ea_cons ?_
            refine ev_tup ?_
            refine ea_cons ?_
            refine ev_name 4 rfl ?_ -- name
            refine ea_cons ?_
            refine ev_ix (ix_all u1) ?_
            refine ev_ix (ix_all u1) ?_
            refine ev_name 5 rfl ?_ -- one
            refine ev_str ?_
            refine okA_ixDi (k := Sum.inr "held") 1 (dic_C mO) (nodO K g) rfl ?_
            refine ev_int ?_
            refine okA_ixL (q := pr K e) lst_F (by rw [ehp]; exact at0 _ _) ?_
            refine ea_cons ?_
            refine ev_name 6 rfl ?_ -- good
            refine ea_nil ?_
            refine ⟨by show 3 ≤ sizeLine; decide, ?_⟩
            refine ea_nil ?_
            refine ok_append (i := 0) rfl ?_ ?_
            · rw [List.length_map]
              exact Nat.lt_trans ltB (by decide)
            generalize hgd : goodAt ans sent.length = gd
            have esn : cL sl (sent.map (pr K) ++ [rT K [isS x.g.name, pr K e, isB gd]]) = cL sl ((sent ++ [(⟨g.name, e, gd⟩ : Rw)]).map (pr K)) := by
              rw [List.map_append, hnm]
              rfl
            show Tr _ _ (cL sl (sent.map (pr K) ++ [rT K [isS x.g.name, pr K e, isB gd]]) :: oc K o') _ _
            rw [esn]
            have k0 : (cL sl ((sent ++ [(⟨g.name, e, gd⟩ : Rw)]).map (pr K)) :: oc K o')[i + 2]? = some (cO K ⟨x.d, g⟩) := oc_at hk
            have kO' := List.mem_of_getElem? k0
            have m0 : 0 < m := by
              rw [em, if_pos hst]
              omega
            -- the places written
            have put : ∀ g' : GH, g'.name = g.name → (cL sl ((sent ++ [(⟨g.name, e, gd⟩ : Rw)]).map (pr K)) :: oc K o').set (i + 2) (cO K ⟨x.d, g'⟩) = cL sl ((sent ++ [(⟨g.name, e, gd⟩ : Rw)]).map (pr K)) :: oc K { o with ds := ds'.set i ⟨x.d, g'⟩ } := fun g' e1 => by
              show cL sl _ :: (oc K o').set (i + 1) _ = _
              rw [oc_set (y := ⟨x.d, g'⟩) hk rfl e1, ← eo']
              dsimp only
              rw [List.set_set]
            have at_ : ∀ c, ((cL sl ((sent ++ [(⟨g.name, e, gd⟩ : Rw)]).map (pr K)) :: oc K o').set (i + 2) c)[i + 2]? = some c := fun c => List.getElem?_set_self (List.getElem?_eq_some_iff.mp k0).1
            have six : (kO K g).length < sizeLine := by show 6 < sizeLine; decide
            -- if good:
            refine tr_if (fun Γ' C' => ∃ m', m' < m ∧ tckI K { o with ds := ds' } time ans sl i x fin m' Γ' C') ?_ fun Γ' C' n => tr_nil n
            refine et_truth ?_
            refine ev_name 6 rfl ?_ -- good
            refine tru_B ?_
            cases gd with
            | true =>
              refine bT ?_
              -- one['held'], one['tries'] = one['held'][1:], 0
              refine tr_asg ?_
              refine ev_tup ?_
              refine ea_cons ?_
              refine ev_slice sl_list ?_
              refine ev_ix (ix_all u1) ?_
              refine ev_name 5 rfl ?_ -- one
              refine ev_str ?_
              refine okA_ixDi (k := Sum.inr "held") 1 (dic_C kO') (nodO K g) rfl ?_
              refine eo_some ?_
              refine ev_int ?_
              refine ⟨_, rfl, ?_⟩
              refine eo_none ?_
              refine ok_slL lst_F ?_
              rw [ehp, cut_tail]
              refine ea_cons ?_
              refine ev_int ?_
              refine ea_nil ?_
              refine ⟨by show 2 ≤ sizeLine; decide, ?_⟩
              refine eg_tup rfl tup_F rfl ?_
              refine egl_cons ?_
              refine eg_sub u1 ?_
              refine ev_name 5 rfl ?_ -- one
              refine ev_str ?_
              refine so_Di (k := Sum.inr "held") 1 (i + 2) k0 six (nodO K g) rfl ?_
              refine egl_cons ?_
              refine eg_sub u1 ?_
              refine ev_name 5 rfl ?_ -- one
              refine ev_str ?_
              refine so_Di (k := Sum.inr "tries") 2 (i + 2) (at_ (cO K ⟨x.d, { g with held := r }⟩)) six (nodO K { g with held := r }) rfl ?_
              refine egl_nil ?_
              refine tr_nil ⟨if tst time { g with held := r, tries := 0 } = true then r.length + 1 else 0, ?_, ⟨_, rfl⟩, { g with held := r, tries := 0 }, sent ++ [⟨g.name, e, true⟩], fu, ?_, rfl, fun _ => ?_, ?_, ?_, fun _ => ?_, hnm⟩
              · rw [em, if_pos hst]
                split <;> omega
              · rw [List.set_set]
                exact put { g with held := r, tries := 0 } rfl
              · show r.length < fu
                omega
              · rw [← hfin, tellG_good hst eh hgd]
              · exact ⟨by show (0 : Int) ≤ 0; decide, by show (0 : Int) ≤ 5; decide, by have := okg.h100; show r.length ≤ 100; omega⟩
              · show (sent ++ [(⟨g.name, e, true⟩ : Rw)]).length + r.length < 1000
                rw [List.length_append, List.length_singleton]
                omega
            | false =>
              refine bF ?_
              have bad := tellG_bad (n := fu) hst eh hgd
              rw [hfin] at bad
              have finI : ∀ g' : GH, g' = (if g.tries = 5 then { g with state := "broken" } else { g with due := time + waitOf g.tries, tries := g.tries + 1 }) → tst time g' = false → OkG g' → g'.name = g.name → ∀ y', tckI K { o with ds := ds' } time ans sl i x fin 0 [some (isR o.od), some (isI time), some (rL (ans.map (pr K))), some (isR sl), some (isS x.g.name), some (isR x.d), y'] ((cL sl ((sent ++ [(⟨g.name, e, false⟩ : Rw)]).map (pr K)) :: oc K o').set (i + 2) (cO K ⟨x.d, g'⟩)) := by
                intro g' e1 e2 e3 e4 y'
                refine ⟨⟨y', rfl⟩, g', sent ++ [⟨g.name, e, false⟩], 0, ?_, ?_, ?_, ?_, e3, ?_, e4.trans hnm⟩
                · rw [put g' e4]
                · rw [e2, if_neg (by decide)]
                · rw [e2]
                  exact fun z => nomatch z
                · rw [tellG_no e2, bad, e1]
                · rw [e2]
                  exact fun z => nomatch z
              -- elif one['tries'] == 5:
              refine tr_if (fun Γ' C' => ∃ m', m' < m ∧ tckI K { o with ds := ds' } time ans sl i x fin m' Γ' C') ?_ fun Γ' C' n => tr_nil n
              walk_at "zuse"
              · refine et_cmp op_eqA rfl ?_
                refine ev_ix (ix_all u1) ?_
                refine ev_name 5 rfl ?_ -- one
                refine ev_str ?_
                refine okA_ixDi (k := Sum.inr "tries") 2 (dic_C kO') (nodO K g) rfl ?_
                refine ev_int ?_
                walk_at "zeq"
                refine ⟨_, rfl, ?_⟩
                exact ⟨rfl, rfl⟩
              refine Z.bD (fun h7 => ?_) (fun h8 => ?_)
              · have e5 : g.tries = 5 := V.int.inj h7
                -- one['state'] = 'broken'
                refine tr_sput u1 ?_
                refine ev_str ?_
                refine ev_name 5 rfl ?_ -- one
                refine ev_str ?_
                refine so_Di (k := Sum.inr "state") 4 (i + 2) k0 six (nodO K g) rfl ?_
                exact tr_nil ⟨0, m0, finI { g with state := "broken" } (by rw [if_pos e5]) tst_broken ⟨okg.t0, okg.t5, okg.h100⟩ rfl _⟩
              · have n5 : g.tries ≠ 5 := fun z => h8 (by rw [z])
                obtain ⟨w0, w1⟩ := wait_pos okg.t0 okg.t5 n5
                -- one['due'], one['tries'] = time + [1, 2, 4, 8, 16][one['tries']], one['tries'] + 1
                refine tr_asg ?_
                refine ev_tup ?_
                refine ea_cons ?_
                refine ev_op op_addA ?_
                refine ev_name 1 rfl ?_ -- time
                refine ev_ix (ix_all u1) ?_
                refine ev_lst ?_
                refine ea_cons ?_
                refine ev_int ?_
                refine ea_cons ?_
                refine ev_int ?_
                refine ea_cons ?_
                refine ev_int ?_
                refine ea_cons ?_
                refine ev_int ?_
                refine ea_cons ?_
                refine ev_int ?_
                refine ea_nil ?_
                refine ⟨by show 5 ≤ sizeLine; decide, ?_⟩
                refine ev_ix (ix_all u1) ?_
                refine ev_name 5 rfl ?_ -- one
                refine ev_str ?_
                refine okA_ixDi (k := Sum.inr "tries") 2 (dic_C kO') (nodO K g) rfl ?_
                refine okA_ixL lst_F w1 ?_
                walk_at "zadd"
                refine ea_cons ?_
                refine ev_op op_addA ?_
                refine ev_ix (ix_all u1) ?_
                refine ev_name 5 rfl ?_ -- one
                refine ev_str ?_
                refine okA_ixDi (k := Sum.inr "tries") 2 (dic_C kO') (nodO K g) rfl ?_
                refine ev_int ?_
                walk_at "zadd"
                refine ea_nil ?_
                refine ⟨by show 2 ≤ sizeLine; decide, ?_⟩
                refine eg_tup rfl tup_F rfl ?_
                refine egl_cons ?_
                refine eg_sub u1 ?_
                refine ev_name 5 rfl ?_ -- one
                refine ev_str ?_
                refine so_Di (k := Sum.inr "due") 3 (i + 2) k0 six (nodO K g) rfl ?_
                refine egl_cons ?_
                refine eg_sub u1 ?_
                refine ev_name 5 rfl ?_ -- one
                refine ev_str ?_
                refine so_Di (k := Sum.inr "tries") 2 (i + 2) (at_ (cO K ⟨x.d, { g with due := time + waitOf g.tries }⟩)) six (nodO K { g with due := time + waitOf g.tries }) rfl ?_
                refine egl_nil ?_
                rw [List.set_set]
                exact tr_nil ⟨0, m0, finI { g with due := time + waitOf g.tries, tries := g.tries + 1 } (by rw [if_neg n5]) (tst_late w0) ⟨by have := okg.t0; show 0 ≤ g.tries + 1; omega, by have := okg.t5; show g.tries + 1 ≤ 5; omega, okg.h100⟩ rfl _⟩
          · refine ⟨⟨y, rfl⟩, ?_⟩
            rw [← hfin, tellG_no h2, ← eo']
        · rintro Γ C ⟨⟨y, rfl⟩, rfl⟩
          refine tr_nil ?_
          refine ⟨⟨_, _, _, rfl⟩, ds'.set i ⟨x.d, fin.1⟩, ?_, ?_, ?_⟩
          · rw [List.map_set, set_id, ha]
            rw [List.getElem?_map, hx]
            rfl
          · rw [List.map_set, hg, m2, ← eg, efin]
          · rw [m3, ← eg, efin]
      · obtain ⟨hΓ, ds', ha, hg, rfl⟩ := hI
        have e1 : o.gs.length = (o.names.map isS).length := by simp
        obtain ⟨f1, f2⟩ := mid_end (ans := ans) (time := time) (sent := []) e1
        rw [f1] at hg
        rw [f2]
        exact ⟨hΓ, ds', ha, hg, rfl⟩
    · rintro Γ C ⟨⟨x, y, z, rfl⟩, ds', ha, hg, rfl⟩
      refine tr_ret ?_
      refine ev_name 3 rfl ?_ -- sent
      exact ⟨sl, ds', ha, hg, rfl, rfl⟩
end
end K17

end
section
set_option Elab.async false
set_option linter.all false
set_option maxRecDepth 100000
open PySem PySem.Spec PyProof.Rows L2 Z
namespace K17
open PySem.W (Datum Tup)
open Rep (pr)
/-! short rows -/
local macro_rules | `(tactic| walk_at "zmem") => `(tactic| first
  | exact List.Mem.head _
  | exact List.Mem.tail _ (List.Mem.head _)
  | exact List.Mem.tail _ (List.Mem.tail _ (List.Mem.head _))
  | exact List.Mem.tail _ (List.Mem.tail _ (List.Mem.tail _ (List.Mem.head _)))
  | exact List.Mem.tail _ (List.Mem.tail _ (List.Mem.tail _ (List.Mem.tail _ (List.Mem.head _)))))
local macro_rules | `(tactic| walk_at "zlst") => `(tactic| first | exact lst_F | exact lst_S | exact lst_C (by walk_at "zmem") | assumption)
local macro_rules | `(tactic| walk_at "ztup") => `(tactic| first | exact tup_F | assumption)
local macro_rules | `(tactic| walk_at "zdic") => `(tactic| first | exact dic_F | exact dic_C (by walk_at "zmem") | exact dic_Z (by walk_at "zmem") | assumption)
local macro_rules | `(tactic| walk_at "zside") => `(tactic| first | assumption | decide | (show _ ≤ sizeLine; decide) | omega)
local macro_rules | `(tactic| walk_at "zadd") => `(tactic| first | refine okA_addI ?_ | refine okA_addS (by walk_at "zside") ?_ | refine okA_addL (by walk_at "zlst") (by walk_at "zlst") (by walk_at "zside") ?_)
local macro_rules | `(tactic| walk_at "zsub") => `(tactic| refine ok_rI0 ?_)
local macro_rules | `(tactic| walk_at "zmul") => `(tactic| first | refine okA_mulI (by walk_at "zside") ?_ | refine okA_mulL (by walk_at "zside") (by walk_at "zside") (by walk_at "zside") ?_)
local macro_rules | `(tactic| walk_at "zdiv") => `(tactic| refine ok_rI (by first | assumption | exact ⟨by decide, by decide⟩) ?_)
local macro_rules | `(tactic| walk_at "zmod") => `(tactic| refine ok_rI (by first | assumption | decide) ?_)
local macro_rules | `(tactic| walk_at "zpow") => `(tactic| refine ok_rI (by exact ⟨by decide, by decide, by decide⟩) ?_)
local macro_rules | `(tactic| walk_at "zlt") => `(tactic| refine ok_rI0 ?_)
local macro_rules | `(tactic| walk_at "zeq") => `(tactic| refine okA_eqS rfl ?_)
local macro_rules | `(tactic| walk_at "zne") => `(tactic| refine okA_neS rfl ?_)
local macro_rules | `(tactic| walk_at "zix") => `(tactic| first | refine okA_ixL (by walk_at "zlst") (by rfl) ?_ | refine okA_ixT (by walk_at "ztup") (by rfl) ?_ | refine okA_ixD (by walk_at "zdic") (by assumption) ?_)
local macro_rules | `(tactic| walk_at "zfld") => `(tactic| refine ⟨_, _, _, rfl, by walk_at "zmem", rfl, ?_⟩)
local macro_rules | `(tactic| walk_at "zc_len") => `(tactic| first | refine okA_lenL (by walk_at "zlst") ?_ | refine okA_lenT (by walk_at "ztup") ?_ | refine okA_lenD (by walk_at "zdic") ?_ | refine okA_lenS (by walk_at "zside") ?_)
local macro_rules | `(tactic| walk_at "zc_int") => `(tactic| first | refine ok_intI ?_ | refine ok_intB ?_)
local macro_rules | `(tactic| walk_at "zc_abs") => `(tactic| refine ok_abs ?_)
local macro_rules | `(tactic| walk_at "zc_str") => `(tactic| refine ok_strI (by walk_at "zside") ?_)
local macro_rules | `(tactic| walk_at "zso") => `(tactic| first
  | refine so_L (i := 0) rfl rfl ?_ | refine so_L (i := 1) rfl rfl ?_ | refine so_L (i := 2) rfl rfl ?_ | refine so_L (i := 3) rfl rfl ?_)
local macro_rules | `(tactic| walk_at "zuse") => `(tactic| apply et_use)
local macro_rules | `(tactic| walk_at "zev") => `(tactic| apply ev_use)
local macro_rules | `(tactic| walk_at "zand") => `(tactic| apply etp_and)
local macro_rules | `(tactic| walk_at "zor") => `(tactic| apply etp_or)
local macro_rules | `(tactic| walk_at "znot") => `(tactic| apply etp_not)
/-! facts of the text -/
structure Def (K : PySem.W.Frag) (mg : Str → Option Value) (x : Str) (st : Stmt) (f : Addr) (fd : FuncData) (ps : List Str) : Prop where
  fn : Fun K x x st f fd
  g : mg x = some (.ref f)
  kp : PySem.W.keepIn K (.ref f) = true
  bd : Binds K fd ps []
structure MDef (K : PySem.W.Frag) (C : Addr) (m q : Str) (st : Stmt) (f : Addr) (fd : FuncData) (ps : List Str) : Prop where
  fn : Fun K m q st f fd
  mt : Meth K C m f
  bd : Binds K fd ps []
structure Ads where
  CH : Addr
  CT : Addr
  CE : Addr
  W : Addr
  fDice : Addr
  fRoll : Addr
  fRounds : Addr
  fTold : Addr
  fTicked : Addr
  fHI : Addr
  fTI : Addr
  fAdd : Addr
  fHook : Addr
  fHap : Addr
  fTick : Addr
  fTell : Addr
  fSw : Addr
  dDice : FuncData
  dRoll : FuncData
  dRounds : FuncData
  dTold : FuncData
  dTicked : FuncData
  dHI : FuncData
  dTI : FuncData
  dAdd : FuncData
  dHook : FuncData
  dHap : FuncData
  dTick : FuncData
  dTell : FuncData
  dSw : FuncData
structure LawT (K : PySem.W.Frag) (mg : Str → Option Value) (a : Ads) : Prop where
  T : Txt K mg a.CH a.CT a.CE a.W
  mkH : Mk K a.CH a.fHI
  mkT : Mk K a.CT a.fTI
  dice : Def K mg "_law_dice" sDice a.fDice a.dDice ["cell"]
  roll : Def K mg "_law_roll" sRoll a.fRoll a.dRoll ["dice", "many"]
  rounds : Def K mg "_law_rounds" sRounds a.fRounds a.dRounds ["script", "most"]
  told : Def K mg "_law_told" sTold a.fTold a.dTold ["what"]
  ticked : Def K mg "_law_ticked" sTicked a.fTicked a.dTicked ["own", "time", "answers"]
  hi : MDef K a.CH "__init__" "Hook.__init__" sHInit a.fHI a.dHI ["self", "name", "words"]
  ti : MDef K a.CT "__init__" "Teller.__init__" sTInit a.fTI a.dTI ["self"]
  add : MDef K a.CT "add" "Teller.add" sAdd a.fAdd a.dAdd ["self", "name", "words"]
  hook : MDef K a.CT "hook" "Teller.hook" sHook a.fHook a.dHook ["self", "name"]
  hap : MDef K a.CT "happen" "Teller.happen" sHappen a.fHap a.dHap ["self", "word", "text"]
  tick : MDef K a.CT "tick" "Teller.tick" sTick a.fTick a.dTick ["self", "send"]
  tell : MDef K a.CT "tell" "Teller.tell" sTell a.fTell a.dTell ["self", "one", "send"]
  sw : MDef K a.CT "switch" "Teller.switch" sSwitch a.fSw a.dSw ["self", "name", "on"]
  zAbs : mg "abs" = none
  zInt : mg "int" = none
  zStr : mg "str" = none
  zRange : mg "range" = none
/-- the law's frame -/
structure Bn where
  Pg : Program
  w : World
  K : PySem.W.Frag
  mg : Str → Option Value
  base : Heap
  tb : Tb
  f : Addr
  cdv : Value
  A : Around
  outer : List Env
  s : Shared
  H : Hp
  E : XK
abbrev lN : List Str := ["script", "dice", "teller", "own", "time", "count", "name", "word", "words", "mood", "step", "sort", "many", "k", "one", "due", "on", "hook", "bad", "answers", "fresh", "sent", "f"]
abbrev Bn.j (b : Bn) : J := ⟨cxOf (L2.CX b.Pg b.w) b.Pg b.w b.K b.mg b.base lN "law" (defScope sLaw) b.f b.cdv b.A b.outer b.s b.H b.E, b.tb, fun _ _ => False⟩
theorem scLaw : FnScope lN ["script"] (defScope sLaw) := ⟨rfl, rfl, rfl, by decide +kernel, rfl, by decide +kernel, by decide +kernel⟩
abbrev ndL : lN.Nodup := scLaw.nd
/-- parts of the text -/
def forB : Stmt → List Stmt
  | .For _ _ b _ _ => b
  | _ => []
def ifB : Stmt → List Stmt
  | .If _ b _ _ => b
  | _ => []
def ifE : Stmt → List Stmt
  | .If _ _ e _ => e
  | _ => []
def nth (l : List Stmt) (i : Nat) : Stmt := l.getD i (.Pass ⟨0, 0, 0, 0⟩)
abbrev lRound : List Stmt := forB (nth (defBody sLaw) 0)
abbrev lAdd : List Stmt := forB (nth lRound 1)
abbrev lStep : List Stmt := forB (nth lRound 3)
abbrev lIf : Stmt := nth lStep 1
abbrev lEvent : List Stmt := ifB lIf
abbrev lTick : List Stmt := ifB (nth (ifE lIf) 0)
abbrev lSwitch : List Stmt := ifE (nth (ifE lIf) 0)
abbrev lLook : List Stmt := [nth lStep 2]
def GamL (K : PySem.W.Frag) (ns : List Int) (d t od : Addr) (time count mood : Int) (Γ : Gm) : Prop := ∃ x6 x7 x8 x10 x11 x12 x13 x14 x15 x16 x17 x18 x19 x20 x21 x22 : Option Pr, Γ = [some (rLs K (ns.map isI)), some (isR d), some (isR t), some (isR od), some (isI time), some (isI count), x6, x7, x8, some (isI mood), x10, x11, x12, x13, x14, x15, x16, x17, x18, x19, x20, x21, x22]
abbrev LC (K : PySem.W.Frag) (a : Ads) (d : Addr) (ow : OW) (tk : TK) : List Cell := cDi d :: (oc K ow ++ tc K a.CT a.CH tk)
structure Sync (tk : TK) (ow : OW) : Prop where
  gs : ow.gs = tk.gs
  abc : Abc tk.names
  pos : 0 < tk.hs.length
  ok : ∀ g ∈ tk.gs, OkG g
def St (K : PySem.W.Frag) (a : Ads) (ns : List Int) (d : Addr) (n : Nat) (Γ : Gm) (C : List Cell) : Prop := ∃ (tk : TK) (ow : OW) (mood : Int), GamL K ns d tk.t ow.od tk.time tk.count mood Γ ∧ C = LC K a d ow tk ∧ Sync tk ow ∧ 0 ≤ mood ∧ mood < 3 ∧ 0 ≤ tk.count ∧ tk.count ≤ n
theorem Sync.names {tk : TK} {ow : OW} (s : Sync tk ow) : ow.names = tk.names := by
  have e1 : ow.names = ow.gs.map (·.name) := by
    show _ = (ow.ds.map _).map _
    rw [List.map_map]
    rfl
  have e2 : tk.names = tk.gs.map (·.name) := by
    show _ = (tk.hs.map _).map _
    rw [List.map_map]
    rfl
  rw [e1, e2, s.gs]
theorem Sync.at_ {tk : TK} {ow : OW} (s : Sync tk ow) {i : Nat} {h : HK} (e : tk.hs[i]? = some h) : ∃ x, ow.ds[i]? = some x ∧ x.g = h.g := by
  have q : (ow.ds.map (·.g))[i]? = some h.g := by
    show ow.gs[i]? = _
    rw [s.gs]
    show (tk.hs.map _)[i]? = _
    rw [List.getElem?_map, e]
    rfl
  exact map_at q
section
variable {b : Bn} {a : Ads} {ns : List Int} {P : Po}
theorem roll_ok (L : LawT b.K b.mg a) : FnOk b.Pg b.w b.K b.mg b.base (L2.CX b.Pg b.w) 1 a.fRoll a.dRoll ["dice", "many"] (pRoll.sp b.tb) := ok_roll L.roll.fn L.zInt
theorem t_parts : (nth lStep 0, lIf, nth lStep 2, lStep.length) = (nth lStep 0, nth lStep 1, nth lStep 2, 3) := rfl
end
end K17

end
section
set_option Elab.async false
set_option linter.all false
set_option maxRecDepth 100000
open PySem PySem.Spec PyProof.Rows L2 Z
namespace K17
open PySem.W (Datum Tup)
open Rep (pr)
/-! short rows -/
local macro_rules | `(tactic| walk_at "zmem") => `(tactic| first
  | exact List.Mem.head _
  | exact List.Mem.tail _ (List.Mem.head _)
  | exact List.Mem.tail _ (List.Mem.tail _ (List.Mem.head _))
  | exact List.Mem.tail _ (List.Mem.tail _ (List.Mem.tail _ (List.Mem.head _)))
  | exact List.Mem.tail _ (List.Mem.tail _ (List.Mem.tail _ (List.Mem.tail _ (List.Mem.head _)))))
local macro_rules | `(tactic| walk_at "zlst") => `(tactic| first | exact lst_F | exact lst_S | exact lst_C (by walk_at "zmem") | assumption)
local macro_rules | `(tactic| walk_at "ztup") => `(tactic| first | exact tup_F | assumption)
local macro_rules | `(tactic| walk_at "zdic") => `(tactic| first | exact dic_F | exact dic_C (by walk_at "zmem") | exact dic_Z (by walk_at "zmem") | assumption)
local macro_rules | `(tactic| walk_at "zside") => `(tactic| first | assumption | decide | (show _ ≤ sizeLine; decide) | omega)
local macro_rules | `(tactic| walk_at "zadd") => `(tactic| first | refine okA_addI ?_ | refine okA_addS (by walk_at "zside") ?_ | refine okA_addL (by walk_at "zlst") (by walk_at "zlst") (by walk_at "zside") ?_)
local macro_rules | `(tactic| walk_at "zsub") => `(tactic| refine ok_rI0 ?_)
local macro_rules | `(tactic| walk_at "zmul") => `(tactic| first | refine okA_mulI (by walk_at "zside") ?_ | refine okA_mulL (by walk_at "zside") (by walk_at "zside") (by walk_at "zside") ?_)
local macro_rules | `(tactic| walk_at "zdiv") => `(tactic| refine ok_rI (by first | assumption | exact ⟨by decide, by decide⟩) ?_)
local macro_rules | `(tactic| walk_at "zmod") => `(tactic| refine ok_rI (by first | assumption | decide) ?_)
local macro_rules | `(tactic| walk_at "zpow") => `(tactic| refine ok_rI (by exact ⟨by decide, by decide, by decide⟩) ?_)
local macro_rules | `(tactic| walk_at "zlt") => `(tactic| refine ok_rI0 ?_)
local macro_rules | `(tactic| walk_at "zeq") => `(tactic| refine okA_eqS rfl ?_)
local macro_rules | `(tactic| walk_at "zne") => `(tactic| refine okA_neS rfl ?_)
local macro_rules | `(tactic| walk_at "zix") => `(tactic| first | refine okA_ixL (by walk_at "zlst") (by rfl) ?_ | refine okA_ixT (by walk_at "ztup") (by rfl) ?_ | refine okA_ixD (by walk_at "zdic") (by assumption) ?_)
local macro_rules | `(tactic| walk_at "zfld") => `(tactic| refine ⟨_, _, _, rfl, by walk_at "zmem", rfl, ?_⟩)
local macro_rules | `(tactic| walk_at "zc_len") => `(tactic| first | refine okA_lenL (by walk_at "zlst") ?_ | refine okA_lenT (by walk_at "ztup") ?_ | refine okA_lenD (by walk_at "zdic") ?_ | refine okA_lenS (by walk_at "zside") ?_)
local macro_rules | `(tactic| walk_at "zc_int") => `(tactic| first | refine ok_intI ?_ | refine ok_intB ?_)
local macro_rules | `(tactic| walk_at "zc_abs") => `(tactic| refine ok_abs ?_)
local macro_rules | `(tactic| walk_at "zc_str") => `(tactic| refine ok_strI (by walk_at "zside") ?_)
local macro_rules | `(tactic| walk_at "zso") => `(tactic| first
  | refine so_L (i := 0) rfl rfl ?_ | refine so_L (i := 1) rfl rfl ?_ | refine so_L (i := 2) rfl rfl ?_ | refine so_L (i := 3) rfl rfl ?_)
local macro_rules | `(tactic| walk_at "zuse") => `(tactic| apply et_use)
local macro_rules | `(tactic| walk_at "zev") => `(tactic| apply ev_use)
local macro_rules | `(tactic| walk_at "zand") => `(tactic| apply etp_and)
local macro_rules | `(tactic| walk_at "zor") => `(tactic| apply etp_or)
local macro_rules | `(tactic| walk_at "znot") => `(tactic| apply etp_not)
section
variable {b : Bn} {a : Ads} {ns : List Int} {P : Po}
theorem look_ok (L : LawT b.K b.mg a) (hr : Room 7 b.j.X.A) (own : PassesOwn (model b.j.X.prog b.j.X.w) b.j.X.A b.j.X.env b.j.X.xe) {d : Addr} {n : Nat} {Γ : Gm} {C : List Cell} (h : St b.K a ns d n Γ C) (k : ∀ Γ' C', St b.K a ns d n Γ' C' → P.nx Γ' C') : Tr b.j Γ C lLook P := by
  obtain ⟨tk, ow, mood, ⟨x6, x7, x8, x10, x11, x12, x13, x14, x15, x16, x17, x18, x19, x20, x21, x22, rfl⟩, rfl, sy, m0, m1, c0, c1⟩ := h
  have T := L.T
  have GHk := ok_hook (Pg := b.Pg) (w := b.w) (base := b.base) (tb := b.tb) L.hook.fn T
  have hr1 : Room 1 b.j.X.A := hr.mono (by decide)
  have u1 := hu_of hr
  have u64 := hr.units
  refine tr_forD (kps := kOd ow.ds) 1 (fun od kvs i Γ C => GamL b.K ns d tk.t ow.od tk.time tk.count mood Γ ∧ C = cDi d :: cZ ow.od od kvs (kOd ow.ds) :: (ow.ds.map (cO b.K) ++ tc b.K a.CT a.CH tk)) (fun Γ C => GamL b.K ns d tk.t ow.od tk.time tk.count mood Γ ∧ C = LC b.K a d ow tk) (fun Γ' C' R' h e => by subst e; exact ev_name 3 rfl (h _ rfl)) rfl (fun od kvs _ => ⟨⟨⟨_, _, _, _, _, _, _, _, _, _, _, _, _, _, _, _, rfl⟩, rfl⟩, fun i kp Γ' C' hi hI => ?_, fun Γ' C' hI => ?_⟩) ?_ own rfl
  · obtain ⟨⟨x6, x7, x8, x10, x11, x12, x13, x14, x15, x16, x17, x18, x19, x20, x21, x22, rfl⟩, rfl⟩ := hI
    refine ⟨List.Mem.tail _ (List.Mem.head _), ?_⟩
    obtain ⟨x, hx, rfl⟩ := map_at hi
    obtain ⟨h, hh, eg⟩ : ∃ h, tk.hs[i]? = some h ∧ h.g = x.g := by
      have q : (tk.hs.map (·.g))[i]? = some x.g := by
        show tk.gs[i]? = _
        rw [← sy.gs]
        show (ow.ds.map _)[i]? = _
        rw [List.getElem?_map, hx]
        rfl
      exact map_at q
    have hi2 : tk.hs.length ≤ 3 := by
      have := sy.abc.len
      simp only [List.length_map] at this
      exact this
    refine eg_name 6 ?_ ndL -- name
    -- hook, one = teller.hook(name), own[name]
    refine tr_par 17 14 ?_ rfl ndL (by decide)
    refine ea_cons ?_
    refine ev_meth GHk hr1 T.clT L.hook.mt L.hook.bd ?_
    refine ev_name 2 rfl ?_ -- teller
    have pm : (cDi d :: cZ ow.od od kvs (kOd ow.ds) :: (ow.ds.map (cO b.K) ++ tc b.K a.CT a.CH tk)).Perm (tc b.K a.CT a.CH tk ++ (cDi d :: cZ ow.od od kvs (kOd ow.ds) :: ow.ds.map (cO b.K))) := List.perm_append_comm (l₁ := cDi d :: cZ ow.od od kvs (kOd ow.ds) :: ow.ds.map (cO b.K))
    refine ⟨ins_C (fns := tFs) (ps := [isR tk.d, isI tk.time, isI tk.count]) (pm.mem_iff.mpr (List.Mem.head _)) (by decide +kernel), ?_⟩
    refine ea_cons ?_
    refine ev_name 6 rfl ?_ -- name
    refine ea_nil ?_
    refine ⟨⟨tk, x.g.name⟩, cDi d :: cZ ow.od od kvs (kOd ow.ds) :: ow.ds.map (cO b.K), sy.abc.nd, rfl, pm, ?_, ?_⟩
    · rintro C' ρ ⟨rfl, i2, h2, hh2, en2, rfl⟩
      have hh2 : tk.hs[i2]? = some h2 := hh2
      have en2 : h2.g.name = x.g.name := en2
      have e12 : i2 = i := by
        have nd := sy.abc.nd
        have l1 : i2 < tk.names.length := by
          rw [List.length_map]
          exact (List.getElem?_eq_some_iff.mp hh2).1
        refine (List.getElem?_inj l1 nd).mp ?_
        show (tk.hs.map _)[i2]? = (tk.hs.map _)[i]?
        rw [List.getElem?_map, List.getElem?_map, hh2, hh]
        show some h2.g.name = some h.g.name
        rw [en2, eg]
      subst e12
      rw [hh] at hh2
      cases hh2
      refine ea_perm pm.symm ?_
      refine ea_cons ?_
      refine ev_ix (ix_all u1) ?_
      refine ev_name 3 rfl ?_ -- own
      refine ev_name 6 rfl ?_ -- name
      have ndO : (ow.ds.map fun x => x.g.name).Nodup := by
        show ow.names.Nodup
        rw [sy.names]
        exact sy.abc.nd
      refine okA_ixDi (k := Sum.inr x.g.name) i2 (dic_Z (List.Mem.tail _ (List.Mem.head _))) (kOd_nd ndO) (kOd_at hx) ?_
      refine ea_nil ?_
      refine ⟨_, _, rfl, ?_⟩
      -- the two cells
      generalize hC : (cDi d :: cZ ow.od od kvs (kOd ow.ds) :: (ow.ds.map (cO b.K) ++ tc b.K a.CT a.CH tk)) = C0
      have hmem : ∀ c, c ∈ tc b.K a.CT a.CH tk → c ∈ C0 := fun c hc => by
        rw [← hC]
        exact List.Mem.tail _ (List.Mem.tail _ (List.mem_append_right _ hc))
      obtain ⟨i0, i1⟩ := tc_at (K := b.K) (CT := a.CT) (CH := a.CH) (S := []) hh
      rw [List.append_nil] at i0 i1
      have mH := hmem _ (List.mem_of_getElem? i0)
      have mL := hmem _ (List.mem_of_getElem? i1)
      have mT := hmem _ (List.Mem.head _)
      have mO : cO b.K x ∈ C0 := by
        rw [← hC]
        exact List.Mem.tail _ (List.Mem.tail _ (List.mem_append_left _ (List.mem_map.mpr ⟨x, List.mem_of_getElem? hx, rfl⟩)))
      -- if (..) != (..) or teller.time != time:
      refine tr_ifx ?_
      walk_at "zuse"
      · refine et_w ?_
        walk_at "zor"
        · refine et_cmp op_neA rfl ?_
          refine ev_tup ?_
          refine ea_cons ?_
          refine ev_fld 2 T.clH T.nHeld nodH rfl ?_
          refine ev_name 17 rfl ?_ -- hook
          refine ⟨_, _, _, rfl, mH, rfl, ?_⟩
          refine ea_cons ?_
          refine ev_fld 3 T.clH T.nTries nodH rfl ?_
          refine ev_name 17 rfl ?_ -- hook
          refine ⟨_, _, _, rfl, mH, rfl, ?_⟩
          refine ea_cons ?_
          refine ev_fld 4 T.clH T.nDue nodH rfl ?_
          refine ev_name 17 rfl ?_ -- hook
          refine ⟨_, _, _, rfl, mH, rfl, ?_⟩
          refine ea_cons ?_
          refine ev_fld 5 T.clH T.nState nodH rfl ?_
          refine ev_name 17 rfl ?_ -- hook
          refine ⟨_, _, _, rfl, mH, rfl, ?_⟩
          refine ea_cons ?_
          refine ev_fld 6 T.clH T.nMissed nodH rfl ?_
          refine ev_name 17 rfl ?_ -- hook
          refine ⟨_, _, _, rfl, mH, rfl, ?_⟩
          refine ea_nil ?_
          refine ⟨by show 5 ≤ sizeLine; decide, ?_⟩
          refine ev_tup ?_
          refine ea_cons ?_
          refine ev_ix (ix_all u1) ?_
          refine ev_name 14 rfl ?_ -- one
          refine ev_str ?_
          refine okA_ixDi (k := Sum.inr "held") 1 (dic_C mO) (nodO b.K x.g) rfl ?_
          refine ea_cons ?_
          refine ev_ix (ix_all u1) ?_
          refine ev_name 14 rfl ?_ -- one
          refine ev_str ?_
          refine okA_ixDi (k := Sum.inr "tries") 2 (dic_C mO) (nodO b.K x.g) rfl ?_
          refine ea_cons ?_
          refine ev_ix (ix_all u1) ?_
          refine ev_name 14 rfl ?_ -- one
          refine ev_str ?_
          refine okA_ixDi (k := Sum.inr "due") 3 (dic_C mO) (nodO b.K x.g) rfl ?_
          refine ea_cons ?_
          refine ev_ix (ix_all u1) ?_
          refine ev_name 14 rfl ?_ -- one
          refine ev_str ?_
          refine okA_ixDi (k := Sum.inr "state") 4 (dic_C mO) (nodO b.K x.g) rfl ?_
          refine ea_cons ?_
          refine ev_ix (ix_all u1) ?_
          refine ev_name 14 rfl ?_ -- one
          refine ev_str ?_
          refine okA_ixDi (k := Sum.inr "missed") 5 (dic_C mO) (nodO b.K x.g) rfl ?_
          refine ea_nil ?_
          refine ⟨by show 5 ≤ sizeLine; decide, ?_⟩
          refine okA_neT (α := T5 (List Evt) Int Int Str Int) (a := ⟨h.g.held, h.g.tries, h.g.due, h.g.state, h.g.missed⟩) (b := ⟨x.g.held, x.g.tries, x.g.due, x.g.state, x.g.missed⟩) (dat_T5 (dat_C mL) (dat_F (a := h.g.tries)) (dat_F (a := h.g.due)) (dat_F (a := h.g.state)) (dat_F (a := h.g.missed))) (dat_T5 (dat_F (a := x.g.held)) (dat_F (a := x.g.tries)) (dat_F (a := x.g.due)) (dat_F (a := x.g.state)) (dat_F (a := x.g.missed))) (Nat.lt_of_le_of_lt (Nat.add_le_add_left (by decide : Datum.depth (T5 (List Evt) Int Int Str Int) ≤ 64) _) u64) ?_
          refine ⟨_, rfl, ?_⟩
          exact ⟨rfl, rfl⟩
        intro h1
        refine etw_or1 ?_
        refine et_cmp op_neA rfl ?_
        refine ev_fld 1 T.clT T.nTime nodT rfl ?_
        refine ev_name 2 rfl ?_ -- teller
        refine ⟨_, _, _, rfl, mT, rfl, ?_⟩
        refine ev_name 4 rfl ?_ -- time
        walk_at "zne"
        refine ⟨_, rfl, ?_⟩
        exact ⟨rfl, rfl⟩
      have e0 : (decide ((⟨h.g.held, h.g.tries, h.g.due, h.g.state, h.g.missed⟩ : T5 (List Evt) Int Int Str Int) ≠ ⟨x.g.held, x.g.tries, x.g.due, x.g.state, x.g.missed⟩) || !decide (V.int tk.time = V.int tk.time)) = false := by
        rw [eg]
        simp
      rw [e0]
      refine bF ?_
      refine tr_nil ?_
      exact ⟨⟨_, _, _, _, _, _, _, _, _, _, _, _, _, _, _, _, rfl⟩, rfl⟩
    · rintro cls C' ⟨z, _, _⟩
      refine (z ?_).elim
      show x.g.name ∈ tk.names
      rw [← sy.names]
      exact List.mem_map.mpr ⟨x, List.mem_of_getElem? hx, rfl⟩
  · obtain ⟨g, rfl⟩ := hI
    exact ⟨rfl, g, rfl⟩
  · rintro Γ' C' ⟨g, rfl⟩
    refine tr_nil (k _ _ ⟨tk, ow, mood, g, rfl, sy, m0, m1, c0, c1⟩)
end
end K17

end
section
set_option Elab.async false
set_option linter.all false
set_option maxRecDepth 100000
open PySem PySem.Spec PyProof.Rows L2 Z
namespace K17
open PySem.W (Datum Tup)
open Rep (pr)
/-! short rows -/
local macro_rules | `(tactic| walk_at "zmem") => `(tactic| first
  | exact List.Mem.head _
  | exact List.Mem.tail _ (List.Mem.head _)
  | exact List.Mem.tail _ (List.Mem.tail _ (List.Mem.head _))
  | exact List.Mem.tail _ (List.Mem.tail _ (List.Mem.tail _ (List.Mem.head _)))
  | exact List.Mem.tail _ (List.Mem.tail _ (List.Mem.tail _ (List.Mem.tail _ (List.Mem.head _)))))
local macro_rules | `(tactic| walk_at "zlst") => `(tactic| first | exact lst_F | exact lst_S | exact lst_C (by walk_at "zmem") | assumption)
local macro_rules | `(tactic| walk_at "ztup") => `(tactic| first | exact tup_F | assumption)
local macro_rules | `(tactic| walk_at "zdic") => `(tactic| first | exact dic_F | exact dic_C (by walk_at "zmem") | exact dic_Z (by walk_at "zmem") | assumption)
local macro_rules | `(tactic| walk_at "zside") => `(tactic| first | assumption | decide | (show _ ≤ sizeLine; decide) | omega)
local macro_rules | `(tactic| walk_at "zadd") => `(tactic| first | refine okA_addI ?_ | refine okA_addS (by walk_at "zside") ?_ | refine okA_addL (by walk_at "zlst") (by walk_at "zlst") (by walk_at "zside") ?_)
local macro_rules | `(tactic| walk_at "zsub") => `(tactic| refine ok_rI0 ?_)
local macro_rules | `(tactic| walk_at "zmul") => `(tactic| first | refine okA_mulI (by walk_at "zside") ?_ | refine okA_mulL (by walk_at "zside") (by walk_at "zside") (by walk_at "zside") ?_)
local macro_rules | `(tactic| walk_at "zdiv") => `(tactic| refine ok_rI (by first | assumption | exact ⟨by decide, by decide⟩) ?_)
local macro_rules | `(tactic| walk_at "zmod") => `(tactic| refine ok_rI (by first | assumption | decide) ?_)
local macro_rules | `(tactic| walk_at "zpow") => `(tactic| refine ok_rI (by exact ⟨by decide, by decide, by decide⟩) ?_)
local macro_rules | `(tactic| walk_at "zlt") => `(tactic| refine ok_rI0 ?_)
local macro_rules | `(tactic| walk_at "zeq") => `(tactic| refine okA_eqS rfl ?_)
local macro_rules | `(tactic| walk_at "zne") => `(tactic| refine okA_neS rfl ?_)
local macro_rules | `(tactic| walk_at "zix") => `(tactic| first | refine okA_ixL (by walk_at "zlst") (by rfl) ?_ | refine okA_ixT (by walk_at "ztup") (by rfl) ?_ | refine okA_ixD (by walk_at "zdic") (by assumption) ?_)
local macro_rules | `(tactic| walk_at "zfld") => `(tactic| refine ⟨_, _, _, rfl, by walk_at "zmem", rfl, ?_⟩)
local macro_rules | `(tactic| walk_at "zc_len") => `(tactic| first | refine okA_lenL (by walk_at "zlst") ?_ | refine okA_lenT (by walk_at "ztup") ?_ | refine okA_lenD (by walk_at "zdic") ?_ | refine okA_lenS (by walk_at "zside") ?_)
local macro_rules | `(tactic| walk_at "zc_int") => `(tactic| first | refine ok_intI ?_ | refine ok_intB ?_)
local macro_rules | `(tactic| walk_at "zc_abs") => `(tactic| refine ok_abs ?_)
local macro_rules | `(tactic| walk_at "zc_str") => `(tactic| refine ok_strI (by walk_at "zside") ?_)
local macro_rules | `(tactic| walk_at "zso") => `(tactic| first
  | refine so_L (i := 0) rfl rfl ?_ | refine so_L (i := 1) rfl rfl ?_ | refine so_L (i := 2) rfl rfl ?_ | refine so_L (i := 3) rfl rfl ?_)
local macro_rules | `(tactic| walk_at "zuse") => `(tactic| apply et_use)
local macro_rules | `(tactic| walk_at "zev") => `(tactic| apply ev_use)
local macro_rules | `(tactic| walk_at "zand") => `(tactic| apply etp_and)
local macro_rules | `(tactic| walk_at "zor") => `(tactic| apply etp_or)
local macro_rules | `(tactic| walk_at "znot") => `(tactic| apply etp_not)
theorem atI_nat {α : Type} {l : List α} {r : Int} (h0 : 0 ≤ r) (h1 : r < l.length) : ∃ x, l[r.toNat]? = some x ∧ atI l r = some x := by
  have h2 : r.toNat < l.length := by omega
  refine ⟨l[r.toNat], List.getElem?_eq_getElem h2, ?_⟩
  unfold atI ixN
  rw [if_pos h0, if_pos h1]
  exact List.getElem?_eq_getElem h2
section
variable {K : PySem.W.Frag} {a : Ads} {d : Addr} {ow : OW} {tk : TK} {i : Nat} {x y : OD}
theorem lc_at (e : ow.ds[i]? = some x) : (LC K a d ow tk)[i + 2]? = some (cO K x) := by
  show (ow.ds.map (cO K) ++ tc K a.CT a.CH tk)[i]? = _
  rw [List.getElem?_append_left (by rw [List.length_map]; exact (List.getElem?_eq_some_iff.mp e).1), List.getElem?_map, e]
  rfl
theorem lc_set (e : ow.ds[i]? = some x) (ha : y.d = x.d) (hn : y.g.name = x.g.name) : (LC K a d ow tk).set (i + 2) (cO K y) = LC K a d { ow with ds := ow.ds.set i y } tk := by
  show cDi d :: cK ow.od (kOd ow.ds) :: (ow.ds.map (cO K) ++ tc K a.CT a.CH tk).set i (cO K y) = cDi d :: cK ow.od (kOd (ow.ds.set i y)) :: ((ow.ds.set i y).map (cO K) ++ tc K a.CT a.CH tk)
  rw [List.set_append_left _ _ (by rw [List.length_map]; exact (List.getElem?_eq_some_iff.mp e).1), kOd_set e ha hn, List.map_set]
theorem lc_pm : (LC K a d ow tk).Perm (tc K a.CT a.CH tk ++ (cDi d :: oc K ow)) := List.perm_append_comm (l₁ := cDi d :: oc K ow)
end
section
variable {b : Bn} {a : Ads} {ns : List Int} {P : Po}
theorem switch_ok (L : LawT b.K b.mg a) (hr : Room 7 b.j.X.A) {d : Addr} {n : Nat} {Γ : Gm} {C : List Cell} (h : St b.K a ns d n Γ C) (k : ∀ Γ' C', St b.K a ns d n Γ' C' → P.nx Γ' C') : Tr b.j Γ C lSwitch P := by
  obtain ⟨tk, ow, mood, ⟨x6, x7, x8, x10, x11, x12, x13, x14, x15, x16, x17, x18, x19, x20, x21, x22, rfl⟩, rfl, sy, m0, m1, c0, c1⟩ := h
  have T := L.T
  have GHk := ok_hook (Pg := b.Pg) (w := b.w) (base := b.base) (tb := b.tb) L.hook.fn T
  have GSw := ok_switch (Pg := b.Pg) (w := b.w) (base := b.base) (tb := b.tb) L.sw.fn T GHk L.hook.mt L.hook.bd
  have GRl := roll_ok (b := b) L
  have hr1 : Room 1 b.j.X.A := hr.mono (by decide)
  have hr2 : Room 2 b.j.X.A := hr.mono (by decide)
  have u1 := hu_of hr
  have len3 : tk.hs.length ≤ 3 := by
    have := sy.abc.len
    simp only [List.length_map] at this
    exact this
  have lds : ow.ds.length = tk.hs.length := by
    have := congrArg List.length sy.gs
    simpa using this
  have ndO : (ow.ds.map fun x => x.g.name).Nodup := by
    show ow.names.Nodup
    rw [sy.names]
    exact sy.abc.nd
  have abcO : Abc ow.names := by
    rw [sy.names]
    exact sy.abc
  -- name, on = sorted(own)[_law_roll(dice, len(own))], _law_roll(dice, 2) == 0
  refine tr_par 6 16 ?_ rfl ndL (by decide)
  refine ea_cons ?_
  refine ev_ix (ix_all u1) ?_
  refine ev_callB (call_sortedD rfl) T.zSorted (by decide +kernel) ?_
  refine ea_cons ?_
  refine ev_name 3 rfl ?_ -- own
  refine ea_nil ?_
  refine ok_sortedD (kps := kOd ow.ds) (ks := ow.names) (dic_C (List.Mem.tail _ (List.Mem.head _))) (kOd_fst ow.ds) (Nat.lt_of_le_of_lt abcO.len (by decide)) fun ys hy hs => ?_
  have ey := abcO.sorted hy hs
  subst ey
  refine ev_call GRl hr1 L.roll.g L.roll.kp L.roll.bd ?_
  refine ea_cons ?_
  refine ev_name 1 rfl ?_ -- dice
  refine ea_cons ?_
  refine ev_callB call_lenA T.zLen (by decide +kernel) ?_
  refine ea_cons ?_
  refine ev_name 3 rfl ?_ -- own
  refine ea_nil ?_
  refine okA_lenD (kps := kOd ow.ds) (dic_C (List.Mem.tail _ (List.Mem.head _))) ?_
  refine ea_nil ?_
  have lk : (kOd ow.ds).length = tk.hs.length := by
    rw [← lds]
    simp
  rw [lk]
  have pos := sy.pos
  refine ⟨⟨d, (tk.hs.length : Int)⟩, oc b.K ow ++ tc b.K a.CT a.CH tk, ⟨by show (0 : Int) < (tk.hs.length : Int); omega, by show (tk.hs.length : Int) ≤ 100000000; omega⟩, rfl, List.Perm.refl _, ?_, fun _ _ z => z.elim⟩
  rintro C' ρ ⟨r, r0, r1, rfl, rfl⟩
  have r1 : r < (tk.hs.length : Int) := r1
  obtain ⟨q, q1, q2⟩ := atI_nat (l := ow.names.map fun y => isS y) r0 (by rw [List.length_map, List.length_map, lds]; exact r1)
  obtain ⟨nm, hnm, rfl⟩ := map_at q1
  refine okA_ixL lst_F q2 ?_
  refine ea_cons ?_
  refine ev_cmp op_eqA rfl ?_
  refine ev_call GRl hr1 L.roll.g L.roll.kp L.roll.bd ?_
  refine ea_cons ?_
  refine ev_name 1 rfl ?_ -- dice
  refine ea_cons ?_
  refine ev_int ?_
  refine ea_nil ?_
  refine ⟨⟨d, 2⟩, oc b.K ow ++ tc b.K a.CT a.CH tk, ⟨by show (0 : Int) < 2; decide, by show (2 : Int) ≤ 100000000; decide⟩, rfl, List.Perm.refl _, ?_, fun _ _ z => z.elim⟩
  rintro C' ρ ⟨s, s0, s1, rfl, rfl⟩
  refine ev_int ?_
  walk_at "zeq"
  generalize decide (V.int s = V.int 0) = on
  refine ea_nil ?_
  refine ⟨_, _, rfl, ?_⟩
  -- teller.switch(name, on)
  refine tr_expr ?_
  refine ev_meth GSw hr2 T.clT L.sw.mt L.sw.bd ?_
  refine ev_name 2 rfl ?_ -- teller
  refine ⟨ins_C (fns := tFs) (ps := [isR tk.d, isI tk.time, isI tk.count]) ((lc_pm (K := b.K) (a := a) (d := d) (ow := ow) (tk := tk)).mem_iff.mpr (List.Mem.head _)) (by decide +kernel), ?_⟩
  refine ea_cons ?_
  refine ev_name 6 rfl ?_ -- name
  refine ea_cons ?_
  refine ev_name 16 rfl ?_ -- on
  refine ea_nil ?_
  refine ⟨⟨tk, nm, on⟩, cDi d :: oc b.K ow, sy.abc, rfl, lc_pm, ?_, ?_⟩
  · rintro C' ρ ⟨rfl, i, h, l, hi, en, rfl⟩
    have hi : tk.hs[i]? = some h := hi
    have en : h.g.name = nm := en
    obtain ⟨x, hx, eg⟩ := sy.at_ hi
    have exn : x.g.name = nm := by rw [eg]; exact en
    dsimp only
    generalize etk : ({ tk with hs := tk.hs.set i ⟨h.a, l, swG on tk.time h.g⟩ } : TK) = tk'
    refine tr_perm (C' := LC b.K a d ow tk') lc_pm.symm ?_
    -- one = own[name]
    refine tr_set 14 ?_ ndL
    refine ev_ix (ix_all u1) ?_
    refine ev_name 3 rfl ?_ -- own
    refine ev_name 6 rfl ?_ -- name
    have hk := kOd_at hx
    rw [exn] at hk
    refine okA_ixDi (k := Sum.inr nm) i (dic_C (List.Mem.tail _ (List.Mem.head _))) (kOd_nd ndO) hk ?_
    have six : ∀ g, (kO b.K g).length < sizeLine := fun g => by show 6 < sizeLine; decide
    have k0 : ∀ ow tk, ow.ds[i]? = some x → (LC b.K a d ow tk)[i + 2]? = some (cO b.K x) := fun _ _ e => lc_at e
    have at_ : ∀ c, ((LC b.K a d ow tk').set (i + 2) c)[i + 2]? = some c := fun c => List.getElem?_set_self (List.getElem?_eq_some_iff.mp (lc_at hx)).1
    -- one["state"], one["tries"], one["due"] = "on" if on else "off", 0, time
    refine tr_asg ?_
    refine ev_tup ?_
    refine ea_cons ?_
    refine ev_use (p := isS (if on then "on" else "off")) ?_ ?_
    · refine ev_ifx ?_
      refine et_truth ?_
      refine ev_name 16 rfl ?_ -- on
      refine tru_B ?_
      refine bB (fun h1 => ?_) (fun h1 => ?_)
      · refine ev_str ⟨rfl, ?_⟩
        rw [h1]
        rfl
      · refine ev_str ⟨rfl, ?_⟩
        rw [h1]
        rfl
    refine ea_cons ?_
    refine ev_int ?_
    refine ea_cons ?_
    refine ev_name 4 rfl ?_ -- time
    refine ea_nil ?_
    refine ⟨by show 3 ≤ sizeLine; decide, ?_⟩
    refine eg_tup rfl tup_F rfl ?_
    refine egl_cons ?_
    refine eg_sub u1 ?_
    refine ev_name 14 rfl ?_ -- one
    refine ev_str ?_
    refine so_Di (k := Sum.inr "state") 4 (i + 2) (lc_at hx) (six _) (nodO b.K x.g) rfl ?_
    refine egl_cons ?_
    refine eg_sub u1 ?_
    refine ev_name 14 rfl ?_ -- one
    refine ev_str ?_
    refine so_Di (k := Sum.inr "tries") 2 (i + 2) (at_ (cO b.K ⟨x.d, { x.g with state := if on then "on" else "off" }⟩)) (six { x.g with state := if on then "on" else "off" }) (nodO b.K { x.g with state := if on then "on" else "off" }) rfl ?_
    rw [List.set_set]
    refine egl_cons ?_
    refine eg_sub u1 ?_
    refine ev_name 14 rfl ?_ -- one
    refine ev_str ?_
    refine so_Di (k := Sum.inr "due") 3 (i + 2) (at_ (cO b.K ⟨x.d, { x.g with state := if on then "on" else "off", tries := 0 }⟩)) (six { x.g with state := if on then "on" else "off", tries := 0 }) (nodO b.K { x.g with state := if on then "on" else "off", tries := 0 }) rfl ?_
    rw [List.set_set]
    refine egl_nil ?_
    show Tr _ _ ((LC b.K a d ow tk').set (i + 2) (cO b.K ⟨x.d, sw1 on tk.time x.g⟩)) _ _
    -- one["held"] = one["held"] if on else []
    refine tr_sput u1 ?_
    refine ev_use (p := rL ((swG on tk.time x.g).held.map (pr b.K))) ?_ ?_
    · refine ev_ifx ?_
      refine et_truth ?_
      refine ev_name 16 rfl ?_ -- on
      refine tru_B ?_
      refine bB (fun h1 => ?_) (fun h1 => ?_)
      · refine ev_ix (ix_all u1) ?_
        refine ev_name 14 rfl ?_ -- one
        refine ev_str ?_
        refine okA_ixDi (k := Sum.inr "held") 1 (dic_C (List.mem_of_getElem? (at_ (cO b.K ⟨x.d, sw1 on tk.time x.g⟩)))) (nodO b.K (sw1 on tk.time x.g)) rfl ⟨rfl, ?_⟩
        unfold swG
        rw [h1]
        rfl
      · refine ev_lst ?_
        refine ea_nil ?_
        refine ⟨by show 0 ≤ sizeLine; decide, rfl, ?_⟩
        unfold swG
        rw [h1]
        rfl
    refine ev_name 14 rfl ?_ -- one
    refine ev_str ?_
    refine so_Di (k := Sum.inr "held") 1 (i + 2) (at_ (cO b.K ⟨x.d, sw1 on tk.time x.g⟩)) (six (sw1 on tk.time x.g)) (nodO b.K (sw1 on tk.time x.g)) rfl ?_
    rw [List.set_set]
    show Tr _ _ ((LC b.K a d ow tk').set (i + 2) (cO b.K ⟨x.d, swG on tk.time x.g⟩)) _ _
    rw [lc_set (y := ⟨x.d, swG on tk.time x.g⟩) hx rfl rfl]
    refine tr_nil (k _ _ ⟨tk', { ow with ds := ow.ds.set i ⟨x.d, swG on tk.time x.g⟩ }, mood, ?_, rfl, ⟨?_, ?_, ?_, ?_⟩, m0, m1, ?_, ?_⟩)
    · subst etk
      exact ⟨_, _, _, _, _, _, _, _, _, _, _, _, _, _, _, _, rfl⟩
    · subst etk
      show (ow.ds.set i _).map (·.g) = (tk.hs.set i _).map (·.g)
      rw [List.map_set, List.map_set, show ow.ds.map (·.g) = tk.hs.map (·.g) from sy.gs, eg]
    · subst etk
      show Abc ((tk.hs.set i _).map fun h => h.g.name)
      rw [List.map_set, set_id]
      · exact sy.abc
      · rw [List.getElem?_map, hi]
        rfl
    · subst etk
      show 0 < (tk.hs.set i _).length
      rw [List.length_set]
      exact sy.pos
    · subst etk
      intro g hg
      have hg : g ∈ (tk.hs.set i ⟨h.a, l, swG on tk.time h.g⟩).map (·.g) := hg
      rw [List.map_set] at hg
      rcases List.mem_or_eq_of_mem_set hg with z | z
      · exact sy.ok g z
      · rw [z]
        have okh := sy.ok h.g (List.mem_map.mpr ⟨h, List.mem_of_getElem? hi, rfl⟩)
        refine ⟨by show (0 : Int) ≤ 0; decide, by show (0 : Int) ≤ 5; decide, ?_⟩
        show (if on = true then h.g.held else []).length ≤ 100
        split
        · exact okh.h100
        · exact Nat.zero_le _
    · subst etk
      exact c0
    · subst etk
      exact c1
  · rintro cls C' ⟨z, _, _⟩
    refine (z ?_).elim
    show nm ∈ tk.names
    rw [← sy.names]
    exact List.mem_of_getElem? hnm
end
end K17

end
section
set_option Elab.async false
set_option linter.all false
set_option maxRecDepth 100000
open PySem PySem.Spec PyProof.Rows L2 Z
namespace K17
open PySem.W (Datum Tup)
open Rep (pr)
/-! short rows -/
local macro_rules | `(tactic| walk_at "zmem") => `(tactic| first
  | exact List.Mem.head _
  | exact List.Mem.tail _ (List.Mem.head _)
  | exact List.Mem.tail _ (List.Mem.tail _ (List.Mem.head _))
  | exact List.Mem.tail _ (List.Mem.tail _ (List.Mem.tail _ (List.Mem.head _)))
  | exact List.Mem.tail _ (List.Mem.tail _ (List.Mem.tail _ (List.Mem.tail _ (List.Mem.head _)))))
local macro_rules | `(tactic| walk_at "zlst") => `(tactic| first | exact lst_F | exact lst_S | exact lst_C (by walk_at "zmem") | assumption)
local macro_rules | `(tactic| walk_at "ztup") => `(tactic| first | exact tup_F | assumption)
local macro_rules | `(tactic| walk_at "zdic") => `(tactic| first | exact dic_F | exact dic_C (by walk_at "zmem") | exact dic_Z (by walk_at "zmem") | assumption)
local macro_rules | `(tactic| walk_at "zside") => `(tactic| first | assumption | decide | (show _ ≤ sizeLine; decide) | omega)
local macro_rules | `(tactic| walk_at "zadd") => `(tactic| first | refine okA_addI ?_ | refine okA_addS (by walk_at "zside") ?_ | refine okA_addL (by walk_at "zlst") (by walk_at "zlst") (by walk_at "zside") ?_)
local macro_rules | `(tactic| walk_at "zsub") => `(tactic| refine ok_rI0 ?_)
local macro_rules | `(tactic| walk_at "zmul") => `(tactic| first | refine okA_mulI (by walk_at "zside") ?_ | refine okA_mulL (by walk_at "zside") (by walk_at "zside") (by walk_at "zside") ?_)
local macro_rules | `(tactic| walk_at "zdiv") => `(tactic| refine ok_rI (by first | assumption | exact ⟨by decide, by decide⟩) ?_)
local macro_rules | `(tactic| walk_at "zmod") => `(tactic| refine ok_rI (by first | assumption | decide) ?_)
local macro_rules | `(tactic| walk_at "zpow") => `(tactic| refine ok_rI (by exact ⟨by decide, by decide, by decide⟩) ?_)
local macro_rules | `(tactic| walk_at "zlt") => `(tactic| refine ok_rI0 ?_)
local macro_rules | `(tactic| walk_at "zeq") => `(tactic| refine okA_eqS rfl ?_)
local macro_rules | `(tactic| walk_at "zne") => `(tactic| refine okA_neS rfl ?_)
local macro_rules | `(tactic| walk_at "zix") => `(tactic| first | refine okA_ixL (by walk_at "zlst") (by rfl) ?_ | refine okA_ixT (by walk_at "ztup") (by rfl) ?_ | refine okA_ixD (by walk_at "zdic") (by assumption) ?_)
local macro_rules | `(tactic| walk_at "zfld") => `(tactic| refine ⟨_, _, _, rfl, by walk_at "zmem", rfl, ?_⟩)
local macro_rules | `(tactic| walk_at "zc_len") => `(tactic| first | refine okA_lenL (by walk_at "zlst") ?_ | refine okA_lenT (by walk_at "ztup") ?_ | refine okA_lenD (by walk_at "zdic") ?_ | refine okA_lenS (by walk_at "zside") ?_)
local macro_rules | `(tactic| walk_at "zc_int") => `(tactic| first | refine ok_intI ?_ | refine ok_intB ?_)
local macro_rules | `(tactic| walk_at "zc_abs") => `(tactic| refine ok_abs ?_)
local macro_rules | `(tactic| walk_at "zc_str") => `(tactic| refine ok_strI (by walk_at "zside") ?_)
local macro_rules | `(tactic| walk_at "zso") => `(tactic| first
  | refine so_L (i := 0) rfl rfl ?_ | refine so_L (i := 1) rfl rfl ?_ | refine so_L (i := 2) rfl rfl ?_ | refine so_L (i := 3) rfl rfl ?_)
local macro_rules | `(tactic| walk_at "zuse") => `(tactic| apply et_use)
local macro_rules | `(tactic| walk_at "zev") => `(tactic| apply ev_use)
local macro_rules | `(tactic| walk_at "zand") => `(tactic| apply etp_and)
local macro_rules | `(tactic| walk_at "zor") => `(tactic| apply etp_or)
local macro_rules | `(tactic| walk_at "znot") => `(tactic| apply etp_not)
def GamW (K : PySem.W.Frag) (ns : List Int) (d t od : Addr) (time count mood : Int) (wd : Str) (Γ : Gm) : Prop := ∃ x6 x8 x10 x11 x12 x13 x14 x15 x16 x17 x18 x19 x20 x21 x22 : Option Pr, Γ = [some (rLs K (ns.map isI)), some (isR d), some (isR t), some (isR od), some (isI time), some (isI count), x6, some (isS wd), x8, some (isI mood), x10, x11, x12, x13, x14, x15, x16, x17, x18, x19, x20, x21, x22]
abbrev hapO (n : Int) (word text : Str) (x : OD) : OD := { x with g := hapG n word text x.g }
def midD (f : OD → OD) (hs : List OD) (i : Nat) : List OD := (hs.take i).map f ++ hs.drop i
theorem midD_at {f : OD → OD} {hs : List OD} {i : Nat} {h : OD} (e : hs[i]? = some h) : (midD f hs i)[i]? = some h ∧ midD f hs (i + 1) = (midD f hs i).set i (f h) := by
  have hi : i < hs.length := (List.getElem?_eq_some_iff.mp e).1
  have et : hs.take (i + 1) = hs.take i ++ [h] := by rw [List.take_add_one, e]; rfl
  have ed : hs.drop i = h :: hs.drop (i + 1) := by
    rw [List.drop_eq_getElem_cons hi, (List.getElem?_eq_some_iff.mp e).2]
  have hl : ((hs.take i).map f).length = i := by
    rw [List.length_map, List.length_take]
    omega
  refine ⟨?_, ?_⟩
  · unfold midD
    rw [List.getElem?_append_right (by omega), hl, Nat.sub_self, ed]
    rfl
  · unfold midD
    rw [et, ed, List.set_append_right _ _ (by omega), hl, Nat.sub_self, List.map_append]
    show (_ ++ [_]) ++ _ = _
    rw [List.append_assoc]
    rfl
theorem midD_end {f : OD → OD} {hs : List OD} {n : Nat} (h : hs.length = n) : midD f hs n = hs.map f := by
  unfold midD
  rw [← h, List.take_length, List.drop_length, List.append_nil]
theorem text_len {c : Int} (h0 : 0 ≤ c) (h1 : c < 10 ^ 9) : c.natAbs.log2 < 1920 ∧ (("t" : Str).length + (Str.ofString (toString c)).length ≤ sizeLine) := by
  have h2 : c.natAbs < 2 ^ 30 := by omega
  have h3 : c.natAbs.log2 < 1920 := by
    by_cases h : c.natAbs = 0
    · rw [h]
      decide
    · have : c.natAbs.log2 < 30 := (Nat.log2_lt h).mpr h2
      omega
  have h4 := int_text_len_1921 h3
  refine ⟨h3, ?_⟩
  have e1 : ("t" : Str).length = 1 := by decide +kernel
  rw [e1]
  exact Nat.le_trans (Nat.add_le_add_left h4 1) (by decide)
section
variable {b : Bn} {a : Ads} {ns : List Int} {P : Po}
theorem event_ok (L : LawT b.K b.mg a) (hr : Room 7 b.j.X.A) (own : PassesOwn (model b.j.X.prog b.j.X.w) b.j.X.A b.j.X.env b.j.X.xe) {d : Addr} {n : Nat} (hn : n < 10000) {Γ : Gm} {C : List Cell} (h : St b.K a ns d n Γ C) (k : ∀ Γ' C', St b.K a ns d (n + 60) Γ' C' → P.nx Γ' C') : Tr b.j Γ C lEvent P := by
  obtain ⟨tk, ow, mood, ⟨x6, x7, x8, x10, x11, x12, x13, x14, x15, x16, x17, x18, x19, x20, x21, x22, rfl⟩, rfl, sy, m0, m1, c0, c1⟩ := h
  have T := L.T
  have GRl := roll_ok (b := b) L
  have GHap := ok_happen (Pg := b.Pg) (w := b.w) (base := b.base) (tb := b.tb) L.hap.fn T
  have hr1 : Room 1 b.j.X.A := hr.mono (by decide)
  have u1 := hu_of hr
  have u64 := hr.units
  -- word, many = ["x", "y", "z"][_law_roll(dice, 3)], [1, 1, 1, 60][_law_roll(dice, 4)]
  refine tr_par 7 12 ?_ rfl ndL (by decide)
  refine ea_cons ?_
  refine ev_ix (ix_all u1) ?_
  refine ev_lst ?_
  refine ea_cons ?_
  refine ev_str ?_
  refine ea_cons ?_
  refine ev_str ?_
  refine ea_cons ?_
  refine ev_str ?_
  refine ea_nil ?_
  refine ⟨by show 3 ≤ sizeLine; decide, ?_⟩
  refine ev_call GRl hr1 L.roll.g L.roll.kp L.roll.bd ?_
  refine ea_cons ?_
  refine ev_name 1 rfl ?_ -- dice
  refine ea_cons ?_
  refine ev_int ?_
  refine ea_nil ?_
  refine ⟨⟨d, 3⟩, oc b.K ow ++ tc b.K a.CT a.CH tk, ⟨by show (0 : Int) < 3; decide, by show (3 : Int) ≤ 100000000; decide⟩, rfl, List.Perm.refl _, ?_, fun _ _ z => z.elim⟩
  rintro C' ρ ⟨r, r0, r1, rfl, rfl⟩
  obtain ⟨q, q1, q2⟩ := atI_nat (l := (["x", "y", "z"] : List Str).map fun y => isS y) r0 r1
  obtain ⟨wd, hwd, rfl⟩ := map_at q1
  refine okA_ixL lst_F q2 ?_
  refine ea_cons ?_
  refine ev_ix (ix_all u1) ?_
  refine ev_lst ?_
  refine ea_cons ?_
  refine ev_int ?_
  refine ea_cons ?_
  refine ev_int ?_
  refine ea_cons ?_
  refine ev_int ?_
  refine ea_cons ?_
  refine ev_int ?_
  refine ea_nil ?_
  refine ⟨by show 4 ≤ sizeLine; decide, ?_⟩
  refine ev_call GRl hr1 L.roll.g L.roll.kp L.roll.bd ?_
  refine ea_cons ?_
  refine ev_name 1 rfl ?_ -- dice
  refine ea_cons ?_
  refine ev_int ?_
  refine ea_nil ?_
  refine ⟨⟨d, 4⟩, oc b.K ow ++ tc b.K a.CT a.CH tk, ⟨by show (0 : Int) < 4; decide, by show (4 : Int) ≤ 100000000; decide⟩, rfl, List.Perm.refl _, ?_, fun _ _ z => z.elim⟩
  rintro C' ρ ⟨s, s0, s1, rfl, rfl⟩
  obtain ⟨q, p1, p2⟩ := atI_nat (l := ([1, 1, 1, 60] : List Int).map fun y => isI y) s0 s1
  obtain ⟨mn, hmn, rfl⟩ := map_at p1
  have hmn2 : 0 ≤ mn ∧ mn ≤ 60 := by
    have := List.mem_of_getElem? hmn
    simp only [List.mem_cons, List.not_mem_nil, or_false] at this
    omega
  refine okA_ixL lst_F p2 ?_
  refine ea_nil ?_
  refine ⟨_, _, rfl, ?_⟩
  -- for k in range(many):
  refine tr_range1 (fun i Γ C => ∃ (tk : TK) (ow : OW), GamW b.K ns d tk.t ow.od tk.time tk.count mood wd Γ ∧ C = LC b.K a d ow tk ∧ Sync tk ow ∧ 0 ≤ tk.count ∧ tk.count ≤ (n : Int) + i) (fun Γ C => ∃ (tk : TK) (ow : OW), GamW b.K ns d tk.t ow.od tk.time tk.count mood wd Γ ∧ C = LC b.K a d ow tk ∧ Sync tk ow ∧ 0 ≤ tk.count ∧ tk.count ≤ (n : Int) + 60) L.zRange ?_ ?_ own rfl
  · refine ev_name 12 rfl ?_
    refine ⟨mn, rfl, by omega, by omega, ⟨tk, ow, ⟨_, _, _, _, _, _, _, _, _, _, _, _, _, _, _, rfl⟩, rfl, sy, c0, by omega⟩, fun i Γ C hi hI => ?_, fun Γ C hI => ?_⟩
    · obtain ⟨tk, ow, ⟨x6, x8, x10, x11, x12, x13, x14, x15, x16, x17, x18, x19, x20, x21, x22, rfl⟩, rfl, sy, c0, c1⟩ := hI
      have ndO : (ow.ds.map fun x => x.g.name).Nodup := by
        show ow.names.Nodup
        rw [sy.names]
        exact sy.abc.nd
      have tl := text_len (c := tk.count + 1) (by omega) (by omega)
      refine eg_name 13 ?_ ndL -- k
      -- count = count + 1
      refine tr_set 5 ?_ ndL
      refine ev_op op_addA ?_
      refine ev_name 5 rfl ?_
      refine ev_int ?_
      walk_at "zadd"
      -- if teller.happen(word, "t" + str(count)) != count:
      refine tr_ifx ?_
      refine et_cmp op_neA rfl ?_
      refine ev_meth GHap hr1 T.clT L.hap.mt L.hap.bd ?_
      refine ev_name 2 rfl ?_ -- teller
      refine ⟨ins_C (fns := tFs) (ps := [isR tk.d, isI tk.time, isI tk.count]) ((lc_pm (K := b.K) (a := a) (d := d) (ow := ow) (tk := tk)).mem_iff.mpr (List.Mem.head _)) (by decide +kernel), ?_⟩
      refine ea_cons ?_
      refine ev_name 7 rfl ?_ -- word
      refine ea_cons ?_
      refine ev_op op_addA ?_
      refine ev_str ?_
      refine ev_callTy call_str_int L.zStr (by decide +kernel) ?_
      refine ea_cons ?_
      refine ev_name 5 rfl ?_ -- count
      refine ea_nil ?_
      refine ok_strI tl.1 ?_
      refine okA_addS tl.2 ?_
      generalize etx : (("t" : Str) ++ Str.ofString (toString (tk.count + 1))) = tx
      refine ea_nil ?_
      refine ⟨⟨tk, wd, tx⟩, cDi d :: oc b.K ow, ⟨sy.abc, sy.ok⟩, rfl, lc_pm, ?_, fun _ _ z => z.elim⟩
      rintro C' ρ ⟨rfl, rfl⟩
      refine ev_name 5 rfl ?_ -- count
      walk_at "zne"
      refine ⟨_, rfl, ?_⟩
      rw [show (!decide (V.int (tk.count + 1) = V.int (tk.count + 1))) = false by simp]
      refine bF ?_
      dsimp only
      generalize etk : ({ tk with count := tk.count + 1, hs := tk.hs.map (hapH (tk.count + 1) wd tx) } : TK) = tk'
      refine tr_perm (C' := LC b.K a d ow tk') lc_pm.symm ?_
      have e2 : tk.t = tk'.t := by rw [← etk]
      have e3 : tk.time = tk'.time := by rw [← etk]
      have e4 : tk.count + 1 = tk'.count := by rw [← etk]
      have sy' : Sync tk' { ow with ds := ow.ds.map (hapO (tk.count + 1) wd tx) } := by
        subst etk
        have e1 : (tk.hs.map (hapH (tk.count + 1) wd tx)).map (·.g) = (tk.hs.map (·.g)).map (hapG (tk.count + 1) wd tx) := by
          rw [List.map_map, List.map_map]
          rfl
        refine ⟨?_, ?_, ?_, ?_⟩
        · show (ow.ds.map (hapO (tk.count + 1) wd tx)).map (·.g) = (tk.hs.map (hapH (tk.count + 1) wd tx)).map (·.g)
          rw [e1, ← show ow.ds.map (·.g) = tk.hs.map (·.g) from sy.gs, List.map_map, List.map_map]
          rfl
        · show Abc ((tk.hs.map (hapH (tk.count + 1) wd tx)).map fun h => h.g.name)
          rw [List.map_map, show ((fun h : HK => h.g.name) ∘ hapH (tk.count + 1) wd tx) = fun h : HK => h.g.name from funext fun h => hap_name _ _ _ _]
          exact sy.abc
        · show 0 < (tk.hs.map _).length
          rw [List.length_map]
          exact sy.pos
        · intro g hg
          have hg : g ∈ (tk.hs.map (hapH (tk.count + 1) wd tx)).map (·.g) := hg
          rw [e1] at hg
          obtain ⟨g0, hg0, rfl⟩ := List.mem_map.mp hg
          exact hap_ok (sy.ok g0 hg0)
      -- for name in own:
      refine tr_forD (kps := kOd ow.ds) 1 (fun od kvs i Γ C => GamW b.K ns d tk.t ow.od tk.time (tk.count + 1) mood wd Γ ∧ C = cDi d :: cZ ow.od od kvs (kOd ow.ds) :: ((midD (hapO (tk.count + 1) wd tx) ow.ds i).map (cO b.K) ++ tc b.K a.CT a.CH tk')) (fun Γ C => GamW b.K ns d tk.t ow.od tk.time (tk.count + 1) mood wd Γ ∧ C = LC b.K a d { ow with ds := ow.ds.map (hapO (tk.count + 1) wd tx) } tk') (fun Γ' C' R' h e => by subst e; exact ev_name 3 rfl (h _ rfl)) rfl (fun od kvs _ => ⟨⟨⟨_, _, _, _, _, _, _, _, _, _, _, _, _, _, _, rfl⟩, rfl⟩, fun i kp Γ' C' hi hI => ?_, fun Γ' C' hI => ?_⟩) ?_ own rfl
      · obtain ⟨⟨x6, x8, x10, x11, x12, x13, x14, x15, x16, x17, x18, x19, x20, x21, x22, rfl⟩, rfl⟩ := hI
        refine ⟨List.Mem.tail _ (List.Mem.head _), ?_⟩
        obtain ⟨x, hx, rfl⟩ := map_at hi
        obtain ⟨md1, md2⟩ := midD_at (f := hapO (tk.count + 1) wd tx) hx
        rw [md2]
        generalize midD (hapO (tk.count + 1) wd tx) ow.ds i = ds at md1
        have ids : i < ds.length := (List.getElem?_eq_some_iff.mp md1).1
        have k0 : (cDi d :: cZ ow.od od kvs (kOd ow.ds) :: (ds.map (cO b.K) ++ tc b.K a.CT a.CH tk'))[i + 2]? = some (cO b.K x) := by
          show (ds.map (cO b.K) ++ tc b.K a.CT a.CH tk')[i]? = _
          rw [List.getElem?_append_left (by rw [List.length_map]; exact ids), List.getElem?_map, md1]
          rfl
        have at_ : ∀ c, ((cDi d :: cZ ow.od od kvs (kOd ow.ds) :: (ds.map (cO b.K) ++ tc b.K a.CT a.CH tk')).set (i + 2) c)[i + 2]? = some c := fun c => List.getElem?_set_self (List.getElem?_eq_some_iff.mp k0).1
        have put : ∀ y : OD, (cDi d :: cZ ow.od od kvs (kOd ow.ds) :: (ds.map (cO b.K) ++ tc b.K a.CT a.CH tk')).set (i + 2) (cO b.K y) = cDi d :: cZ ow.od od kvs (kOd ow.ds) :: ((ds.set i y).map (cO b.K) ++ tc b.K a.CT a.CH tk') := fun y => by
          show cDi d :: cZ ow.od od kvs (kOd ow.ds) :: (ds.map (cO b.K) ++ tc b.K a.CT a.CH tk').set i (cO b.K y) = _
          rw [List.set_append_left _ _ (by rw [List.length_map]; exact ids), List.map_set]
        have six : ∀ g, (kO b.K g).length < sizeLine := fun g => by show 6 < sizeLine; decide
        have mO := List.mem_of_getElem? k0
        refine eg_name 6 ?_ ndL -- name
        -- one = own[name]
        refine tr_set 14 ?_ ndL
        refine ev_ix (ix_all u1) ?_
        refine ev_name 3 rfl ?_ -- own
        refine ev_name 6 rfl ?_ -- name
        refine okA_ixDi (k := Sum.inr x.g.name) i (dic_Z (List.Mem.tail _ (List.Mem.head _))) (kOd_nd ndO) (kOd_at hx) ?_
        have okx : x.g.held.length ≤ 100 := by
          have q : x.g ∈ tk.gs := by
            rw [← sy.gs]
            exact List.mem_map.mpr ⟨x, List.mem_of_getElem? hx, rfl⟩
          exact (sy.ok _ q).h100
        -- if one["state"] == "on" and word in one["words"]:
        refine tr_if (fun Γ C => GamW b.K ns d tk.t ow.od tk.time (tk.count + 1) mood wd Γ ∧ C = cDi d :: cZ ow.od od kvs (kOd ow.ds) :: ((ds.set i (hapO (tk.count + 1) wd tx x)).map (cO b.K) ++ tc b.K a.CT a.CH tk')) ?_ fun Γ' C' n => tr_nil n
        walk_at "zuse"
        · refine et_w ?_
          walk_at "zand"
          · refine et_cmp op_eqA rfl ?_
            refine ev_ix (ix_all u1) ?_
            refine ev_name 14 rfl ?_ -- one
            refine ev_str ?_
            refine okA_ixDi (k := Sum.inr "state") 4 (dic_C mO) (nodO b.K x.g) rfl ?_
            refine ev_str ?_
            walk_at "zeq"
            refine ⟨_, rfl, ?_⟩
            exact ⟨rfl, rfl⟩
          intro h3
          refine etw_and1 ?_
          refine et_cmp (op_inA u1) rfl ?_
          refine ev_name 7 rfl ?_ -- word
          refine ev_ix (ix_all u1) ?_
          refine ev_name 14 rfl ?_ -- one
          refine ev_str ?_
          refine okA_ixDi (k := Sum.inr "words") 0 (dic_C mO) (nodO b.K x.g) rfl ?_
          refine okA_inL (α := Str) (a := wd) (xs := x.g.words) (dat_F (a := wd)) lst_F (Nat.lt_of_le_of_lt (Nat.le_trans (Nat.le_of_eq (Nat.add_assoc _ _ _)) (Nat.add_le_add_left (by decide : 1 + Datum.depth Str ≤ 64) _)) u64) ?_
          refine ⟨_, rfl, ?_⟩
          exact ⟨rfl, rfl⟩
        refine bB (fun h1 => ?_) (fun h2 => ?_)
        · have hc : x.g.state = "on" ∧ wd ∈ x.g.words := by
            rw [dec_str] at h1
            simpa using h1
          -- one["missed"] = one["missed"] + int(len(one["held"]) >= 100)
          refine tr_sput u1 ?_
          refine ev_op op_addA ?_
          refine ev_ix (ix_all u1) ?_
          refine ev_name 14 rfl ?_ -- one
          refine ev_str ?_
          refine okA_ixDi (k := Sum.inr "missed") 5 (dic_C mO) (nodO b.K x.g) rfl ?_
          refine ev_callTy call_int1 L.zInt (by decide +kernel) ?_
          refine ea_cons ?_
          refine ev_cmp op_ge rfl ?_
          refine ev_callB call_lenA T.zLen (by decide +kernel) ?_
          refine ea_cons ?_
          refine ev_ix (ix_all u1) ?_
          refine ev_name 14 rfl ?_ -- one
          refine ev_str ?_
          refine okA_ixDi (k := Sum.inr "held") 1 (dic_C mO) (nodO b.K x.g) rfl ?_
          refine ea_nil ?_
          refine okA_lenL lst_F ?_
          refine ev_int ?_
          walk_at "zlt"
          refine ea_nil ?_
          refine ok_intB ?_
          walk_at "zadd"
          refine ev_name 14 rfl ?_ -- one
          refine ev_str ?_
          refine so_Di (k := Sum.inr "missed") 5 (i + 2) k0 (six _) (nodO b.K x.g) rfl ?_
          have el : ((x.g.held.map (pr b.K)).length : Int) = (x.g.held.length : Int) := by rw [List.length_map]
          rw [el]
          generalize hm : (if decide ((x.g.held.length : Int) ≥ 100) = true then (1 : Int) else 0) = mi
          have k1 := at_ (cO b.K ⟨x.d, { x.g with missed := x.g.missed + mi }⟩)
          have mO1 := List.mem_of_getElem? k1
          -- one["held"] = one["held"] + [(count, word, "t" + str(count))] * int(len(one["held"]) < 100)
          refine tr_sput u1 ?_
          refine ev_op op_addA ?_
          refine ev_ix (ix_all u1) ?_
          refine ev_name 14 rfl ?_ -- one
          refine ev_str ?_
          refine okA_ixDi (k := Sum.inr "held") 1 (dic_C mO1) (nodO b.K { x.g with missed := x.g.missed + mi }) rfl ?_
          refine ev_op op_mulA ?_
          refine ev_lst ?_
          refine ea_cons ?_
          refine ev_tup ?_
          refine ea_cons ?_
          refine ev_name 5 rfl ?_ -- count
          refine ea_cons ?_
          refine ev_name 7 rfl ?_ -- word
          refine ea_cons ?_
          refine ev_op op_addA ?_
          refine ev_str ?_
          refine ev_callTy call_str_int L.zStr (by decide +kernel) ?_
          refine ea_cons ?_
          refine ev_name 5 rfl ?_ -- count
          refine ea_nil ?_
          refine ok_strI tl.1 ?_
          refine okA_addS tl.2 ?_
          rw [etx]
          refine ea_nil ?_
          refine ⟨by show 3 ≤ sizeLine; decide, ?_⟩
          refine ea_nil ?_
          refine ⟨by show 1 ≤ sizeLine; decide, ?_⟩
          refine ev_callTy call_int1 L.zInt (by decide +kernel) ?_
          refine ea_cons ?_
          refine ev_cmp op_lt rfl ?_
          refine ev_callB call_lenA T.zLen (by decide +kernel) ?_
          refine ea_cons ?_
          refine ev_ix (ix_all u1) ?_
          refine ev_name 14 rfl ?_ -- one
          refine ev_str ?_
          refine okA_ixDi (k := Sum.inr "held") 1 (dic_C mO1) (nodO b.K { x.g with missed := x.g.missed + mi }) rfl ?_
          refine ea_nil ?_
          refine okA_lenL lst_F ?_
          refine ev_int ?_
          walk_at "zlt"
          refine ea_nil ?_
          refine ok_intB ?_
          rw [el]
          have hfin : ∀ ki : Int, (x.g.held.length < 100 → ki = 1 ∧ mi = 0) → (100 ≤ x.g.held.length → ki = 0 ∧ mi = 1) → cK x.d (kO b.K { hapG (tk.count + 1) wd tx x.g with held := x.g.held ++ (List.replicate ki.toNat [(⟨tk.count + 1, wd, tx⟩ : Evt)]).flatten, missed := x.g.missed + mi }) = cO b.K (hapO (tk.count + 1) wd tx x) := by
            intro ki q1 q2
            have : hapG (tk.count + 1) wd tx x.g = { hapG (tk.count + 1) wd tx x.g with held := x.g.held ++ (List.replicate ki.toNat [(⟨tk.count + 1, wd, tx⟩ : Evt)]).flatten, missed := x.g.missed + mi } := by
              unfold hapG
              rw [if_pos hc]
              by_cases h100 : 100 ≤ x.g.held.length
              · rw [if_pos h100]
                obtain ⟨e5, e6⟩ := q2 h100
                rw [e5, e6]
                simp
              · rw [if_neg h100]
                obtain ⟨e5, e6⟩ := q1 (by omega)
                rw [e5, e6]
                simp
            show _ = cK x.d (kO b.K (hapG (tk.count + 1) wd tx x.g))
            rw [← this]
          generalize hk2 : (if decide ((x.g.held.length : Int) < 100) = true then (1 : Int) else 0) = ki
          have kb : 0 ≤ ki ∧ ki ≤ 1 := by
            rw [← hk2]
            split <;> omega
          refine okA_mulL (by omega) (by omega) (by show 1 * ki.toNat ≤ sizeLine; exact Nat.le_trans (show 1 * ki.toNat ≤ 1 by omega) (by decide)) ?_
          have er : (List.replicate ki.toNat [rT b.K [isI (tk.count + 1), isS wd, isS tx]]).flatten = ((List.replicate ki.toNat [(⟨tk.count + 1, wd, tx⟩ : Evt)]).flatten).map (pr b.K) := by
            rw [List.map_flatten, List.map_replicate]
            rfl
          show OpOk _ _ _ _ (rL (List.replicate ki.toNat [rT b.K [isI (tk.count + 1), isS wd, isS tx]]).flatten) _ _
          rw [er]
          refine okA_addL lst_F lst_F ?_ ?_
          · rw [List.length_map, List.length_map]
            have lr : ((List.replicate ki.toNat [(⟨tk.count + 1, wd, tx⟩ : Evt)]).flatten).length ≤ 1 := by
              have : ki = 0 ∨ ki = 1 := by omega
              rcases this with e | e <;> rw [e] <;> simp
            exact Nat.le_trans (Nat.add_le_add okx lr) (by decide)
          rw [← List.map_append]
          refine ev_name 14 rfl ?_ -- one
          refine ev_str ?_
          refine so_Di (k := Sum.inr "held") 1 (i + 2) k1 (six { x.g with missed := x.g.missed + mi }) (nodO b.K { x.g with missed := x.g.missed + mi }) rfl ?_
          rw [List.set_set]
          refine tr_nil ⟨⟨_, _, _, _, _, _, _, _, _, _, _, _, _, _, _, rfl⟩, ?_⟩
          rw [← put, ← hfin ki (fun q => ?_) (fun q => ?_)]
          · show (cDi d :: cZ ow.od od kvs (kOd ow.ds) :: (ds.map (cO b.K) ++ tc b.K a.CT a.CH tk')).set (i + 2) (cK x.d (kO b.K { x.g with held := x.g.held ++ (List.replicate ki.toNat [(⟨tk.count + 1, wd, tx⟩ : Evt)]).flatten, missed := x.g.missed + mi })) = _
            have eh : ({ x.g with held := x.g.held ++ (List.replicate ki.toNat [(⟨tk.count + 1, wd, tx⟩ : Evt)]).flatten, missed := x.g.missed + mi } : GH) = { hapG (tk.count + 1) wd tx x.g with held := x.g.held ++ (List.replicate ki.toNat [(⟨tk.count + 1, wd, tx⟩ : Evt)]).flatten, missed := x.g.missed + mi } := by
              unfold hapG
              rw [if_pos hc]
              split <;> rfl
            rw [eh]
          · rw [← hk2, ← hm]
            have z1 : (x.g.held.length : Int) < 100 := by omega
            have z2 : ¬ (x.g.held.length : Int) ≥ 100 := by omega
            simp [z1, z2]
          · rw [← hk2, ← hm]
            have z1 : ¬ (x.g.held.length : Int) < 100 := by omega
            have z2 : (x.g.held.length : Int) ≥ 100 := by omega
            simp [z1, z2]
        · have hc : ¬ (x.g.state = "on" ∧ wd ∈ x.g.words) := by
            rw [dec_str] at h2
            simpa using h2
          refine tr_nil ⟨⟨_, _, _, _, _, _, _, _, _, _, _, _, _, _, _, rfl⟩, ?_⟩
          have e5 : hapO (tk.count + 1) wd tx x = x := by
            unfold hapO hapG
            rw [if_neg hc]
          rw [e5, set_id md1]
      · obtain ⟨g, rfl⟩ := hI
        have e1 : ow.ds.length = (kOd ow.ds).length := by simp
        rw [midD_end e1]
        refine ⟨rfl, g, ?_⟩
        have e5 : kOd (ow.ds.map (hapO (tk.count + 1) wd tx)) = kOd ow.ds := by
          unfold kOd
          rw [List.map_map]
          refine List.map_congr_left fun x _ => ?_
          show (Sum.inr (hapG (tk.count + 1) wd tx x.g).name, isR x.d) = _
          rw [hap_name]
        show cDi d :: cK ow.od (kOd ow.ds) :: _ = cDi d :: cK ow.od (kOd (ow.ds.map (hapO (tk.count + 1) wd tx))) :: _
        rw [e5]
        rfl
      · rintro Γ' C' ⟨⟨x6, x8, x10, x11, x12, x13, x14, x15, x16, x17, x18, x19, x20, x21, x22, rfl⟩, rfl⟩
        refine tr_nil ⟨tk', { ow with ds := ow.ds.map (hapO (tk.count + 1) wd tx) }, ?_, rfl, sy', by omega, by omega⟩
        rw [← e2, ← e3, ← e4]
        exact ⟨_, _, _, _, _, _, _, _, _, _, _, _, _, _, _, rfl⟩
    · obtain ⟨tk, ow, g, e, sy, c0, c1⟩ := hI
      exact ⟨tk, ow, g, e, sy, c0, by omega⟩
  · rintro Γ' C' ⟨tk, ow, ⟨x6, x8, x10, x11, x12, x13, x14, x15, x16, x17, x18, x19, x20, x21, x22, rfl⟩, rfl, sy, c0, c1⟩
    exact tr_nil (k _ _ ⟨tk, ow, mood, ⟨_, _, _, _, _, _, _, _, _, _, _, _, _, _, _, _, rfl⟩, rfl, sy, m0, m1, c0, by omega⟩)
end
end K17

end
section
set_option Elab.async false
set_option linter.all false
set_option maxRecDepth 100000
open PySem PySem.Spec PyProof.Rows L2 Z
namespace K17
open PySem.W (Datum Tup)
open Rep (pr)
/-! short rows -/
local macro_rules | `(tactic| walk_at "zmem") => `(tactic| first
  | exact List.Mem.head _
  | exact List.Mem.tail _ (List.Mem.head _)
  | exact List.Mem.tail _ (List.Mem.tail _ (List.Mem.head _))
  | exact List.Mem.tail _ (List.Mem.tail _ (List.Mem.tail _ (List.Mem.head _)))
  | exact List.Mem.tail _ (List.Mem.tail _ (List.Mem.tail _ (List.Mem.tail _ (List.Mem.head _)))))
local macro_rules | `(tactic| walk_at "zlst") => `(tactic| first | exact lst_F | exact lst_S | exact lst_C (by walk_at "zmem") | assumption)
local macro_rules | `(tactic| walk_at "ztup") => `(tactic| first | exact tup_F | assumption)
local macro_rules | `(tactic| walk_at "zdic") => `(tactic| first | exact dic_F | exact dic_C (by walk_at "zmem") | exact dic_Z (by walk_at "zmem") | assumption)
local macro_rules | `(tactic| walk_at "zside") => `(tactic| first | assumption | decide | (show _ ≤ sizeLine; decide) | omega)
local macro_rules | `(tactic| walk_at "zadd") => `(tactic| first | refine okA_addI ?_ | refine okA_addS (by walk_at "zside") ?_ | refine okA_addL (by walk_at "zlst") (by walk_at "zlst") (by walk_at "zside") ?_)
local macro_rules | `(tactic| walk_at "zsub") => `(tactic| refine ok_rI0 ?_)
local macro_rules | `(tactic| walk_at "zmul") => `(tactic| first | refine okA_mulI (by walk_at "zside") ?_ | refine okA_mulL (by walk_at "zside") (by walk_at "zside") (by walk_at "zside") ?_)
local macro_rules | `(tactic| walk_at "zdiv") => `(tactic| refine ok_rI (by first | assumption | exact ⟨by decide, by decide⟩) ?_)
local macro_rules | `(tactic| walk_at "zmod") => `(tactic| refine ok_rI (by first | assumption | decide) ?_)
local macro_rules | `(tactic| walk_at "zpow") => `(tactic| refine ok_rI (by exact ⟨by decide, by decide, by decide⟩) ?_)
local macro_rules | `(tactic| walk_at "zlt") => `(tactic| refine ok_rI0 ?_)
local macro_rules | `(tactic| walk_at "zeq") => `(tactic| refine okA_eqS rfl ?_)
local macro_rules | `(tactic| walk_at "zne") => `(tactic| refine okA_neS rfl ?_)
local macro_rules | `(tactic| walk_at "zix") => `(tactic| first | refine okA_ixL (by walk_at "zlst") (by rfl) ?_ | refine okA_ixT (by walk_at "ztup") (by rfl) ?_ | refine okA_ixD (by walk_at "zdic") (by assumption) ?_)
local macro_rules | `(tactic| walk_at "zfld") => `(tactic| refine ⟨_, _, _, rfl, by walk_at "zmem", rfl, ?_⟩)
local macro_rules | `(tactic| walk_at "zc_len") => `(tactic| first | refine okA_lenL (by walk_at "zlst") ?_ | refine okA_lenT (by walk_at "ztup") ?_ | refine okA_lenD (by walk_at "zdic") ?_ | refine okA_lenS (by walk_at "zside") ?_)
local macro_rules | `(tactic| walk_at "zc_int") => `(tactic| first | refine ok_intI ?_ | refine ok_intB ?_)
local macro_rules | `(tactic| walk_at "zc_abs") => `(tactic| refine ok_abs ?_)
local macro_rules | `(tactic| walk_at "zc_str") => `(tactic| refine ok_strI (by walk_at "zside") ?_)
local macro_rules | `(tactic| walk_at "zso") => `(tactic| first
  | refine so_L (i := 0) rfl rfl ?_ | refine so_L (i := 1) rfl rfl ?_ | refine so_L (i := 2) rfl rfl ?_ | refine so_L (i := 3) rfl rfl ?_)
local macro_rules | `(tactic| walk_at "zuse") => `(tactic| apply et_use)
local macro_rules | `(tactic| walk_at "zev") => `(tactic| apply ev_use)
local macro_rules | `(tactic| walk_at "zand") => `(tactic| apply etp_and)
local macro_rules | `(tactic| walk_at "zor") => `(tactic| apply etp_or)
local macro_rules | `(tactic| walk_at "znot") => `(tactic| apply etp_not)
def argL : Stmt → Expr
  | .Expr (.Call _ (e :: _) _ _) _ => e
  | _ => .Constant .none 0 ⟨0, 0, 0, 0⟩
def lamP : Expr → Arguments
  | .Lambda p _ _ _ => p
  | _ => C8.fnArgs (.Pass ⟨0, 0, 0, 0⟩)
def lamB : Expr → Expr
  | .Lambda _ b _ _ => b
  | e => e
def lamS : Expr → Scope
  | .Lambda _ _ s _ => s
  | _ => C8.fnScope (.Pass ⟨0, 0, 0, 0⟩)
abbrev eSend : Expr := argL (nth lTick 3)
/-- the law's code object and its table -/
structure LamT (b : Bn) (c Pt : Addr) : Prop where
  cdv : b.cdv = .ref c
  tb : b.tb.nt = [(Pt, fun _ _ => b.j.X.env.qual ++ "<lambda>")]
  TB : LamX.TabB b.base b.mg c Pt
section
variable {b : Bn} {a : Ads} {ns : List Int} {P : Po}
theorem send_ok (L : LawT b.K b.mg a) (c' : Addr) : CloOk b.Pg b.w b.K b.mg b.base 1 (lamG b.j.X (lamP eSend) (lamS eSend) c') (lamB eSend) ((pSend b.K (cellAt b.j.X "answers") (cellAt b.j.X "sent")).sp b.tb) := by
  have ecl : (lamG b.j.X (lamP eSend) (lamS eSend) c').cl = ([("sent", cellAt b.j.X "sent"), ("answers", cellAt b.j.X "answers")] : List (Str × Addr)) := rfl
  have ne : cellAt b.j.X "answers" ≠ cellAt b.j.X "sent" := fun h => by
    have h : b.s.heap.objs.size + 1 + 1 + 1 = b.s.heap.objs.size + 1 + 1 + 1 + 1 + 1 := h
    omega
  have n1 : ¬ ("answers" : Str) = "sent" := by decide +kernel
  have n2 : ¬ ("sent" : Str) = "answers" := by decide +kernel
  refine clo_ok (as := [cellAt b.j.X "answers", cellAt b.j.X "sent"]) (N := ["name", "event", "answers", "sent"]) (ps := ["name", "event"]) (fr := ["answers", "sent"]) (fun o h => ?_) (NdefX.nscope_by (by show NdefX.nscB ["name", "event", "answers", "sent"] ["name", "event"] ["answers", "sent"] (lamS eSend) = true; decide +kernel)) ⟨rfl, ?_, fun i y e => ?_, fun y c e => ?_⟩ (fun pm ctv us hl => match us, hl with | [_, _], _ => rfl) (fun _ => rfl) fun o f A outer s H E hpre hr => ?_
  · show [o.aA, o.aS] = _
    rw [h.1, h.2.1]
  · simp [ne]
  · rw [ecl]
    match i, e with
    | 0, e =>
      simp at e
      subst e
      refine ⟨_, rfl, ?_⟩
      rw [List.lookup_cons, show (("answers" : Str) == "sent") = false from beq_eq_false_iff_ne.mpr n1]
      simp
    | 1, e =>
      simp at e
      subst e
      refine ⟨_, rfl, ?_⟩
      simp
    | n + 2, e => simp at e
  · rw [ecl] at e
    rw [List.lookup_cons] at e
    split at e
    · rename_i h
      have h := beq_iff_eq.mp h
      cases e
      exact ⟨1, by rw [h]; rfl, rfl⟩
    · rw [List.lookup_cons] at e
      split at e
      · rename_i h
        have h := beq_iff_eq.mp h
        cases e
        exact ⟨0, by rw [h]; rfl, rfl⟩
      · cases e
  · obtain ⟨eA, eS, hans, hlen⟩ := hpre
    have u1 := hu_of hr
    have zLen := L.T.zLen
    -- sent.append((name, event, answers[len(sent) % 7])) or answers[(len(sent) - 1) % 7]
    refine ev_orV ?_
    refine ev_bm PySem.F.plainAttrs_list PySem.F.slot_list_append PySem.F.type_list_append mt_append ?_
    refine ev_name 3 rfl ?_ -- sent
    refine ⟨ty_L (lst_C (List.Mem.head _)), ?_⟩
    refine ea_cons ?_
    refine ev_tup ?_
    refine ea_cons ?_
    refine ev_name 0 rfl ?_
    refine ea_cons ?_
    refine ev_name 1 rfl ?_
    refine ea_cons ?_
    refine ev_ix (ix_all u1) ?_
    refine ev_name 2 rfl ?_ -- answers
    refine ev_op op_mod ?_
    refine ev_callB call_lenA zLen (by decide +kernel) ?_
    refine ea_cons ?_
    refine ev_name 3 rfl ?_ -- sent
    refine ea_nil ?_
    refine okA_lenL (lst_C (List.Mem.head _)) ?_
    refine ev_int ?_
    refine ok_rI (by decide) ?_
    rw [List.length_map]
    refine okA_ixL lst_F (good_at hans _) ?_
    refine ea_nil ?_
    refine ⟨by show 3 ≤ sizeLine; decide, ?_⟩
    refine ea_nil ?_
    refine ok_append (i := 0) rfl ?_ ?_
    · rw [List.length_map]
      exact Nat.lt_trans hlen (by decide)
    refine tru_N ⟨rfl, fun z => (nomatch z), fun _ => ?_⟩
    refine ev_and1 ?_
    refine ev_ix (ix_all u1) ?_
    refine ev_name 2 rfl ?_ -- answers
    refine ev_op op_mod ?_
    refine ev_op op_sub ?_
    refine ev_callB call_lenA zLen (by decide +kernel) ?_
    refine ea_cons ?_
    refine ev_name 3 rfl ?_ -- sent
    refine ea_nil ?_
    refine okA_lenL (lst_C (List.Mem.head _)) ?_
    refine ev_int ?_
    walk_at "zsub"
    refine ev_int ?_
    refine ok_rI (by decide) ?_
    refine okA_ixL (q := isB (goodAt o.ans o.sent.length)) lst_F ?_ ?_
    · rw [List.length_append, List.length_map, List.length_singleton, show (((o.sent.length + 1 : Nat) : Int) - 1) = (o.sent.length : Int) by omega]
      exact good_at hans _
    refine ⟨?_, rfl⟩
    show [cL o.sl (o.sent.map (pr b.K) ++ [rT b.K [isS o.nm, pr b.K o.ev, isB (goodAt o.ans o.sent.length)]])] = [cL o.sl ((o.sent ++ [(⟨o.nm, o.ev, goodAt o.ans o.sent.length⟩ : Rw)]).map (pr b.K))]
    rw [List.map_append]
    rfl
end
end K17

end
section
set_option Elab.async false
set_option linter.all false
set_option maxRecDepth 100000
open PySem PySem.Spec PyProof.Rows L2 Z
namespace K17
open PySem.W (Datum Tup)
open Rep (pr)
/-! short rows -/
local macro_rules | `(tactic| walk_at "zmem") => `(tactic| first
  | exact List.Mem.head _
  | exact List.Mem.tail _ (List.Mem.head _)
  | exact List.Mem.tail _ (List.Mem.tail _ (List.Mem.head _))
  | exact List.Mem.tail _ (List.Mem.tail _ (List.Mem.tail _ (List.Mem.head _)))
  | exact List.Mem.tail _ (List.Mem.tail _ (List.Mem.tail _ (List.Mem.tail _ (List.Mem.head _)))))
local macro_rules | `(tactic| walk_at "zlst") => `(tactic| first | exact lst_F | exact lst_S | exact lst_C (by walk_at "zmem") | assumption)
local macro_rules | `(tactic| walk_at "ztup") => `(tactic| first | exact tup_F | assumption)
local macro_rules | `(tactic| walk_at "zdic") => `(tactic| first | exact dic_F | exact dic_C (by walk_at "zmem") | exact dic_Z (by walk_at "zmem") | assumption)
local macro_rules | `(tactic| walk_at "zside") => `(tactic| first | assumption | decide | (show _ ≤ sizeLine; decide) | omega)
local macro_rules | `(tactic| walk_at "zadd") => `(tactic| first | refine okA_addI ?_ | refine okA_addS (by walk_at "zside") ?_ | refine okA_addL (by walk_at "zlst") (by walk_at "zlst") (by walk_at "zside") ?_)
local macro_rules | `(tactic| walk_at "zsub") => `(tactic| refine ok_rI0 ?_)
local macro_rules | `(tactic| walk_at "zmul") => `(tactic| first | refine okA_mulI (by walk_at "zside") ?_ | refine okA_mulL (by walk_at "zside") (by walk_at "zside") (by walk_at "zside") ?_)
local macro_rules | `(tactic| walk_at "zdiv") => `(tactic| refine ok_rI (by first | assumption | exact ⟨by decide, by decide⟩) ?_)
local macro_rules | `(tactic| walk_at "zmod") => `(tactic| refine ok_rI (by first | assumption | decide) ?_)
local macro_rules | `(tactic| walk_at "zpow") => `(tactic| refine ok_rI (by exact ⟨by decide, by decide, by decide⟩) ?_)
local macro_rules | `(tactic| walk_at "zlt") => `(tactic| refine ok_rI0 ?_)
local macro_rules | `(tactic| walk_at "zeq") => `(tactic| refine okA_eqS rfl ?_)
local macro_rules | `(tactic| walk_at "zne") => `(tactic| refine okA_neS rfl ?_)
local macro_rules | `(tactic| walk_at "zix") => `(tactic| first | refine okA_ixL (by walk_at "zlst") (by rfl) ?_ | refine okA_ixT (by walk_at "ztup") (by rfl) ?_ | refine okA_ixD (by walk_at "zdic") (by assumption) ?_)
local macro_rules | `(tactic| walk_at "zfld") => `(tactic| refine ⟨_, _, _, rfl, by walk_at "zmem", rfl, ?_⟩)
local macro_rules | `(tactic| walk_at "zc_len") => `(tactic| first | refine okA_lenL (by walk_at "zlst") ?_ | refine okA_lenT (by walk_at "ztup") ?_ | refine okA_lenD (by walk_at "zdic") ?_ | refine okA_lenS (by walk_at "zside") ?_)
local macro_rules | `(tactic| walk_at "zc_int") => `(tactic| first | refine ok_intI ?_ | refine ok_intB ?_)
local macro_rules | `(tactic| walk_at "zc_abs") => `(tactic| refine ok_abs ?_)
local macro_rules | `(tactic| walk_at "zc_str") => `(tactic| refine ok_strI (by walk_at "zside") ?_)
local macro_rules | `(tactic| walk_at "zso") => `(tactic| first
  | refine so_L (i := 0) rfl rfl ?_ | refine so_L (i := 1) rfl rfl ?_ | refine so_L (i := 2) rfl rfl ?_ | refine so_L (i := 3) rfl rfl ?_)
local macro_rules | `(tactic| walk_at "zuse") => `(tactic| apply et_use)
local macro_rules | `(tactic| walk_at "zev") => `(tactic| apply ev_use)
local macro_rules | `(tactic| walk_at "zand") => `(tactic| apply etp_and)
local macro_rules | `(tactic| walk_at "zor") => `(tactic| apply etp_or)
local macro_rules | `(tactic| walk_at "znot") => `(tactic| apply etp_not)
theorem permX {α : Type} (X T O : List α) (s r D : α) : (X ++ ((r :: O) ++ (D :: s :: T))).Perm ((T ++ (X ++ [s])) ++ (r :: (O ++ [D]))) := by
  classical
  rw [List.perm_iff_count]
  intro c
  simp only [List.count_append, List.count_cons, List.count_nil]
  omega
theorem permY {α : Type} (X T O : List α) (s r D : α) : ((T ++ (X ++ [s])) ++ (r :: (O ++ [D]))).Perm (X ++ ((D :: (O ++ T)) ++ [r, s])) := by
  classical
  rw [List.perm_iff_count]
  intro c
  simp only [List.count_append, List.count_cons, List.count_nil]
  omega
theorem permZ {α : Type} (T O : List α) (s D : α) : (D :: s :: (O ++ T)).Perm (O ++ (D :: s :: T)) := by
  classical
  rw [List.perm_iff_count]
  intro c
  simp only [List.count_append, List.count_cons, List.count_nil]
  omega
section
variable {b : Bn} {a : Ads} {ns : List Int} {P : Po}
theorem ticks_ok (L : LawT b.K b.mg a) {c Pt : Addr} (M : LamT b c Pt) (hr : Room 7 b.j.X.A) {d : Addr} {n : Nat} {Γ : Gm} {C : List Cell} (h : St b.K a ns d n Γ C) (k : ∀ Γ' C', St b.K a ns d n Γ' C' → P.nx Γ' C') : Tr b.j Γ C lTick P := by
  obtain ⟨tk, ow, mood, ⟨x6, x7, x8, x10, x11, x12, x13, x14, x15, x16, x17, x18, x19, x20, x21, x22, rfl⟩, rfl, sy, m0, m1, c0, c1⟩ := h
  have T := L.T
  have GRl := roll_ok (b := b) L
  have GTk := ok_ticked (Pg := b.Pg) (w := b.w) (base := b.base) (tb := b.tb) L.ticked.fn T
  have GTl := ok_tell (Pg := b.Pg) (w := b.w) (base := b.base) (tb := b.tb) L.tell.fn T (send_ok L) (fun _ => rfl)
  have GTi := ok_tick (Pg := b.Pg) (w := b.w) (base := b.base) (tb := b.tb) L.tick.fn T GTl L.tell.mt L.tell.bd
  have hr1 : Room 1 b.j.X.A := hr.mono (by decide)
  have hr3 : Room 3 b.j.X.A := hr.mono (by decide)
  have u1 := hu_of hr
  have u64 := hr.units
  have abcO : Abc ow.names := by
    rw [sy.names]
    exact sy.abc
  have okO : ∀ g ∈ ow.gs, OkG g := by
    rw [sy.gs]
    exact sy.ok
  -- time, sent = time + 1, []
  refine tr_asg ?_
  refine ev_tup ?_
  refine ea_cons ?_
  refine ev_op op_addA ?_
  refine ev_name 4 rfl ?_
  refine ev_int ?_
  walk_at "zadd"
  refine ea_cons ?_
  refine ev_lstC ?_
  refine ea_nil ?_
  refine ⟨by show 0 ≤ sizeLine; decide, fun sl => ?_⟩
  refine ea_nil ?_
  refine ⟨by show 2 ≤ sizeLine; decide, ?_⟩
  refine eg_tup rfl tup_F rfl ?_
  refine egl_cons ?_
  refine eg_name 4 ?_ ndL
  refine egl_cons ?_
  refine eg_name 21 ?_ ndL
  refine egl_nil ?_
  refine tr_perm (C' := cDi d :: cL sl [] :: (oc b.K ow ++ tc b.K a.CT a.CH tk)) (List.Perm.swap _ _ _) ?_
  -- answers = [_law_roll(dice, 4) >= [0, 2, 4][mood] for k in range(7)]
  refine tr_set 19 ?_ ndL
  refine ev_lcR 13 ?_ L.zRange ndL (blkOk_by (by show blkC lN (defScope sLaw) _ _ = true; decide +kernel)) rfl (fun s H Cc cl fp => pg_name ndL rfl (Or.inl rfl) (Or.inr rfl))
  refine ev_int ?_
  refine ⟨7, rfl, by decide, by decide, fun n C acc => C = cDi d :: cL sl [] :: (oc b.K ow ++ tc b.K a.CT a.CH tk) ∧ ∃ bs : List Bool, bs.length = n ∧ n ≤ 7 ∧ acc = bs.map (pr b.K), ⟨rfl, [], rfl, by decide, rfl⟩, fun i Ci acc hn hI => ?_, fun Cn acc hI => ?_⟩
  · obtain ⟨rfl, bs, hbs, h7, rfl⟩ := hI
    have hn : i < 7 := hn
    intro s H Cc cl fp
    refine eif_no ⟨fun _ => ?_, fun h => nomatch h⟩
    intro s H Cc cl fp
    refine ev_cmp op_ge rfl ?_
    refine ev_call GRl hr1 L.roll.g L.roll.kp L.roll.bd ?_
    refine ea_cons ?_
    refine ev_name 1 rfl ?_ -- dice
    refine ea_cons ?_
    refine ev_int ?_
    refine ea_nil ?_
    refine ⟨⟨d, 4⟩, cL sl [] :: (oc b.K ow ++ tc b.K a.CT a.CH tk), ⟨by show (0 : Int) < 4; decide, by show (4 : Int) ≤ 100000000; decide⟩, rfl, List.Perm.refl _, ?_, fun _ _ z => z.elim⟩
    rintro C' ρ ⟨r, r0, r1, rfl, rfl⟩
    refine ev_ix (ix_all u1) ?_
    refine ev_lst ?_
    refine ea_cons ?_
    refine ev_int ?_
    refine ea_cons ?_
    refine ev_int ?_
    refine ea_cons ?_
    refine ev_int ?_
    refine ea_nil ?_
    refine ⟨by show 3 ≤ sizeLine; decide, ?_⟩
    refine ev_name 9 rfl ?_ -- mood
    obtain ⟨q, q1, q2⟩ := atI_nat (l := ([0, 2, 4] : List Int).map fun y => isI y) m0 m1
    obtain ⟨th, hth, rfl⟩ := map_at q1
    refine okA_ixL lst_F q2 ?_
    walk_at "zlt"
    refine ⟨?_, rfl, bs ++ [decide (r ≥ th)], ?_, by omega, ?_⟩
    · rw [List.length_map, hbs]
      exact Nat.lt_trans hn (by decide)
    · rw [List.length_append, List.length_singleton, hbs]
    · rw [List.map_append]
      rfl
  · obtain ⟨rfl, ans, hans, _, rfl⟩ := hI
    have hans : ans.length = 7 := hans
    -- due = _law_ticked(own, time, answers)
    refine tr_set 15 ?_ ndL
    refine ev_call GTk hr1 L.ticked.g L.ticked.kp L.ticked.bd ?_
    refine ea_cons ?_
    refine ev_name 3 rfl ?_ -- own
    refine ea_cons ?_
    refine ev_name 4 rfl ?_ -- time
    refine ea_cons ?_
    refine ev_name 19 rfl ?_ -- answers
    refine ea_nil ?_
    refine ⟨⟨ow, tk.time + 1, ans⟩, cDi d :: cL sl [] :: tc b.K a.CT a.CH tk, ⟨abcO, okO, hans⟩, rfl, permZ _ _ _ _, ?_, fun _ _ z => z.elim⟩
    rintro C' ρ ⟨s2, ds', hd, hg, rfl, rfl⟩
    dsimp only at hd hg ⊢
    -- teller.tick(lambda ..)
    refine tr_expr ?_
    refine ev_methX [(19, "answers"), (21, "sent")] GTi hr3 T.clT L.tick.mt L.tick.bd ⟨?_, by decide +kernel⟩ ?_
    · intro q hq
      rcases List.mem_cons.mp hq with rfl | hq
      · exact ⟨rfl, rfl, rfl⟩
      · rcases List.mem_cons.mp hq with rfl | hq
        · exact ⟨rfl, rfl, rfl⟩
        · cases hq
    refine ev_name 2 rfl ?_ -- teller
    refine ⟨ins_C (fns := tFs) (ps := [isR tk.d, isI tk.time, isI tk.count]) (List.mem_append_right _ (List.Mem.tail _ (List.Mem.tail _ (List.Mem.head _)))) (by decide +kernel), ?_⟩
    refine ea_cons ?_
    refine ev_lam (P := Pt) (nm := fun _ _ => b.j.X.env.qual ++ "<lambda>") (by rw [M.tb]; exact List.Mem.head _) rfl (fun p hp e => by rw [M.tb] at hp; rw [List.mem_singleton.mp hp]) M.TB M.cdv ?_ (NdefX.ndef_free (fr := ["answers", "sent"]) (by show NdefX.ndefB (defScope sLaw) (lamS eSend) ["answers", "sent"] = true; decide +kernel))
    refine ea_nil ?_
    refine ⟨⟨tk, ⟨sl, cellAt b.j.X "answers", cellAt b.j.X "sent", ans, [], "", ⟨0, "", ""⟩⟩⟩, cL s2 ((tickG ans (tk.time + 1) ow.gs []).2.map (pr b.K)) :: (oc b.K { ow with ds := ds' } ++ [cDi d]), [(cellAt b.j.X "answers", rL (ans.map (pr b.K))), (cellAt b.j.X "sent", isR sl)], .cons ⟨rfl, rfl⟩ (.cons ⟨rfl, rfl⟩ .nil), ⟨sy.abc, sy.ok, rfl, rfl, hans, by show (0 : Nat) < 100; decide⟩, rfl, permX _ _ _ _ _ _, ?_, fun _ _ z => z.elim⟩
    rintro C' ρ ⟨rfl, hs', ha2, hg2, rfl⟩
    dsimp only at ha2 hg2 ⊢
    refine ⟨_, permY (capsC [(cellAt b.j.X "answers", rL (ans.map (pr b.K))), (cellAt b.j.X "sent", isR sl)]) _ _ _ _ _, ?_⟩
    have egs : ow.gs = tk.gs := sy.gs
    rw [egs] at hg ⊢
    generalize hrows : (tickG ans (tk.time + 1) tk.gs []).2 = rows
    -- if sent != due:
    refine tr_ifx ?_
    refine et_cmp op_neA rfl ?_
    refine ev_name 21 rfl ?_ -- sent
    refine ev_name 15 rfl ?_ -- due
    refine okA_neT (α := List Rw) (a := rows) (b := rows) (dat_C (List.mem_append_right _ (List.Mem.tail _ (List.Mem.head _)))) (dat_C (List.mem_append_right _ (List.Mem.head _))) (Nat.lt_of_le_of_lt (Nat.add_le_add_left (by decide : Datum.depth (List Rw) ≤ 64) _) u64) ?_
    refine ⟨_, rfl, ?_⟩
    rw [show decide (rows ≠ rows) = false by simp]
    refine bF ?_
    have tok := tickG_ok (ans := ans) (time := tk.time + 1) (sent := []) sy.ok
    refine tr_keep (List.Perm.refl _) (tr_nil (k _ _ ⟨{ tk with time := tk.time + 1, hs := hs' }, { ow with ds := ds' }, mood, ⟨_, _, _, _, _, _, _, _, _, _, _, _, _, _, _, _, rfl⟩, rfl, ⟨?_, ?_, ?_, ?_⟩, m0, m1, c0, c1⟩))
    · show ds'.map (·.g) = hs'.map (·.g)
      rw [hg, hg2]
    · show Abc (hs'.map fun h => h.g.name)
      have e1 : (hs'.map fun h => h.g.name) = (hs'.map (·.g)).map (·.name) := by rw [List.map_map]; rfl
      rw [e1, hg2, tok.2.1, List.map_map]
      exact sy.abc
    · show 0 < hs'.length
      have := congrArg List.length ha2
      simp only [List.length_map] at this
      rw [this]
      exact sy.pos
    · intro g hgm
      have hgm : g ∈ hs'.map (·.g) := hgm
      rw [hg2] at hgm
      exact tok.2.2.1 g hgm
end
end K17

end
section
set_option Elab.async false
set_option linter.all false
set_option maxRecDepth 100000
open PySem PySem.Spec PyProof.Rows L2 Z
namespace K17
open PySem.W (Datum Tup)
open Rep (pr)
/-! short rows -/
local macro_rules | `(tactic| walk_at "zmem") => `(tactic| first
  | exact List.Mem.head _
  | exact List.Mem.tail _ (List.Mem.head _)
  | exact List.Mem.tail _ (List.Mem.tail _ (List.Mem.head _))
  | exact List.Mem.tail _ (List.Mem.tail _ (List.Mem.tail _ (List.Mem.head _)))
  | exact List.Mem.tail _ (List.Mem.tail _ (List.Mem.tail _ (List.Mem.tail _ (List.Mem.head _)))))
local macro_rules | `(tactic| walk_at "zlst") => `(tactic| first | exact lst_F | exact lst_S | exact lst_C (by walk_at "zmem") | assumption)
local macro_rules | `(tactic| walk_at "ztup") => `(tactic| first | exact tup_F | assumption)
local macro_rules | `(tactic| walk_at "zdic") => `(tactic| first | exact dic_F | exact dic_C (by walk_at "zmem") | exact dic_Z (by walk_at "zmem") | assumption)
local macro_rules | `(tactic| walk_at "zside") => `(tactic| first | assumption | decide | (show _ ≤ sizeLine; decide) | omega)
local macro_rules | `(tactic| walk_at "zadd") => `(tactic| first | refine okA_addI ?_ | refine okA_addS (by walk_at "zside") ?_ | refine okA_addL (by walk_at "zlst") (by walk_at "zlst") (by walk_at "zside") ?_)
local macro_rules | `(tactic| walk_at "zsub") => `(tactic| refine ok_rI0 ?_)
local macro_rules | `(tactic| walk_at "zmul") => `(tactic| first | refine okA_mulI (by walk_at "zside") ?_ | refine okA_mulL (by walk_at "zside") (by walk_at "zside") (by walk_at "zside") ?_)
local macro_rules | `(tactic| walk_at "zdiv") => `(tactic| refine ok_rI (by first | assumption | exact ⟨by decide, by decide⟩) ?_)
local macro_rules | `(tactic| walk_at "zmod") => `(tactic| refine ok_rI (by first | assumption | decide) ?_)
local macro_rules | `(tactic| walk_at "zpow") => `(tactic| refine ok_rI (by exact ⟨by decide, by decide, by decide⟩) ?_)
local macro_rules | `(tactic| walk_at "zlt") => `(tactic| refine ok_rI0 ?_)
local macro_rules | `(tactic| walk_at "zeq") => `(tactic| refine okA_eqS rfl ?_)
local macro_rules | `(tactic| walk_at "zne") => `(tactic| refine okA_neS rfl ?_)
local macro_rules | `(tactic| walk_at "zix") => `(tactic| first | refine okA_ixL (by walk_at "zlst") (by rfl) ?_ | refine okA_ixT (by walk_at "ztup") (by rfl) ?_ | refine okA_ixD (by walk_at "zdic") (by assumption) ?_)
local macro_rules | `(tactic| walk_at "zfld") => `(tactic| refine ⟨_, _, _, rfl, by walk_at "zmem", rfl, ?_⟩)
local macro_rules | `(tactic| walk_at "zc_len") => `(tactic| first | refine okA_lenL (by walk_at "zlst") ?_ | refine okA_lenT (by walk_at "ztup") ?_ | refine okA_lenD (by walk_at "zdic") ?_ | refine okA_lenS (by walk_at "zside") ?_)
local macro_rules | `(tactic| walk_at "zc_int") => `(tactic| first | refine ok_intI ?_ | refine ok_intB ?_)
local macro_rules | `(tactic| walk_at "zc_abs") => `(tactic| refine ok_abs ?_)
local macro_rules | `(tactic| walk_at "zc_str") => `(tactic| refine ok_strI (by walk_at "zside") ?_)
local macro_rules | `(tactic| walk_at "zso") => `(tactic| first
  | refine so_L (i := 0) rfl rfl ?_ | refine so_L (i := 1) rfl rfl ?_ | refine so_L (i := 2) rfl rfl ?_ | refine so_L (i := 3) rfl rfl ?_)
local macro_rules | `(tactic| walk_at "zuse") => `(tactic| apply et_use)
local macro_rules | `(tactic| walk_at "zev") => `(tactic| apply ev_use)
local macro_rules | `(tactic| walk_at "zand") => `(tactic| apply etp_and)
local macro_rules | `(tactic| walk_at "zor") => `(tactic| apply etp_or)
local macro_rules | `(tactic| walk_at "znot") => `(tactic| apply etp_not)
section
variable {b : Bn} {a : Ads} {ns : List Int} {P : Po}
theorem St.le {K : PySem.W.Frag} {d : Addr} {n m : Nat} {Γ : Gm} {C : List Cell} (h : St K a ns d n Γ C) (hm : n ≤ m) : St K a ns d m Γ C := by
  obtain ⟨tk, ow, mood, g, e, sy, m0, m1, c0, c1⟩ := h
  exact ⟨tk, ow, mood, g, e, sy, m0, m1, c0, by omega⟩
theorem step_ok (L : LawT b.K b.mg a) {c Pt : Addr} (M : LamT b c Pt) (hr : Room 7 b.j.X.A) (own : PassesOwn (model b.j.X.prog b.j.X.w) b.j.X.A b.j.X.env b.j.X.xe) {d : Addr} {n : Nat} (hn : n < 10000) {Γ : Gm} {C : List Cell} (h : St b.K a ns d n Γ C) (k : ∀ Γ' C', St b.K a ns d (n + 60) Γ' C' → P.nx Γ' C') : Tr b.j Γ C lStep P := by
  have GRl := roll_ok (b := b) L
  have hr1 : Room 1 b.j.X.A := hr.mono (by decide)
  obtain ⟨tk, ow, mood, ⟨x6, x7, x8, x10, x11, x12, x13, x14, x15, x16, x17, x18, x19, x20, x21, x22, rfl⟩, rfl, sy, m0, m1, c0, c1⟩ := h
  -- sort = _law_roll(dice, 9)
  refine tr_set 11 ?_ ndL
  refine ev_call GRl hr1 L.roll.g L.roll.kp L.roll.bd ?_
  refine ea_cons ?_
  refine ev_name 1 rfl ?_ -- dice
  refine ea_cons ?_
  refine ev_int ?_
  refine ea_nil ?_
  refine ⟨⟨d, 9⟩, oc b.K ow ++ tc b.K a.CT a.CH tk, ⟨by show (0 : Int) < 9; decide, by show (9 : Int) ≤ 100000000; decide⟩, rfl, List.Perm.refl _, ?_, fun _ _ z => z.elim⟩
  rintro C' ρ ⟨r, r0, r1, rfl, rfl⟩
  have st : St b.K a ns d n [some (rLs b.K (ns.map isI)), some (isR d), some (isR tk.t), some (isR ow.od), some (isI tk.time), some (isI tk.count), x6, x7, x8, some (isI mood), x10, some (isI r), x12, x13, x14, x15, x16, x17, x18, x19, x20, x21, x22] (LC b.K a d ow tk) := ⟨tk, ow, mood, ⟨_, _, _, _, _, _, _, _, _, _, _, _, _, _, _, _, rfl⟩, rfl, sy, m0, m1, c0, c1⟩
  refine tr_if (fun Γ C => St b.K a ns d (n + 60) Γ C) ?_ fun Γ' C' h => look_ok L hr own h k
  refine et_cmp op_lt rfl ?_
  refine ev_name 11 rfl ?_ -- sort
  refine ev_int ?_
  walk_at "zlt"
  refine ⟨_, rfl, ?_⟩
  refine Z.bD (fun h1 => ?_) (fun h2 => ?_)
  · exact event_ok L hr own hn st fun Γ' C' h => h
  · refine tr_if (fun Γ C => St b.K a ns d (n + 60) Γ C) ?_ fun Γ' C' h => tr_nil h
    refine et_cmp op_lt rfl ?_
    refine ev_name 11 rfl ?_ -- sort
    refine ev_int ?_
    walk_at "zlt"
    refine ⟨_, rfl, ?_⟩
    refine Z.bD (fun h3 => ?_) (fun h4 => ?_)
    · exact ticks_ok L M hr st fun Γ' C' h => h.le (by omega)
    · exact switch_ok L hr st fun Γ' C' h => h.le (by omega)
/-- mood, the steps -/
def GamA (K : PySem.W.Frag) (ns : List Int) (d t od : Addr) (Γ : Gm) : Prop := ∃ x6 x7 x8 x9 x10 x11 x12 x13 x14 x15 x16 x17 x18 x19 x20 x21 x22 : Option Pr, Γ = [some (rLs K (ns.map isI)), some (isR d), some (isR t), some (isR od), some (isI 0), some (isI 0), x6, x7, x8, x9, x10, x11, x12, x13, x14, x15, x16, x17, x18, x19, x20, x21, x22]
abbrev lRest : List Stmt := [nth lRound 2, nth lRound 3]
theorem rest_ok (L : LawT b.K b.mg a) {c Pt : Addr} (M : LamT b c Pt) (hr : Room 7 b.j.X.A) (own : PassesOwn (model b.j.X.prog b.j.X.w) b.j.X.A b.j.X.env b.j.X.xe) {d : Addr} {Γ : Gm} {tk : TK} {ow : OW} (g : GamA b.K ns d tk.t ow.od Γ) (et : tk.time = 0) (ec : tk.count = 0) (sy : Sync tk ow) (k : ∀ Γ' C' , (∃ x, Γ'[0]? = some x ∧ Γ'.length = 23) → P.nx Γ' C') : Tr b.j Γ (LC b.K a d ow tk) lRest P := by
  have GRl := roll_ok (b := b) L
  have hr1 : Room 1 b.j.X.A := hr.mono (by decide)
  obtain ⟨x6, x7, x8, x9, x10, x11, x12, x13, x14, x15, x16, x17, x18, x19, x20, x21, x22, rfl⟩ := g
  -- mood = _law_roll(dice, 3)
  refine tr_set 9 ?_ ndL
  refine ev_call GRl hr1 L.roll.g L.roll.kp L.roll.bd ?_
  refine ea_cons ?_
  refine ev_name 1 rfl ?_ -- dice
  refine ea_cons ?_
  refine ev_int ?_
  refine ea_nil ?_
  refine ⟨⟨d, 3⟩, oc b.K ow ++ tc b.K a.CT a.CH tk, ⟨by show (0 : Int) < 3; decide, by show (3 : Int) ≤ 100000000; decide⟩, rfl, List.Perm.refl _, ?_, fun _ _ z => z.elim⟩
  rintro C' ρ ⟨m, m0, m1, rfl, rfl⟩
  -- for step in range(_law_roll(dice, 81)):
  refine tr_range1 (fun i Γ C => St b.K a ns d (60 * i) Γ C) (fun Γ C => (∃ x, Γ[0]? = some x ∧ Γ.length = 23)) L.zRange ?_ (fun Γ C h => tr_nil (k Γ C h)) own rfl
  refine ev_call GRl hr1 L.roll.g L.roll.kp L.roll.bd ?_
  refine ea_cons ?_
  refine ev_name 1 rfl ?_ -- dice
  refine ea_cons ?_
  refine ev_int ?_
  refine ea_nil ?_
  refine ⟨⟨d, 81⟩, oc b.K ow ++ tc b.K a.CT a.CH tk, ⟨by show (0 : Int) < 81; decide, by show (81 : Int) ≤ 100000000; decide⟩, rfl, List.Perm.refl _, ?_, fun _ _ z => z.elim⟩
  rintro C' ρ ⟨q, q0, q1, rfl, rfl⟩
  have q1 : q < 81 := q1
  refine ⟨q, rfl, by omega, by omega, ⟨tk, ow, m, ?_, rfl, sy, m0, m1, by omega, by omega⟩, fun i Γ' C' hi hI => ?_, fun Γ' C' hI => ?_⟩
  · rw [et, ec]
    exact ⟨_, _, _, _, _, _, _, _, _, _, _, _, _, _, _, _, rfl⟩
  · obtain ⟨tk, ow, mood, ⟨x6, x7, x8, x10, x11, x12, x13, x14, x15, x16, x17, x18, x19, x20, x21, x22, rfl⟩, e, sy, m0, m1, c0, c1⟩ := hI
    refine eg_name 10 ?_ ndL -- step
    exact step_ok L M hr own (n := 60 * i) (by omega) ⟨tk, ow, mood, ⟨_, _, _, _, _, _, _, _, _, _, _, _, _, _, _, _, rfl⟩, e, sy, m0, m1, c0, c1⟩ fun Γ' C' h => by
      have e : 60 * (i + 1) = 60 * i + 60 := by omega
      show St b.K a ns d (60 * (i + 1)) Γ' C'
      rw [e]
      exact h
  · obtain ⟨tk, ow, mood, ⟨x6, x7, x8, x10, x11, x12, x13, x14, x15, x16, x17, x18, x19, x20, x21, x22, rfl⟩, e, _⟩ := hI
    exact ⟨_, rfl, rfl⟩
end
end K17

end
section
set_option Elab.async false
set_option linter.all false
set_option maxRecDepth 100000
open PySem PySem.Spec PyProof.Rows L2 Z
namespace K17
open PySem.W (Datum Tup)
open Rep (pr)
/-! short rows -/
local macro_rules | `(tactic| walk_at "zmem") => `(tactic| first
  | exact List.Mem.head _
  | exact List.Mem.tail _ (List.Mem.head _)
  | exact List.Mem.tail _ (List.Mem.tail _ (List.Mem.head _))
  | exact List.Mem.tail _ (List.Mem.tail _ (List.Mem.tail _ (List.Mem.head _)))
  | exact List.Mem.tail _ (List.Mem.tail _ (List.Mem.tail _ (List.Mem.tail _ (List.Mem.head _)))))
local macro_rules | `(tactic| walk_at "zlst") => `(tactic| first | exact lst_F | exact lst_S | exact lst_C (by walk_at "zmem") | assumption)
local macro_rules | `(tactic| walk_at "ztup") => `(tactic| first | exact tup_F | assumption)
local macro_rules | `(tactic| walk_at "zdic") => `(tactic| first | exact dic_F | exact dic_C (by walk_at "zmem") | exact dic_Z (by walk_at "zmem") | assumption)
local macro_rules | `(tactic| walk_at "zside") => `(tactic| first | assumption | decide | (show _ ≤ sizeLine; decide) | omega)
local macro_rules | `(tactic| walk_at "zadd") => `(tactic| first | refine okA_addI ?_ | refine okA_addS (by walk_at "zside") ?_ | refine okA_addL (by walk_at "zlst") (by walk_at "zlst") (by walk_at "zside") ?_)
local macro_rules | `(tactic| walk_at "zsub") => `(tactic| refine ok_rI0 ?_)
local macro_rules | `(tactic| walk_at "zmul") => `(tactic| first | refine okA_mulI (by walk_at "zside") ?_ | refine okA_mulL (by walk_at "zside") (by walk_at "zside") (by walk_at "zside") ?_)
local macro_rules | `(tactic| walk_at "zdiv") => `(tactic| refine ok_rI (by first | assumption | exact ⟨by decide, by decide⟩) ?_)
local macro_rules | `(tactic| walk_at "zmod") => `(tactic| refine ok_rI (by first | assumption | decide) ?_)
local macro_rules | `(tactic| walk_at "zpow") => `(tactic| refine ok_rI (by exact ⟨by decide, by decide, by decide⟩) ?_)
local macro_rules | `(tactic| walk_at "zlt") => `(tactic| refine ok_rI0 ?_)
local macro_rules | `(tactic| walk_at "zeq") => `(tactic| refine okA_eqS rfl ?_)
local macro_rules | `(tactic| walk_at "zne") => `(tactic| refine okA_neS rfl ?_)
local macro_rules | `(tactic| walk_at "zix") => `(tactic| first | refine okA_ixL (by walk_at "zlst") (by rfl) ?_ | refine okA_ixT (by walk_at "ztup") (by rfl) ?_ | refine okA_ixD (by walk_at "zdic") (by assumption) ?_)
local macro_rules | `(tactic| walk_at "zfld") => `(tactic| refine ⟨_, _, _, rfl, by walk_at "zmem", rfl, ?_⟩)
local macro_rules | `(tactic| walk_at "zc_len") => `(tactic| first | refine okA_lenL (by walk_at "zlst") ?_ | refine okA_lenT (by walk_at "ztup") ?_ | refine okA_lenD (by walk_at "zdic") ?_ | refine okA_lenS (by walk_at "zside") ?_)
local macro_rules | `(tactic| walk_at "zc_int") => `(tactic| first | refine ok_intI ?_ | refine ok_intB ?_)
local macro_rules | `(tactic| walk_at "zc_abs") => `(tactic| refine ok_abs ?_)
local macro_rules | `(tactic| walk_at "zc_str") => `(tactic| refine ok_strI (by walk_at "zside") ?_)
local macro_rules | `(tactic| walk_at "zso") => `(tactic| first
  | refine so_L (i := 0) rfl rfl ?_ | refine so_L (i := 1) rfl rfl ?_ | refine so_L (i := 2) rfl rfl ?_ | refine so_L (i := 3) rfl rfl ?_)
local macro_rules | `(tactic| walk_at "zuse") => `(tactic| apply et_use)
local macro_rules | `(tactic| walk_at "zev") => `(tactic| apply ev_use)
local macro_rules | `(tactic| walk_at "zand") => `(tactic| apply etp_and)
local macro_rules | `(tactic| walk_at "zor") => `(tactic| apply etp_or)
local macro_rules | `(tactic| walk_at "znot") => `(tactic| apply etp_not)
theorem cut_takeI {ps : List Pr} {k : Int} (h : 0 ≤ k) : cutP ps none (some k) = ps.take k.toNat := by
  unfold cutP
  have e0 : k = ((k.toNat : Nat) : Int) := by omega
  have e1 : HT.sIx ps.length ps.length (some k) = min k.toNat ps.length := by
    rw [e0]
    exact HT.sIx_nat _ _ _
  have e2 : HT.sIx ps.length 0 none = 0 := rfl
  rw [e1, e2, List.drop_zero, Nat.sub_zero]
  by_cases hk : k.toNat ≤ ps.length
  · rw [Nat.min_eq_left hk]
  · rw [Nat.min_eq_right (by omega), List.take_length, List.take_of_length_le (by omega)]
abbrev abc3 : List Str := ["a", "b", "c"]
theorem abc_take (m : Nat) : Abc (abc3.take m) := by
  match m with
  | 0 => exact .inl rfl
  | 1 => exact .inr (.inl rfl)
  | 2 => exact .inr (.inr (.inl rfl))
  | n + 3 => exact .inr (.inr (.inr (by simp [abc3])))
theorem g0_ok (nm : Str) (ws : List Str) : OkG (g0 nm ws) := ⟨by show (0 : Int) ≤ 0; decide, by show (0 : Int) ≤ 5; decide, Nat.zero_le _⟩
theorem permW {α : Type} (x y z : α) (A B : List α) : (x :: y :: z :: (A ++ B)).Perm (y :: z :: ((A ++ [x]) ++ B)) := by
  classical
  rw [List.perm_iff_count]
  intro c
  simp only [List.count_append, List.count_cons, List.count_nil]
  omega
section
variable {b : Bn} {a : Ads} {ns : List Int} {P : Po}
theorem adds_ok (L : LawT b.K b.mg a) (hr : Room 7 b.j.X.A) (own : PassesOwn (model b.j.X.prog b.j.X.w) b.j.X.A b.j.X.env b.j.X.xe) {d : Addr} {Γ : Gm} {tk : TK} {ow : OW} (g : GamA b.K ns d tk.t ow.od Γ) (et : tk.time = 0) (ec : tk.count = 0) (e0 : tk.hs = []) (e1 : ow.ds = []) {rest : List Stmt}
    (k : ∀ Γ' tk' ow', GamA b.K ns d tk'.t ow'.od Γ' → tk'.time = 0 → tk'.count = 0 → Sync tk' ow' → Tr b.j Γ' (LC b.K a d ow' tk') rest P) : Tr b.j Γ (LC b.K a d ow tk) (nth lRound 1 :: rest) P := by
  have T := L.T
  have GRl := roll_ok (b := b) L
  have GHI := ok_hinit (Pg := b.Pg) (w := b.w) (base := b.base) (tb := b.tb) L.hi.fn T
  have GAd := ok_add (Pg := b.Pg) (w := b.w) (base := b.base) (tb := b.tb) L.add.fn T L.mkH GHI L.hi.bd
  have hr1 : Room 1 b.j.X.A := hr.mono (by decide)
  have hr3 : Room 3 b.j.X.A := hr.mono (by decide)
  have u1 := hu_of hr
  have u64 := hr.units
  obtain ⟨x6, x7, x8, x9, x10, x11, x12, x13, x14, x15, x16, x17, x18, x19, x20, x21, x22, rfl⟩ := g
  -- for name in ["a", "b", "c"][:1 + _law_roll(dice, 3)]:
  refine tr_for (fun i Γ C => ∃ (tk : TK) (ow : OW), GamA b.K ns d tk.t ow.od Γ ∧ C = LC b.K a d ow tk ∧ tk.time = 0 ∧ tk.count = 0 ∧ ow.gs = tk.gs ∧ tk.names = abc3.take i ∧ (∀ g ∈ tk.gs, OkG g)) (fun Γ C => ∃ (tk : TK) (ow : OW), GamA b.K ns d tk.t ow.od Γ ∧ C = LC b.K a d ow tk ∧ tk.time = 0 ∧ tk.count = 0 ∧ Sync tk ow) ?_ ?_ own rfl
  · refine ev_slice sl_list ?_
    refine ev_lst ?_
    refine ea_cons ?_
    refine ev_str ?_
    refine ea_cons ?_
    refine ev_str ?_
    refine ea_cons ?_
    refine ev_str ?_
    refine ea_nil ?_
    refine ⟨by show 3 ≤ sizeLine; decide, ?_⟩
    refine eo_none ?_
    refine eo_some ?_
    refine ev_op op_addA ?_
    refine ev_int ?_
    refine ev_call GRl hr1 L.roll.g L.roll.kp L.roll.bd ?_
    refine ea_cons ?_
    refine ev_name 1 rfl ?_ -- dice
    refine ea_cons ?_
    refine ev_int ?_
    refine ea_nil ?_
    refine ⟨⟨d, 3⟩, oc b.K ow ++ tc b.K a.CT a.CH tk, ⟨by show (0 : Int) < 3; decide, by show (3 : Int) ≤ 100000000; decide⟩, rfl, List.Perm.refl _, ?_, fun _ _ z => z.elim⟩
    rintro C' ρ ⟨r, r0, r1, rfl, rfl⟩
    have r1 : r < 3 := r1
    walk_at "zadd"
    refine ⟨_, rfl, ?_⟩
    refine ok_slL lst_F ?_
    rw [cut_takeI (by omega)]
    have ep : ([isS "a", isS "b", isS "c"] : List Pr).take (1 + r).toNat = (abc3.take (1 + r).toNat).map fun y => isS y := by
      rw [List.map_take]
      rfl
    rw [ep]
    refine ⟨_, rfl, ⟨tk, ow, ⟨_, _, _, _, _, _, _, _, _, _, _, _, _, _, _, _, _, rfl⟩, rfl, et, ec, ?_, ?_, ?_⟩, fun i q Γ C hi hI => ?_, fun Γ C hI => ?_⟩
    · show ow.ds.map _ = tk.hs.map _
      rw [e0, e1]
      rfl
    · show tk.hs.map _ = _
      rw [e0]
      rfl
    · show ∀ g ∈ tk.hs.map _, OkG g
      rw [e0]
      exact fun g hg => by cases hg
    · obtain ⟨tk, ow, ⟨x6, x7, x8, x9, x10, x11, x12, x13, x14, x15, x16, x17, x18, x19, x20, x21, x22, rfl⟩, rfl, et, ec, egs, enm, hok⟩ := hI
      obtain ⟨nm, hnm, rfl⟩ := map_at hi
      have hnm3 : abc3[i]? = some nm := by
        rw [List.getElem?_take] at hnm
        split at hnm
        · exact hnm
        · cases hnm
      have i3 : i < 3 := (List.getElem?_eq_some_iff.mp hnm3).1
      have nne : nm ≠ "" := by
        have hm := List.mem_of_getElem? hnm3
        intro e
        rw [e] at hm
        revert hm
        decide +kernel
      have nnew : nm ∉ tk.names := by
        rw [enm]
        intro z
        obtain ⟨j, hj⟩ := List.mem_iff_getElem?.mp z
        rw [List.getElem?_take] at hj
        split at hj
        · rename_i hji
          have nd3 : abc3.Nodup := by decide +kernel
          have := (List.getElem?_inj (List.getElem?_eq_some_iff.mp hj).1 nd3).mp (hj.trans hnm3.symm)
          omega
        · cases hj
      have len : tk.hs.length = i := by
        have q := congrArg List.length enm
        simp only [List.length_map, List.length_take] at q
        have : abc3.length = 3 := rfl
        omega
      have lds : ow.ds.length = tk.hs.length := by
        have := congrArg List.length egs
        simpa using this
      refine eg_name 6 ?_ ndL -- name
      -- words = [word for word in ["x", "y", "z"] if _law_roll(dice, 2) == 0]
      refine tr_setLcL 8 7 ?_ ndL (blkOk_by (by show blkC lN (defScope sLaw) _ _ = true; decide +kernel)) rfl (fun s H Cc cl fp => pg_name ndL rfl (Or.inl rfl) (Or.inr rfl)) rfl
      refine ev_lst ?_
      refine ea_cons ?_
      refine ev_str ?_
      refine ea_cons ?_
      refine ev_str ?_
      refine ea_cons ?_
      refine ev_str ?_
      refine ea_nil ?_
      refine ⟨by show 3 ≤ sizeLine; decide, ?_⟩
      refine ⟨_, rfl, fun n C acc => C = LC b.K a d ow tk ∧ ∃ ws : List Str, ws.length ≤ n ∧ acc = ws.map (pr b.K), ⟨rfl, [], Nat.le_refl _, rfl⟩, fun n q Ci acc hq hI => ?_, fun Cn acc hI => ?_⟩
      · obtain ⟨rfl, ws, hws, rfl⟩ := hI
        have hn : n < 3 := (List.getElem?_eq_some_iff.mp hq).1
        obtain ⟨wd, hwd, rfl⟩ := map_at (l := (["x", "y", "z"] : List Str)) (f := fun y => isS y) hq
        intro s H Cc cl fp
        refine eif_one ?_
        refine et_cmp op_eqA rfl ?_
        refine ev_call GRl hr1 L.roll.g L.roll.kp L.roll.bd ?_
        refine ea_cons ?_
        refine ev_name 1 rfl ?_ -- dice
        refine ea_cons ?_
        refine ev_int ?_
        refine ea_nil ?_
        refine ⟨⟨d, 2⟩, oc b.K ow ++ tc b.K a.CT a.CH tk, ⟨by show (0 : Int) < 2; decide, by show (2 : Int) ≤ 100000000; decide⟩, rfl, List.Perm.refl _, ?_, fun _ _ z => z.elim⟩
        rintro C' ρ ⟨r, r0, r1, rfl, rfl⟩
        refine ev_int ?_
        walk_at "zeq"
        refine ⟨_, rfl, fun _ => ?_, fun _ => ⟨rfl, ws, by omega, rfl⟩⟩
        intro s H Cc cl fp
        refine ev_name 7 rfl ?_ -- word
        refine ⟨?_, rfl, ws ++ [wd], ?_, ?_⟩
        · rw [List.length_map]
          exact Nat.lt_of_le_of_lt (Nat.le_trans hws (Nat.le_of_lt hn)) (by decide)
        · rw [List.length_append, List.length_singleton]
          omega
        · rw [List.map_append]
          rfl
      · obtain ⟨rfl, ws0, _, rfl⟩ := hI
        -- words = words if words != [] else ["x"]
        refine tr_set 8 ?_ ndL
        refine Ev.imp (R := fun C1 p => C1 = LC b.K a d ow tk ∧ ∃ ws : List Str, ws ≠ [] ∧ p = rL (ws.map (pr b.K))) ?_ ?_
        · refine ev_ifx ?_
          refine et_cmp op_neA rfl ?_
          refine ev_name 8 rfl ?_ -- words
          refine ev_lst ?_
          refine ea_nil ?_
          refine ⟨by show 0 ≤ sizeLine; decide, ?_⟩
          refine okA_neT (α := List Str) (a := ws0) (b := []) (dat_F (a := ws0)) (dat_F (a := ([] : List Str))) (Nat.lt_of_le_of_lt (Nat.add_le_add_left (by decide : Datum.depth (List Str) ≤ 64) _) u64) ?_
          refine ⟨_, rfl, ?_⟩
          refine Z.bD (fun h1 => ?_) (fun h2 => ?_)
          · refine ev_name 8 rfl ?_ -- words
            exact ⟨rfl, ws0, h1, rfl⟩
          · refine ev_lst ?_
            refine ea_cons ?_
            refine ev_str ?_
            refine ea_nil ?_
            exact ⟨by show 1 ≤ sizeLine; decide, rfl, ["x"], fun z => (nomatch z), rfl⟩
        rintro C1 p ⟨rfl, ws, hne, rfl⟩
        -- teller.add(name, words)
        refine tr_expr ?_
        refine ev_meth GAd hr3 T.clT L.add.mt L.add.bd ?_
        refine ev_name 2 rfl ?_ -- teller
        refine ⟨ins_C (fns := tFs) (ps := [isR tk.d, isI tk.time, isI tk.count]) ((lc_pm (K := b.K) (a := a) (d := d) (ow := ow) (tk := tk)).mem_iff.mpr (List.Mem.head _)) (by decide +kernel), ?_⟩
        refine ea_cons ?_
        refine ev_name 6 rfl ?_ -- name
        refine ea_cons ?_
        refine ev_name 8 rfl ?_ -- words
        refine ea_nil ?_
        have good : AO.good ⟨tk, nm, ws⟩ = true := by
          unfold AO.good
          have h1 : decide (nm ∈ tk.hs.map fun h => h.g.name) = false := decide_eq_false nnew
          simp only [h1, hne, nne, decide_false, Bool.or_self, Bool.not_false]
        refine ⟨⟨tk, nm, ws⟩, cDi d :: oc b.K ow, by show tk.hs.length < 60; omega, rfl, lc_pm, ?_, fun cls C' ⟨z, _⟩ => absurd (good.symm.trans z) (by decide)⟩
        rintro C' ρ ⟨_, rfl, ad, l, pm⟩
        have pm2 : (C' ++ (cDi d :: oc b.K ow)).Perm (LC b.K a d ow { tk with hs := tk.hs ++ [⟨ad, l, g0 nm ws⟩] }) := (List.Perm.append_right _ pm).trans lc_pm.symm
        refine tr_perm pm2 ?_
        generalize etk : ({ tk with hs := tk.hs ++ [⟨ad, l, g0 nm ws⟩] } : TK) = tk'
        -- own[name] = {..}
        refine tr_sput u1 ?_
        refine ev_disp (ks := ["words", "held", "tries", "due", "state", "missed"]) (pps_cons pe_str pe_we (pps_cons pe_str pe_we (pps_cons pe_str pe_we (pps_cons pe_str pe_we (pps_cons pe_str pe_we (pps_cons pe_str pe_we pps_nil)))))) ?_ (by decide +kernel) (by decide)
        refine epl_cons ?_
        refine ev_name 8 rfl ?_ -- words
        refine epl_cons ?_
        refine ev_lst ?_
        refine ea_nil ?_
        refine ⟨by show 0 ≤ sizeLine; decide, ?_⟩
        refine epl_cons ?_
        refine ev_int ?_
        refine epl_cons ?_
        refine ev_int ?_
        refine epl_cons ?_
        refine ev_str ?_
        refine epl_cons ?_
        refine ev_int ?_
        refine epl_nil ?_
        refine ⟨rfl, fun dd => ?_⟩
        refine ev_name 3 rfl ?_ -- own
        refine ev_name 6 rfl ?_ -- name
        have hnk : (Sum.inr nm : Key) ∉ (kOd ow.ds).map Prod.fst := fun z => by
          rw [kOd_fst] at z
          obtain ⟨n2, hn2, e2⟩ := List.mem_map.mp z
          cases e2
          refine nnew ?_
          have e3 : ow.ds.map (fun x => x.g.name) = tk.names := by
            have e4 : ow.ds.map (fun x => x.g.name) = (ow.ds.map (·.g)).map (·.name) := by rw [List.map_map]; rfl
            rw [e4, show ow.ds.map (·.g) = tk.hs.map (·.g) from egs, List.map_map]
            rfl
          rw [← e3]
          exact hn2
        refine so_Dn (k := Sum.inr nm) 2 rfl (by rw [List.length_map, lds, len]; exact Nat.lt_trans i3 (by decide)) hnk ?_
        refine tr_perm (C' := LC b.K a d { ow with ds := ow.ds ++ [⟨dd, g0 nm ws⟩] } tk') ?_ ?_
        · have e1 : kOd (ow.ds ++ [⟨dd, g0 nm ws⟩]) = kOd ow.ds ++ [(Sum.inr nm, isR dd)] := by
            unfold kOd
            rw [List.map_append]
            rfl
          show List.Perm (cO b.K ⟨dd, g0 nm ws⟩ :: cDi d :: cK ow.od (kOd ow.ds ++ [(Sum.inr nm, isR dd)]) :: (ow.ds.map (cO b.K) ++ tc b.K a.CT a.CH tk')) (cDi d :: cK ow.od (kOd (ow.ds ++ [⟨dd, g0 nm ws⟩])) :: ((ow.ds ++ [(⟨dd, g0 nm ws⟩ : OD)]).map (cO b.K) ++ tc b.K a.CT a.CH tk'))
          rw [e1, List.map_append]
          exact permW _ _ _ _ _
        refine tr_nil ?_
        refine ⟨tk', { ow with ds := ow.ds ++ [⟨dd, g0 nm ws⟩] }, ?_, rfl, ?_, ?_, ?_, ?_, ?_⟩
        · subst etk
          exact ⟨_, _, _, _, _, _, _, _, _, _, _, _, _, _, _, _, _, rfl⟩
        · subst etk
          exact et
        · subst etk
          exact ec
        · subst etk
          show (ow.ds ++ [(⟨dd, g0 nm ws⟩ : OD)]).map (·.g) = (tk.hs ++ [(⟨ad, l, g0 nm ws⟩ : HK)]).map (·.g)
          rw [List.map_append, List.map_append, show ow.ds.map (·.g) = tk.hs.map (·.g) from egs]
          rfl
        · subst etk
          show (tk.hs ++ [(⟨ad, l, g0 nm ws⟩ : HK)]).map (fun h => h.g.name) = _
          rw [List.map_append, show tk.hs.map (fun h => h.g.name) = abc3.take i from enm, List.take_add_one, hnm3]
          rfl
        · subst etk
          intro g hg
          have hg : g ∈ (tk.hs ++ [(⟨ad, l, g0 nm ws⟩ : HK)]).map (·.g) := hg
          rw [List.map_append] at hg
          rcases List.mem_append.mp hg with z | z
          · exact hok g z
          · rw [List.map_cons, List.map_nil, List.mem_singleton] at z
            rw [z]
            exact g0_ok nm ws
    · obtain ⟨tk, ow, g, e, et, ec, egs, enm, hok⟩ := hI
      refine ⟨tk, ow, g, e, et, ec, egs, ?_, ?_, hok⟩
      · rw [enm]
        exact abc_take _
      · have q := congrArg List.length enm
        simp only [List.length_map, List.length_take] at q
        have : abc3.length = 3 := rfl
        omega
  · rintro Γ C ⟨tk, ow, g, rfl, et, ec, sy⟩
    exact k _ _ _ g et ec sy
end
end K17

end
section
set_option Elab.async false
set_option linter.all false
set_option maxRecDepth 100000
open PySem PySem.Spec PyProof.Rows L2 Z
namespace K17
open PySem.W (Datum Tup)
open Rep (pr)
/-! short rows -/
local macro_rules | `(tactic| walk_at "zmem") => `(tactic| first
  | exact List.Mem.head _
  | exact List.Mem.tail _ (List.Mem.head _)
  | exact List.Mem.tail _ (List.Mem.tail _ (List.Mem.head _))
  | exact List.Mem.tail _ (List.Mem.tail _ (List.Mem.tail _ (List.Mem.head _)))
  | exact List.Mem.tail _ (List.Mem.tail _ (List.Mem.tail _ (List.Mem.tail _ (List.Mem.head _)))))
local macro_rules | `(tactic| walk_at "zlst") => `(tactic| first | exact lst_F | exact lst_S | exact lst_C (by walk_at "zmem") | assumption)
local macro_rules | `(tactic| walk_at "ztup") => `(tactic| first | exact tup_F | assumption)
local macro_rules | `(tactic| walk_at "zdic") => `(tactic| first | exact dic_F | exact dic_C (by walk_at "zmem") | exact dic_Z (by walk_at "zmem") | assumption)
local macro_rules | `(tactic| walk_at "zside") => `(tactic| first | assumption | decide | (show _ ≤ sizeLine; decide) | omega)
local macro_rules | `(tactic| walk_at "zadd") => `(tactic| first | refine okA_addI ?_ | refine okA_addS (by walk_at "zside") ?_ | refine okA_addL (by walk_at "zlst") (by walk_at "zlst") (by walk_at "zside") ?_)
local macro_rules | `(tactic| walk_at "zsub") => `(tactic| refine ok_rI0 ?_)
local macro_rules | `(tactic| walk_at "zmul") => `(tactic| first | refine okA_mulI (by walk_at "zside") ?_ | refine okA_mulL (by walk_at "zside") (by walk_at "zside") (by walk_at "zside") ?_)
local macro_rules | `(tactic| walk_at "zdiv") => `(tactic| refine ok_rI (by first | assumption | exact ⟨by decide, by decide⟩) ?_)
local macro_rules | `(tactic| walk_at "zmod") => `(tactic| refine ok_rI (by first | assumption | decide) ?_)
local macro_rules | `(tactic| walk_at "zpow") => `(tactic| refine ok_rI (by exact ⟨by decide, by decide, by decide⟩) ?_)
local macro_rules | `(tactic| walk_at "zlt") => `(tactic| refine ok_rI0 ?_)
local macro_rules | `(tactic| walk_at "zeq") => `(tactic| refine okA_eqS rfl ?_)
local macro_rules | `(tactic| walk_at "zne") => `(tactic| refine okA_neS rfl ?_)
local macro_rules | `(tactic| walk_at "zix") => `(tactic| first | refine okA_ixL (by walk_at "zlst") (by rfl) ?_ | refine okA_ixT (by walk_at "ztup") (by rfl) ?_ | refine okA_ixD (by walk_at "zdic") (by assumption) ?_)
local macro_rules | `(tactic| walk_at "zfld") => `(tactic| refine ⟨_, _, _, rfl, by walk_at "zmem", rfl, ?_⟩)
local macro_rules | `(tactic| walk_at "zc_len") => `(tactic| first | refine okA_lenL (by walk_at "zlst") ?_ | refine okA_lenT (by walk_at "ztup") ?_ | refine okA_lenD (by walk_at "zdic") ?_ | refine okA_lenS (by walk_at "zside") ?_)
local macro_rules | `(tactic| walk_at "zc_int") => `(tactic| first | refine ok_intI ?_ | refine ok_intB ?_)
local macro_rules | `(tactic| walk_at "zc_abs") => `(tactic| refine ok_abs ?_)
local macro_rules | `(tactic| walk_at "zc_str") => `(tactic| refine ok_strI (by walk_at "zside") ?_)
local macro_rules | `(tactic| walk_at "zso") => `(tactic| first
  | refine so_L (i := 0) rfl rfl ?_ | refine so_L (i := 1) rfl rfl ?_ | refine so_L (i := 2) rfl rfl ?_ | refine so_L (i := 3) rfl rfl ?_)
local macro_rules | `(tactic| walk_at "zuse") => `(tactic| apply et_use)
local macro_rules | `(tactic| walk_at "zev") => `(tactic| apply ev_use)
local macro_rules | `(tactic| walk_at "zand") => `(tactic| apply etp_and)
local macro_rules | `(tactic| walk_at "zor") => `(tactic| apply etp_or)
local macro_rules | `(tactic| walk_at "znot") => `(tactic| apply etp_not)
def listOf : Stmt → List Expr
  | .Assign _ (.List es _) _ => es
  | _ => []
abbrev eB (n : Nat) : Expr := (listOf (nth (defBody sLaw) 3)).getD n (.Constant .none 0 ⟨0, 0, 0, 0⟩)
def qBad (K : PySem.W.Frag) (CT CH CE : Addr) : Prom TK := { ps := fun _ => [], C := fun tk => tc K CT CH tk, pre := fun tk => tk.names = (["a"] : List Str), R := fun _ _ _ => False, XP := fun tk cls C => cls = .ref CE ∧ C = tc K CT CH tk }
section
variable {b : Bn} {a : Ads} {ns : List Int} {P : Po}
abbrev capF (b : Bn) (tk : TK) : List (Addr × Pr) := [(cellAt b.j.X "fresh", isR tk.t)]
theorem clo_at (S : Scope) (hS : S.names = ([("fresh", NameKind.free)] : List (Str × NameKind))) : CloAt (cloFrom b.j.X.env.cells S.names []) ["fresh"] [cellAt b.j.X "fresh"] := by
  have ecl : cloFrom b.j.X.env.cells S.names [] = ([("fresh", cellAt b.j.X "fresh")] : List (Str × Addr)) := by
    rw [hS]
    rfl
  rw [ecl]
  refine ⟨rfl, by simp, fun i y e => ?_, fun y c e => ?_⟩
  · match i, e with
    | 0, e =>
      simp at e
      subst e
      refine ⟨_, rfl, ?_⟩
      simp
    | n + 1, e => simp at e
  · rw [List.lookup_cons] at e
    split at e
    · rename_i h
      have h := beq_iff_eq.mp h
      cases e
      exact ⟨0, by rw [h]; rfl, rfl⟩
    · cases e
abbrev CloB (b : Bn) (a : Ads) (n : Nat) (c' : Addr) : Prop := CloOk b.Pg b.w b.K b.mg b.base 4 (lamG b.j.X (lamP (eB n)) (lamS (eB n)) c') (lamB (eB n)) (((qBad b.K a.CT a.CH a.CE).cap (capF b)).sp b.tb)
theorem add_bad {o : AO} (h : o.tk.names = (["a"] : List Str)) (hb : o.name = "a" ∨ o.ws = [] ∨ o.name = "") : o.good = false := by
  unfold AO.good
  have h : (o.tk.hs.map fun h => h.g.name) = (["a"] : List Str) := h
  rw [h]
  rcases hb with e | e | e <;> simp [e]
theorem bad_add (L : LawT b.K b.mg a) {f : Addr} {A : Around} {outer : List Env} {s : Shared} {H : Hp} {E : XK} {G : NdefX.NF} {tk : TK} (hr : Room 3 (A.deeper (NdefX.envF G f s.heap.objs.size))) (htk : tk.names = (["a"] : List Str)) (nm : Str) (ws : List Str) (hb : nm = "a" ∨ ws = [] ∨ nm = "") :
    ∀ R : Ps, Away ⟨NdefX.ncx (L2.CX b.Pg b.w) b.Pg b.w b.K b.mg b.base ["fresh"] G f A outer s H E, b.tb, fun cls C => (qBad b.K a.CT a.CH a.CE).XP tk cls C⟩ (pAdd b.K a.CT a.CH a.CE) ⟨tk, nm, ws⟩ [] R := fun R => by
  have hg := add_bad (o := ⟨tk, nm, ws⟩) htk hb
  refine ⟨fun C' ρ ⟨z, _⟩ => absurd (hg.symm.trans z) (by decide), fun cls C' ⟨_, e1, e2⟩ => ?_⟩
  rw [List.append_nil]
  exact ⟨e1, e2⟩
theorem len1 {tk : TK} (h : tk.names = (["a"] : List Str)) : tk.hs.length < 60 := by
  have := congrArg List.length h
  simp only [List.length_map, List.length_cons, List.length_nil] at this
  omega
theorem bad0 (L : LawT b.K b.mg a) (c' : Addr) : CloB b a 0 c' := by
  have GHI := ok_hinit (Pg := b.Pg) (w := b.w) (base := b.base) (tb := b.tb) L.hi.fn L.T
  have GAd := ok_add (Pg := b.Pg) (w := b.w) (base := b.base) (tb := b.tb) L.add.fn L.T L.mkH GHI L.hi.bd
  refine clo_ok (as := [cellAt b.j.X "fresh"]) (N := ["fresh"]) (ps := []) (fr := ["fresh"]) (fun o h => rfl) (NdefX.nscope_by (by show NdefX.nscB ["fresh"] [] ["fresh"] (lamS (eB 0)) = true; decide +kernel)) (clo_at _ rfl) (fun pm ctv us hl => match us, hl with | [], _ => rfl) (fun _ => rfl) fun tk f A outer s H E hpre hr => ?_
  have hpre : tk.names = (["a"] : List Str) := hpre
  refine ev_meth GAd hr L.T.clT L.add.mt L.add.bd ?_
  refine ev_name 0 rfl ?_
  refine ⟨ins_C (fns := tFs) (List.Mem.head _) (by decide +kernel), ?_⟩
  refine ea_cons ?_
  refine ev_str ?_
  refine ea_cons ?_
  refine ev_lst ?_
  refine ea_cons ?_
  refine ev_str ?_
  refine ea_nil ?_
  refine ⟨by show 1 ≤ sizeLine; decide, ?_⟩
  refine ea_nil ?_
  exact ⟨⟨tk, "a", ["x"]⟩, [], len1 hpre, rfl, by rw [List.append_nil]; exact List.Perm.refl _, bad_add L hr hpre "a" ["x"] (.inl rfl) _⟩
theorem bad1 (L : LawT b.K b.mg a) (c' : Addr) : CloB b a 1 c' := by
  have GHI := ok_hinit (Pg := b.Pg) (w := b.w) (base := b.base) (tb := b.tb) L.hi.fn L.T
  have GAd := ok_add (Pg := b.Pg) (w := b.w) (base := b.base) (tb := b.tb) L.add.fn L.T L.mkH GHI L.hi.bd
  refine clo_ok (as := [cellAt b.j.X "fresh"]) (N := ["fresh"]) (ps := []) (fr := ["fresh"]) (fun o h => rfl) (NdefX.nscope_by (by show NdefX.nscB ["fresh"] [] ["fresh"] (lamS (eB 1)) = true; decide +kernel)) (clo_at _ rfl) (fun pm ctv us hl => match us, hl with | [], _ => rfl) (fun _ => rfl) fun tk f A outer s H E hpre hr => ?_
  have hpre : tk.names = (["a"] : List Str) := hpre
  refine ev_meth GAd hr L.T.clT L.add.mt L.add.bd ?_
  refine ev_name 0 rfl ?_
  refine ⟨ins_C (fns := tFs) (List.Mem.head _) (by decide +kernel), ?_⟩
  refine ea_cons ?_
  refine ev_str ?_
  refine ea_cons ?_
  refine ev_lst ?_
  refine ea_nil ?_
  refine ⟨by show 0 ≤ sizeLine; decide, ?_⟩
  refine ea_nil ?_
  exact ⟨⟨tk, "b", []⟩, [], len1 hpre, rfl, by rw [List.append_nil]; exact List.Perm.refl _, bad_add L hr hpre "b" [] (.inr (.inl rfl)) _⟩
theorem bad2 (L : LawT b.K b.mg a) (c' : Addr) : CloB b a 2 c' := by
  have GHI := ok_hinit (Pg := b.Pg) (w := b.w) (base := b.base) (tb := b.tb) L.hi.fn L.T
  have GAd := ok_add (Pg := b.Pg) (w := b.w) (base := b.base) (tb := b.tb) L.add.fn L.T L.mkH GHI L.hi.bd
  refine clo_ok (as := [cellAt b.j.X "fresh"]) (N := ["fresh"]) (ps := []) (fr := ["fresh"]) (fun o h => rfl) (NdefX.nscope_by (by show NdefX.nscB ["fresh"] [] ["fresh"] (lamS (eB 2)) = true; decide +kernel)) (clo_at _ rfl) (fun pm ctv us hl => match us, hl with | [], _ => rfl) (fun _ => rfl) fun tk f A outer s H E hpre hr => ?_
  have hpre : tk.names = (["a"] : List Str) := hpre
  refine ev_meth GAd hr L.T.clT L.add.mt L.add.bd ?_
  refine ev_name 0 rfl ?_
  refine ⟨ins_C (fns := tFs) (List.Mem.head _) (by decide +kernel), ?_⟩
  refine ea_cons ?_
  refine ev_str ?_
  refine ea_cons ?_
  refine ev_lst ?_
  refine ea_cons ?_
  refine ev_str ?_
  refine ea_nil ?_
  refine ⟨by show 1 ≤ sizeLine; decide, ?_⟩
  refine ea_nil ?_
  exact ⟨⟨tk, "", ["x"]⟩, [], len1 hpre, rfl, by rw [List.append_nil]; exact List.Perm.refl _, bad_add L hr hpre "" ["x"] (.inr (.inr rfl)) _⟩
theorem za : ¬ ("z" : Str) ∈ (["a"] : List Str) := by decide +kernel
theorem bad3 (L : LawT b.K b.mg a) (c' : Addr) : CloB b a 3 c' := by
  have GHk := ok_hook (Pg := b.Pg) (w := b.w) (base := b.base) (tb := b.tb) L.hook.fn L.T
  refine clo_ok (as := [cellAt b.j.X "fresh"]) (N := ["fresh"]) (ps := []) (fr := ["fresh"]) (fun o h => rfl) (NdefX.nscope_by (by show NdefX.nscB ["fresh"] [] ["fresh"] (lamS (eB 3)) = true; decide +kernel)) (clo_at _ rfl) (fun pm ctv us hl => match us, hl with | [], _ => rfl) (fun _ => rfl) fun tk f A outer s H E hpre hr => ?_
  have hpre : tk.names = (["a"] : List Str) := hpre
  refine ev_meth GHk (hr.mono (by decide)) L.T.clT L.hook.mt L.hook.bd ?_
  refine ev_name 0 rfl ?_
  refine ⟨ins_C (fns := tFs) (List.Mem.head _) (by decide +kernel), ?_⟩
  refine ea_cons ?_
  refine ev_str ?_
  refine ea_nil ?_
  refine ⟨⟨tk, "z"⟩, [], ?_, rfl, by rw [List.append_nil]; exact List.Perm.refl _, ?_, ?_⟩
  · show tk.names.Nodup
    rw [hpre]
    decide +kernel
  · rintro C' ρ ⟨_, i, h, hi, en, _⟩
    have hi : tk.hs[i]? = some h := hi
    have en : h.g.name = "z" := en
    refine (za ?_).elim
    rw [← hpre, ← en]
    exact List.mem_map.mpr ⟨h, List.mem_of_getElem? hi, rfl⟩
  · rintro cls C' ⟨_, e1, e2⟩
    rw [List.append_nil]
    exact ⟨e1, e2⟩
theorem bad4 (L : LawT b.K b.mg a) (c' : Addr) : CloB b a 4 c' := by
  have GHk := ok_hook (Pg := b.Pg) (w := b.w) (base := b.base) (tb := b.tb) L.hook.fn L.T
  have GSw := ok_switch (Pg := b.Pg) (w := b.w) (base := b.base) (tb := b.tb) L.sw.fn L.T GHk L.hook.mt L.hook.bd
  refine clo_ok (as := [cellAt b.j.X "fresh"]) (N := ["fresh"]) (ps := []) (fr := ["fresh"]) (fun o h => rfl) (NdefX.nscope_by (by show NdefX.nscB ["fresh"] [] ["fresh"] (lamS (eB 4)) = true; decide +kernel)) (clo_at _ rfl) (fun pm ctv us hl => match us, hl with | [], _ => rfl) (fun _ => rfl) fun tk f A outer s H E hpre hr => ?_
  have hpre : tk.names = (["a"] : List Str) := hpre
  refine ev_meth GSw (hr.mono (by decide)) L.T.clT L.sw.mt L.sw.bd ?_
  refine ev_name 0 rfl ?_
  refine ⟨ins_C (fns := tFs) (List.Mem.head _) (by decide +kernel), ?_⟩
  refine ea_cons ?_
  refine ev_str ?_
  refine ea_cons ?_
  refine ev_bl ?_
  refine ea_nil ?_
  refine ⟨⟨tk, "z", true⟩, [], ?_, rfl, by rw [List.append_nil]; exact List.Perm.refl _, ?_, ?_⟩
  · show Abc tk.names
    rw [hpre]
    exact .inr (.inl rfl)
  · rintro C' ρ ⟨_, i, h, l, hi, en, _⟩
    have hi : tk.hs[i]? = some h := hi
    have en : h.g.name = "z" := en
    refine (za ?_).elim
    rw [← hpre, ← en]
    exact List.mem_map.mpr ⟨h, List.mem_of_getElem? hi, rfl⟩
  · rintro cls C' ⟨_, e1, e2⟩
    rw [List.append_nil]
    exact ⟨e1, e2⟩
end
end K17

end
section
set_option Elab.async false
set_option linter.all false
set_option maxRecDepth 100000
open PySem PySem.Spec PyProof.Rows L2 Z
namespace K17
open PySem.W (Datum Tup)
open Rep (pr)
/-! short rows -/
local macro_rules | `(tactic| walk_at "zmem") => `(tactic| first
  | exact List.Mem.head _
  | exact List.Mem.tail _ (List.Mem.head _)
  | exact List.Mem.tail _ (List.Mem.tail _ (List.Mem.head _))
  | exact List.Mem.tail _ (List.Mem.tail _ (List.Mem.tail _ (List.Mem.head _)))
  | exact List.Mem.tail _ (List.Mem.tail _ (List.Mem.tail _ (List.Mem.tail _ (List.Mem.head _)))))
local macro_rules | `(tactic| walk_at "zlst") => `(tactic| first | exact lst_F | exact lst_S | exact lst_C (by walk_at "zmem") | assumption)
local macro_rules | `(tactic| walk_at "ztup") => `(tactic| first | exact tup_F | assumption)
local macro_rules | `(tactic| walk_at "zdic") => `(tactic| first | exact dic_F | exact dic_C (by walk_at "zmem") | exact dic_Z (by walk_at "zmem") | assumption)
local macro_rules | `(tactic| walk_at "zside") => `(tactic| first | assumption | decide | (show _ ≤ sizeLine; decide) | omega)
local macro_rules | `(tactic| walk_at "zadd") => `(tactic| first | refine okA_addI ?_ | refine okA_addS (by walk_at "zside") ?_ | refine okA_addL (by walk_at "zlst") (by walk_at "zlst") (by walk_at "zside") ?_)
local macro_rules | `(tactic| walk_at "zsub") => `(tactic| refine ok_rI0 ?_)
local macro_rules | `(tactic| walk_at "zmul") => `(tactic| first | refine okA_mulI (by walk_at "zside") ?_ | refine okA_mulL (by walk_at "zside") (by walk_at "zside") (by walk_at "zside") ?_)
local macro_rules | `(tactic| walk_at "zdiv") => `(tactic| refine ok_rI (by first | assumption | exact ⟨by decide, by decide⟩) ?_)
local macro_rules | `(tactic| walk_at "zmod") => `(tactic| refine ok_rI (by first | assumption | decide) ?_)
local macro_rules | `(tactic| walk_at "zpow") => `(tactic| refine ok_rI (by exact ⟨by decide, by decide, by decide⟩) ?_)
local macro_rules | `(tactic| walk_at "zlt") => `(tactic| refine ok_rI0 ?_)
local macro_rules | `(tactic| walk_at "zeq") => `(tactic| refine okA_eqS rfl ?_)
local macro_rules | `(tactic| walk_at "zne") => `(tactic| refine okA_neS rfl ?_)
local macro_rules | `(tactic| walk_at "zix") => `(tactic| first | refine okA_ixL (by walk_at "zlst") (by rfl) ?_ | refine okA_ixT (by walk_at "ztup") (by rfl) ?_ | refine okA_ixD (by walk_at "zdic") (by assumption) ?_)
local macro_rules | `(tactic| walk_at "zfld") => `(tactic| refine ⟨_, _, _, rfl, by walk_at "zmem", rfl, ?_⟩)
local macro_rules | `(tactic| walk_at "zc_len") => `(tactic| first | refine okA_lenL (by walk_at "zlst") ?_ | refine okA_lenT (by walk_at "ztup") ?_ | refine okA_lenD (by walk_at "zdic") ?_ | refine okA_lenS (by walk_at "zside") ?_)
local macro_rules | `(tactic| walk_at "zc_int") => `(tactic| first | refine ok_intI ?_ | refine ok_intB ?_)
local macro_rules | `(tactic| walk_at "zc_abs") => `(tactic| refine ok_abs ?_)
local macro_rules | `(tactic| walk_at "zc_str") => `(tactic| refine ok_strI (by walk_at "zside") ?_)
local macro_rules | `(tactic| walk_at "zso") => `(tactic| first
  | refine so_L (i := 0) rfl rfl ?_ | refine so_L (i := 1) rfl rfl ?_ | refine so_L (i := 2) rfl rfl ?_ | refine so_L (i := 3) rfl rfl ?_)
local macro_rules | `(tactic| walk_at "zuse") => `(tactic| apply et_use)
local macro_rules | `(tactic| walk_at "zev") => `(tactic| apply ev_use)
local macro_rules | `(tactic| walk_at "zand") => `(tactic| apply etp_and)
local macro_rules | `(tactic| walk_at "zor") => `(tactic| apply etp_or)
local macro_rules | `(tactic| walk_at "znot") => `(tactic| apply etp_not)
def GamAny (Γ : Gm) : Prop := ∃ x0 x1 x2 x3 x4 x5 x6 x7 x8 x9 x10 x11 x12 x13 x14 x15 x16 x17 x18 x19 x20 x21 x22 : Option Pr, Γ = [x0, x1, x2, x3, x4, x5, x6, x7, x8, x9, x10, x11, x12, x13, x14, x15, x16, x17, x18, x19, x20, x21, x22]
theorem gam_any {Γ : Gm} (h : Γ.length = 23) : GamAny Γ := by
  match Γ, h with
  | [x0, x1, x2, x3, x4, x5, x6, x7, x8, x9, x10, x11, x12, x13, x14, x15, x16, x17, x18, x19, x20, x21, x22], _ => exact ⟨_, _, _, _, _, _, _, _, _, _, _, _, _, _, _, _, _, _, _, _, _, _, _, rfl⟩
abbrev lTail : List Stmt := [nth (defBody sLaw) 1, nth (defBody sLaw) 2, nth (defBody sLaw) 3, nth (defBody sLaw) 4]
section
variable {b : Bn} {a : Ads} {ns : List Int} {P : Po}
/-- the refused ones, by their place -/
def rB (b : Bn) (n : Nat) : Pr := rFu (lamG b.j.X (lamP (eB n)) (lamS (eB n))) (lamB (eB n))
theorem tail_ok (L : LawT b.K b.mg a) {c Pt : Addr} (M : LamT b c Pt) (hr : Room 7 b.j.X.A) {Γ : Gm} (g : GamAny Γ) (k : ∀ C', P.rt C' (isB true)) : Tr b.j Γ [] lTail P := by
  obtain ⟨x0, x1, x2, x3, x4, x5, x6, x7, x8, x9, x10, x11, x12, x13, x14, x15, x16, x17, x18, x19, x20, x21, x22, rfl⟩ := g
  have T := L.T
  have GHI := ok_hinit (Pg := b.Pg) (w := b.w) (base := b.base) (tb := b.tb) L.hi.fn T
  have GTI := ok_tinit (Pg := b.Pg) (w := b.w) (base := b.base) (tb := b.tb) L.ti.fn T
  have GAd := ok_add (Pg := b.Pg) (w := b.w) (base := b.base) (tb := b.tb) L.add.fn T L.mkH GHI L.hi.bd
  have GHap := ok_happen (Pg := b.Pg) (w := b.w) (base := b.base) (tb := b.tb) L.hap.fn T
  have hr1 : Room 1 b.j.X.A := hr.mono (by decide)
  have hr2 : Room 2 b.j.X.A := hr.mono (by decide)
  have hr3 : Room 3 b.j.X.A := hr.mono (by decide)
  have hr5 : Room 5 b.j.X.A := hr.mono (by decide)
  have u64 := hr.units
  -- fresh = Teller()
  refine tr_set 20 ?_ ndL
  refine ev_make0 L.mkT GTI hr2 T.gT L.ti.bd fun t => ?_
  refine ⟨t, [], True.intro, rfl, List.Perm.refl _, ?_, fun _ _ z => z.elim⟩
  rintro C' ρ ⟨rfl, td, rfl⟩
  refine ⟨rfl, ?_⟩
  refine tr_perm (C' := tc b.K a.CT a.CH ⟨t, td, 0, 0, []⟩) (List.Perm.swap _ _ _) ?_
  -- fresh.add("a", ["x"])
  refine tr_expr ?_
  refine ev_meth GAd hr3 T.clT L.add.mt L.add.bd ?_
  refine ev_name 20 rfl ?_
  refine ⟨ins_C (fns := tFs) (List.Mem.head _) (by decide +kernel), ?_⟩
  refine ea_cons ?_
  refine ev_str ?_
  refine ea_cons ?_
  refine ev_lst ?_
  refine ea_cons ?_
  refine ev_str ?_
  refine ea_nil ?_
  refine ⟨by show 1 ≤ sizeLine; decide, ?_⟩
  refine ea_nil ?_
  have good : AO.good ⟨⟨t, td, 0, 0, []⟩, "a", ["x"]⟩ = true := by
    show (!(decide (("a" : Str) ∈ ([] : List Str)) || (decide ((["x"] : List Str) = []) || decide (("a" : Str) = "")))) = true
    decide +kernel
  refine ⟨⟨⟨t, td, 0, 0, []⟩, "a", ["x"]⟩, [], by show (0 : Nat) < 60; decide, rfl, by rw [List.append_nil]; exact List.Perm.refl _, ?_, fun cls C' ⟨z, _⟩ => absurd (good.symm.trans z) (by decide)⟩
  rintro C' ρ ⟨_, rfl, ad, l, pm⟩
  rw [List.append_nil]
  refine tr_perm pm ?_
  generalize etk : ({ t := t, d := td, time := 0, count := 0, hs := [] ++ [⟨ad, l, g0 "a" ["x"]⟩] } : TK) = tk
  have e1 : t = tk.t := by rw [← etk]
  have e2 : tk.names = (["a"] : List Str) := by rw [← etk]; rfl
  have e3 : tk.count = 0 := by rw [← etk]
  have e4 : ∀ g ∈ tk.gs, OkG g := by
    rw [← etk]
    intro g hg
    have hg : g ∈ [g0 "a" ["x"]] := hg
    rw [List.mem_singleton.mp hg]
    exact g0_ok _ _
  -- bad = [lambda: .., ..]
  have hm : (Pt, fun _ _ => b.j.X.env.qual ++ "<lambda>") ∈ b.j.tb.nt := by
    show _ ∈ b.tb.nt
    rw [M.tb]
    exact List.Mem.head _
  have hu : ∀ p ∈ b.j.tb.nt, p.1 = Pt → p.2 = fun _ _ => b.j.X.env.qual ++ "<lambda>" := fun p hp e => by
    have hp : p ∈ b.tb.nt := hp
    rw [M.tb] at hp
    rw [List.mem_singleton.mp hp]
  have hfr : ∀ n, (lamS (eB n)).names = ([("fresh", NameKind.free)] : List (Str × NameKind)) → ∀ y ∈ (lamS (eB n)).names, y.2 = NameKind.free → b.j.X.env.scope.names.lookup y.1 = some .cell ∨ b.j.X.env.scope.names.lookup y.1 = some .free := fun n e y hy _ => by
    rw [e] at hy
    rw [List.mem_singleton.mp hy]
    exact .inl rfl
  refine tr_set 18 ?_ ndL
  refine ev_lst ?_
  refine ea_cons ?_
  refine ev_lam (P := Pt) hm rfl hu M.TB M.cdv ?_ (hfr 0 rfl)
  refine ea_cons ?_
  refine ev_lam (P := Pt) hm rfl hu M.TB M.cdv ?_ (hfr 1 rfl)
  refine ea_cons ?_
  refine ev_lam (P := Pt) hm rfl hu M.TB M.cdv ?_ (hfr 2 rfl)
  refine ea_cons ?_
  refine ev_lam (P := Pt) hm rfl hu M.TB M.cdv ?_ (hfr 3 rfl)
  refine ea_cons ?_
  refine ev_lam (P := Pt) hm rfl hu M.TB M.cdv ?_ (hfr 4 rfl)
  refine ea_nil ?_
  refine ⟨by show 5 ≤ sizeLine; decide, ?_⟩
  -- return [1 for f in bad if _law_told(f) != "HookError"] == [] and ..
  refine tr_ret ?_
  refine ev_and ?_
  refine ev_cmp op_eqA rfl ?_
  refine ev_lcX 22 [(20, "fresh")] ⟨?_, by decide +kernel⟩ ?_ ndL (blkOk_by (by show blkC lN (defScope sLaw) _ _ = true; decide +kernel)) (fun q hq => by rw [List.mem_singleton.mp hq]; decide +kernel) rfl (fun s H Cc cl fp => pg_name ndL rfl (Or.inl rfl) (Or.inr rfl))
  · intro q hq
    rw [List.mem_singleton.mp hq]
    exact ⟨rfl, rfl, rfl⟩
  refine ev_name 18 rfl ?_ -- bad
  refine ⟨[rB b 0, rB b 1, rB b 2, rB b 3, rB b 4], rfl, [(cellAt b.j.X "fresh", isR t)], .cons ⟨rfl, rfl⟩ .nil, fun n C acc => C = capsC [(cellAt b.j.X "fresh", isR t)] ++ tc b.K a.CT a.CH tk ∧ acc = [], ⟨rfl, rfl⟩, fun n q Ci acc hq hI => ?_, fun Cn acc hI => ?_⟩
  · obtain ⟨rfl, rfl⟩ := hI
    -- one turn, the n-th
    have hq' : ∃ m, (∀ c', CloB b a m c') ∧ q = rB b m := by
      match n, hq with
      | 0, hq => exact ⟨0, bad0 L, (Option.some.inj hq).symm⟩
      | 1, hq => exact ⟨1, bad1 L, (Option.some.inj hq).symm⟩
      | 2, hq => exact ⟨2, bad2 L, (Option.some.inj hq).symm⟩
      | 3, hq => exact ⟨3, bad3 L, (Option.some.inj hq).symm⟩
      | 4, hq => exact ⟨4, bad4 L, (Option.some.inj hq).symm⟩
      | n + 5, hq => cases hq
    obtain ⟨m, GC, rfl⟩ := hq'
    have GT := ok_told (Pg := b.Pg) (w := b.w) (base := b.base) (tb := b.tb) L.told.fn T GC (fun _ => rfl)
    intro s H Cc cl fp
    refine eif_one ?_
    refine et_cmp op_neA rfl ?_
    refine ev_call GT hr5 L.told.g L.told.kp L.told.bd ?_
    refine ea_cons ?_
    refine ev_name 22 rfl ?_ -- f
    refine ea_nil ?_
    refine ⟨tk, [], ⟨e2, rfl, ?_⟩, rfl, ?_, ?_, fun _ _ z => z.elim⟩
    · rintro cls C ⟨C'', _, e, _⟩
      exact e
    · rw [List.append_nil]
      show List.Perm _ (capsC (capF b tk) ++ tc b.K a.CT a.CH tk)
      rw [show capF b tk = [(cellAt b.j.X "fresh", isR t)] by show [(_, isR tk.t)] = _; rw [← e1]]
    · rintro C' ρ (⟨C'', _, z⟩ | ⟨⟨cls, C'', rfl, _, rfl⟩, rfl⟩)
      · exact z.elim
      · rw [List.append_nil]
        refine ev_str ?_
        walk_at "zne"
        refine ⟨_, rfl, ?_⟩
        rw [show (!decide (V.str "HookError" = V.str "HookError")) = false by simp]
        refine bF ⟨?_, rfl⟩
        show capsC (capF b tk) ++ _ = _
        rw [show capF b tk = [(cellAt b.j.X "fresh", isR t)] by show [(_, isR tk.t)] = _; rw [← e1]]
  · obtain ⟨rfl, rfl⟩ := hI
    refine ⟨tc b.K a.CT a.CH tk, List.Perm.refl _, ?_⟩
    refine ev_lst ?_
    refine ea_nil ?_
    refine ⟨by show 0 ≤ sizeLine; decide, ?_⟩
    refine okA_eqT (α := List Int) (a := []) (b := []) (dat_F (a := ([] : List Int))) (dat_F (a := ([] : List Int))) (Nat.lt_of_le_of_lt (Nat.add_le_add_left (by decide : Datum.depth (List Int) ≤ 64) _) u64) ?_
    refine ⟨_, rfl, ?_⟩
    refine ⟨fun _ => ?_, fun z => absurd z (by decide)⟩
    -- Hook("a", ["x"]).state == "on"
    refine ev_and ?_
    refine ev_cmp op_eqA rfl ?_
    refine ev_fld 5 T.clH T.nState nodH rfl ?_
    refine ev_make L.mkH GHI hr2 T.gH L.hi.bd ?_
    refine ea_cons ?_
    refine ev_str ?_
    refine ea_cons ?_
    refine ev_lst ?_
    refine ea_cons ?_
    refine ev_str ?_
    refine ea_nil ?_
    refine ⟨by show 1 ≤ sizeLine; decide, ?_⟩
    refine ea_nil ?_
    refine fun h => ⟨⟨h, "a", ["x"]⟩, tc b.K a.CT a.CH tk, True.intro, rfl, List.Perm.refl _, ?_, fun _ _ z => z.elim⟩
    rintro C' ρ ⟨rfl, l2, rfl⟩
    refine ⟨rfl, ?_⟩
    refine ⟨_, _, _, rfl, List.Mem.tail _ (List.Mem.head _), rfl, ?_⟩
    refine ev_str ?_
    walk_at "zeq"
    refine ⟨_, rfl, fun _ => ?_, fun z => absurd z (by show ¬ decide (V.str "on" = V.str "on") = false; simp)⟩
    -- fresh.happen("q", "t") == 1
    refine ev_and1 ?_
    refine ev_keep (C' := tc b.K a.CT a.CH tk) (D' := [cHl b.K ⟨h, l2, g0 "a" ["x"]⟩, cHk b.K a.CH ⟨h, l2, g0 "a" ["x"]⟩]) (List.perm_append_comm (l₁ := [cHl b.K ⟨h, l2, g0 "a" ["x"]⟩, cHk b.K a.CH ⟨h, l2, g0 "a" ["x"]⟩])) ?_
    refine ev_cmp op_eqA rfl ?_
    refine ev_meth GHap hr1 T.clT L.hap.mt L.hap.bd ?_
    refine ev_name 20 rfl ?_
    rw [e1]
    refine ⟨ins_C (fns := tFs) (List.Mem.head _) (by decide +kernel), ?_⟩
    refine ea_cons ?_
    refine ev_str ?_
    refine ea_cons ?_
    refine ev_str ?_
    refine ea_nil ?_
    refine ⟨⟨tk, "q", "t"⟩, [], ⟨?_, e4⟩, rfl, by rw [List.append_nil]; exact List.Perm.refl _, ?_, fun _ _ z => z.elim⟩
    · show Abc tk.names
      rw [e2]
      exact .inr (.inl rfl)
    rintro C' ρ ⟨rfl, rfl⟩
    refine ev_int ?_
    walk_at "zeq"
    dsimp only
    rw [e3]
    rw [show decide (V.int (0 + 1) = V.int 1) = true by decide]
    exact k _
end
end K17

end
section
set_option Elab.async false
set_option linter.all false
set_option maxRecDepth 100000
open PySem PySem.Spec PyProof.Rows L2 Z
namespace K17
open PySem.W (Datum Tup)
open Rep (pr)
/-! short rows -/
local macro_rules | `(tactic| walk_at "zmem") => `(tactic| first
  | exact List.Mem.head _
  | exact List.Mem.tail _ (List.Mem.head _)
  | exact List.Mem.tail _ (List.Mem.tail _ (List.Mem.head _))
  | exact List.Mem.tail _ (List.Mem.tail _ (List.Mem.tail _ (List.Mem.head _)))
  | exact List.Mem.tail _ (List.Mem.tail _ (List.Mem.tail _ (List.Mem.tail _ (List.Mem.head _)))))
local macro_rules | `(tactic| walk_at "zlst") => `(tactic| first | exact lst_F | exact lst_S | exact lst_C (by walk_at "zmem") | assumption)
local macro_rules | `(tactic| walk_at "ztup") => `(tactic| first | exact tup_F | assumption)
local macro_rules | `(tactic| walk_at "zdic") => `(tactic| first | exact dic_F | exact dic_C (by walk_at "zmem") | exact dic_Z (by walk_at "zmem") | assumption)
local macro_rules | `(tactic| walk_at "zside") => `(tactic| first | assumption | decide | (show _ ≤ sizeLine; decide) | omega)
local macro_rules | `(tactic| walk_at "zadd") => `(tactic| first | refine okA_addI ?_ | refine okA_addS (by walk_at "zside") ?_ | refine okA_addL (by walk_at "zlst") (by walk_at "zlst") (by walk_at "zside") ?_)
local macro_rules | `(tactic| walk_at "zsub") => `(tactic| refine ok_rI0 ?_)
local macro_rules | `(tactic| walk_at "zmul") => `(tactic| first | refine okA_mulI (by walk_at "zside") ?_ | refine okA_mulL (by walk_at "zside") (by walk_at "zside") (by walk_at "zside") ?_)
local macro_rules | `(tactic| walk_at "zdiv") => `(tactic| refine ok_rI (by first | assumption | exact ⟨by decide, by decide⟩) ?_)
local macro_rules | `(tactic| walk_at "zmod") => `(tactic| refine ok_rI (by first | assumption | decide) ?_)
local macro_rules | `(tactic| walk_at "zpow") => `(tactic| refine ok_rI (by exact ⟨by decide, by decide, by decide⟩) ?_)
local macro_rules | `(tactic| walk_at "zlt") => `(tactic| refine ok_rI0 ?_)
local macro_rules | `(tactic| walk_at "zeq") => `(tactic| refine okA_eqS rfl ?_)
local macro_rules | `(tactic| walk_at "zne") => `(tactic| refine okA_neS rfl ?_)
local macro_rules | `(tactic| walk_at "zix") => `(tactic| first | refine okA_ixL (by walk_at "zlst") (by rfl) ?_ | refine okA_ixT (by walk_at "ztup") (by rfl) ?_ | refine okA_ixD (by walk_at "zdic") (by assumption) ?_)
local macro_rules | `(tactic| walk_at "zfld") => `(tactic| refine ⟨_, _, _, rfl, by walk_at "zmem", rfl, ?_⟩)
local macro_rules | `(tactic| walk_at "zc_len") => `(tactic| first | refine okA_lenL (by walk_at "zlst") ?_ | refine okA_lenT (by walk_at "ztup") ?_ | refine okA_lenD (by walk_at "zdic") ?_ | refine okA_lenS (by walk_at "zside") ?_)
local macro_rules | `(tactic| walk_at "zc_int") => `(tactic| first | refine ok_intI ?_ | refine ok_intB ?_)
local macro_rules | `(tactic| walk_at "zc_abs") => `(tactic| refine ok_abs ?_)
local macro_rules | `(tactic| walk_at "zc_str") => `(tactic| refine ok_strI (by walk_at "zside") ?_)
local macro_rules | `(tactic| walk_at "zso") => `(tactic| first
  | refine so_L (i := 0) rfl rfl ?_ | refine so_L (i := 1) rfl rfl ?_ | refine so_L (i := 2) rfl rfl ?_ | refine so_L (i := 3) rfl rfl ?_)
local macro_rules | `(tactic| walk_at "zuse") => `(tactic| apply et_use)
local macro_rules | `(tactic| walk_at "zev") => `(tactic| apply ev_use)
local macro_rules | `(tactic| walk_at "zand") => `(tactic| apply etp_and)
local macro_rules | `(tactic| walk_at "zor") => `(tactic| apply etp_or)
local macro_rules | `(tactic| walk_at "znot") => `(tactic| apply etp_not)
def pLaw (K : PySem.W.Frag) : Prom (List Int) := { ps := fun ns => [rLs K (ns.map isI)], R := fun _ _ ρ => ρ = isB true }
theorem permV {α : Type} (x y z w : α) : [x, y, z, w].Perm [w, x, z, y] := by
  classical
  rw [List.perm_iff_count]
  intro c
  simp only [List.count_cons, List.count_nil]
  omega
section
variable {a : Ads} {Pg : Program} {w : World} {K : PySem.W.Frag} {mg : Str → Option Value} {base : Heap}
theorem ok_law (L : LawT K mg a) {f c Pt : Addr} {dV kV doc pm ct oc : Value} {an od : Option Addr} {osl : Array (Option Value)}
    (lk : K.lookup f = some ⟨oc, od, .func (PySem.W.fnOf "law" "law" (defArgs sLaw) (defBody sLaw) (defScope sLaw) dV kV doc pm an (.ref c) ct), osl⟩) (hcd : PySem.W.codeIn K (.ref c) "law" = true) (TB : LamX.TabB base mg c Pt) :
    FnOk Pg w K mg base (L2.CX Pg w) 8 f (PySem.W.fnOf "law" "law" (defArgs sLaw) (defBody sLaw) (defScope sLaw) dV kV doc pm an (.ref c) ct) ["script"] ((pLaw K).sp ⟨[(Pt, fun _ _ => ("law" : Str) ++ ".<locals>." ++ "<lambda>")]⟩) := by
  refine def_okC lk hcd scLaw (fun _ => rfl) fun ns A outer s H E _ hr own => ?_
  let b : Bn := ⟨Pg, w, K, mg, base, ⟨[(Pt, fun _ _ => ("law" : Str) ++ ".<locals>." ++ "<lambda>")]⟩, f, .ref c, A, outer, s, H, E⟩
  have M : LamT b c Pt := ⟨rfl, rfl, TB⟩
  have hr : Room 7 b.j.X.A := hr
  have T := L.T
  have GDi : FnOk Pg w K mg base (L2.CX Pg w) 1 a.fDice a.dDice ["cell"] (pDice.sp b.tb) := ok_dice L.dice.fn L.zAbs L.zInt
  have GRd := ok_rounds (Pg := Pg) (w := w) (base := base) (tb := b.tb) L.rounds.fn GDi L.dice.g L.dice.kp L.dice.bd
  have GTI := ok_tinit (Pg := Pg) (w := w) (base := base) (tb := b.tb) L.ti.fn T
  show Tr b.j _ _ _ _
  refine tr_forA (κ := Addr × Int × Int × Int) (fun y i Γ C => (i = 0 ∧ (∃ x1 x2 x3 x4 x5 x6 x7 x8 x9 x10 x11 x12 x13 x14 x15 x16 x17 x18 x19 x20 x21 x22 : Option Pr, Γ = [some (rLs K (ns.map isI)), x1, x2, x3, x4, x5, x6, x7, x8, x9, x10, x11, x12, x13, x14, x15, x16, x17, x18, x19, x20, x21, x22]) ∧ C = [cL y.1 [isI y.2.1, isI y.2.2.1, isI y.2.2.2]]) ∨ (i = 1 ∧ GamAny Γ)) (fun Γ C => GamAny Γ) ?_ ?_ own rfl
  · refine ev_call GRd (hr.mono (by decide)) L.rounds.g L.rounds.kp L.rounds.bd ?_
    refine ea_cons ?_
    refine ev_name 0 rfl ?_ -- script
    refine ea_cons ?_
    refine ev_int ?_
    refine ea_nil ?_
    refine ⟨ns, [], True.intro, rfl, List.Perm.nil, ?_, fun _ _ z => z.elim⟩
    rintro C' ρ ⟨d, x, y, z, rfl, rfl⟩
    rw [List.append_nil]
    refine ⟨(d, x, y, z), _, rfl, .inl ⟨rfl, ⟨_, _, _, _, _, _, _, _, _, _, _, _, _, _, _, _, _, _, _, _, _, _, rfl⟩, rfl⟩, fun i q Γ C hi hI => ?_, fun Γ C hI => ?_⟩
    · have hi1 : i = 0 := by
        have := (List.getElem?_eq_some_iff.mp hi).1
        simp only [List.length_singleton] at this
        omega
      subst hi1
      have hq : isR d = q := by simpa using hi
      subst hq
      rcases hI with ⟨_, ⟨x1, x2, x3, x4, x5, x6, x7, x8, x9, x10, x11, x12, x13, x14, x15, x16, x17, x18, x19, x20, x21, x22, rfl⟩, rfl⟩ | ⟨h, _⟩
      · refine eg_name 1 ?_ ndL -- dice
        -- teller, own, time, count = Teller(), {}, 0, 0
        refine tr_asg ?_
        refine ev_tup ?_
        refine ea_cons ?_
        refine ev_make0 L.mkT GTI (hr.mono (by decide)) T.gT L.ti.bd fun t => ?_
        refine ⟨t, [cL d [isI x, isI y, isI z]], True.intro, rfl, List.Perm.refl _, ?_, fun _ _ z => z.elim⟩
        rintro C' ρ ⟨rfl, td, rfl⟩
        refine ⟨rfl, ?_⟩
        refine ea_cons ?_
        refine ev_dicC fun od => ?_
        refine ea_cons ?_
        refine ev_int ?_
        refine ea_cons ?_
        refine ev_int ?_
        refine ea_nil ?_
        refine ⟨by show 4 ≤ sizeLine; decide, ?_⟩
        refine eg_tup rfl tup_F rfl ?_
        refine egl_cons ?_
        refine eg_name 2 ?_ ndL
        refine egl_cons ?_
        refine eg_name 3 ?_ ndL
        refine egl_cons ?_
        refine eg_name 4 ?_ ndL
        refine egl_cons ?_
        refine eg_name 5 ?_ ndL
        refine egl_nil ?_
        refine tr_weak (i := 3) (c' := cDi d) rfl rfl (fun F o h => di_of F o h) ?_
        refine tr_perm (C' := LC K a d ⟨od, []⟩ ⟨t, td, 0, 0, []⟩) (permV _ _ _ _) ?_
        refine adds_ok (b := b) (rest := lRest) L hr own (tk := ⟨t, td, 0, 0, []⟩) (ow := ⟨od, []⟩) ⟨_, _, _, _, _, _, _, _, _, _, _, _, _, _, _, _, _, rfl⟩ rfl rfl rfl rfl fun Γ' tk' ow' g et ec sy => ?_
        exact rest_ok (b := b) L M hr own g et ec sy fun Γ' C' ⟨x, _, hl⟩ => .inr ⟨rfl, gam_any hl⟩
      · cases h
    · rcases hI with ⟨h, _⟩ | ⟨_, g⟩
      · cases h
      · exact g
  · intro Γ C g
    refine tr_keep (C' := []) (D' := C) (List.Perm.refl _) ?_
    exact tail_ok L M hr g fun C' => rfl
end
end K17

end
section
set_option Elab.async false
set_option linter.all false
set_option maxRecDepth 100000
open PySem PySem.Spec PyProof.Rows L2 Z
namespace K17
open PySem.W (Datum Tup)
open Rep (pr)
/-! short rows -/
local macro_rules | `(tactic| walk_at "zmem") => `(tactic| first
  | exact List.Mem.head _
  | exact List.Mem.tail _ (List.Mem.head _)
  | exact List.Mem.tail _ (List.Mem.tail _ (List.Mem.head _))
  | exact List.Mem.tail _ (List.Mem.tail _ (List.Mem.tail _ (List.Mem.head _)))
  | exact List.Mem.tail _ (List.Mem.tail _ (List.Mem.tail _ (List.Mem.tail _ (List.Mem.head _)))))
local macro_rules | `(tactic| walk_at "zlst") => `(tactic| first | exact lst_F | exact lst_S | exact lst_C (by walk_at "zmem") | assumption)
local macro_rules | `(tactic| walk_at "ztup") => `(tactic| first | exact tup_F | assumption)
local macro_rules | `(tactic| walk_at "zdic") => `(tactic| first | exact dic_F | exact dic_C (by walk_at "zmem") | exact dic_Z (by walk_at "zmem") | assumption)
local macro_rules | `(tactic| walk_at "zside") => `(tactic| first | assumption | decide | (show _ ≤ sizeLine; decide) | omega)
local macro_rules | `(tactic| walk_at "zadd") => `(tactic| first | refine okA_addI ?_ | refine okA_addS (by walk_at "zside") ?_ | refine okA_addL (by walk_at "zlst") (by walk_at "zlst") (by walk_at "zside") ?_)
local macro_rules | `(tactic| walk_at "zsub") => `(tactic| refine ok_rI0 ?_)
local macro_rules | `(tactic| walk_at "zmul") => `(tactic| first | refine okA_mulI (by walk_at "zside") ?_ | refine okA_mulL (by walk_at "zside") (by walk_at "zside") (by walk_at "zside") ?_)
local macro_rules | `(tactic| walk_at "zdiv") => `(tactic| refine ok_rI (by first | assumption | exact ⟨by decide, by decide⟩) ?_)
local macro_rules | `(tactic| walk_at "zmod") => `(tactic| refine ok_rI (by first | assumption | decide) ?_)
local macro_rules | `(tactic| walk_at "zpow") => `(tactic| refine ok_rI (by exact ⟨by decide, by decide, by decide⟩) ?_)
local macro_rules | `(tactic| walk_at "zlt") => `(tactic| refine ok_rI0 ?_)
local macro_rules | `(tactic| walk_at "zeq") => `(tactic| refine okA_eqS rfl ?_)
local macro_rules | `(tactic| walk_at "zne") => `(tactic| refine okA_neS rfl ?_)
local macro_rules | `(tactic| walk_at "zix") => `(tactic| first | refine okA_ixL (by walk_at "zlst") (by rfl) ?_ | refine okA_ixT (by walk_at "ztup") (by rfl) ?_ | refine okA_ixD (by walk_at "zdic") (by assumption) ?_)
local macro_rules | `(tactic| walk_at "zfld") => `(tactic| refine ⟨_, _, _, rfl, by walk_at "zmem", rfl, ?_⟩)
local macro_rules | `(tactic| walk_at "zc_len") => `(tactic| first | refine okA_lenL (by walk_at "zlst") ?_ | refine okA_lenT (by walk_at "ztup") ?_ | refine okA_lenD (by walk_at "zdic") ?_ | refine okA_lenS (by walk_at "zside") ?_)
local macro_rules | `(tactic| walk_at "zc_int") => `(tactic| first | refine ok_intI ?_ | refine ok_intB ?_)
local macro_rules | `(tactic| walk_at "zc_abs") => `(tactic| refine ok_abs ?_)
local macro_rules | `(tactic| walk_at "zc_str") => `(tactic| refine ok_strI (by walk_at "zside") ?_)
local macro_rules | `(tactic| walk_at "zso") => `(tactic| first
  | refine so_L (i := 0) rfl rfl ?_ | refine so_L (i := 1) rfl rfl ?_ | refine so_L (i := 2) rfl rfl ?_ | refine so_L (i := 3) rfl rfl ?_)
local macro_rules | `(tactic| walk_at "zuse") => `(tactic| apply et_use)
local macro_rules | `(tactic| walk_at "zev") => `(tactic| apply ev_use)
local macro_rules | `(tactic| walk_at "zand") => `(tactic| apply etp_and)
local macro_rules | `(tactic| walk_at "zor") => `(tactic| apply etp_or)
local macro_rules | `(tactic| walk_at "znot") => `(tactic| apply etp_not)
theorem allInts {F : Hp} : ∀ ns : List Int, AllOn (ns.map fun i => isI i) F (ns.map V.int)
  | [] => .nil
  | _ :: r => .cons rfl (allInts r)
theorem law_sp {K : PySem.W.Frag} {H : Hp} {a Pt : Addr} {ns : List Int} {nm : Nat → Nat → Str} (hS : SqL K H a (ns.map V.int)) (hT : H Pt = some (.tbl #[])) : (pLaw K).sp ⟨[(Pt, nm)]⟩ [.ref a] H (fun v _ => v = .bl true) fun _ _ _ => False := by
  have tab : ∀ F : Hp, Tab ⟨[(Pt, nm)]⟩ F H := fun F => ⟨fun p hp => by
    rw [List.mem_singleton.mp hp]
    refine ⟨#[], hT, True.intro, fun pos cv hc => ?_⟩
    have z : codeAmong pos [] = some cv := hc
    simp [codeAmong] at z⟩
  rcases hS with h | ⟨o, its, n, h1, h2⟩
  · -- the script is a thing of the heap
    refine ⟨ns, fun b => if b = a then some (.lst (ns.map V.int)) else none, True.intro, .cons ⟨a, ns.map V.int, rfl, .inl (.inl (if_pos rfl)), allInts ns⟩ .nil, ⟨envNil, ⟨fun c hc => (by cases hc), List.nodup_nil⟩, fun b o e => ?_, fun b o e => ?_, tab _, L2.Same.refl _, fun b o e n => ?_, fun b o e _ _ => e, fun c hc => (by cases hc), fun b e => e⟩, fun v F' H' C' ρ r _ o => ?_, fun _ _ _ _ _ z _ => z.elim⟩
    · by_cases hb : b = a
      · rw [if_pos hb] at e
        cases e
        rw [hb]
        exact h
      · rw [if_neg hb] at e
        cases e
    · by_cases hb : b = a
      · rw [if_pos hb] at e
        cases e
        exact fine_lst
      · rw [if_neg hb] at e
        cases e
    · have n : (if b = a then some (HO.lst (ns.map V.int)) else none) = none := n
      rw [n] at e
      cases e
    · have r : ρ = isB true := r
      subst r
      exact o
  · -- the script is written
    refine ⟨ns, fun _ => none, True.intro, .cons ⟨a, ns.map V.int, rfl, .inr ⟨o, its, n, h1, h2⟩, allInts ns⟩ .nil, ⟨envNil, ⟨fun c hc => (by cases hc), List.nodup_nil⟩, fun b o e => (by cases e), fun b o e => (by cases e), tab _, L2.Same.refl _, fun b o e n => (by cases e), fun b o e _ _ => e, fun c hc => (by cases hc), fun b e => e⟩, fun v F' H' C' ρ r _ o => ?_, fun _ _ _ _ _ z _ => z.elim⟩
    have r : ρ = isB true := r
    subst r
    exact o
theorem all_mk {l : PySem.W.OpenLaw} {w : World} {K : PySem.W.Frag} {h : Heap} {mg : Str → Option Value} {fa : Addr} {CH CT CE W : Addr} {odW : Option Addr} {slW : Array (Option Value)} {nW : Nat} {w1 w2 w3 w4 w5 tM : Tok} {od_dice an_dice : Option Addr} {sl_dice : Array (Option Value)} {oc_dice kV_dice dc_dice pm_dice ct_dice : Value} {cd_dice : Value} {f_dice : Addr} {od_roll an_roll : Option Addr} {sl_roll : Array (Option Value)} {oc_roll kV_roll dc_roll pm_roll ct_roll : Value} {cd_roll : Value} {f_roll : Addr} {od_rounds an_rounds : Option Addr} {sl_rounds : Array (Option Value)} {oc_rounds kV_rounds dc_rounds pm_rounds ct_rounds : Value} {cd_rounds : Value} {f_rounds : Addr} {od_told an_told : Option Addr} {sl_told : Array (Option Value)} {oc_told kV_told dc_told pm_told ct_told : Value} {cd_told : Value} {f_told : Addr} {od_ticked an_ticked : Option Addr} {sl_ticked : Array (Option Value)} {oc_ticked kV_ticked dc_ticked pm_ticked ct_ticked : Value} {cd_ticked : Value} {f_ticked : Addr} {od_hi an_hi : Option Addr} {sl_hi : Array (Option Value)} {oc_hi kV_hi dc_hi pm_hi ct_hi : Value} {cd_hi : Value} {f_hi : Addr} {od_ti an_ti : Option Addr} {sl_ti : Array (Option Value)} {oc_ti kV_ti dc_ti pm_ti ct_ti : Value} {cd_ti : Value} {f_ti : Addr} {od_add an_add : Option Addr} {sl_add : Array (Option Value)} {oc_add kV_add dc_add pm_add ct_add : Value} {cd_add : Value} {f_add : Addr} {od_hook an_hook : Option Addr} {sl_hook : Array (Option Value)} {oc_hook kV_hook dc_hook pm_hook ct_hook : Value} {cd_hook : Value} {f_hook : Addr} {od_hap an_hap : Option Addr} {sl_hap : Array (Option Value)} {oc_hap kV_hap dc_hap pm_hap ct_hap : Value} {cd_hap : Value} {f_hap : Addr} {od_tick an_tick : Option Addr} {sl_tick : Array (Option Value)} {oc_tick kV_tick dc_tick pm_tick ct_tick : Value} {cd_tick : Value} {f_tick : Addr} {od_tell an_tell : Option Addr} {sl_tell : Array (Option Value)} {oc_tell kV_tell dc_tell pm_tell ct_tell : Value} {cd_tell : Value} {f_tell : Addr} {od_sw an_sw : Option Addr} {sl_sw : Array (Option Value)} {oc_sw kV_sw dc_sw pm_sw ct_sw : Value} {cd_sw : Value} {f_sw : Addr} {od_law an_law : Option Addr} {sl_law : Array (Option Value)} {oc_law kV_law dc_law pm_law ct_law : Value} {c_law : Addr} {f_law : Addr} {Pt : Addr} (X : K.In h) (G : h.Ns mainGlobals mg) (hfa : mg "law" = some (.ref fa))
    (aH : PySem.W.nsIn K mainGlobals "Hook" = some (some (.ref CH)))
    (aT : PySem.W.nsIn K mainGlobals "Teller" = some (some (.ref CT)))
    (aE : PySem.W.nsIn K mainGlobals "HookError" = some (some (.ref CE)))
    (aW : PySem.W.nsIn K mainGlobals "WAITS_OF_HOOKS" = some (some (.ref W)))
    (lW : K.lookup W = some ⟨.type "tuple", odW, .seq #[.int 1 w1, .int 2 w2, .int 4 w3, .int 8 w4, .int 16 w5] nW, slW⟩)
    (aM : PySem.W.nsIn K mainGlobals "MOST_HELD" = some (some (.int 100 tM)))
    (a_dice : PySem.W.nsIn K mainGlobals "_law_dice" = some (some (.ref f_dice)))
    (l_dice : K.lookup f_dice = some ⟨oc_dice, od_dice, .func (PySem.W.fnOf "_law_dice" "_law_dice" (defArgs sDice) (defBody sDice) (defScope sDice) .none kV_dice dc_dice pm_dice an_dice cd_dice ct_dice), sl_dice⟩)
    (c_dice : PySem.W.codeIn K cd_dice "_law_dice" = true)
    (k_dice : PySem.W.keepIn K (.ref f_dice) = true)
    (a_roll : PySem.W.nsIn K mainGlobals "_law_roll" = some (some (.ref f_roll)))
    (l_roll : K.lookup f_roll = some ⟨oc_roll, od_roll, .func (PySem.W.fnOf "_law_roll" "_law_roll" (defArgs sRoll) (defBody sRoll) (defScope sRoll) .none kV_roll dc_roll pm_roll an_roll cd_roll ct_roll), sl_roll⟩)
    (c_roll : PySem.W.codeIn K cd_roll "_law_roll" = true)
    (k_roll : PySem.W.keepIn K (.ref f_roll) = true)
    (a_rounds : PySem.W.nsIn K mainGlobals "_law_rounds" = some (some (.ref f_rounds)))
    (l_rounds : K.lookup f_rounds = some ⟨oc_rounds, od_rounds, .func (PySem.W.fnOf "_law_rounds" "_law_rounds" (defArgs sRounds) (defBody sRounds) (defScope sRounds) .none kV_rounds dc_rounds pm_rounds an_rounds cd_rounds ct_rounds), sl_rounds⟩)
    (c_rounds : PySem.W.codeIn K cd_rounds "_law_rounds" = true)
    (k_rounds : PySem.W.keepIn K (.ref f_rounds) = true)
    (a_told : PySem.W.nsIn K mainGlobals "_law_told" = some (some (.ref f_told)))
    (l_told : K.lookup f_told = some ⟨oc_told, od_told, .func (PySem.W.fnOf "_law_told" "_law_told" (defArgs sTold) (defBody sTold) (defScope sTold) .none kV_told dc_told pm_told an_told cd_told ct_told), sl_told⟩)
    (c_told : PySem.W.codeIn K cd_told "_law_told" = true)
    (k_told : PySem.W.keepIn K (.ref f_told) = true)
    (a_ticked : PySem.W.nsIn K mainGlobals "_law_ticked" = some (some (.ref f_ticked)))
    (l_ticked : K.lookup f_ticked = some ⟨oc_ticked, od_ticked, .func (PySem.W.fnOf "_law_ticked" "_law_ticked" (defArgs sTicked) (defBody sTicked) (defScope sTicked) .none kV_ticked dc_ticked pm_ticked an_ticked cd_ticked ct_ticked), sl_ticked⟩)
    (c_ticked : PySem.W.codeIn K cd_ticked "_law_ticked" = true)
    (k_ticked : PySem.W.keepIn K (.ref f_ticked) = true)
    (a_hi : PySem.W.findIn K (.ref CH) "__init__" = some (some (.ref f_hi)))
    (i_hi : PySem.W.isFn K (.ref f_hi) = true)
    (l_hi : K.lookup f_hi = some ⟨oc_hi, od_hi, .func (PySem.W.fnOf "__init__" "Hook.__init__" (defArgs sHInit) (defBody sHInit) (defScope sHInit) .none kV_hi dc_hi pm_hi an_hi cd_hi ct_hi), sl_hi⟩)
    (c_hi : PySem.W.codeIn K cd_hi "Hook.__init__" = true)
    (k_hi : PySem.W.keepIn K (.ref f_hi) = true)
    (a_ti : PySem.W.findIn K (.ref CT) "__init__" = some (some (.ref f_ti)))
    (i_ti : PySem.W.isFn K (.ref f_ti) = true)
    (l_ti : K.lookup f_ti = some ⟨oc_ti, od_ti, .func (PySem.W.fnOf "__init__" "Teller.__init__" (defArgs sTInit) (defBody sTInit) (defScope sTInit) .none kV_ti dc_ti pm_ti an_ti cd_ti ct_ti), sl_ti⟩)
    (c_ti : PySem.W.codeIn K cd_ti "Teller.__init__" = true)
    (k_ti : PySem.W.keepIn K (.ref f_ti) = true)
    (a_add : PySem.W.findIn K (.ref CT) "add" = some (some (.ref f_add)))
    (i_add : PySem.W.isFn K (.ref f_add) = true)
    (l_add : K.lookup f_add = some ⟨oc_add, od_add, .func (PySem.W.fnOf "add" "Teller.add" (defArgs sAdd) (defBody sAdd) (defScope sAdd) .none kV_add dc_add pm_add an_add cd_add ct_add), sl_add⟩)
    (c_add : PySem.W.codeIn K cd_add "Teller.add" = true)
    (k_add : PySem.W.keepIn K (.ref f_add) = true)
    (a_hook : PySem.W.findIn K (.ref CT) "hook" = some (some (.ref f_hook)))
    (i_hook : PySem.W.isFn K (.ref f_hook) = true)
    (l_hook : K.lookup f_hook = some ⟨oc_hook, od_hook, .func (PySem.W.fnOf "hook" "Teller.hook" (defArgs sHook) (defBody sHook) (defScope sHook) .none kV_hook dc_hook pm_hook an_hook cd_hook ct_hook), sl_hook⟩)
    (c_hook : PySem.W.codeIn K cd_hook "Teller.hook" = true)
    (k_hook : PySem.W.keepIn K (.ref f_hook) = true)
    (a_hap : PySem.W.findIn K (.ref CT) "happen" = some (some (.ref f_hap)))
    (i_hap : PySem.W.isFn K (.ref f_hap) = true)
    (l_hap : K.lookup f_hap = some ⟨oc_hap, od_hap, .func (PySem.W.fnOf "happen" "Teller.happen" (defArgs sHappen) (defBody sHappen) (defScope sHappen) .none kV_hap dc_hap pm_hap an_hap cd_hap ct_hap), sl_hap⟩)
    (c_hap : PySem.W.codeIn K cd_hap "Teller.happen" = true)
    (k_hap : PySem.W.keepIn K (.ref f_hap) = true)
    (a_tick : PySem.W.findIn K (.ref CT) "tick" = some (some (.ref f_tick)))
    (i_tick : PySem.W.isFn K (.ref f_tick) = true)
    (l_tick : K.lookup f_tick = some ⟨oc_tick, od_tick, .func (PySem.W.fnOf "tick" "Teller.tick" (defArgs sTick) (defBody sTick) (defScope sTick) .none kV_tick dc_tick pm_tick an_tick cd_tick ct_tick), sl_tick⟩)
    (c_tick : PySem.W.codeIn K cd_tick "Teller.tick" = true)
    (k_tick : PySem.W.keepIn K (.ref f_tick) = true)
    (a_tell : PySem.W.findIn K (.ref CT) "tell" = some (some (.ref f_tell)))
    (i_tell : PySem.W.isFn K (.ref f_tell) = true)
    (l_tell : K.lookup f_tell = some ⟨oc_tell, od_tell, .func (PySem.W.fnOf "tell" "Teller.tell" (defArgs sTell) (defBody sTell) (defScope sTell) .none kV_tell dc_tell pm_tell an_tell cd_tell ct_tell), sl_tell⟩)
    (c_tell : PySem.W.codeIn K cd_tell "Teller.tell" = true)
    (k_tell : PySem.W.keepIn K (.ref f_tell) = true)
    (a_sw : PySem.W.findIn K (.ref CT) "switch" = some (some (.ref f_sw)))
    (i_sw : PySem.W.isFn K (.ref f_sw) = true)
    (l_sw : K.lookup f_sw = some ⟨oc_sw, od_sw, .func (PySem.W.fnOf "switch" "Teller.switch" (defArgs sSwitch) (defBody sSwitch) (defScope sSwitch) .none kV_sw dc_sw pm_sw an_sw cd_sw ct_sw), sl_sw⟩)
    (c_sw : PySem.W.codeIn K cd_sw "Teller.switch" = true)
    (k_sw : PySem.W.keepIn K (.ref f_sw) = true)
    (a_law : PySem.W.nsIn K mainGlobals "law" = some (some (.ref f_law)))
    (l_law : K.lookup f_law = some ⟨oc_law, od_law, .func (PySem.W.fnOf "law" "law" (defArgs sLaw) (defBody sLaw) (defScope sLaw) .none kV_law dc_law pm_law an_law (.ref c_law) ct_law), sl_law⟩)
    (c_law_h : PySem.W.codeIn K (.ref c_law) "law" = true)
    (k_law : PySem.W.keepIn K (.ref f_law) = true)
    (pgCH : PySem.W.plainGet K CH Str.empty = true)
    (hdCH : PySem.W.hasDictIn K CH = true)
    (poCH : PySem.W.plainOver K CH = true)
    (saCH : PySem.W.findIn K (.ref CH) "__setattr__" = some (some (.builtin "object.__setattr__")))
    (mkCH : PySem.W.makesIn K CH = true)
    (kcCH : PySem.W.keepIn K (.ref CH) = true)
    (pgCT : PySem.W.plainGet K CT Str.empty = true)
    (hdCT : PySem.W.hasDictIn K CT = true)
    (poCT : PySem.W.plainOver K CT = true)
    (saCT : PySem.W.findIn K (.ref CT) "__setattr__" = some (some (.builtin "object.__setattr__")))
    (mkCT : PySem.W.makesIn K CT = true)
    (kcCT : PySem.W.keepIn K (.ref CT) = true)
    (nH_name : PySem.W.findIn K (.ref CH) "name" = some none)
    (nH_words : PySem.W.findIn K (.ref CH) "words" = some none)
    (nH_held : PySem.W.findIn K (.ref CH) "held" = some none)
    (nH_tries : PySem.W.findIn K (.ref CH) "tries" = some none)
    (nH_due_at : PySem.W.findIn K (.ref CH) "due_at" = some none)
    (nH_state : PySem.W.findIn K (.ref CH) "state" = some none)
    (nH_missed : PySem.W.findIn K (.ref CH) "missed" = some none)
    (nT_hooks : PySem.W.findIn K (.ref CT) "hooks" = some none)
    (nT_time : PySem.W.findIn K (.ref CT) "time" = some none)
    (nT_count : PySem.W.findIn K (.ref CT) "count" = some none)
    (kE : PySem.W.keepIn K (.ref CE) = true)
    (xE : PySem.W.excIn K CE [.type "ValueError", .type "Exception", .type "BaseException", .type "object"] "ValueError.__new__" = true)
    (bE : PySem.W.subIn K (.ref CE) (.type "BaseException") = some true)
    (tE : PySem.W.typeIn K (.ref CE) = some (.type "type"))
    (mE : PySem.W.exmOne K (.ref CE) (.ref CE) = some true)
    (z_len : PySem.W.nsIn K mainGlobals "len" = some none)
    (z_sorted : PySem.W.nsIn K mainGlobals "sorted" = some none)
    (z_tuple : PySem.W.nsIn K mainGlobals "tuple" = some none)
    (z_abs : PySem.W.nsIn K mainGlobals "abs" = some none)
    (z_int : PySem.W.nsIn K mainGlobals "int" = some none)
    (z_str : PySem.W.nsIn K mainGlobals "str" = some none)
    (z_range : PySem.W.nsIn K mainGlobals "range" = some none)
    (hT : PySem.W.codeHdIn K c_law Pt = true)
    (nT : K.lookup Pt = none)
    (gT : h.get? Pt = some { cls := .none, data := .fields #[] }) :
    LamX.LawAtS l w K (L2.CX l.prog w) 8 63 "script" mg fa h := by
  have e := hfa.symm.trans (PySem.W.mg_of X G a_law)
  cases e
  have T : Txt K mg CH CT CE W := ⟨⟨pgCH, hdCH, poCH, saCH⟩, ⟨pgCT, hdCT, poCT, saCT⟩, nH_name, nH_words, nH_held, nH_tries, nH_due_at, nH_state, nH_missed, nT_hooks, nT_time, nT_count, PySem.W.mg_of X G aH, PySem.W.mg_of X G aT, PySem.W.mg_of X G aE, kE, xE, bE, tE, mE, PySem.W.mg_of X G aW,
    fun H => .inr ⟨_, _, _, lW, rfl, rfl, (by show 5 ≤ sizeLine; decide), .cons ⟨_, rfl⟩ (.cons ⟨_, rfl⟩ (.cons ⟨_, rfl⟩ (.cons ⟨_, rfl⟩ (.cons ⟨_, rfl⟩ .nil))))⟩, ⟨_, PySem.W.mg_of X G aM, ⟨_, rfl⟩⟩, PySem.W.mg_none_of X G z_len, PySem.W.mg_none_of X G z_sorted, PySem.W.mg_none_of X G z_tuple⟩
  have F_dice := fun_mk (st := sDice) l_dice c_dice k_dice
  have b_dice := F_dice.binds (ps := ["cell"]) fun _ _ _ _ _ _ us hl => match us, hl with | [_], _ => rfl
  have F_roll := fun_mk (st := sRoll) l_roll c_roll k_roll
  have b_roll := F_roll.binds (ps := ["dice", "many"]) fun _ _ _ _ _ _ us hl => match us, hl with | [_, _], _ => rfl
  have F_rounds := fun_mk (st := sRounds) l_rounds c_rounds k_rounds
  have b_rounds := F_rounds.binds (ps := ["script", "most"]) fun _ _ _ _ _ _ us hl => match us, hl with | [_, _], _ => rfl
  have F_told := fun_mk (st := sTold) l_told c_told k_told
  have b_told := F_told.binds (ps := ["what"]) fun _ _ _ _ _ _ us hl => match us, hl with | [_], _ => rfl
  have F_ticked := fun_mk (st := sTicked) l_ticked c_ticked k_ticked
  have b_ticked := F_ticked.binds (ps := ["own", "time", "answers"]) fun _ _ _ _ _ _ us hl => match us, hl with | [_, _, _], _ => rfl
  have F_hi := fun_mk (st := sHInit) l_hi c_hi k_hi
  have b_hi := F_hi.binds (ps := ["self", "name", "words"]) fun _ _ _ _ _ _ us hl => match us, hl with | [_, _, _], _ => rfl
  have F_ti := fun_mk (st := sTInit) l_ti c_ti k_ti
  have b_ti := F_ti.binds (ps := ["self"]) fun _ _ _ _ _ _ us hl => match us, hl with | [_], _ => rfl
  have F_add := fun_mk (st := sAdd) l_add c_add k_add
  have b_add := F_add.binds (ps := ["self", "name", "words"]) fun _ _ _ _ _ _ us hl => match us, hl with | [_, _, _], _ => rfl
  have F_hook := fun_mk (st := sHook) l_hook c_hook k_hook
  have b_hook := F_hook.binds (ps := ["self", "name"]) fun _ _ _ _ _ _ us hl => match us, hl with | [_, _], _ => rfl
  have F_hap := fun_mk (st := sHappen) l_hap c_hap k_hap
  have b_hap := F_hap.binds (ps := ["self", "word", "text"]) fun _ _ _ _ _ _ us hl => match us, hl with | [_, _, _], _ => rfl
  have F_tick := fun_mk (st := sTick) l_tick c_tick k_tick
  have b_tick := F_tick.binds (ps := ["self", "send"]) fun _ _ _ _ _ _ us hl => match us, hl with | [_, _], _ => rfl
  have F_tell := fun_mk (st := sTell) l_tell c_tell k_tell
  have b_tell := F_tell.binds (ps := ["self", "one", "send"]) fun _ _ _ _ _ _ us hl => match us, hl with | [_, _, _], _ => rfl
  have F_sw := fun_mk (st := sSwitch) l_sw c_sw k_sw
  have b_sw := F_sw.binds (ps := ["self", "name", "on"]) fun _ _ _ _ _ _ us hl => match us, hl with | [_, _, _], _ => rfl
  have L : LawT K mg ⟨CH, CT, CE, W, f_dice, f_roll, f_rounds, f_told, f_ticked, f_hi, f_ti, f_add, f_hook, f_hap, f_tick, f_tell, f_sw, _, _, _, _, _, _, _, _, _, _, _, _, _⟩ := { T := T, mkH := ⟨mkCH, a_hi, i_hi, kcCH⟩, mkT := ⟨mkCT, a_ti, i_ti, kcCT⟩, dice := ⟨F_dice, PySem.W.mg_of X G a_dice, k_dice, b_dice⟩, roll := ⟨F_roll, PySem.W.mg_of X G a_roll, k_roll, b_roll⟩, rounds := ⟨F_rounds, PySem.W.mg_of X G a_rounds, k_rounds, b_rounds⟩, told := ⟨F_told, PySem.W.mg_of X G a_told, k_told, b_told⟩, ticked := ⟨F_ticked, PySem.W.mg_of X G a_ticked, k_ticked, b_ticked⟩, hi := ⟨F_hi, ⟨a_hi, i_hi, k_hi⟩, b_hi⟩, ti := ⟨F_ti, ⟨a_ti, i_ti, k_ti⟩, b_ti⟩, add := ⟨F_add, ⟨a_add, i_add, k_add⟩, b_add⟩, hook := ⟨F_hook, ⟨a_hook, i_hook, k_hook⟩, b_hook⟩, hap := ⟨F_hap, ⟨a_hap, i_hap, k_hap⟩, b_hap⟩, tick := ⟨F_tick, ⟨a_tick, i_tick, k_tick⟩, b_tick⟩, tell := ⟨F_tell, ⟨a_tell, i_tell, k_tell⟩, b_tell⟩, sw := ⟨F_sw, ⟨a_sw, i_sw, k_sw⟩, b_sw⟩, zAbs := PySem.W.mg_none_of X G z_abs, zInt := PySem.W.mg_none_of X G z_int, zStr := PySem.W.mg_none_of X G z_str, zRange := PySem.W.mg_none_of X G z_range }
  refine ⟨_, [(c_law, Pt)], (pLaw K).sp ⟨[(Pt, fun _ _ => ("law" : Str) ++ ".<locals>." ++ "<lambda>")]⟩, fun p hp => ?_, fun p hp => ?_, fun p hp => ?_, fun s u => .of_eq rfl, fun H a ns hl _ hH hS => ?_, fun base _ _ hTB => ok_law L l_law c_law_h (hTB _ (List.Mem.head _))⟩
  · rw [List.mem_singleton.mp hp]
    exact gT
  · rw [List.mem_singleton.mp hp]
    exact nT
  · rw [List.mem_singleton.mp hp]
    exact PySem.W.codeHd_of_K X hT
  · exact law_sp hS (hH _ (List.Mem.head _))
end K17

end
section
open PySem PySem.W PyProof.Rows
set_option Elab.async false
set_option linter.all false
set_option maxRecDepth 100000
set_option pp.deepTerms false
set_option pp.maxSteps 800
set_option maxHeartbeats 0 in
theorem PySem.Challenge.cw_landstack_k17_news_that_are_told_to_othe_holds : PySem.Challenge.rw_landstack_k17_news_that_are_told_to_othe.Holds := by
  w_on; o_law; k_head; (case hw => w_witness2)
  k_fill
  refine LamX.walk_ofTs (l := PySem.Challenge.rw_landstack_k17_news_that_are_told_to_othe) (n := 63) (k := 8) (x := "script") (CX := fun w => L2.CX PySem.Challenge.rw_landstack_k17_news_that_are_told_to_othe.prog w) rfl (by decide) rfl ⟨rfl, by decide, by decide⟩ (fun w h Y => PySem.W.km_in_of Y) ?F (fun w H s e s' ⟨_,_,_,_,_,_,_,_,_,_,_,_,z⟩ => z)
  case F =>
    intro w mg fa h Y KX G hmg
    refine' K17.all_mk (Pt := 159) KX G hmg ?aH ?aT ?aE ?aW ?lW ?aM ?a_dice ?l_dice ?c_dice ?k_dice ?a_roll ?l_roll ?c_roll ?k_roll ?a_rounds ?l_rounds ?c_rounds ?k_rounds ?a_told ?l_told ?c_told ?k_told ?a_ticked ?l_ticked ?c_ticked ?k_ticked ?a_hi ?i_hi ?l_hi ?c_hi ?k_hi ?a_ti ?i_ti ?l_ti ?c_ti ?k_ti ?a_add ?i_add ?l_add ?c_add ?k_add ?a_hook ?i_hook ?l_hook ?c_hook ?k_hook ?a_hap ?i_hap ?l_hap ?c_hap ?k_hap ?a_tick ?i_tick ?l_tick ?c_tick ?k_tick ?a_tell ?i_tell ?l_tell ?c_tell ?k_tell ?a_sw ?i_sw ?l_sw ?c_sw ?k_sw ?a_law ?l_law ?c_law_h ?k_law ?pgCH ?hdCH ?poCH ?saCH ?mkCH ?kcCH ?pgCT ?hdCT ?poCT ?saCT ?mkCT ?kcCT ?nH_name ?nH_words ?nH_held ?nH_tries ?nH_due_at ?nH_state ?nH_missed ?nT_hooks ?nT_time ?nT_count ?kE ?xE ?bE ?tE ?mE ?z_len ?z_sorted ?z_tuple ?z_abs ?z_int ?z_str ?z_range ?hT ?nT ?gT
    (case aH => k_is)
    (case aT => k_is)
    (case aE => k_is)
    (case aW => k_is)
    (case lW => k_is)
    (case aM => k_is)
    (case a_dice => k_is)
    (case l_dice => k_is)
    (case c_dice => k_is)
    (case k_dice => k_is)
    (case a_roll => k_is)
    (case l_roll => k_is)
    (case c_roll => k_is)
    (case k_roll => k_is)
    (case a_rounds => k_is)
    (case l_rounds => k_is)
    (case c_rounds => k_is)
    (case k_rounds => k_is)
    (case a_told => k_is)
    (case l_told => k_is)
    (case c_told => k_is)
    (case k_told => k_is)
    (case a_ticked => k_is)
    (case l_ticked => k_is)
    (case c_ticked => k_is)
    (case k_ticked => k_is)
    (case a_hi => k_is)
    (case i_hi => k_is)
    (case l_hi => k_is)
    (case c_hi => k_is)
    (case k_hi => k_is)
    (case a_ti => k_is)
    (case i_ti => k_is)
    (case l_ti => k_is)
    (case c_ti => k_is)
    (case k_ti => k_is)
    (case a_add => k_is)
    (case i_add => k_is)
    (case l_add => k_is)
    (case c_add => k_is)
    (case k_add => k_is)
    (case a_hook => k_is)
    (case i_hook => k_is)
    (case l_hook => k_is)
    (case c_hook => k_is)
    (case k_hook => k_is)
    (case a_hap => k_is)
    (case i_hap => k_is)
    (case l_hap => k_is)
    (case c_hap => k_is)
    (case k_hap => k_is)
    (case a_tick => k_is)
    (case i_tick => k_is)
    (case l_tick => k_is)
    (case c_tick => k_is)
    (case k_tick => k_is)
    (case a_tell => k_is)
    (case i_tell => k_is)
    (case l_tell => k_is)
    (case c_tell => k_is)
    (case k_tell => k_is)
    (case a_sw => k_is)
    (case i_sw => k_is)
    (case l_sw => k_is)
    (case c_sw => k_is)
    (case k_sw => k_is)
    (case a_law => k_is)
    (case l_law => k_is)
    (case c_law_h => k_is)
    (case k_law => k_is)
    (case pgCH => k_is)
    (case hdCH => k_is)
    (case poCH => k_is)
    (case saCH => k_is)
    (case mkCH => k_is)
    (case kcCH => k_is)
    (case pgCT => k_is)
    (case hdCT => k_is)
    (case poCT => k_is)
    (case saCT => k_is)
    (case mkCT => k_is)
    (case kcCT => k_is)
    (case nH_name => k_is)
    (case nH_words => k_is)
    (case nH_held => k_is)
    (case nH_tries => k_is)
    (case nH_due_at => k_is)
    (case nH_state => k_is)
    (case nH_missed => k_is)
    (case nT_hooks => k_is)
    (case nT_time => k_is)
    (case nT_count => k_is)
    (case kE => k_is)
    (case xE => kernel_rfl)
    (case bE => k_is)
    (case tE => k_is)
    (case mE => kernel_rfl)
    (case z_len => k_is)
    (case z_sorted => k_is)
    (case z_tuple => k_is)
    (case z_abs => k_is)
    (case z_int => k_is)
    (case z_str => k_is)
    (case z_range => k_is)
    (case hT => kernel_rfl)
    (case nT => kernel_rfl)
    (case gT => exact PySem.W.km_tabs_of Y _ (by k_mem))

end
