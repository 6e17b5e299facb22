import PyProof.Rows.All
import Wide.All
import OpenK.AllK
import Wide.FinOn
import KE.Datum
import HandS.ForMost
import HandS.Exc
import HandS.ExcOwn
import HandS.WordsExc
import HandS.TryOnly
import HandS.Flow
import HandS.Lambda
import HandS.AnyAll
import HandS.Nested
import HandS.Dict
import HandS.More
import HandS.Text
import HandS.Comp
import HandS.Walk
import HandS.GenList
import HandS.Zip0
import HandS.Iter
import KE.KDictZip
import HandS.DictComp
import HandS.TupAny
import HandS.Style
import HandS.FStr
import HandS.DictSubView
import PyProof.Rows.SortShell
import KE.KSortTup
import HandS.Sort
import HandS.SortOrd
import HandS.SortRule
import HandS.Defaults
import KE.KItemsList
import HandS.DictTup
import HandS.Conv
import PyProof.StrLawsChain
import PyProof.StrLawsTight
import PySem.Challenge.RW_landstack_k23_windows_on_a_part
import HandS.EndTab
import KE.KNestM
section
set_option Elab.async false
set_option linter.all false
set_option maxRecDepth 100000
/-! Z1: the largest readings, the state, the judgements. -/
namespace Z
open PySem PySem.Spec PyProof.Rows L2 PySem.W
abbrev Pins := List (Addr × Obj)
abbrev LX := L2.Cx
/-! ### the largest readings -/
def We (X : L2.Cx) (e : Expr) : TE := fun σ H Q => ∀ (pins : Pins) (s : Shared), Inv X pins σ H s → wpAny (model X.prog X.w) X.A (eval e X.env) (EP X pins σ Q) X.xe s
def Wt (X : L2.Cx) (e : Expr) : TT := fun σ H Q => ∀ (pins : Pins) (s : Shared), Inv X pins σ H s → wpAny (model X.prog X.w) X.A (isTrue e X.env (eval e X.env)) (TP X pins σ Q) X.xe s
def Wa (X : L2.Cx) (es : List Expr) : TA := fun σ H Q => ∀ (pos : Pos) (pins : Pins) (s : Shared), Inv X pins σ H s → wpAny (model X.prog X.w) X.A (spliced (backTo pos (starEach es X.env))) (AP X pins σ Q) X.xe s
def Ws (X : L2.Cx) (st : Stmt) : TS := fun D σ H => ∀ (pins : Pins) (s : Shared), Inv X pins σ H s → wpAny (model X.prog X.w) X.A (exec st X.env) (SP X pins D) X.xe s
def Wb (X : L2.Cx) (sts : List Stmt) : TS := fun D σ H => ∀ (pins : Pins) (s : Shared), Inv X pins σ H s → wpAny (model X.prog X.w) X.A (execs sts X.env) (SP X pins D) X.xe s
def Wg (X : L2.Cx) (tg : Expr) : TG := fun v σ H Q => ∀ (pins : Pins) (s : Shared) (u : Value), Inv X pins σ H s → RelV v u → wpAny (model X.prog X.w) X.A (assign tg X.env u) (fun _ s' => ∃ σ' H', Inv X pins σ' H' s' ∧ Q σ' H') X.xe s
section
variable {X : L2.Cx} {e : Expr} {es : List Expr} {st : Stmt} {sts : List Stmt} {σ : L2.St} {H : Hp}
theorem pe_we : PE X e (We X e) := ⟨fun pins s σ H Q I h => h pins s I⟩
theorem pt_wt : PT X e (Wt X e) := ⟨fun pins s σ H Q I h => h pins s I⟩
theorem pa_wa : PA X es (Wa X es) := ⟨fun pos pins s σ H Q I h => h pos pins s I⟩
theorem ps_ws : PS X st (Ws X st) := ⟨fun pins s σ H D I h => h pins s I⟩
theorem pss_wb : PSs X sts (Wb X sts) := ⟨fun pins s σ H D I h => h pins s I⟩
theorem pg_wg : PG X e (Wg X e) := ⟨fun pins s σ H v u Q I r h => h pins s u I r⟩
theorem we_of {t : TE} (h : PE X e t) {Q : VK} (q : t σ H Q) : We X e σ H Q := fun pins s I => h.run pins s σ H Q I q
theorem wt_of {t : TT} (h : PT X e t) {Q : Bool → Hp → Prop} (q : t σ H Q) : Wt X e σ H Q := fun pins s I => h.run pins s σ H Q I q
theorem wa_of {t : TA} (h : PA X es t) {Q : List V → Hp → Prop} (q : t σ H Q) : Wa X es σ H Q := fun pos pins s I => h.run pos pins s σ H Q I q
theorem ws_of {t : TS} (h : PS X st t) {D : Ends} (q : t D σ H) : Ws X st D σ H := fun pins s I => h.run pins s σ H D I q
theorem wb_of {t : TS} (h : PSs X sts t) {D : Ends} (q : t D σ H) : Wb X sts D σ H := fun pins s I => h.run pins s σ H D I q
theorem We.mono {Q Q' : VK} (h : We X e σ H Q) (k : ∀ v H', Q v H' → Q' v H') : We X e σ H Q' := fun pins s I =>
  thn (h pins s I) fun _ _ ⟨v, H', I', r, q⟩ => ⟨v, H', I', r, k v H' q⟩
theorem Wt.mono {Q Q' : Bool → Hp → Prop} (h : Wt X e σ H Q) (k : ∀ v H', Q v H' → Q' v H') : Wt X e σ H Q' := fun pins s I =>
  thn (h pins s I) fun _ _ ⟨H', I', q⟩ => ⟨H', I', k _ H' q⟩
end
/-! ### heaps -/
theorem Dp_mono {K : PySem.W.Frag} {F F' : Hp} (s : L2.Same F F') : (∀ {v d}, Dp K F v d → Dp K F' v d) := by
  intro v d h
  refine Dp.rec (motive_1 := fun v d _ => Dp K F' v d) (motive_2 := fun vs ds _ => DpAll K F' vs ds) ?_ ?_ ?_ ?_ ?_ ?_ ?_ ?_ h
  · exact .non
  · exact .bl
  · exact .int
  · exact .str
  · intro a xs ds h1 _ h2
    exact .lst (s.seq h1) h2
  · intro a xs ds h1 _ h2
    refine .tup ?_ h2
    rcases h1 with (h | ⟨o, h⟩) | h
    · exact .inl (.inl (s _ _ h))
    · exact .inl (.inr ⟨o, s _ _ h⟩)
    · exact .inr h
  · exact .nil
  · intro v vs d ds _ _ h1 h2
    exact .cons h1 h2
theorem DpAll_mono {K : PySem.W.Frag} {F F' : Hp} (s : L2.Same F F') : ∀ {vs ds}, DpAll K F vs ds → DpAll K F' vs ds
  | _, _, .nil => .nil
  | _, _, .cons a b => .cons (Dp_mono s a) (DpAll_mono s b)
end Z

end
section
set_option Elab.async false
set_option linter.all false
set_option maxRecDepth 100000
/-! Z2: the state by words, the judgements. -/
namespace Z
open PySem PySem.Spec PyProof.Rows L2
/-! ### a value, by what is true of it over the frozen heap -/
structure Pr where
  on : Hp → V → Prop
  mono : ∀ {F F' : Hp} {v : V}, L2.Same F F' → on F v → on F' v
def isV (v0 : V) : Pr := ⟨fun _ v => v = v0, fun _ h => h⟩
abbrev isI (i : Int) : Pr := isV (.int i)
abbrev isB (b : Bool) : Pr := isV (.bl b)
abbrev isS (x : Str) : Pr := isV (.str x)
abbrev isN : Pr := isV .non
abbrev isR (a : Addr) : Pr := isV (.ref a)
/-- item by item -/
def AllOn (ps : List Pr) (F : Hp) (vs : List V) : Prop := PySem.Paired (fun p v => Pr.on p F v) ps vs
theorem AllOn.mono {F F' : Hp} (s : L2.Same F F') : ∀ {ps : List Pr} {vs : List V}, AllOn ps F vs → AllOn ps F' vs
  | _, _, .nil => .nil
  | p :: _, _, .cons a b => .cons (p.mono s a) (AllOn.mono s b)
theorem AllOn.length {F : Hp} {ps : List Pr} {vs : List V} (h : AllOn ps F vs) : ps.length = vs.length := Paired.length h
theorem AllOn.get {F : Hp} : ∀ {ps : List Pr} {vs : List V}, AllOn ps F vs → ∀ {i : Nat} {p : Pr}, ps[i]? = some p → ∃ v, vs[i]? = some v ∧ p.on F v
  | _, _, .nil, i, p, h => by simp at h
  | _, _, .cons a b, 0, p, h => by
    simp at h
    subst h
    exact ⟨_, rfl, a⟩
  | _, _, .cons a b, i + 1, p, h => by
    obtain ⟨v, h1, h2⟩ := AllOn.get b (i := i) (by simpa using h)
    exact ⟨v, by simpa using h1, h2⟩
theorem AllOn.append {F : Hp} : ∀ {ps qs : List Pr} {vs ws : List V}, AllOn ps F vs → AllOn qs F ws → AllOn (ps ++ qs) F (vs ++ ws)
  | _, _, _, _, .nil, k => k
  | _, _, _, _, .cons a b, k => .cons a (AllOn.append b k)
theorem AllOn.snoc {F : Hp} {ps : List Pr} {vs : List V} {p : Pr} {v : V} (h : AllOn ps F vs) (r : p.on F v) : AllOn (ps ++ [p]) F (vs ++ [v]) := h.append (.cons r .nil)
theorem AllOn.take {F : Hp} : ∀ {ps : List Pr} {vs : List V} (n : Nat), AllOn ps F vs → AllOn (ps.take n) F (vs.take n)
  | _, _, 0, _ => .nil
  | _, _, _ + 1, .nil => .nil
  | _, _, n + 1, .cons r t => .cons r (AllOn.take n t)
theorem AllOn.drop {F : Hp} : ∀ {ps : List Pr} {vs : List V} (n : Nat), AllOn ps F vs → AllOn (ps.drop n) F (vs.drop n)
  | _, _, 0, r => r
  | _, _, _ + 1, .nil => .nil
  | _, _, n + 1, .cons _ t => AllOn.drop n t
theorem seqT_mono {K : PySem.W.Frag} {F F' : Hp} {a : Addr} {xs : List V} (s : L2.Same F F') (h : SqT K F a xs) : SqT K F' a xs := by
  rcases h with (h | ⟨o, h⟩) | h
  · exact .inl (.inl (s _ _ h))
  · exact .inl (.inr ⟨o, s _ _ h⟩)
  · exact .inr h
def rL (ps : List Pr) : Pr := ⟨fun F v => ∃ a vs, v = .ref a ∧ F a = some (.lst vs) ∧ AllOn ps F vs, fun s ⟨a, vs, e, h, k⟩ => ⟨a, vs, e, s _ _ h, k.mono s⟩⟩
/-- .. also the script, a list of the module's top -/
def rLs (K : PySem.W.Frag) (ps : List Pr) : Pr := ⟨fun F v => ∃ a vs, v = .ref a ∧ SqL K F a vs ∧ AllOn ps F vs, fun s ⟨a, vs, e, h, k⟩ => ⟨a, vs, e, s.seq h, k.mono s⟩⟩
def rT (K : PySem.W.Frag) (ps : List Pr) : Pr := ⟨fun F v => ∃ a vs, v = .ref a ∧ SqT K F a vs ∧ AllOn ps F vs, fun s ⟨a, vs, e, h, k⟩ => ⟨a, vs, e, seqT_mono s h, k.mono s⟩⟩
/-- a dict of int and text keys -/
def KvOn (kps : List (Key × Pr)) (F : Hp) (kvs : List (Key × V)) : Prop := PySem.Paired (fun (p : Key × Pr) (q : Key × V) => p.1 = q.1 ∧ p.2.on F q.2) kps kvs
theorem KvOn.mono {F F' : Hp} (s : L2.Same F F') : ∀ {ps : List (Key × Pr)} {vs : List (Key × V)}, KvOn ps F vs → KvOn ps F' vs
  | _, _, .nil => .nil
  | p :: _, _, .cons a b => .cons ⟨a.1, p.2.mono s a.2⟩ (KvOn.mono s b)
def rK (kps : List (Key × Pr)) : Pr := ⟨fun F v => ∃ a kvs, v = .ref a ∧ F a = some (.dK kvs) ∧ KvOn kps F kvs, fun s ⟨a, vs, e, h, k⟩ => ⟨a, vs, e, s _ _ h, k.mono s⟩⟩

/-! ### what may change: cells -/
def NoTbl (o : HO) : Prop := ∀ ps, o ≠ .tbl ps
/-- neither a table nor locked -/
def Fine (o : HO) : Prop := (∀ ps, o ≠ .tbl ps) ∧ ∀ ob u, o ≠ .frz ob u
structure Cell where
  a : Addr
  on : Hp → HO → Prop
  mono : ∀ {F F' : Hp} {o : HO}, L2.Same F F' → on F o → on F' o
  nt : ∀ {F : Hp} {o : HO}, on F o → NoTbl o
  /-- no cell is a tuple -/
  ntu : ∀ {F : Hp} {o : HO}, on F o → ∀ xs, o ≠ .tup xs
def cL (a : Addr) (ps : List Pr) : Cell := ⟨a, fun F o => ∃ vs, o = .lst vs ∧ AllOn ps F vs, fun s ⟨vs, e, h⟩ => ⟨vs, e, h.mono s⟩, fun ⟨vs, e, _⟩ => by subst e; exact fun _ z => (nomatch z), fun ⟨vs, e, _⟩ => by subst e; exact fun _ z => (nomatch z)⟩
def cK (a : Addr) (kps : List (Key × Pr)) : Cell := ⟨a, fun F o => ∃ kvs, o = .dK kvs ∧ KvOn kps F kvs, fun s ⟨vs, e, h⟩ => ⟨vs, e, h.mono s⟩, fun ⟨vs, e, _⟩ => by subst e; exact fun _ z => (nomatch z), fun ⟨vs, e, _⟩ => by subst e; exact fun _ z => (nomatch z)⟩
/-- an instance, its attributes' names in order -/
def InsOn (C : Addr) (fns : List Str) (ps : List Pr) (F : Hp) (o : HO) : Prop := ∃ (dx : Addr) (fs : List (Str × V)), o = .ins C dx fs ∧ fs.map Prod.fst = fns ∧ AllOn ps F (fs.map Prod.snd)
theorem InsOn.mono {C : Addr} {fns : List Str} {ps : List Pr} {F F' : Hp} {o : HO} (s : L2.Same F F') (h : InsOn C fns ps F o) : InsOn C fns ps F' o := by
  obtain ⟨dx, fs, e, n, h⟩ := h
  exact ⟨dx, fs, e, n, h.mono s⟩
theorem InsOn.nt {C : Addr} {fns : List Str} {ps : List Pr} {F : Hp} {o : HO} (h : InsOn C fns ps F o) : NoTbl o := by
  obtain ⟨dx, fs, e, n, h⟩ := h
  subst e
  exact fun _ z => (nomatch z)
theorem InsOn.ntu {C : Addr} {fns : List Str} {ps : List Pr} {F : Hp} {o : HO} (h : InsOn C fns ps F o) : ∀ xs, o ≠ .tup xs := by
  obtain ⟨dx, fs, e, n, h⟩ := h
  subst e
  exact fun _ z => (nomatch z)
def cI (a : Addr) (C : Addr) (fns : List Str) (ps : List Pr) : Cell := ⟨a, InsOn C fns ps, InsOn.mono, InsOn.nt, InsOn.ntu⟩

/-! ### tables of code objects -/
structure Tb where
  /-- the tables, each with the names that its places have -/
  nt : List (Addr × (Nat → Nat → Str)) := []
structure Tab (tb : Tb) (F H : Hp) : Prop where
  nt : ∀ p ∈ tb.nt, ∃ ps : Array Value, H p.1 = some (.tbl ps) ∧ TriplesOk ps.toList ∧ ∀ (pos : Pos) (cv : Value), codeAmong pos ps.toList = some cv → ∃ c, cv = .ref c ∧ F c = some (LamX.CodeO c (p.2 pos.line pos.col))
/-- all but what may change stays: tables and known things -/
def Fix (H H' : Hp) : Prop := ∀ b o, H b = some o → ((∃ ps, o = .tbl ps) ∨ ∃ φ, o = .ext φ) → H' b = some o
theorem Tab.fix {tb : Tb} {F H H' : Hp} (t : Tab tb F H) (f : Fix H H') : Tab tb F H' := by
  refine ⟨fun p hp => ?_⟩
  obtain ⟨ps, h1, h2, h3⟩ := t.nt p hp
  exact ⟨ps, f _ _ h1 (.inl ⟨ps, rfl⟩), h2, h3⟩
theorem Tab.grow {tb : Tb} {F F' H : Hp} (t : Tab tb F H) (s : L2.Same F F') : Tab tb F' H := by
  refine ⟨fun p hp => ?_⟩
  obtain ⟨ps, h1, h2, h3⟩ := t.nt p hp
  refine ⟨ps, h1, h2, fun pos cv hc => ?_⟩
  obtain ⟨c, e1, e2⟩ := h3 pos cv hc
  exact ⟨c, e1, s _ _ e2⟩

/-! ### the state -/
/-- where a piece of code began: the frozen heap, the heap, what it may change -/
structure Fx where
  F0 : Hp
  H0 : Hp
  D : List Addr
structure EnvOk (Γ : List (Option Pr)) (F : Hp) (σ : L2.St) : Prop where
  len : σ.length = Γ.length
  at_ : ∀ (i : Nat) (p : Pr), Γ[i]? = some (some p) → ∃ v, σ[i]? = some (some v) ∧ p.on F v
structure CellsOk (C : List Cell) (F H : Hp) : Prop where
  at_ : ∀ c ∈ C, ∃ o, H c.a = some o ∧ c.on F o ∧ F c.a = none
  nd : (C.map (·.a)).Nodup
/-- what is frozen stands so in the heap; a list (the script) may be locked -/
def RdL (H : Hp) (a : Addr) (o : HO) : Prop := H a = some o ∨ ∃ ob, H a = some (.frz ob o) ∧ ∃ xs, o = .lst xs
theorem RdL.rd {H : Hp} {a : Addr} {o : HO} (h : RdL H a o) : L2.Rd H a o := h.elim .inl fun ⟨ob, h, _⟩ => .inr ⟨ob, h⟩
/-- what is frozen anew is new, or a tuple; tuples come new alone -/
structure FrT (Φ : Fx) (F H : Hp) : Prop where
  fr : ∀ a o, F a = some o → Φ.F0 a = none → Φ.H0 a = none ∨ ∃ xs, o = .tup xs ∧ Φ.H0 a = some (.tup xs)
  tu : ∀ a xs, H a = some (.tup xs) → Φ.H0 a = none ∨ Φ.H0 a = some (.tup xs)
theorem FrT.put {Φ : Fx} {F H : Hp} {a : Addr} {o : HO} (h : FrT Φ F H) (ho : ∀ xs, o ≠ .tup xs) : FrT Φ F (upd H a o) := ⟨h.fr, fun b xs e => by
  by_cases hb : b = a
  · subst hb
    rw [upd_same] at e
    exact absurd (Option.some.inj e) (ho xs)
  · rw [upd_ne hb] at e
    exact h.tu b xs e⟩
theorem FrT.new {Φ : Fx} {F H : Hp} {a : Addr} {o : HO} (h : FrT Φ F H) (hn : Φ.H0 a = none) : FrT Φ F (upd H a o) := ⟨h.fr, fun b xs e => by
  by_cases hb : b = a
  · subst hb
    exact .inl hn
  · rw [upd_ne hb] at e
    exact h.tu b xs e⟩
theorem FrT.add {Φ : Fx} {F H : Hp} {a : Addr} {o : HO} (h : FrT Φ F H) (hn : Φ.H0 a = none) : FrT Φ (upd F a o) H := ⟨fun b u e n => by
  by_cases hb : b = a
  · subst hb
    exact .inl hn
  · rw [upd_ne hb] at e
    exact h.fr b u e n, h.tu⟩
theorem FrT.del {Φ : Fx} {F H H' : Hp} (h : FrT Φ F H) (hd : ∀ a xs, H' a = some (.tup xs) → H a = some (.tup xs)) : FrT Φ F H' := ⟨h.fr, fun a xs e => h.tu a xs (hd a xs e)⟩
structure Sta (tb : Tb) (Φ : Fx) (Γ : List (Option Pr)) (C : List Cell) (σ : L2.St) (F H : Hp) : Prop where
  env : EnvOk Γ F σ
  cells : CellsOk C F H
  subx : ∀ a o, F a = some o → RdL H a o
  fine : ∀ a o, F a = some o → Fine o
  tab : Tab tb F H
  base : L2.Same Φ.F0 F
  fresh : FrT Φ F H
  keep : ∀ a o, Φ.H0 a = some o → NoTbl o → a ∉ Φ.D → H a = some o
  own : ∀ c ∈ C, c.a ∈ Φ.D ∨ Φ.H0 c.a = none
  there : ∀ a, H a = none → Φ.H0 a = none
theorem Sta.sub {tb : Tb} {Φ : Fx} {Γ : List (Option Pr)} {C : List Cell} {σ : L2.St} {F H : Hp} (S : Sta tb Φ Γ C σ F H) : ∀ a o, F a = some o → L2.Rd H a o := fun a o e => (S.subx a o e).rd
/-- a tuple is not locked -/
theorem Sta.tupx {tb : Tb} {Φ : Fx} {Γ : List (Option Pr)} {C : List Cell} {σ : L2.St} {F H : Hp} (S : Sta tb Φ Γ C σ F H) {a : Addr} {xs : List V} (e : F a = some (.tup xs)) : H a = some (.tup xs) := by
  rcases S.subx a _ e with h | ⟨_, _, ys, h⟩
  · exact h
  · cases h
theorem EnvOk.mono {Γ : List (Option Pr)} {F F' : Hp} {σ : L2.St} (h : EnvOk Γ F σ) (s : L2.Same F F') : EnvOk Γ F' σ :=
  ⟨h.len, fun i p e => let ⟨v, h1, h2⟩ := h.at_ i p e; ⟨v, h1, p.mono s h2⟩⟩
theorem EnvOk.set {Γ : List (Option Pr)} {F : Hp} {σ : L2.St} (h : EnvOk Γ F σ) (i : Nat) {p : Pr} {v : V} (r : p.on F v) : EnvOk (Γ.set i (some p)) F (σ.set i (some v)) := by
  refine ⟨by simp [h.len], fun j q e => ?_⟩
  by_cases hj : i = j
  · subst hj
    by_cases hi : i < Γ.length
    · rw [List.getElem?_set_self hi] at e
      cases e
      exact ⟨v, by rw [List.getElem?_set_self (by rw [h.len]; exact hi)], r⟩
    · rw [List.getElem?_eq_none (by simpa using hi)] at e
      cases e
  · rw [List.getElem?_set_ne hj] at e
    obtain ⟨w, h1, h2⟩ := h.at_ j q e
    exact ⟨w, by rw [List.getElem?_set_ne hj]; exact h1, h2⟩
theorem EnvOk.forget {Γ : List (Option Pr)} {F : Hp} {σ : L2.St} (h : EnvOk Γ F σ) (i : Nat) : EnvOk (Γ.set i none) F σ := by
  refine ⟨by simp [h.len], fun j q e => ?_⟩
  by_cases hj : i = j
  · subst hj
    by_cases hi : i < Γ.length
    · rw [List.getElem?_set_self hi] at e
      cases e
    · rw [List.getElem?_eq_none (by simpa using hi)] at e
      cases e
  · rw [List.getElem?_set_ne hj] at e
    exact h.at_ j q e
section
variable {tb : Tb} {Φ : Fx} {Γ : List (Option Pr)} {C : List Cell} {σ : L2.St} {F H F' H' : Hp}
theorem Sta.seqL {K : PySem.W.Frag} {a : Addr} {xs : List V} (S : Sta tb Φ Γ C σ F H) (h : SqL K F a xs) : SqL K H a xs := by
  rcases h with (h | ⟨o, h⟩) | h
  · exact .inl (S.sub _ _ h)
  · exact absurd rfl ((S.fine _ _ h).2 o _)
  · exact .inr h
theorem Sta.seqT {K : PySem.W.Frag} {a : Addr} {xs : List V} (S : Sta tb Φ Γ C σ F H) (h : SqT K F a xs) : SqT K H a xs := by
  rcases h with (h | ⟨o, h⟩) | h
  · exact .inl (S.sub _ _ h)
  · exact absurd rfl ((S.fine _ _ h).2 o _)
  · exact .inr h
theorem fix_upd {H : Hp} {a : Addr} {o u : HO} (h : H a = some o) (h1 : ∀ ps, o ≠ .tbl ps) (h2 : ∀ φ, o ≠ .ext φ) : Fix H (upd H a u) := fun b w e k => by
  have hb : b ≠ a := fun z => by
    rw [z, h] at e
    cases e
    rcases k with ⟨ps, k⟩ | ⟨φ, k⟩
    · exact h1 ps k
    · exact h2 φ k
  rw [upd_ne hb]
  exact e
theorem fix_new {H : Hp} {a : Addr} {u : HO} (h : H a = none) : Fix H (upd H a u) := fun b w e k => by
  rw [upd_ne (ne_of_none e h)]
  exact e
theorem same_new {F : Hp} {a : Addr} {u : HO} (h : F a = none) : L2.Same F (upd F a u) := fun b w e => by
  rw [upd_ne (ne_of_none e h)]
  exact e
theorem Sta.notF (S : Sta tb Φ Γ C σ F H) {a : Addr} (h : H a = none) : F a = none := by
  cases e : F a with
  | none => rfl
  | some o =>
    rcases S.sub a o e with h' | ⟨ob, h'⟩ <;> (rw [h] at h'; cases h')
/-- a new frozen thing -/
theorem Sta.newF (S : Sta tb Φ Γ C σ F H) {a : Addr} {o : HO} (h : H a = none) (ho : Fine o) : Sta tb Φ Γ C σ (upd F a o) (upd H a o) ∧ L2.Same F (upd F a o) := by
  have hF := S.notF h
  have s := same_new (u := o) hF
  refine ⟨⟨S.env.mono s, ⟨fun c hc => ?_, S.cells.nd⟩, fun b u e => ?_, fun b u e => ?_, (S.tab.grow s).fix (fix_new h), fun b u e => s _ _ (S.base _ _ e), (S.fresh.new (S.there a h)).add (S.there a h), fun b u e n d => ?_, S.own, fun b e => ?_⟩, s⟩
  · obtain ⟨u, h1, h2, h3⟩ := S.cells.at_ c hc
    have ne : c.a ≠ a := ne_of_none h1 h
    exact ⟨u, by rw [upd_ne ne]; exact h1, c.mono s h2, by rw [upd_ne ne]; exact h3⟩
  · by_cases hb : b = a
    · subst hb
      rw [upd_same] at e
      cases e
      exact .inl upd_same
    · rw [upd_ne hb] at e
      unfold RdL
      rw [upd_ne hb]
      exact S.subx b u e
  · by_cases hb : b = a
    · subst hb
      rw [upd_same] at e
      cases e
      exact ho
    · rw [upd_ne hb] at e
      exact S.fine b u e
  · rw [upd_ne (ne_of_none (S.keep b u e n d) h)]
    exact S.keep b u e n d
  · by_cases hb : b = a
    · subst hb
      exact S.there b h
    · rw [upd_ne hb] at e
      exact S.there b e
/-- a new cell -/
theorem Sta.newC (S : Sta tb Φ Γ C σ F H) {c : Cell} {o : HO} (h : H c.a = none) (ho : c.on F o) : Sta tb Φ Γ (c :: C) σ F (upd H c.a o) := by
  have hF := S.notF h
  refine ⟨S.env, ⟨fun d hd => ?_, ?_⟩, fun b u e => ?_, S.fine, S.tab.fix (fix_new h), S.base, S.fresh.new (S.there _ h), fun b u e n d => ?_, fun d hd => ?_, fun b e => ?_⟩
  · rcases List.mem_cons.mp hd with rfl | hd
    · exact ⟨o, upd_same, ho, hF⟩
    · obtain ⟨u, h1, h2, h3⟩ := S.cells.at_ d hd
      exact ⟨u, by rw [upd_ne (ne_of_none h1 h)]; exact h1, h2, h3⟩
  · rw [List.map_cons, List.nodup_cons]
    refine ⟨fun z => ?_, S.cells.nd⟩
    obtain ⟨d, hd, e⟩ := List.mem_map.mp z
    obtain ⟨u, h1, _, _⟩ := S.cells.at_ d hd
    rw [e, h] at h1
    cases h1
  · have hb : b ≠ c.a := fun z => by
      rw [z, hF] at e
      cases e
    unfold RdL
    rw [upd_ne hb]
    exact S.subx b u e
  · rw [upd_ne (ne_of_none (S.keep b u e n d) h)]
    exact S.keep b u e n d
  · rcases List.mem_cons.mp hd with rfl | hd
    · exact .inr (S.there _ h)
    · exact S.own d hd
  · by_cases hb : b = c.a
    · subst hb
      exact S.there _ h
    · rw [upd_ne hb] at e
      exact S.there b e
theorem upd_none_iff {H : Hp} {a b : Addr} {o u : HO} (h : H a = some u) (e : upd H a o b = none) : H b = none := by
  by_cases hb : b = a
  · rw [hb, upd_same] at e
    cases e
  · rw [upd_ne hb] at e
    exact e
/-- a cell's content changes -/
theorem Sta.put {C1 C2 : List Cell} {c c' : Cell} {o u : HO} (S : Sta tb Φ Γ (C1 ++ c :: C2) σ F H) (ha : c'.a = c.a) (hu : H c.a = some u) (h2 : ∀ φ, u ≠ .ext φ) (ho : c'.on F o) : Sta tb Φ Γ (C1 ++ c' :: C2) σ F (upd H c.a o) := by
  obtain ⟨w, w1, w2, hF⟩ := S.cells.at_ c (by simp)
  have hm : ∀ d, d ∈ C1 ++ c' :: C2 → d = c' ∨ (d ∈ C1 ++ c :: C2 ∧ d.a ≠ c.a) := fun d hd => by
    have nd := S.cells.nd
    rw [List.map_append, List.map_cons, List.nodup_append] at nd
    obtain ⟨n1, n2, n3⟩ := nd
    rw [List.nodup_cons] at n2
    rcases List.mem_append.mp hd with z | z
    · refine .inr ⟨by simp [z], fun e => ?_⟩
      exact n3 d.a (List.mem_map.mpr ⟨d, z, rfl⟩) c.a (by simp) e
    · rcases List.mem_cons.mp z with z | z
      · exact .inl z
      · exact .inr ⟨by simp [z], fun e => n2.1 (List.mem_map.mpr ⟨d, z, e⟩)⟩
  have w3 : w = u := by
    rw [w1] at hu
    exact Option.some.inj hu
  subst w3
  refine ⟨S.env, ⟨fun d hd => ?_, ?_⟩, fun b v e => ?_, S.fine, S.tab.fix (fix_upd hu (c.nt w2) h2), S.base, S.fresh.put (c'.ntu ho), fun b v e n d => ?_, fun d hd => ?_, fun b e => S.there b (upd_none_iff hu e)⟩
  · rcases hm d hd with rfl | ⟨h1, h3⟩
    · exact ⟨o, by rw [ha, upd_same], ho, by rw [ha]; exact hF⟩
    · obtain ⟨v, q1, q2, q3⟩ := S.cells.at_ d h1
      exact ⟨v, by rw [upd_ne h3]; exact q1, q2, q3⟩
  · have nd := S.cells.nd
    rw [List.map_append, List.map_cons] at nd ⊢
    rw [ha]
    exact nd
  · have hb : b ≠ c.a := fun z => by
      rw [z, hF] at e
      cases e
    unfold RdL
    rw [upd_ne hb]
    exact S.subx b v e
  · have hb : b ≠ c.a := fun z => by
      rcases S.own c (by simp) with k | k
      · rw [← z] at k
        exact d k
      · rw [← z, e] at k
        cases k
    rw [upd_ne hb]
    exact S.keep b v e n d
  · rcases hm d hd with rfl | ⟨h1, h3⟩
    · rw [ha]
      exact S.own c (by simp)
    · exact S.own d h1
/-- a cell is frozen -/
theorem Sta.freeze {C1 C2 : List Cell} {c : Cell} (S : Sta tb Φ Γ (C1 ++ c :: C2) σ F H) (hD : c.a ∉ Φ.D) (hf : ∀ F o, c.on F o → Fine o) : ∃ o, c.on (upd F c.a o) o ∧ L2.Same F (upd F c.a o) ∧ Sta tb Φ Γ (C1 ++ C2) σ (upd F c.a o) H := by
  obtain ⟨o, h1, h2, hF⟩ := S.cells.at_ c (by simp)
  have s := same_new (u := o) hF
  refine ⟨o, c.mono s h2, s, S.env.mono s, ⟨fun d hd => ?_, ?_⟩, fun b u e => ?_, fun b u e => ?_, S.tab.grow s, fun b u e => s _ _ (S.base _ _ e), S.fresh.add ((S.own c (by simp)).resolve_left hD), S.keep, fun d hd => ?_, S.there⟩
  · have hd' : d ∈ C1 ++ c :: C2 := by
      rcases List.mem_append.mp hd with z | z <;> simp [z]
    obtain ⟨u, q1, q2, q3⟩ := S.cells.at_ d hd'
    have nd := S.cells.nd
    rw [List.map_append, List.map_cons, List.nodup_append] at nd
    obtain ⟨n1, n2, n3⟩ := nd
    rw [List.nodup_cons] at n2
    have hne : d.a ≠ c.a := fun e => by
      rcases List.mem_append.mp hd with z | z
      · exact n3 d.a (List.mem_map.mpr ⟨d, z, rfl⟩) c.a (by simp) e
      · exact n2.1 (List.mem_map.mpr ⟨d, z, e⟩)
    exact ⟨u, q1, d.mono s q2, by rw [upd_ne hne]; exact q3⟩
  · have nd := S.cells.nd
    rw [List.map_append, List.map_cons] at nd
    rw [List.map_append]
    exact nd.sublist (List.Sublist.append_left (List.sublist_cons_self ..) _)
  · by_cases hb : b = c.a
    · subst hb
      rw [upd_same] at e
      cases e
      exact .inl h1
    · rw [upd_ne hb] at e
      exact S.subx b u e
  · by_cases hb : b = c.a
    · subst hb
      rw [upd_same] at e
      cases e
      exact hf F _ h2
    · rw [upd_ne hb] at e
      exact S.fine b u e
  · have hd' : d ∈ C1 ++ c :: C2 := by
      rcases List.mem_append.mp hd with z | z <;> simp [z]
    exact S.own d hd'
theorem Sta.setv (S : Sta tb Φ Γ C σ F H) (i : Nat) {p : Pr} {v : V} (r : p.on F v) : Sta tb Φ (Γ.set i (some p)) C (σ.set i (some v)) F H :=
  ⟨S.env.set i r, S.cells, S.subx, S.fine, S.tab, S.base, S.fresh, S.keep, S.own, S.there⟩
theorem Sta.forget (S : Sta tb Φ Γ C σ F H) (i : Nat) : Sta tb Φ (Γ.set i none) C σ F H :=
  ⟨S.env.forget i, S.cells, S.subx, S.fine, S.tab, S.base, S.fresh, S.keep, S.own, S.there⟩
theorem Sta.perm {C' : List Cell} (S : Sta tb Φ Γ C σ F H) (p : C.Perm C') : Sta tb Φ Γ C' σ F H :=
  ⟨S.env, ⟨fun c hc => S.cells.at_ c (p.mem_iff.mpr hc), (p.map _).nodup_iff.mp S.cells.nd⟩, S.subx, S.fine, S.tab, S.base, S.fresh, S.keep, fun c hc => S.own c (p.mem_iff.mpr hc), S.there⟩
end
end Z

end
section
set_option Elab.async false
set_option linter.all false
set_option maxRecDepth 100000
/-! Z3: the judgements Ev, Et, Ea, Tr and the rules of expressions. -/
namespace Z
open PySem PySem.Spec PyProof.Rows L2
structure J where
  X : L2.Cx
  tb : Tb
  /-- what may be raised: the class, the cells then -/
  XP : Value → List Cell → Prop
abbrev Gm := List (Option Pr)
abbrev Ps := List Cell → Pr → Prop
def WXof (j : J) (Φ : Fx) : WX := fun cls _ _ H => ∃ C F, j.XP cls C ∧ Sta j.tb Φ [] C [] F H
def XW (j : J) (Φ : Fx) : Prop := Takes j.X (WXof j Φ)
/-- what follows a value -/
def Kv (j : J) (Φ : Fx) (Γ : Gm) (σ : L2.St) (F : Hp) (R : Ps) (Q : VK) : Prop := ∀ v F' H' C' ρ, R C' ρ → Sta j.tb Φ Γ C' σ F' H' → L2.Same F F' → ρ.on F' v → Q v H'
def Ev (j : J) (Γ : Gm) (C : List Cell) (e : Expr) (R : Ps) : Prop := ∀ Φ σ F H Q, XW j Φ → Sta j.tb Φ Γ C σ F H → Kv j Φ Γ σ F R Q → We j.X e σ H Q
def Kb (j : J) (Φ : Fx) (Γ : Gm) (σ : L2.St) (F : Hp) (R : List Cell → Bool → Prop) (Q : Bool → Hp → Prop) : Prop := ∀ b F' H' C', R C' b → Sta j.tb Φ Γ C' σ F' H' → L2.Same F F' → Q b H'
def Et (j : J) (Γ : Gm) (C : List Cell) (e : Expr) (R : List Cell → Bool → Prop) : Prop := ∀ Φ σ F H Q, XW j Φ → Sta j.tb Φ Γ C σ F H → Kb j Φ Γ σ F R Q → Wt j.X e σ H Q
def Ka (j : J) (Φ : Fx) (Γ : Gm) (σ : L2.St) (F : Hp) (R : List Cell → List Pr → Prop) (Q : List V → Hp → Prop) : Prop := ∀ vs F' H' C' ρs, R C' ρs → Sta j.tb Φ Γ C' σ F' H' → L2.Same F F' → AllOn ρs F' vs → Q vs H'
def Ea (j : J) (Γ : Gm) (C : List Cell) (es : List Expr) (R : List Cell → List Pr → Prop) : Prop := ∀ Φ σ F H Q, XW j Φ → Sta j.tb Φ Γ C σ F H → Ka j Φ Γ σ F R Q → Wa j.X es σ H Q
structure Po where
  nx : Gm → List Cell → Prop := fun _ _ => False
  rt : Ps := fun _ _ => False
  bk : Gm → List Cell → Prop := fun _ _ => False
  ct : Gm → List Cell → Prop := fun _ _ => False
def NxOf (tb : Tb) (Φ : Fx) (N : Gm → List Cell → Prop) : L2.St → Hp → Prop := fun σ H => ∃ Γ C F, N Γ C ∧ Sta tb Φ Γ C σ F H
def RtOf (tb : Tb) (Φ : Fx) (R : Ps) : VK := fun v H => ∃ Γ C F σ ρ, R C ρ ∧ Sta tb Φ Γ C σ F H ∧ ρ.on F v
def Po.ends (P : Po) (tb : Tb) (Φ : Fx) : Ends := { nx := NxOf tb Φ P.nx, rt := RtOf tb Φ P.rt, bk := NxOf tb Φ P.bk, ct := NxOf tb Φ P.ct }
def Tr (j : J) (Γ : Gm) (C : List Cell) (sts : List Stmt) (P : Po) : Prop := ∀ Φ σ F H, XW j Φ → Sta j.tb Φ Γ C σ F H → Wb j.X sts (P.ends j.tb Φ) σ H
section
variable {j : J} {Γ : Gm} {C : List Cell} {R R' : Ps} {pos pos' pos2 : Pos} {a b c e : Expr}
theorem Kv.same {Φ : Fx} {σ : L2.St} {F F1 : Hp} {Q : VK} (k : Kv j Φ Γ σ F R Q) (s : L2.Same F F1) : Kv j Φ Γ σ F1 R Q := fun v F' H' C' ρ r S s' o => k v F' H' C' ρ r S (s.trans s') o
theorem Ev.imp (h : Ev j Γ C e R) (k : ∀ C' ρ, R C' ρ → R' C' ρ) : Ev j Γ C e R' := fun Φ σ F H Q x S K => h Φ σ F H Q x S fun v F' H' C' ρ r => K v F' H' C' ρ (k C' ρ r)
/-- a value by a rule of the hand layer -/
theorem ev_lift {t : TE} (h : PE j.X e t) (k : ∀ Φ σ F H Q, XW j Φ → Sta j.tb Φ Γ C σ F H → Kv j Φ Γ σ F R Q → t σ H Q) : Ev j Γ C e R := fun Φ σ F H Q x S K => we_of h (k Φ σ F H Q x S K)
theorem et_lift {t : TT} {R : List Cell → Bool → Prop} (h : PT j.X e t) (k : ∀ Φ σ F H Q, XW j Φ → Sta j.tb Φ Γ C σ F H → Kb j Φ Γ σ F R Q → t σ H Q) : Et j Γ C e R := fun Φ σ F H Q x S K => wt_of h (k Φ σ F H Q x S K)
theorem Kv.now {Φ : Fx} {σ : L2.St} {F H : Hp} {Q : VK} {ρ : Pr} {v : V} (k : Kv j Φ Γ σ F R Q) (S : Sta j.tb Φ Γ C σ F H) (r : R C ρ) (o : ρ.on F v) : Q v H := k v F H C ρ r S (L2.Same.refl F) o
/-! ### names, constants -/
theorem ev_name (i : Nat) {x : Str} {p : Pr} (hp : Γ[i]? = some (some p)) (r : R C p) (hN : j.X.N[i]? = some x := by rfl) (hv : Vis j.X.env.scope x := by first | exact Or.inl rfl | exact Or.inr (Or.inl rfl) | exact Or.inr (Or.inr rfl))
    (hd : (x == ("__debug__" : Str)) = false := by decide) (hcd : (x == ("__classdict__" : Str)) = false := by decide) : Ev j Γ C (.Name x pos) R :=
  ev_lift (pe_var hN hv hd hcd) fun Φ σ F H Q _ S K => by
    obtain ⟨v, h1, h2⟩ := S.env.at_ i p hp
    exact ⟨v, h1, K.now S r h2⟩
theorem ev_const {v : V} (h : PE j.X e (tC v)) (r : R C (isV v)) : Ev j Γ C e R := ev_lift h fun Φ σ F H Q _ S K => K.now S r rfl
theorem ev_int {i : Int} {k : Nat} (r : R C (isI i)) : Ev j Γ C (.Constant (.int i) k pos) R := ev_const pe_int r
theorem ev_bl {i : Bool} {k : Nat} (r : R C (isB i)) : Ev j Γ C (.Constant (.bool i) k pos) R := ev_const pe_bl r
theorem ev_non {k : Nat} (r : R C isN) : Ev j Γ C (.Constant .none k pos) R := ev_const pe_non r
theorem ev_str {x : Str} {k : Nat} (r : R C (isS x)) : Ev j Γ C (.Constant (.str x) k pos) R := ev_const pe_str r
/-- a module's name: rel a value's word at every frozen heap -/
theorem ev_glob {x : Str} {v : V} {u : Value} (hm : j.X.mg x = some u) (rv : RelV v u) (r : R C (isV v)) (hg : Gl j.X x := by rfl) (hd : (x == ("__debug__" : Str)) = false := by decide) : Ev j Γ C (.Name x pos) R := ev_const (pe_glob hg hm rv hd) r

/-! ### operators by the hand layer's rules -/
/-- what an operator asks -/
def OpOk (j : J) (Γ : Gm) (r : R2) (p q : Pr) (C : List Cell) (R : Ps) : Prop := ∀ Φ σ F H v w Q, XW j Φ → Sta j.tb Φ Γ C σ F H → p.on F v → q.on F w → Kv j Φ Γ σ F R Q → r v w H Q
theorem ev_two {e : Expr} {r : R2} (h : PE j.X e (tOp r (We j.X a) (We j.X b))) (k : Ev j Γ C a fun C1 p => Ev j Γ C1 b fun C2 q => OpOk j Γ r p q C2 R) : Ev j Γ C e R :=
  ev_lift h fun Φ σ F H Q x S K => by
    refine k Φ σ F H _ x S fun v F1 H1 C1 p r1 S1 s1 o1 => ?_
    refine r1 Φ σ F1 H1 _ x S1 fun w F2 H2 C2 q r2 S2 s2 o2 => ?_
    exact r2 Φ σ F2 H2 v w Q x S2 (p.mono s2 o1) o2 (K.same (s1.trans s2))
theorem ev_op {op : Operator} {r : R2} (ho : OpR j.X (binaryOp op) r) (k : Ev j Γ C a fun C1 p => Ev j Γ C1 b fun C2 q => OpOk j Γ r p q C2 R) : Ev j Γ C (.BinOp a op b pos) R := ev_two (pe_op ho pe_we pe_we) k
theorem ev_cmp {op : CmpOp} {r : R2} (ho : OpR j.X (compareOp op) r) (hm : behindInMarks op b = false) (k : Ev j Γ C a fun C1 p => Ev j Γ C1 b fun C2 q => OpOk j Γ r p q C2 R) : Ev j Γ C (.Compare a [op] [b] pos) R := ev_two (pe_cmpR ho pe_we pe_we hm) k
theorem ev_ix {r : R2} (hr : IxR j.X r) (k : Ev j Γ C a fun C1 p => Ev j Γ C1 b fun C2 q => OpOk j Γ r p q C2 R) (hs : PlainIx b := by exact fun _ _ => rfl) : Ev j Γ C (.Subscript a b pos) R := ev_two (pe_ix hr pe_we pe_we hs) k
def UnOk (j : J) (Γ : Gm) (r : V → Hp → VK → Prop) (p : Pr) (C : List Cell) (R : Ps) : Prop := ∀ Φ σ F H v Q, XW j Φ → Sta j.tb Φ Γ C σ F H → p.on F v → Kv j Φ Γ σ F R Q → r v H Q
theorem ev_one {e : Expr} {r : V → Hp → VK → Prop} (h : PE j.X e (tUn r (We j.X a))) (k : Ev j Γ C a fun C1 p => UnOk j Γ r p C1 R) : Ev j Γ C e R :=
  ev_lift h fun Φ σ F H Q x S K => by
    refine k Φ σ F H _ x S fun v F1 H1 C1 p r1 S1 s1 o1 => ?_
    exact r1 Φ σ F1 H1 v Q x S1 o1 (K.same s1)
theorem ev_un {op : UnaryOp} {r : V → Hp → VK → Prop} (ho : UnR j.X (unaryOp op) r) (k : Ev j Γ C a fun C1 p => UnOk j Γ r p C1 R) : Ev j Γ C (.UnaryOp op a pos) R := ev_one (pe_un ho pe_we) k
/-! ### argument lists -/
theorem ea_nil {R : List Cell → List Pr → Prop} (r : R C []) : Ea j Γ C [] R := fun Φ σ F H Q x S K => wa_of pa_nil (K [] F H C [] r S (L2.Same.refl F) .nil)
theorem ea_cons {es : List Expr} {R : List Cell → List Pr → Prop} (k : Ev j Γ C e fun C1 p => Ea j Γ C1 es fun C2 ps => R C2 (p :: ps)) (hs : starEach (e :: es) j.X.env = (false, eval e j.X.env) :: starEach es j.X.env := by rfl) : Ea j Γ C (e :: es) R := fun Φ σ F H Q x S K =>
  wa_of (pa_cons pe_we pa_wa hs) (k Φ σ F H _ x S fun v F1 H1 C1 p r1 S1 s1 o1 => r1 Φ σ F1 H1 _ x S1 fun vs F2 H2 C2 ps r2 S2 s2 o2 => K (v :: vs) F2 H2 C2 (p :: ps) r2 S2 (s1.trans s2) (.cons (p.mono s2 o1) o2))
/-- what a built-in asks of its arguments -/
def CallOk (j : J) (Γ : Gm) (r : List V → Hp → VK → Prop) (ps : List Pr) (C : List Cell) (R : Ps) : Prop := ∀ Φ σ F H vs Q, XW j Φ → Sta j.tb Φ Γ C σ F H → AllOn ps F vs → Kv j Φ Γ σ F R Q → r vs H Q
theorem ev_many {es : List Expr} {e : Expr} {r : List V → Hp → VK → Prop} (h : PE j.X e (tCB r (Wa j.X es))) (k : Ea j Γ C es fun C1 ps => CallOk j Γ r ps C1 R) : Ev j Γ C e R :=
  ev_lift h fun Φ σ F H Q x S K => k Φ σ F H _ x S fun vs F1 H1 C1 ps r1 S1 s1 o1 => r1 Φ σ F1 H1 vs Q x S1 o1 (K.same s1)
theorem ev_callB {x : Str} {p : Pos} {id : String} {es : List Expr} {r : List V → Hp → VK → Prop} (hc : CallR j.X (.builtin id) r) (hm : j.X.mg x = none) (hv : bootBuiltins x = some (.builtin id)) (k : Ea j Γ C (e :: es) fun C1 ps => CallOk j Γ r ps C1 R) (hg : Gl j.X x := by rfl)
    (hn : x ≠ "__name__" := by decide) (hdb : (x == ("__debug__" : Str)) = false := by decide) (he : starEach (e :: es) j.X.env = (false, eval e j.X.env) :: starEach es j.X.env := by rfl) (hpl : (backTo pos (starEach es j.X.env)).any (·.1) = false := by rfl) : Ev j Γ C (.Call (.Name x p) (e :: es) [] pos) R :=
  ev_many (pe_callB hc hg hm hv pa_wa hn hdb he hpl) k
theorem ev_callTy {x : Str} {p : Pos} {T : String} {es : List Expr} {r : List V → Hp → VK → Prop} (hc : CallR j.X (.type T) r) (hm : j.X.mg x = none) (hv : bootBuiltins x = some (.type T)) (k : Ea j Γ C (e :: es) fun C1 ps => CallOk j Γ r ps C1 R) (hg : Gl j.X x := by rfl)
    (hn : x ≠ "__name__" := by decide) (hdb : (x == ("__debug__" : Str)) = false := by decide) (he : starEach (e :: es) j.X.env = (false, eval e j.X.env) :: starEach es j.X.env := by rfl) (hpl : (backTo pos (starEach es j.X.env)).any (·.1) = false := by rfl) : Ev j Γ C (.Call (.Name x p) (e :: es) [] pos) R :=
  ev_many (pe_callTy hc hg hm hv pa_wa hn hdb he hpl) k
/-! ### displays -/
theorem ev_tup {es : List Expr} {k : Nat} (h : Ea j Γ C es fun C1 ps => ps.length ≤ sizeLine ∧ R C1 (rT j.X.K ps)) : Ev j Γ C (.Tuple es k pos) R :=
  ev_lift (pe_tup pa_wa) fun Φ σ F H Q x S K => h Φ σ F H _ x S fun vs F1 H1 C1 ps ⟨hz, r1⟩ S1 s1 o1 => by
    refine ⟨by rw [← o1.length]; exact hz, fun p hp => ?_⟩
    obtain ⟨S2, s2⟩ := S1.newF (o := .tup vs) hp ⟨fun _ z => (nomatch z), fun _ _ z => (nomatch z)⟩
    exact K _ _ _ _ _ r1 S2 (s1.trans s2) ⟨p, vs, rfl, SqT.of upd_same, o1.mono s2⟩
/-- a list that nobody changes -/
theorem ev_lst {es : List Expr} (h : Ea j Γ C es fun C1 ps => ps.length ≤ sizeLine ∧ R C1 (rL ps)) : Ev j Γ C (.List es pos) R :=
  ev_lift (pe_lst pa_wa) fun Φ σ F H Q x S K => h Φ σ F H _ x S fun vs F1 H1 C1 ps ⟨hz, r1⟩ S1 s1 o1 => by
    refine ⟨by rw [← o1.length]; exact hz, fun p hp => ?_⟩
    obtain ⟨S2, s2⟩ := S1.newF (o := .lst vs) hp ⟨fun _ z => (nomatch z), fun _ _ z => (nomatch z)⟩
    exact K _ _ _ _ _ r1 S2 (s1.trans s2) ⟨p, vs, rfl, upd_same, o1.mono s2⟩
/-- a new list as a cell -/
theorem ev_lstC {es : List Expr} (h : Ea j Γ C es fun C1 ps => ps.length ≤ sizeLine ∧ ∀ p, R (cL p ps :: C1) (isR p)) : Ev j Γ C (.List es pos) R :=
  ev_lift (pe_lst pa_wa) fun Φ σ F H Q x S K => h Φ σ F H _ x S fun vs F1 H1 C1 ps ⟨hz, r1⟩ S1 s1 o1 => by
    refine ⟨by rw [← o1.length]; exact hz, fun p hp => ?_⟩
    exact K _ _ _ _ _ (r1 p) (S1.newC (c := cL p ps) hp ⟨vs, rfl, o1⟩) s1 rfl
theorem ev_dicC (r : ∀ p, R (cK p [] :: C) (isR p)) : Ev j Γ C (.Dict [] [] pos) R :=
  ev_lift pe_dnewK fun Φ σ F H Q x S K p hp => K _ _ _ _ _ (r p) (S.newC (c := cK p []) hp ⟨[], rfl, .nil⟩) (L2.Same.refl F) rfl
/-! ### tests -/
theorem et_val {R2' : List Cell → Bool → Prop} (h : Ev j Γ C e fun C1 p => ∃ b, p = isB b ∧ R2' C1 b) (he : ∀ whole, isTrue e j.X.env whole = (do let v ← whole; standAt e.pos; holding [v] (truthy v)) := by intro _; rfl) : Et j Γ C e R2' :=
  et_lift (pt_val pe_we he) fun Φ σ F H Q x S K => h Φ σ F H _ x S fun v F1 H1 C1 p ⟨b, ep, r⟩ S1 s1 o1 => by
    subst ep
    exact ⟨b, o1, K b F1 H1 C1 r S1 s1⟩
theorem et_cmp {op : CmpOp} {r : R2} {R2' : List Cell → Bool → Prop} (ho : OpR j.X (compareOp op) r) (hm : behindInMarks op b = false) (k : Ev j Γ C a fun C1 p => Ev j Γ C1 b fun C2 q => OpOk j Γ r p q C2 fun C3 z => ∃ b, z = isB b ∧ R2' C3 b) : Et j Γ C (.Compare a [op] [b] pos) R2' :=
  et_lift (pt_cmpR ho pe_we pe_we hm) fun Φ σ F H Q x S K => by
    refine k Φ σ F H _ x S fun v F1 H1 C1 p r1 S1 s1 o1 => ?_
    refine r1 Φ σ F1 H1 _ x S1 fun w F2 H2 C2 q r2 S2 s2 o2 => ?_
    refine r2 Φ σ F2 H2 v w _ x S2 (p.mono s2 o1) o2 fun z F3 H3 C3 pz ⟨b, ez, r⟩ S3 s3 o3 => ?_
    subst ez
    exact ⟨b, o3, K b F3 H3 C3 r S3 ((s1.trans s2).trans s3)⟩
theorem et_not {R2' : List Cell → Bool → Prop} (h : Et j Γ C e fun C1 b => R2' C1 (!b)) : Et j Γ C (.UnaryOp .Not e pos) R2' :=
  et_lift (pt_not pt_wt) fun Φ σ F H Q x S K => h Φ σ F H _ x S fun b F1 H1 C1 r S1 s1 => K _ _ _ _ r S1 s1
/-- and, or: a chain's part -/
def Ww (X : L2.Cx) (e : Expr) : TT := fun σ H Q => ∀ (whole : Sem Value) (pins : Pins) (s : Shared), Inv X pins σ H s → wpAny (model X.prog X.w) X.A (isTrue e X.env whole) (TP X pins σ Q) X.xe s
theorem pw_ww {X : L2.Cx} {e : Expr} : PW X e (Ww X e) := ⟨fun wh pins s σ H Q I h => h wh pins s I⟩
def Etw (j : J) (Γ : Gm) (C : List Cell) (e : Expr) (R : List Cell → Bool → Prop) : Prop := ∀ Φ σ F H Q, XW j Φ → Sta j.tb Φ Γ C σ F H → Kb j Φ Γ σ F R Q → Ww j.X e σ H Q
variable {es : List Expr} {R2' : List Cell → Bool → Prop}
theorem et_w (h : Etw j Γ C e R2') : Et j Γ C e R2' := et_lift pw_ww.pt h
theorem etw_lift {t : TT} (h : PW j.X e t) (k : ∀ Φ σ F H Q, XW j Φ → Sta j.tb Φ Γ C σ F H → Kb j Φ Γ σ F R2' Q → t σ H Q) : Etw j Γ C e R2' := fun Φ σ F H Q x S K wh pins s I => h.run wh pins s σ H Q I (k Φ σ F H Q x S K)
theorem etw_and1 (h : Et j Γ C a R2') : Etw j Γ C (.BoolOp .And [a] pos) R2' := etw_lift (pw_and1 pt_wt) h
theorem etw_or1 (h : Et j Γ C a R2') : Etw j Γ C (.BoolOp .Or [a] pos) R2' := etw_lift (pw_or1 pt_wt) h
theorem etw_and (h : Et j Γ C a fun C1 x => (x = true → Etw j Γ C1 (.BoolOp .And (b :: es) pos) R2') ∧ (x = false → R2' C1 false)) : Etw j Γ C (.BoolOp .And (a :: b :: es) pos) R2' :=
  etw_lift (pw_and pt_wt pw_ww) fun Φ σ F H Q x S K => h Φ σ F H _ x S fun v F1 H1 C1 ⟨r1, r2⟩ S1 s1 => by
    cases v with
    | true => exact iteT (r1 rfl Φ σ F1 H1 Q x S1 fun b' F2 H2 C2 r S2 s2 => K b' F2 H2 C2 r S2 (s1.trans s2))
    | false => exact iteF (K _ _ _ _ (r2 rfl) S1 s1)
theorem etw_or (h : Et j Γ C a fun C1 x => (x = true → R2' C1 true) ∧ (x = false → Etw j Γ C1 (.BoolOp .Or (b :: es) pos) R2')) : Etw j Γ C (.BoolOp .Or (a :: b :: es) pos) R2' :=
  etw_lift (pw_or pt_wt pw_ww) fun Φ σ F H Q x S K => h Φ σ F H _ x S fun v F1 H1 C1 ⟨r1, r2⟩ S1 s1 => by
    cases v with
    | true => exact iteT (K _ _ _ _ (r1 rfl) S1 s1)
    | false => exact iteF (r2 rfl Φ σ F1 H1 Q x S1 fun b' F2 H2 C2 r S2 s2 => K b' F2 H2 C2 r S2 (s1.trans s2))
theorem Et.imp {R2'' : List Cell → Bool → Prop} (h : Et j Γ C e R2') (k : ∀ C' b, R2' C' b → R2'' C' b) : Et j Γ C e R2'' := fun Φ σ F H Q x S K => h Φ σ F H Q x S fun v F' H' C' r => K v F' H' C' (k C' v r)
/-- as values: bools -/
theorem ev_and1 {op : BoolOp} (h : Ev j Γ C a R) : Ev j Γ C (.BoolOp op [a] pos) R := ev_lift (pe_one pe_we) h
theorem ev_and (h : Ev j Γ C a fun C1 p => ∃ x, p = isB x ∧ (x = true → Ev j Γ C1 (.BoolOp .And (b :: es) pos) R) ∧ (x = false → R C1 (isB false))) : Ev j Γ C (.BoolOp .And (a :: b :: es) pos) R :=
  ev_lift (pe_and pe_we pe_we) fun Φ σ F H Q x S K => h Φ σ F H _ x S fun v F1 H1 C1 p ⟨b', ep, r1, r2⟩ S1 s1 o1 => by
    subst ep
    refine ⟨b', o1, ?_⟩
    cases b' with
    | true => exact iteT (r1 rfl Φ σ F1 H1 Q x S1 (K.same s1))
    | false => exact iteF (K _ _ _ _ _ (r2 rfl) S1 s1 rfl)
theorem ev_or (h : Ev j Γ C a fun C1 p => ∃ x, p = isB x ∧ (x = true → R C1 (isB true)) ∧ (x = false → Ev j Γ C1 (.BoolOp .Or (b :: es) pos) R)) : Ev j Γ C (.BoolOp .Or (a :: b :: es) pos) R :=
  ev_lift (pe_or pe_we pe_we) fun Φ σ F H Q x S K => h Φ σ F H _ x S fun v F1 H1 C1 p ⟨b', ep, r1, r2⟩ S1 s1 o1 => by
    subst ep
    refine ⟨b', o1, ?_⟩
    cases b' with
    | true => exact iteT (K _ _ _ _ _ (r1 rfl) S1 s1 rfl)
    | false => exact iteF (r2 rfl Φ σ F1 H1 Q x S1 (K.same s1))
theorem ev_not (h : Ev j Γ C a fun C1 p => ∃ x, p = isB x ∧ R C1 (isB (!x))) : Ev j Γ C (.UnaryOp .Not a pos) R :=
  ev_lift (pe_not pe_we) fun Φ σ F H Q x S K => h Φ σ F H _ x S fun v F1 H1 C1 p ⟨b', ep, r⟩ S1 s1 o1 => by
    subst ep
    exact ⟨b', o1, K _ _ _ _ _ r S1 s1 rfl⟩
theorem ev_ifx (h : Et j Γ C c fun C1 x => (x = true → Ev j Γ C1 a R) ∧ (x = false → Ev j Γ C1 b R)) : Ev j Γ C (.IfExp c a b pos) R :=
  ev_lift (pe_ifExp pt_wt pe_we pe_we) fun Φ σ F H Q x S K => h Φ σ F H _ x S fun v F1 H1 C1 ⟨r1, r2⟩ S1 s1 => by
    cases v with
    | true => exact iteT (r1 rfl Φ σ F1 H1 Q x S1 (K.same s1))
    | false => exact iteF (r2 rfl Φ σ F1 H1 Q x S1 (K.same s1))
/-- a test by truth -/
def TruOk (j : J) (Γ : Gm) (p : Pr) (C : List Cell) (R : List Cell → Bool → Prop) : Prop := ∀ Φ σ F H v, Sta j.tb Φ Γ C σ F H → p.on F v → ∃ k, TruV j.X.K v H k ∧ R C k
theorem et_truth (h : Ev j Γ C e fun C1 p => TruOk j Γ p C1 R2') (he : ∀ whole, isTrue e j.X.env whole = (do let v ← whole; standAt e.pos; holding [v] (truthy v)) := by intro _; rfl) : Et j Γ C e R2' :=
  et_lift (pt_truth pe_we he) fun Φ σ F H Q x S K => h Φ σ F H _ x S fun v F1 H1 C1 p r S1 s1 o1 => by
    obtain ⟨k, h1, h2⟩ := r Φ σ F1 H1 v S1 o1
    exact ⟨k, h1, K k F1 H1 C1 h2 S1 s1⟩
/-- a < b < c -/
theorem et_chain {op op' : CmpOp} {r r' : R2} (ho : OpR j.X (compareOp op) r) (ho' : OpR j.X (compareOp op') r') (hm : lastMarks [op, op'] [b, c] = false)
    (k : Ev j Γ C a fun C1 p => Ev j Γ C1 b fun C2 q => OpOk j Γ r p q C2 fun C3 z => ∃ x, z = isB x ∧ (x = true → Ev j Γ C3 c fun C4 q' => OpOk j Γ r' q q' C4 fun C5 z' => ∃ y, z' = isB y ∧ R2' C5 y) ∧ (x = false → R2' C3 false)) : Et j Γ C (.Compare a [op, op'] [b, c] pos) R2' := by
  refine et_lift (pt_chain ho ho' pe_we pe_we pe_we hm) fun Φ σ F H Q x S K => ?_
  refine k Φ σ F H _ x S fun v F1 H1 C1 p r1 S1 s1 o1 => ?_
  refine r1 Φ σ F1 H1 _ x S1 fun w F2 H2 C2 q r2 S2 s2 o2 => ?_
  refine r2 Φ σ F2 H2 v w _ x S2 (p.mono s2 o1) o2 fun z F3 H3 C3 pz ⟨b', ez, k1, k2⟩ S3 s3 o3 => ?_
  subst ez
  have s13 := (s1.trans s2).trans s3
  refine ⟨b', o3, ?_⟩
  cases b' with
  | false => exact iteF ⟨false, rfl, K _ _ _ _ (k2 rfl) S3 s13⟩
  | true =>
    refine iteT (k1 rfl Φ σ F3 H3 _ x S3 fun w4 F4 H4 C4 q4 r4 S4 s4 o4 => ?_)
    refine r4 Φ σ F4 H4 w w4 _ x S4 (q.mono (s3.trans s4) o2) o4 fun z5 F5 H5 C5 pz5 ⟨y, e5, r5⟩ S5 s5 o5 => ?_
    subst e5
    exact ⟨y, o5, K _ _ _ _ r5 S5 ((s13.trans s4).trans s5)⟩
/-! ### fields -/
theorem look_at {α : Type} : ∀ {l : List (Str × α)} {i : Nat} {f : Str} {v : α}, (l.map Prod.fst).Nodup → l[i]? = some (f, v) → l.lookup f = some v
  | [], _, _, _, _, h => by simp at h
  | (g, u) :: l, 0, f, v, _, h => by
    simp at h
    obtain ⟨rfl, rfl⟩ := h
    rw [List.lookup_cons]
    simp
  | (g, u) :: l, i + 1, f, v, nd, h => by
    have h' : l[i]? = some (f, v) := by simpa using h
    rw [List.map_cons, List.nodup_cons] at nd
    have ne : (f == g) = false := by
      rw [beq_eq_false_iff_ne]
      intro e
      subst e
      exact nd.1 (List.mem_map.mpr ⟨_, List.mem_of_getElem? h', rfl⟩)
    rw [List.lookup_cons, ne]
    exact look_at nd.2 h'
theorem look_no {α : Type} : ∀ {l : List (Str × α)} {f : Str}, f ∉ l.map Prod.fst → l.lookup f = none
  | [], _, _ => rfl
  | (g, u) :: l, f, h => by
    rw [List.map_cons, List.mem_cons, not_or] at h
    have ne : (f == g) = false := by
      rw [beq_eq_false_iff_ne]
      exact h.1
    rw [List.lookup_cons, ne]
    exact look_no h.2
theorem putF_at {f : Str} {v : V} : ∀ {l : List (Str × V)} {i : Nat}, (l.map Prod.fst).Nodup → (l.map Prod.fst)[i]? = some f → putF f v l = l.set i (f, v)
  | [], i, _, h => by simp at h
  | (g, u) :: l, 0, _, h => by
    simp at h
    subst h
    unfold putF
    rw [if_pos rfl]
    rfl
  | (g, u) :: l, i + 1, nd, h => by
    have h' : (l.map Prod.fst)[i]? = some f := by simpa using h
    rw [List.map_cons, List.nodup_cons] at nd
    have ne : g ≠ f := fun e => by
      subst e
      exact nd.1 (List.mem_of_getElem? h')
    unfold putF
    rw [if_neg ne, putF_at nd.2 h']
    rfl
theorem putF_no {f : Str} {v : V} : ∀ {l : List (Str × V)}, f ∉ l.map Prod.fst → putF f v l = l ++ [(f, v)]
  | [], _ => rfl
  | (g, u) :: l, h => by
    rw [List.map_cons, List.mem_cons, not_or] at h
    unfold putF
    rw [if_neg (Ne.symm h.1), putF_no h.2]
    rfl
theorem map_set_self {α β : Type} (g : α → β) : ∀ {l : List α} {i : Nat} {x : α}, (l.map g)[i]? = some (g x) → (l.set i x).map g = l.map g
  | [], _, _, _ => rfl
  | y :: l, 0, x, h => by
    simp at h
    simp [h]
  | y :: l, i + 1, x, h => by
    have h' : (l.map g)[i]? = some (g x) := by simpa using h
    rw [List.set_cons_succ, List.map_cons, List.map_cons, map_set_self g h']
theorem map_set_snd {α β : Type} : ∀ {l : List (α × β)} {i : Nat} {k : α} {v : β}, (l.set i (k, v)).map Prod.snd = (l.map Prod.snd).set i v
  | [], _, _, _ => rfl
  | y :: l, 0, k, v => rfl
  | y :: l, i + 1, k, v => by rw [List.set_cons_succ, List.map_cons, List.map_cons, List.set_cons_succ, map_set_snd]
theorem Sta.ins {tb : Tb} {Φ : Fx} {σ : L2.St} {F H : Hp} {m Cl : Addr} {fns : List Str} {ps : List Pr} (S : Sta tb Φ Γ C σ F H) (hm : cI m Cl fns ps ∈ C) : ∃ (dx : Addr) (fs : List (Str × V)), H m = some (.ins Cl dx fs) ∧ fs.map Prod.fst = fns ∧ AllOn ps F (fs.map Prod.snd) := by
  obtain ⟨o, h1, ⟨dx, fs, e, n, h2⟩, _⟩ := S.cells.at_ _ hm
  subst e
  exact ⟨dx, fs, h1, n, h2⟩
theorem pair_at {α β : Type} {l : List (α × β)} {i : Nat} {k : α} {v : β} (h1 : (l.map Prod.fst)[i]? = some k) (h2 : (l.map Prod.snd)[i]? = some v) : l[i]? = some (k, v) := by
  rw [List.getElem?_map] at h1 h2
  cases e : l[i]? with
  | none => rw [e] at h1; cases h1
  | some p =>
    rw [e] at h1 h2
    obtain ⟨a, b⟩ := p
    cases h1
    cases h2
    rfl
/-- o.f: the i-th attribute -/
theorem ev_fld (i : Nat) {f : Str} {Cl : Addr} {fns : List Str} (cl : Cls j.X.K Cl) (na : NoAttr j.X.K Cl f) (nd : fns.Nodup) (hn : fns[i]? = some f) (h : Ev j Γ C e fun C1 p => ∃ m ps q, p = isR m ∧ cI m Cl fns ps ∈ C1 ∧ ps[i]? = some q ∧ R C1 q)
    (hb : attributeBase e f j.X.env (eval e j.X.env) = eval e j.X.env := by rfl) : Ev j Γ C (.Attribute e f pos) R :=
  ev_lift (pe_fld pe_we hb) fun Φ σ F H Q x S K => h Φ σ F H _ x S fun v F1 H1 C1 p ⟨m, ps, q, ep, hm, hl, r⟩ S1 s1 o1 => by
    subst ep
    obtain ⟨dx, fs, h1, n, h2⟩ := S1.ins hm
    subst n
    obtain ⟨u, l1, l2⟩ := h2.get hl
    exact ⟨m, Cl, dx, fs, u, o1, h1, cl, na, look_at nd (pair_at hn l1), K _ _ _ _ _ r S1 s1 l2⟩
end
/-! ### both ways of a test -/
theorem bF {A B : Prop} (h : B) : (false = true → A) ∧ (false = false → B) := ⟨fun z => (nomatch z), fun _ => h⟩
theorem bT {A B : Prop} (h : A) : (true = true → A) ∧ (true = false → B) := ⟨fun _ => h, fun z => (nomatch z)⟩
theorem bD {A B c : Prop} [Decidable c] (h1 : c → A) (h2 : ¬ c → B) : (decide c = true → A) ∧ (decide c = false → B) := ⟨fun z => h1 (of_decide_eq_true z), fun z => h2 (of_decide_eq_false z)⟩
theorem bN {A B c : Prop} [Decidable c] (h1 : ¬ c → A) (h2 : c → B) : ((!decide c) = true → A) ∧ ((!decide c) = false → B) := ⟨fun z => h1 (by simpa using z), fun z => h2 (by simpa using z)⟩
theorem bB {A B : Prop} {b : Bool} (h1 : b = true → A) (h2 : b = false → B) : (b = true → A) ∧ (b = false → B) := ⟨h1, h2⟩
end Z

end
section
set_option Elab.async false
set_option linter.all false
set_option maxRecDepth 100000
/-! Z4: statements, loops, the promise of a def. -/
namespace Z
open PySem PySem.Spec PyProof.Rows L2
/-! ### from a new beginning -/
section
variable {tb : Tb} {Φ : Fx} {Γ Γ' : Gm} {C C' : List Cell} {σ σ' : L2.St} {F H F' H' : Hp}
def Fx.of (F H : Hp) (C : List Cell) : Fx := ⟨F, H, C.map (·.a)⟩
theorem Sta.rebase (S : Sta tb Φ Γ C σ F H) : Sta tb (Fx.of F H C) Γ C σ F H :=
  ⟨S.env, S.cells, S.subx, S.fine, S.tab, L2.Same.refl F, ⟨fun a o e n => absurd ((show F a = none from n).symm.trans e) (fun z => nomatch z), fun a xs e => .inr e⟩, fun a o e _ _ => e, fun c hc => .inl (List.mem_map.mpr ⟨c, hc, rfl⟩), fun a e => e⟩
theorem FrT.trans (h : FrT Φ F H) {l : List Cell} (h' : FrT (Fx.of F H l) F' H') (th : ∀ a, H a = none → Φ.H0 a = none) (sm : L2.Same F F') : FrT Φ F' H' := by
  have tu : ∀ a xs, H' a = some (.tup xs) → Φ.H0 a = none ∨ Φ.H0 a = some (.tup xs) := fun a xs e => by
    rcases h'.tu a xs e with z | z
    · exact .inl (th a z)
    · exact h.tu a xs z
  refine ⟨fun a o e n => ?_, tu⟩
  cases q : F a with
  | none =>
    rcases h'.fr a o e q with z | ⟨xs, e1, z⟩
    · exact .inl (th a z)
    · rcases h.tu a xs z with w | w
      · exact .inl w
      · exact .inr ⟨xs, e1, w⟩
  | some u =>
    have e2 := sm a u q
    rw [e] at e2
    cases e2
    exact h.fr a o q n
theorem Sta.trans (S : Sta tb Φ Γ C σ F H) (S' : Sta tb (Fx.of F H C) Γ' C' σ' F' H') : Sta tb Φ Γ' C' σ' F' H' := by
  refine ⟨S'.env, S'.cells, S'.subx, S'.fine, S'.tab, S.base.trans S'.base, S.fresh.trans S'.fresh S.there S'.base, fun a o e n d => ?_, fun c hc => ?_, fun a e => S.there a (S'.there a e)⟩
  · refine S'.keep a o (S.keep a o e n d) n fun hm => ?_
    obtain ⟨c, hc, ec⟩ := List.mem_map.mp hm
    rcases S.own c hc with z | z
    · rw [ec] at z
      exact d z
    · rw [ec, e] at z
      cases z
  · rcases S'.own c hc with z | z
    · obtain ⟨c0, h0, e0⟩ := List.mem_map.mp z
      rw [← e0]
      exact S.own c0 h0
    · exact .inr (S.there _ z)
end
section
variable {j : J} {Γ : Gm} {C : List Cell} {P : Po} {sts : List Stmt}
theorem XW.rebase {Φ : Fx} {σ : L2.St} {F H : Hp} (x : XW j Φ) (S : Sta j.tb Φ Γ C σ F H) : XW j (Fx.of F H C) := Takes.imp x fun cls d σ' H' ⟨C', F', h1, S'⟩ => ⟨C', F', h1, S.trans S'⟩
/-- .. and the frozen heap has grown -/
def NxS (tb : Tb) (Φ : Fx) (F : Hp) (N : Gm → List Cell → Prop) : L2.St → Hp → Prop := fun σ H => ∃ Γ C F', N Γ C ∧ Sta tb Φ Γ C σ F' H ∧ L2.Same F F'
def RtS (tb : Tb) (Φ : Fx) (F : Hp) (R : Ps) : VK := fun v H => ∃ Γ C F' σ ρ, R C ρ ∧ Sta tb Φ Γ C σ F' H ∧ ρ.on F' v ∧ L2.Same F F'
def Po.endsS (P : Po) (tb : Tb) (Φ : Fx) (F : Hp) : Ends := { nx := NxS tb Φ F P.nx, rt := RtS tb Φ F P.rt, bk := NxS tb Φ F P.bk, ct := NxS tb Φ F P.ct }
theorem Wb.mono {X : L2.Cx} {sts : List Stmt} {D D' : Ends} {σ : L2.St} {H : Hp} (h : Wb X sts D σ H) (n : ∀ σ H, D.nx σ H → D'.nx σ H) (r : ∀ v H, D.rt v H → D'.rt v H) (b : ∀ σ H, D.bk σ H → D'.bk σ H) (c : ∀ σ H, D.ct σ H → D'.ct σ H) : Wb X sts D' σ H := fun pins s I =>
  thn (h pins s I) fun f s' h => by
    cases f with
    | next => exact let ⟨σ', H', I', q⟩ := h; ⟨σ', H', I', n _ _ q⟩
    | brk => exact let ⟨σ', H', I', q⟩ := h; ⟨σ', H', I', b _ _ q⟩
    | cont => exact let ⟨σ', H', I', q⟩ := h; ⟨σ', H', I', c _ _ q⟩
    | ret u => exact let ⟨v, σ', H', I', rv, q⟩ := h; ⟨v, σ', H', I', rv, r _ _ q⟩
theorem Tr.at {Φ : Fx} {σ : L2.St} {F H : Hp} (t : Tr j Γ C sts P) (x : XW j Φ) (S : Sta j.tb Φ Γ C σ F H) : Wb j.X sts (P.endsS j.tb Φ F) σ H := by
  have nx : ∀ {N : Gm → List Cell → Prop} {σ' : L2.St} {H' : Hp}, NxOf j.tb (Fx.of F H C) N σ' H' → NxS j.tb Φ F N σ' H' := fun ⟨Γ', C', F', n, S'⟩ => ⟨Γ', C', F', n, S.trans S', S'.base⟩
  exact (t (Fx.of F H C) σ F H (x.rebase S) S.rebase).mono (fun _ _ => nx) (fun v H' ⟨Γ', C', F', σ', ρ, r, S', o⟩ => ⟨Γ', C', F', σ', ρ, r, S.trans S', o, S'.base⟩) (fun _ _ => nx) fun _ _ => nx
end
section
variable {j : J} {Γ : Gm} {C : List Cell} {R R' : Ps} {pos pos' pos2 : Pos} {a b c e : Expr} {P : Po} {st : Stmt} {rest body : List Stmt}
theorem tr_lift1 {t : TS} (h : PSs j.X rest t) (k : ∀ Φ σ F H, XW j Φ → Sta j.tb Φ Γ C σ F H → t (P.ends j.tb Φ) σ H) : Tr j Γ C rest P := fun Φ σ F H x S => wb_of h (k Φ σ F H x S)
theorem tr_nil (h : P.nx Γ C) : Tr j Γ C [] P := tr_lift1 pss_nil fun Φ σ F H x S => ⟨Γ, C, F, h, S⟩
/-- a statement by its reading, the rest behind -/
theorem tr_lift {t : TS} (h : PS j.X st t) (k : ∀ Φ σ F H, XW j Φ → Sta j.tb Φ Γ C σ F H → t { P.ends j.tb Φ with nx := fun σ' H' => Wb j.X rest (P.ends j.tb Φ) σ' H' } σ H) : Tr j Γ C (st :: rest) P := fun Φ σ F H x S =>
  wb_of (pss_cons h pss_wb) (k Φ σ F H x S)
/-- the last statement of a block -/
theorem tr_last {t : TS} (h : PS j.X st t) (k : ∀ Φ σ F H, XW j Φ → Sta j.tb Φ Γ C σ F H → t (P.ends j.tb Φ) σ H) : Tr j Γ C [st] P := tr_lift1 (pss_one h) k
theorem tr_set (i : Nat) {x : Str} (k : Ev j Γ C e fun C1 p => Tr j (Γ.set i (some p)) C1 rest P) (hN : j.X.N.Nodup) (hi : j.X.N[i]? = some x := by rfl) (hx : Loc j.X.env.scope x := by first | exact Or.inl rfl | exact Or.inr rfl) (hs : swapsWith e (some (.Name x pos')) pos.line j.X.env = pure false := by rfl)
    (hf : j.X.fn x = true ∨ j.X.env.scope.names.lookup x = some .local := by first | exact Or.inl rfl | exact Or.inr rfl) : Tr j Γ C (.Assign [.Name x pos'] e pos :: rest) P :=
  tr_lift (ps_set hN hi hx pe_we hs hf) fun Φ σ F H x S => k Φ σ F H _ x S fun v F1 H1 C1 p r S1 s1 o1 => r Φ _ F1 H1 x (S1.setv i o1)
theorem tr_expr (k : Ev j Γ C e fun C1 _ => Tr j Γ C1 rest P) (hs : swapsWith e none pos.line j.X.env = pure false := by rfl) : Tr j Γ C (.Expr e pos :: rest) P :=
  tr_lift (ps_expr pe_we hs) fun Φ σ F H x S => k Φ σ F H _ x S fun v F1 H1 C1 p r S1 s1 o1 => r Φ _ F1 H1 x S1
theorem tr_ret (k : Ev j Γ C e P.rt) : Tr j Γ C (.Return (some e) pos :: rest) P :=
  tr_lift (ps_ret pe_we) fun Φ σ F H x S => k Φ σ F H _ x S fun v F1 H1 C1 p r S1 s1 o1 => ⟨Γ, C1, F1, σ, p, r, S1, o1⟩
theorem tr_retN (h : P.rt C isN) : Tr j Γ C (.Return none pos :: rest) P :=
  tr_lift ps_retN fun Φ σ F H x S => ⟨Γ, C, F, σ, isN, h, S, rfl⟩
theorem tr_pass (h : Tr j Γ C rest P) : Tr j Γ C (.Pass pos :: rest) P := tr_lift ps_pass fun Φ σ F H x S => h Φ σ F H x S
theorem tr_doc {x : Str} {k : Nat} (h : Tr j Γ C rest P) : Tr j Γ C (.Expr (.Constant (.str x) k pos) pos' :: rest) P := tr_lift ps_doc fun Φ σ F H x S => h Φ σ F H x S
theorem tr_break (h : P.bk Γ C) : Tr j Γ C (.Break pos :: rest) P := tr_lift ps_break fun Φ σ F H x S => ⟨Γ, C, F, h, S⟩
theorem tr_cont (h : P.ct Γ C) : Tr j Γ C (.Continue pos :: rest) P := tr_lift ps_continue fun Φ σ F H x S => ⟨Γ, C, F, h, S⟩
/-- if, the rest behind both (N: what holds behind it) -/
theorem tr_if (N : Gm → List Cell → Prop) {els : List Stmt} (k : Et j Γ C c fun C1 b => (b = true → Tr j Γ C1 body { P with nx := N }) ∧ (b = false → Tr j Γ C1 els { P with nx := N })) (kr : ∀ Γ' C', N Γ' C' → Tr j Γ' C' rest P) : Tr j Γ C (.If c body els pos :: rest) P :=
  tr_lift (ps_if pt_wt pss_wb pss_wb) fun Φ σ F H x S => k Φ σ F H _ x S fun b F1 H1 C1 ⟨r1, r2⟩ S1 s1 => by
    have go : ∀ {sts : List Stmt}, Tr j Γ C1 sts { P with nx := N } → Wb j.X sts { P.ends j.tb Φ with nx := fun σ' H' => Wb j.X rest (P.ends j.tb Φ) σ' H' } σ H1 := fun {sts} t pins s I => by
      refine thn (t Φ σ F1 H1 x S1 pins s I) fun f s' h => ?_
      cases f with
      | next =>
        obtain ⟨σ', H', I', Γ', C', F', n, S'⟩ := h
        exact ⟨σ', H', I', kr Γ' C' n Φ σ' F' H' x S'⟩
      | brk => exact h
      | cont => exact h
      | ret u => exact h
    cases b with
    | true => exact iteT (go (r1 rfl))
    | false => exact iteF (go (r2 rfl))
/-- if whose body never goes on -/
theorem tr_ifx (k : Et j Γ C c fun C1 b => (b = true → Tr j Γ C1 body { P with nx := fun _ _ => False }) ∧ (b = false → Tr j Γ C1 rest P)) : Tr j Γ C (.If c body [] pos :: rest) P :=
  tr_lift (ps_if pt_wt pss_wb pss_nil) fun Φ σ F H x S => k Φ σ F H _ x S fun b F1 H1 C1 ⟨r1, r2⟩ S1 s1 => by
    cases b with
    | true =>
      refine iteT fun pins s I => thn (r1 rfl Φ σ F1 H1 x S1 pins s I) fun f s' h => ?_
      cases f with
      | next =>
        obtain ⟨σ', H', I', Γ', C', F', n, S'⟩ := h
        exact n.elim
      | brk => exact h
      | cont => exact h
      | ret u => exact h
    | false => exact iteF (r2 rfl Φ σ F1 H1 x S1)
theorem NxOf.imp {tb : Tb} {Φ : Fx} {N N' : Gm → List Cell → Prop} (k : ∀ Γ C, N Γ C → N' Γ C) {σ : L2.St} {H : Hp} (h : NxOf tb Φ N σ H) : NxOf tb Φ N' σ H := let ⟨Γ, C, F, n, S⟩ := h; ⟨Γ, C, F, k _ _ n, S⟩
/-- while: the invariant I by a measure -/
theorem tr_while (I : Nat → Gm → List Cell → Prop) (N : Gm → List Cell → Prop) (m0 : Nat) (h0 : I m0 Γ C)
    (hs : ∀ m Γ C, I m Γ C → Et j Γ C c fun C1 b => (b = true → Tr j Γ C1 body { nx := fun Γ' C' => ∃ m', m' < m ∧ I m' Γ' C', ct := fun Γ' C' => ∃ m', m' < m ∧ I m' Γ' C', bk := N, rt := P.rt }) ∧ (b = false → N Γ C1))
    (kr : ∀ Γ' C', N Γ' C' → Tr j Γ' C' rest P) (hp : PassesOwn (model j.X.prog j.X.w) j.X.A j.X.env j.X.xe) : Tr j Γ C (.While c body [] pos :: rest) P :=
  tr_lift (ps_while hp pt_wt pss_wb) fun Φ σ F H x S => by
    refine ⟨fun m σ H => ∃ Γ C F, I m Γ C ∧ Sta j.tb Φ Γ C σ F H, ⟨m0, Γ, C, F, h0, S⟩, ?_⟩
    rintro m σ1 H1 ⟨Γ1, C1, F1, i1, S1⟩
    refine hs m Γ1 C1 i1 Φ σ1 F1 H1 _ x S1 fun b F2 H2 C2 ⟨r1, r2⟩ S2 s2 => ?_
    cases b with
    | true =>
      refine iteT ⟨NxOf j.tb Φ fun Γ' C' => ∃ m', m' < m ∧ I m' Γ' C', fun σ' H' ⟨Γ', C', F', ⟨m', h1, h2⟩, S'⟩ => ⟨m', h1, Γ', C', F', h2, S'⟩, fun pins s I' => thn (r1 rfl Φ σ1 F2 H2 x S2 pins s I') fun f s' h => ?_⟩
      cases f with
      | next => exact h
      | cont => exact h
      | brk =>
        obtain ⟨σ', H', I', Γ', C', F', n, S'⟩ := h
        exact ⟨σ', H', I', kr Γ' C' n Φ σ' F' H' x S'⟩
      | ret u => exact h
    | false => exact iteF (kr Γ1 C2 (r2 rfl) Φ σ1 F2 H2 x S2)
/-! ### for -/
/-- a list of things that are so: frozen, or a cell's -/
def LstOk (j : J) (C : List Cell) (p : Pr) (ps : List Pr) : Prop := ∀ tb Φ Γ σ F H v, Sta tb Φ Γ C σ F H → p.on F v → ∃ a vs, v = .ref a ∧ SqL j.X.K H a vs ∧ AllOn ps F vs
theorem lst_F {ps : List Pr} : LstOk j C (rL ps) ps := fun tb Φ Γ σ F H v S ⟨a, vs, e, h, o⟩ => ⟨a, vs, e, .inl (S.sub _ _ h), o⟩
theorem lst_S {ps : List Pr} : LstOk j C (rLs j.X.K ps) ps := fun tb Φ Γ σ F H v S ⟨a, vs, e, h, o⟩ => ⟨a, vs, e, S.seqL h, o⟩
theorem lst_C {ps : List Pr} {m : Addr} (hm : cL m ps ∈ C) : LstOk j C (isR m) ps := fun tb Φ Γ σ F H v S e => by
  obtain ⟨o, h1, ⟨vs, e', h2⟩, _⟩ := S.cells.at_ _ hm
  subst e'
  exact ⟨m, vs, e, SqL.of h1, h2⟩
def TupOk (j : J) (p : Pr) (ps : List Pr) : Prop := ∀ tb Φ Γ C σ F H v, Sta tb Φ Γ C σ F H → p.on F v → ∃ a vs, v = .ref a ∧ SqT j.X.K H a vs ∧ AllOn ps F vs
theorem tup_F {ps : List Pr} : TupOk j (rT j.X.K ps) ps := fun tb Φ Γ C σ F H v S ⟨a, vs, e, h, o⟩ => ⟨a, vs, e, S.seqT h, o⟩
/-- what stands at a target -/
def Eg (j : J) (Γ : Gm) (C : List Cell) (tg : Expr) (p : Pr) (N : Gm → List Cell → Prop) : Prop := ∀ Φ σ F H v (Q : L2.St → Hp → Prop), XW j Φ → Sta j.tb Φ Γ C σ F H → p.on F v → (∀ Γ' C' σ' F' H', N Γ' C' → Sta j.tb Φ Γ' C' σ' F' H' → L2.Same F F' → Q σ' H') → Wg j.X tg v σ H Q
theorem eg_name (i : Nat) {x : Str} {p : Pr} {N : Gm → List Cell → Prop} (h : N (Γ.set i (some p)) C) (hN : j.X.N.Nodup) (hi : j.X.N[i]? = some x := by rfl) (hx : Loc j.X.env.scope x := by first | exact Or.inl rfl | exact Or.inr rfl)
    (hf : j.X.fn x = true ∨ j.X.env.scope.names.lookup x = some .local := by first | exact Or.inl rfl | exact Or.inr rfl) : Eg j Γ C (.Name x pos) p N := fun Φ σ F H v Q xw S o K pins s u I rv =>
  (pg_name hN hi hx hf).run pins s σ H v u Q I rv (K _ _ _ _ _ h (S.setv i o) (L2.Same.refl F))
/-- for over a frozen list -/
theorem tr_for {tg : Expr} (I : Nat → Gm → List Cell → Prop) (N : Gm → List Cell → Prop)
    (k : Ev j Γ C e fun C1 p => ∃ ps, p = rL ps ∧ I 0 Γ C1 ∧
      (∀ i q Γ' C', ps[i]? = some q → I i Γ' C' → Eg j Γ' C' tg q fun Γ2 C2 => Tr j Γ2 C2 body { nx := I (i + 1), ct := I (i + 1), bk := N, rt := P.rt }) ∧ (∀ Γ' C', I ps.length Γ' C' → N Γ' C'))
    (kr : ∀ Γ' C', N Γ' C' → Tr j Γ' C' rest P) (hp : PassesOwn (model j.X.prog j.X.w) j.X.A j.X.env j.X.xe) (hc : j.X.calm = true) (hs : ∀ x, foldedSetIterable e j.X.env x = pure x := by intro _; rfl) : Tr j Γ C (.For tg e body [] pos :: rest) P :=
  tr_lift (ps_for hp hc (pi_list pe_we) pg_wg pss_wb hs) fun Φ σ F H x S => k Φ σ F H _ x S fun v F1 H1 C1 p ⟨ps, ep, i0, hs, hd⟩ S1 s1 o1 => by
    subst ep
    obtain ⟨al, vs, ev, hl, ho⟩ := o1
    refine ⟨al, ev, ⟨vs, .inl (S1.sub _ _ hl)⟩, for_list (K := j.X.K) (a := al) (xs := vs) (fun i σ H => ∃ Γ C F, I i Γ C ∧ Sta j.tb Φ Γ C σ F H ∧ F al = some (.lst vs) ∧ AllOn ps F vs) ⟨Γ, C1, F1, i0, S1, hl, ho⟩ (fun i σ H _ ⟨Γ', C', F', _, S', hl', _⟩ => .inl (S'.sub _ _ hl')) ?_ ?_⟩
    · rintro i y σ2 H2 hy ⟨Γ2, C2, F2, i2, S2, hl2, ho2⟩
      have hi : i < vs.length := (List.getElem?_eq_some_iff.mp hy).1
      have hi' : i < ps.length := by rw [ho2.length]; exact hi
      obtain ⟨y', e1, e2⟩ := ho2.get (List.getElem?_eq_getElem hi')
      rw [hy] at e1
      cases e1
      refine hs i ps[i] Γ2 C2 (List.getElem?_eq_getElem hi') i2 Φ σ2 F2 H2 y _ x S2 e2 fun Γ3 C3 σ3 F3 H3 t3 S3 s3 => ?_
      refine Wb.mono (Tr.at t3 x S3) (fun σ4 H4 ⟨Γ4, C4, F4, n4, S4, s4⟩ => ?_) (fun v4 H4 ⟨Γ4, C4, F4, σ4, ρ4, r4, S4, o4, _⟩ => ⟨Γ4, C4, F4, σ4, ρ4, r4, S4, o4⟩) (fun σ4 H4 ⟨Γ4, C4, F4, n4, S4, s4⟩ => ?_) fun σ4 H4 ⟨Γ4, C4, F4, n4, S4, s4⟩ => ?_
      · exact ⟨Γ4, C4, F4, n4, S4, (s3.trans s4) _ _ hl2, ho2.mono (s3.trans s4)⟩
      · exact kr Γ4 C4 n4 Φ σ4 F4 H4 x S4
      · exact ⟨Γ4, C4, F4, n4, S4, (s3.trans s4) _ _ hl2, ho2.mono (s3.trans s4)⟩
    · rintro σ2 H2 ⟨Γ2, C2, F2, i2, S2, _, _⟩
      have hlen : ps.length = vs.length := ho.length
      rw [← hlen] at i2
      exact kr Γ2 C2 (hd Γ2 C2 i2) Φ σ2 F2 H2 x S2
end
end Z

end
section
set_option Elab.async false
set_option linter.all false
set_option maxRecDepth 100000
/-! Z5: promises, calls, raise. -/
namespace Z
open PySem PySem.Spec PyProof.Rows L2
section
variable {tb : Tb} {Φ : Fx} {Γ Γ' : Gm} {C C' Cr : List Cell} {σ σ' : L2.St} {F H F' H' : Hp}
theorem envNil {F : Hp} : EnvOk [] F [] := ⟨rfl, fun i p e => by simp at e⟩
theorem Sta.noenv (S : Sta tb Φ Γ C σ F H) : Sta tb Φ [] C [] F H := ⟨envNil, S.cells, S.subx, S.fine, S.tab, S.base, S.fresh, S.keep, S.own, S.there⟩
theorem Sta.env' (S : Sta tb Φ [] C [] F H) (E : EnvOk Γ F σ) : Sta tb Φ Γ C σ F H := ⟨E, S.cells, S.subx, S.fine, S.tab, S.base, S.fresh, S.keep, S.own, S.there⟩
/-- what a callee sees -/
theorem Sta.part (S : Sta tb Φ Γ (C ++ Cr) σ F H) : Sta tb (Fx.of F H C) [] C [] F H := by
  have S1 : Sta tb Φ [] C [] F H := ⟨envNil, ⟨fun c hc => S.cells.at_ c (by simp [hc]), by
    have nd := S.cells.nd
    rw [List.map_append] at nd
    exact (List.nodup_append.mp nd).1⟩, S.subx, S.fine, S.tab, S.base, S.fresh, S.keep, fun c hc => S.own c (by simp [hc]), S.there⟩
  exact S1.rebase
/-- behind a callee -/
theorem Sta.join (S : Sta tb Φ Γ (C ++ Cr) σ F H) (S' : Sta tb (Fx.of F H C) [] C' [] F' H') : Sta tb Φ Γ (C' ++ Cr) σ F' H' := by
  have nd := S.cells.nd
  rw [List.map_append, List.nodup_append] at nd
  obtain ⟨n1, n2, n3⟩ := nd
  have sF : L2.Same F F' := S'.base
  have cr : ∀ c ∈ Cr, c.a ∉ C.map (·.a) := fun c hc z => n3 c.a z c.a (List.mem_map.mpr ⟨c, hc, rfl⟩) rfl
  have atR : ∀ c ∈ Cr, ∃ o, H c.a = some o ∧ c.on F o ∧ F c.a = none := fun c hc => S.cells.at_ c (by simp [hc])
  refine ⟨S.env.mono sF, ⟨fun c hc => ?_, ?_⟩, S'.subx, S'.fine, S'.tab, S.base.trans sF, S.fresh.trans S'.fresh S.there sF, fun a o e n d => ?_, fun c hc => ?_, fun a e => S.there a (S'.there a e)⟩
  · rcases List.mem_append.mp hc with z | z
    · exact S'.cells.at_ c z
    · obtain ⟨o, h1, h2, h3⟩ := atR c z
      refine ⟨o, S'.keep _ _ h1 (c.nt h2) (cr c z), c.mono sF h2, ?_⟩
      cases q : F' c.a with
      | none => rfl
      | some u =>
        rcases S'.fresh.fr _ u q h3 with this | ⟨xs, _, this⟩
        · rw [show (Fx.of F H C).H0 c.a = H c.a from rfl, h1] at this
          cases this
        · rw [show (Fx.of F H C).H0 c.a = H c.a from rfl, h1] at this
          exact absurd (Option.some.inj this) (c.ntu h2 xs)
  · rw [List.map_append, List.nodup_append]
    refine ⟨S'.cells.nd, n2, fun a ha b hb e => ?_⟩
    subst e
    obtain ⟨c, hc, ec⟩ := List.mem_map.mp hb
    obtain ⟨c', hc', ec'⟩ := List.mem_map.mp ha
    rcases S'.own c' hc' with z | z
    · rw [ec', ← ec] at z
      exact cr c hc z
    · obtain ⟨o, h1, _, _⟩ := atR c hc
      rw [ec', ← ec] at z
      rw [show (Fx.of F H C).H0 c.a = H c.a from rfl, h1] at z
      cases z
  · refine S'.keep a o (S.keep a o e n d) n fun hm => ?_
    obtain ⟨c, hc, ec⟩ := List.mem_map.mp hm
    rcases S.own c (by simp [hc]) with z | z
    · rw [ec] at z
      exact d z
    · rw [ec, e] at z
      cases z
  · rcases List.mem_append.mp hc with z | z
    · rcases S'.own c z with w | w
      · obtain ⟨c0, h0, e0⟩ := List.mem_map.mp w
        rw [← e0]
        exact S.own c0 (by simp [h0])
      · exact .inr (S.there _ w)
    · exact S.own c (by simp [z])
/-- a thing beside -/
theorem Sta.beside (S : Sta tb Φ Γ C σ F H) {a : Addr} {o : HO} (h : H a = none) : Sta tb Φ Γ C σ F (upd H a o) := by
  refine ⟨S.env, ⟨fun c hc => ?_, S.cells.nd⟩, fun b u e => ?_, S.fine, S.tab.fix (fix_new h), S.base, S.fresh.new (S.there _ h), fun b u e n d => ?_, S.own, fun b e => ?_⟩
  · obtain ⟨u, h1, h2, h3⟩ := S.cells.at_ c hc
    exact ⟨u, by rw [upd_ne (ne_of_none h1 h)]; exact h1, h2, h3⟩
  · have q := S.subx b u e
    have hb : b ≠ a := fun z => by
      rcases q.rd with q | ⟨ob, q⟩ <;> (rw [z, h] at q; cases q)
    unfold RdL
    rw [upd_ne hb]
    exact q
  · rw [upd_ne (ne_of_none (S.keep b u e n d) h)]
    exact S.keep b u e n d
  · by_cases hb : b = a
    · subst hb
      exact S.there b h
    · rw [upd_ne hb] at e
      exact S.there b e
end
/-- what a def promises -/
structure Prom (ω : Type) where
  ps : ω → List Pr
  C : ω → List Cell := fun _ => []
  pre : ω → Prop := fun _ => True
  R : ω → Ps
  XP : ω → Value → List Cell → Prop := fun _ _ _ => False
def Prom.sp {ω : Type} (tb : Tb) (p : Prom ω) : Sp := fun vs H Q E => ∃ (o : ω) (F : Hp), p.pre o ∧ AllOn (p.ps o) F vs ∧ Sta tb (Fx.of F H (p.C o)) [] (p.C o) [] F H ∧
  (∀ v F' H' C' ρ, p.R o C' ρ → Sta tb (Fx.of F H (p.C o)) [] C' [] F' H' → ρ.on F' v → Q v H') ∧ (∀ cls d F' H' C', p.XP o cls C' → Sta tb (Fx.of F H (p.C o)) [] C' [] F' H' → E cls d H')
section
variable {ω : Type} {tb : Tb} {p : Prom ω}
/-- what must follow a call: o, what beside is kept -/
def Away (j : J) (p : Prom ω) (o : ω) (Cr : List Cell) (R : Ps) : Prop := (∀ C' ρ, p.R o C' ρ → R (C' ++ Cr) ρ) ∧ ∀ cls C', p.XP o cls C' → j.XP cls (C' ++ Cr)
variable {j : J} {Γ : Gm} {C : List Cell} {R : Ps} {pos ppos apos : Pos} {e ob : Expr} {es : List Expr} {x : Str} {k : Nat} {f : Addr} {fd : FuncData} {ps : List Str}
theorem sp_call {Φ : Fx} {σ : L2.St} {F H : Hp} {Q : VK} {vs : List V} {o : ω} {Cr : List Cell} (S : Sta j.tb Φ Γ C σ F H) (K : Kv j Φ Γ σ F R Q) (hp : p.pre o) (ha : AllOn (p.ps o) F vs) (hc : C.Perm (p.C o ++ Cr)) (aw : Away j p o Cr R) :
    p.sp j.tb vs H Q (fun cls _ H => ∃ C F, j.XP cls C ∧ Sta j.tb Φ [] C [] F H) := by
  have S1 := S.perm hc
  exact ⟨o, F, hp, ha, S1.part, fun v F' H' C' ρ r S' o' => K v F' H' _ ρ (aw.1 C' ρ r) (S1.join S') S'.base o', fun cls d F' H' C' r S' => ⟨_, F', aw.2 cls C' r, (S1.join S').noenv⟩⟩
theorem takes_w {Φ : Fx} (x : XW j Φ) : L2.Passes (L2.CX j.X.prog j.X.w) j.X (fun cls _ H => ∃ C F, j.XP cls C ∧ Sta j.tb Φ [] C [] F H) := passes_call x fun _ _ _ _ h => h
/-- f(e, ..) -/
theorem ev_call (Fn : FnOk j.X.prog j.X.w j.X.K j.X.mg j.X.base (L2.CX j.X.prog j.X.w) k f fd ps (p.sp j.tb)) (hr : Room k j.X.A) (hm : j.X.mg x = some (.ref f)) (hk : PySem.W.keepIn j.X.K (.ref f) = true) (hb : Binds j.X.K fd ps [])
    (h : Ea j Γ C (e :: es) fun C1 qs => ∃ o Cr, p.pre o ∧ qs = p.ps o ∧ C1.Perm (p.C o ++ Cr) ∧ Away j p o Cr R)
    (hg : Gl j.X x := by rfl) (hdb : (x == ("__debug__" : Str)) = false := by decide) (he : starEach (e :: es) j.X.env = (false, eval e j.X.env) :: starEach es j.X.env := by rfl) (hpl : (backTo pos (starEach es j.X.env)).any (·.1) = false := by rfl) :
    Ev j Γ C (.Call (.Name x ppos) (e :: es) [] pos) R := fun Φ σ F H Q xw S K =>
  we_of (pe_call Fn hr hg hm hk hb .nil (takes_w xw) pa_wa hdb he hpl) (h Φ σ F H _ xw S fun vs F1 H1 C1 qs ⟨o, Cr, hp, eq, hc, aw⟩ S1 s1 o1 => by
    subst eq
    rw [List.append_nil]
    exact sp_call S1 (K.same s1) hp o1 hc aw)
theorem ev_call0 (Fn : FnOk j.X.prog j.X.w j.X.K j.X.mg j.X.base (L2.CX j.X.prog j.X.w) k f fd ps (p.sp j.tb)) (hr : Room k j.X.A) (hm : j.X.mg x = some (.ref f)) (hk : PySem.W.keepIn j.X.K (.ref f) = true) (hb : Binds j.X.K fd ps [])
    (h : ∃ o Cr, p.pre o ∧ [] = p.ps o ∧ C.Perm (p.C o ++ Cr) ∧ Away j p o Cr R)
    (hg : Gl j.X x := by rfl) (hdb : (x == ("__debug__" : Str)) = false := by decide) :
    Ev j Γ C (.Call (.Name x ppos) [] [] pos) R := fun Φ σ F H Q xw S K =>
  we_of (pe_call0 Fn hr hg hm hk hb .nil (takes_w xw) hdb) (by
    obtain ⟨o, Cr, hp, eq, hc, aw⟩ := h
    exact sp_call S K hp (by rw [← eq]; exact .nil) hc aw)
/-- an instance: a cell's, or frozen -/
def InsOk (j : J) (C : List Cell) (p : Pr) (Cl : Addr) (m : Str) : Prop := ∀ tb Φ Γ σ F H v, Sta tb Φ Γ C σ F H → p.on F v → ∃ a dx fs, v = .ref a ∧ H a = some (.ins Cl dx fs) ∧ fs.lookup m = none
theorem ins_C {a Cl : Addr} {fns : List Str} {ps : List Pr} {m : Str} (h : cI a Cl fns ps ∈ C) (hl : m ∉ fns) : InsOk j C (isR a) Cl m := fun tb Φ Γ σ F H v S e => by
  obtain ⟨dx, fs, h1, n, h2⟩ := S.ins h
  exact ⟨a, dx, fs, e, h1, look_no (by rw [n]; exact hl)⟩
/-- o.m(e, ..) -/
theorem ev_meth {Cl : Addr} {m : Str} (Fn : FnOk j.X.prog j.X.w j.X.K j.X.mg j.X.base (L2.CX j.X.prog j.X.w) k f fd ps (p.sp j.tb)) (hr : Room k j.X.A) (cl : Cls j.X.K Cl) (hm : Meth j.X.K Cl m f) (hb : Binds j.X.K fd ps [])
    (h : Ev j Γ C ob fun C0 q0 => InsOk j C0 q0 Cl m ∧ Ea j Γ C0 (e :: es) fun C1 qs => ∃ o Cr, p.pre o ∧ q0 :: qs = p.ps o ∧ C1.Perm (p.C o ++ Cr) ∧ Away j p o Cr R) {pl : Sem Bool}
    (hst : starEach (e :: es) j.X.env = (false, eval e j.X.env) :: starEach es j.X.env := by rfl) (hpl : (backTo pos (starEach es j.X.env)).any (·.1) = false := by rfl)
    (ht : eval (.Call (.Attribute ob m apos) (e :: es) [] pos) j.X.env = (do
      let ov ← eval ob j.X.env
      standAt apos.atName
      let (f, first) ← holding [ov] (getMethod ov m pl)
      callWith pos f first (backTo pos (starEach (e :: es) j.X.env)) (backToKw pos (keywordEach [] j.X.env))) := by rfl) :
    Ev j Γ C (.Call (.Attribute ob m apos) (e :: es) [] pos) R := fun Φ σ F H Q xw S K =>
  we_of (pe_meth pe_we cl hm Fn hr hb .nil (takes_w xw) pa_wa hst hpl ht) (h Φ σ F H _ xw S fun v F0 H0 C0 q0 ⟨io, ha⟩ S0 s0 o0 => by
    obtain ⟨a, dx, fs, ev, h1, h2⟩ := io _ _ _ _ _ _ _ S0 o0
    refine ⟨a, dx, fs, ev, h1, h2, ha Φ σ F0 H0 _ xw S0 fun vs F1 H1 C1 qs ⟨o, Cr, hp, eq, hc, aw⟩ S1 s1 o1 => ?_⟩
    rw [List.append_nil]
    exact sp_call S1 (K.same (s0.trans s1)) hp (by rw [← eq]; exact .cons (q0.mono s1 o0) o1) hc aw)
theorem ev_meth0 {Cl : Addr} {m : Str} (Fn : FnOk j.X.prog j.X.w j.X.K j.X.mg j.X.base (L2.CX j.X.prog j.X.w) k f fd ps (p.sp j.tb)) (hr : Room k j.X.A) (cl : Cls j.X.K Cl) (hm : Meth j.X.K Cl m f) (hb : Binds j.X.K fd ps [])
    (h : Ev j Γ C ob fun C0 q0 => InsOk j C0 q0 Cl m ∧ ∃ o Cr, p.pre o ∧ [q0] = p.ps o ∧ C0.Perm (p.C o ++ Cr) ∧ Away j p o Cr R) {pl : Sem Bool}
    (ht : eval (.Call (.Attribute ob m apos) [] [] pos) j.X.env = (do
      let ov ← eval ob j.X.env
      standAt apos.atName
      let (f, first) ← holding [ov] (getMethod ov m pl)
      callWith pos f first (backTo pos (starEach [] j.X.env)) (backToKw pos (keywordEach [] j.X.env))) := by rfl) :
    Ev j Γ C (.Call (.Attribute ob m apos) [] [] pos) R := fun Φ σ F H Q xw S K =>
  we_of (pe_meth0 pe_we cl hm Fn hr hb .nil (takes_w xw) ht) (h Φ σ F H _ xw S fun v F0 H0 C0 q0 ⟨io, o, Cr, hp, eq, hc, aw⟩ S0 s0 o0 => by
    obtain ⟨a, dx, fs, ev, h1, h2⟩ := io _ _ _ _ _ _ _ S0 o0
    refine ⟨a, dx, fs, ev, h1, h2, ?_⟩
    show p.sp j.tb (v :: ([] ++ [])) H0 Q _
    exact sp_call S0 (K.same s0) hp (by rw [← eq]; exact .cons o0 .nil) hc aw)
/-- what must follow the making of an instance -/
def Made (j : J) (p : Prom ω) (o : ω) (Cr : List Cell) (a : Addr) (R : Ps) : Prop := (∀ C' ρ, p.R o C' ρ → ρ = isN ∧ R (C' ++ Cr) (isR a)) ∧ ∀ cls C', p.XP o cls C' → j.XP cls (C' ++ Cr)
theorem sp_make {Φ : Fx} {σ : L2.St} {F H : Hp} {Q : VK} {vs : List V} {qs : List Pr} {Cl x dx : Addr} (S : Sta j.tb Φ Γ C σ F H) (K : Kv j Φ Γ σ F R Q) (ha : AllOn qs F vs) (nx : H x = none) (nd : H dx = none) (ne : dx ≠ x)
    (h : ∀ a, ∃ o Cr, p.pre o ∧ isR a :: qs = p.ps o ∧ (cI a Cl [] [] :: C).Perm (p.C o ++ Cr) ∧ Made j p o Cr a R) :
    p.sp j.tb (.ref x :: vs) (upd (upd H dx (.own x)) x (.ins Cl dx [])) (fun v H2 => v = .non ∧ Q (.ref x) H2) (fun cls _ H => ∃ C F, j.XP cls C ∧ Sta j.tb Φ [] C [] F H) := by
  obtain ⟨o, Cr, hp, eq, hc, aw⟩ := h x
  have S1 := ((S.beside (o := .own x) nd).newC (c := cI x Cl [] []) (o := .ins Cl dx []) (by show upd H dx (.own x) x = none; rw [upd_ne ne.symm]; exact nx) ⟨dx, [], rfl, rfl, .nil⟩).perm hc
  refine ⟨o, F, hp, by rw [← eq]; exact .cons rfl ha, S1.part, fun v F' H' C' ρ r S' o' => ?_, fun cls d F' H' C' r S' => ⟨_, F', aw.2 cls C' r, (S1.join S').noenv⟩⟩
  obtain ⟨e1, r1⟩ := aw.1 C' ρ r
  subst e1
  exact ⟨o', K _ F' H' _ (isR x) r1 (S1.join S') S'.base rfl⟩
/-- C(e, ..) -/
theorem ev_make {Cl : Addr} (M : Mk j.X.K Cl f) (Fn : FnOk j.X.prog j.X.w j.X.K j.X.mg j.X.base (L2.CX j.X.prog j.X.w) k f fd ps (p.sp j.tb)) (hr : Room (k + 1) j.X.A) (hm : j.X.mg x = some (.ref Cl)) (hb : Binds j.X.K fd ps [])
    (h : Ea j Γ C (e :: es) fun C1 qs => ∀ a, ∃ o Cr, p.pre o ∧ isR a :: qs = p.ps o ∧ (cI a Cl [] [] :: C1).Perm (p.C o ++ Cr) ∧ Made j p o Cr a R)
    (hg : Gl j.X x := by rfl) (hdb : (x == ("__debug__" : Str)) = false := by decide) (he : starEach (e :: es) j.X.env = (false, eval e j.X.env) :: starEach es j.X.env := by rfl) (hpl : (backTo pos (starEach es j.X.env)).any (·.1) = false := by rfl) :
    Ev j Γ C (.Call (.Name x ppos) (e :: es) [] pos) R := fun Φ σ F H Q xw S K =>
  we_of (pe_make M Fn hr hg hm hb .nil (takes_w xw) pa_wa hdb he hpl) (h Φ σ F H _ xw S fun vs F1 H1 C1 qs hh S1 s1 o1 x dx nx nd ne => by
    rw [List.append_nil]
    exact sp_make S1 (K.same s1) o1 nx nd ne hh)
theorem ev_make0 {Cl : Addr} (M : Mk j.X.K Cl f) (Fn : FnOk j.X.prog j.X.w j.X.K j.X.mg j.X.base (L2.CX j.X.prog j.X.w) k f fd ps (p.sp j.tb)) (hr : Room (k + 1) j.X.A) (hm : j.X.mg x = some (.ref Cl)) (hb : Binds j.X.K fd ps [])
    (h : ∀ a, ∃ o Cr, p.pre o ∧ [isR a] = p.ps o ∧ (cI a Cl [] [] :: C).Perm (p.C o ++ Cr) ∧ Made j p o Cr a R)
    (hg : Gl j.X x := by rfl) (hdb : (x == ("__debug__" : Str)) = false := by decide) :
    Ev j Γ C (.Call (.Name x ppos) [] [] pos) R := fun Φ σ F H Q xw S K =>
  we_of (pe_make0 M Fn hr hg hm hb .nil (takes_w xw) hdb) fun x dx nx nd ne => by
    show p.sp j.tb (.ref x :: ([] ++ [])) _ _ _
    exact sp_make (qs := []) (vs := []) S K .nil nx nd ne h
/-- raise X('m') -/
theorem tr_raise {X : Str} {m : Str} {Cl : Addr} {rest : List Stmt} {P : Po} {p1 p2 p3 p4 : Pos} {jj : Nat} {bmB : List Value} {B newId initId : String} (EF : ExcBaseFacts B newId initId bmB) (q : PySem.W.excIn j.X.K Cl bmB newId = true) (gC : j.X.mg X = some (.ref Cl)) (kC : PySem.W.keepIn j.X.K (.ref Cl) = true)
    (r : Raises j.X (.ref Cl)) (hc : j.X.calm = true) (h : j.XP (.ref Cl) C) (hg : Gl j.X X := by rfl) (hdb : (X == ("__debug__" : Str)) = false := by decide) : Tr j Γ C (.Raise (some (.Call (.Name X p1) [.Constant (.str m) jj p2] [] p3)) none p4 :: rest) P := fun Φ σ F H xw S =>
  wb_of (pss_cons (ps_raise hc xw (pmk_own EF q gC kC r hg hdb)) pss_wb) ⟨C, F, h, S.noenv⟩
/-! ### a def, by its body -/
variable {Pg : Program} {w : World} {K : PySem.W.Frag} {mg : Str → Option Value} {base : Heap} {st : Stmt} {qual : Str} {N : List Str}
/-- the context of a def's body at its entry -/
structure Body (j : J) (Pg : Program) (w : World) (K : PySem.W.Frag) (mg : Str → Option Value) (base : Heap) (N : List Str) (qual : Str) (sc : Scope) (k : Nat) (tb : Tb) : Prop where
  ex : ∃ (f : Addr) (cdv : Value) (A : Around) (outer : List Env) (s : Shared) (H : Hp) (E : XK), j.X = cxOf (L2.CX Pg w) Pg w K mg base N qual sc f cdv A outer s H E
  tb : j.tb = tb
  room : Room k j.X.A
  own : PassesOwn (model j.X.prog j.X.w) j.X.A j.X.env j.X.xe
theorem def_ok {x : Str} (Fn : Fun K x qual st f fd) (Sc : FnScope N ps (defScope st)) (len : ∀ o, (p.ps o).length = ps.length)
    (body : ∀ (o : ω) (cdv : Value) (A : Around) (outer : List Env) (s : Shared) (H : Hp) (E : XK), p.pre o → Room k (A.deeper (envOfC qual (defScope st) s.heap.objs.size f cdv)) →
      PassesOwn (model Pg w) (cxOf (L2.CX Pg w) Pg w K mg base N qual (defScope st) f cdv A outer s H E).A (cxOf (L2.CX Pg w) Pg w K mg base N qual (defScope st) f cdv A outer s H E).env (cxOf (L2.CX Pg w) Pg w K mg base N qual (defScope st) f cdv A outer s H E).xe →
      Tr ⟨cxOf (L2.CX Pg w) Pg w K mg base N qual (defScope st) f cdv A outer s H E, tb, p.XP o⟩ ((p.ps o).map some ++ List.replicate (N.length - ps.length) none) (p.C o) (defBody st) { rt := p.R o, nx := fun _ C => p.R o C isN }) :
    FnOk Pg w K mg base (L2.CX Pg w) (k + 1) f fd ps (p.sp tb) := by
  refine Fn.okX Sc (fun vs H Q E h => ?_) (fun cdv A outer s H vs Q E hr h => ?_)
  · obtain ⟨o, F, _, ha, _⟩ := h
    rw [← ha.length]
    exact len o
  · obtain ⟨o, F, hp, ha, S, kR, kX⟩ := h
    have tk : Takes (cxOf (L2.CX Pg w) Pg w K mg base N qual (defScope st) f cdv A outer s H E) (fun cls d _ H => E cls d H) := takes_of rfl rfl rfl rfl
    have t := body o cdv A outer s H E hp hr (passes_of (K := fun e s'' => L2.CX Pg w outer H s E e s'') rfl)
    refine ⟨Wb _ (defBody st), pss_wb, ?_⟩
    have xw : XW ⟨cxOf (L2.CX Pg w) Pg w K mg base N qual (defScope st) f cdv A outer s H E, tb, p.XP o⟩ (Fx.of F H (p.C o)) := tk.imp fun cls d σ H' ⟨C', F', h1, S'⟩ => kX cls d F' H' C' h1 S'
    have hl : vs.length = ps.length := by rw [← ha.length]; exact len o
    have env : EnvOk ((p.ps o).map some ++ List.replicate (N.length - ps.length) none) F (L2.start N vs) := by
      refine ⟨by unfold L2.start; simp [hl, len o], fun i q e => ?_⟩
      by_cases hi : i < (p.ps o).length
      · rw [List.getElem?_append_left (by simpa using hi), List.getElem?_map] at e
        cases q' : (p.ps o)[i]? with
        | none => rw [q'] at e; cases e
        | some q2 =>
          rw [q'] at e
          cases e
          obtain ⟨v, h1, h2⟩ := ha.get q'
          refine ⟨v, ?_, h2⟩
          unfold L2.start
          rw [List.getElem?_append_left (by rw [List.length_map, ← ha.length]; exact hi), List.getElem?_map, h1]
          rfl
      · rw [List.getElem?_append_right (by simpa using hi), List.getElem?_replicate] at e
        split at e <;> cases e
    refine (t _ _ F H xw (S.env' env)).mono (fun σ' H' ⟨Γ', C', F', n, S'⟩ => ?_) (fun v H' ⟨Γ', C', F', σ', ρ, r, S', o'⟩ => kR v F' H' C' ρ r S'.noenv o') (fun σ' H' ⟨Γ', C', F', n, S'⟩ => n.elim) fun σ' H' ⟨Γ', C', F', n, S'⟩ => n.elim
    exact kR .non F' H' C' isN n S'.noenv rfl
end
end Z

end
section
set_option Elab.async false
set_option linter.all false
set_option maxRecDepth 100000
/-! Z6: data with a Lean type; operators, lists, tuples, texts. -/
namespace Z
open PySem PySem.Spec PyProof.Rows L2
open PySem.W (Datum Tup Holds HoldAll)
/-! ### three, four, five side by side -/
structure T3 (α β γ : Type) where
  a : α
  b : β
  c : γ
  deriving DecidableEq
structure T4 (α β γ δ : Type) where
  a : α
  b : β
  c : γ
  d : δ
  deriving DecidableEq
structure T5 (α β γ δ ε : Type) where
  a : α
  b : β
  c : γ
  d : δ
  e : ε
  deriving DecidableEq
section
variable {α β γ δ ε : Type} [DecidableEq α] [Datum α] [DecidableEq β] [Datum β] [DecidableEq γ] [Datum γ] [DecidableEq δ] [Datum δ] [DecidableEq ε] [Datum ε]
theorem le_max3 {a b c n : Nat} (h : max a (max b c) ≤ n) : a ≤ n ∧ b ≤ n ∧ c ≤ n := by omega
instance : Datum (T3 α β γ) where
  toD p := .tuple [Datum.toD p.a, Datum.toD p.b, Datum.toD p.c]
  plain p := by simp only [PyData.plain, PyData.plainAll, Datum.plain, Bool.and_self]
  eqv p q := by
    simp only [PyData.eqv, PyData.eqvAll]
    rw [Datum.eqv, Datum.eqv, Datum.eqv, Bool.and_true, ← Bool.decide_and, ← Bool.decide_and]
    exact decide_eq_decide.mpr ⟨fun e => by cases p; cases q; simp_all, fun e => by rw [e]; exact ⟨rfl, rfl, rfl⟩⟩
  depth := Datum.depth α + Datum.depth β + Datum.depth γ + 1
  depth_le p := by
    simp only [PyData.depth, PyData.depthAll]
    have h1 := Datum.depth_le p.a; have h2 := Datum.depth_le p.b; have h3 := Datum.depth_le p.c
    omega
instance : Datum (T4 α β γ δ) where
  toD p := .tuple [Datum.toD p.a, Datum.toD p.b, Datum.toD p.c, Datum.toD p.d]
  plain p := by simp only [PyData.plain, PyData.plainAll, Datum.plain, Bool.and_self]
  eqv p q := by
    simp only [PyData.eqv, PyData.eqvAll]
    rw [Datum.eqv, Datum.eqv, Datum.eqv, Datum.eqv, Bool.and_true, ← Bool.decide_and, ← Bool.decide_and, ← Bool.decide_and]
    exact decide_eq_decide.mpr ⟨fun e => by cases p; cases q; simp_all, fun e => by rw [e]; exact ⟨rfl, rfl, rfl, rfl⟩⟩
  depth := Datum.depth α + Datum.depth β + Datum.depth γ + Datum.depth δ + 1
  depth_le p := by
    simp only [PyData.depth, PyData.depthAll]
    have h1 := Datum.depth_le p.a; have h2 := Datum.depth_le p.b; have h3 := Datum.depth_le p.c; have h4 := Datum.depth_le p.d
    omega
instance : Datum (T5 α β γ δ ε) where
  toD p := .tuple [Datum.toD p.a, Datum.toD p.b, Datum.toD p.c, Datum.toD p.d, Datum.toD p.e]
  plain p := by simp only [PyData.plain, PyData.plainAll, Datum.plain, Bool.and_self]
  eqv p q := by
    simp only [PyData.eqv, PyData.eqvAll]
    rw [Datum.eqv, Datum.eqv, Datum.eqv, Datum.eqv, Datum.eqv, Bool.and_true, ← Bool.decide_and, ← Bool.decide_and, ← Bool.decide_and, ← Bool.decide_and]
    exact decide_eq_decide.mpr ⟨fun e => by cases p; cases q; simp_all, fun e => by rw [e]; exact ⟨rfl, rfl, rfl, rfl, rfl⟩⟩
  depth := Datum.depth α + Datum.depth β + Datum.depth γ + Datum.depth δ + Datum.depth ε + 1
  depth_le p := by
    simp only [PyData.depth, PyData.depthAll]
    have h1 := Datum.depth_le p.a; have h2 := Datum.depth_le p.b; have h3 := Datum.depth_le p.c; have h4 := Datum.depth_le p.d; have h5 := Datum.depth_le p.e
    omega
end
/-! ### a value's word by its Lean value -/
class Rep (α : Type) [DecidableEq α] [Datum α] where
  pr : PySem.W.Frag → α → Pr
  dat : ∀ {K : PySem.W.Frag} {F : Hp} {v : V} {a : α}, (pr K a).on F v → Dp K F v (Datum.toD a)
open Rep (pr)
theorem dat_all {K : PySem.W.Frag} {F : Hp} {α : Type} [DecidableEq α] [Datum α] [Rep α] : ∀ {xs : List α} {vs : List V}, AllOn (xs.map (pr K)) F vs → DpAll K F vs (xs.map Datum.toD)
  | [], _, h => by cases h; exact .nil
  | x :: xs, _, h => by
    cases h with
    | cons a b => exact .cons (Rep.dat a) (dat_all b)
instance : Rep Int := ⟨fun _ i => isI i, fun {K F v a} h => by rw [show v = .int a from h]; exact .int a⟩
instance : Rep Bool := ⟨fun _ i => isB i, fun {K F v a} h => by rw [show v = .bl a from h]; exact .bl a⟩
instance : Rep Str := ⟨fun _ i => isS i, fun {K F v a} h => by rw [show v = .str a from h]; exact .str a⟩
instance : Rep Unit := ⟨fun _ i => isN, fun {K F v a} h => by rw [show v = .non from h]; exact .non⟩
section
variable {α β γ δ ε : Type} [DecidableEq α] [Datum α] [Rep α] [DecidableEq β] [Datum β] [Rep β] [DecidableEq γ] [Datum γ] [Rep γ] [DecidableEq δ] [Datum δ] [Rep δ] [DecidableEq ε] [Datum ε] [Rep ε]
instance : Rep (List α) := ⟨fun K xs => rL (xs.map (pr K)), fun {K F v a} ⟨l, vs, e, h, o⟩ => by rw [e]; exact .lst (SqL.of h) (dat_all o)⟩
instance : Rep (Tup α) := ⟨fun K xs => rT K (xs.items.map (pr K)), fun {K F v a} ⟨l, vs, e, h, o⟩ => by rw [e]; exact .tup h (dat_all o)⟩
instance : Rep (α × β) := ⟨fun K p => rT K [pr K p.1, pr K p.2], fun {K F v a} ⟨l, vs, e, h, o⟩ => by
  rw [e]
  cases o with
  | cons o1 o => cases o with
    | cons o2 o => cases o; exact .tup h (.cons (Rep.dat o1) (.cons (Rep.dat o2) .nil))⟩
instance : Rep (T3 α β γ) := ⟨fun K p => rT K [pr K p.a, pr K p.b, pr K p.c], fun {K F v a} ⟨l, vs, e, h, o⟩ => by
  rw [e]
  cases o with
  | cons o1 o => cases o with
    | cons o2 o => cases o with
      | cons o3 o => cases o; exact .tup h (.cons (Rep.dat o1) (.cons (Rep.dat o2) (.cons (Rep.dat o3) .nil)))⟩
instance : Rep (T4 α β γ δ) := ⟨fun K p => rT K [pr K p.a, pr K p.b, pr K p.c, pr K p.d], fun {K F v a} ⟨l, vs, e, h, o⟩ => by
  rw [e]
  cases o with
  | cons o1 o => cases o with
    | cons o2 o => cases o with
      | cons o3 o => cases o with
        | cons o4 o => cases o; exact .tup h (.cons (Rep.dat o1) (.cons (Rep.dat o2) (.cons (Rep.dat o3) (.cons (Rep.dat o4) .nil))))⟩
instance : Rep (T5 α β γ δ ε) := ⟨fun K p => rT K [pr K p.a, pr K p.b, pr K p.c, pr K p.d, pr K p.e], fun {K F v a} ⟨l, vs, e, h, o⟩ => by
  rw [e]
  cases o with
  | cons o1 o => cases o with
    | cons o2 o => cases o with
      | cons o3 o => cases o with
        | cons o4 o => cases o with
          | cons o5 o => cases o; exact .tup h (.cons (Rep.dat o1) (.cons (Rep.dat o2) (.cons (Rep.dat o3) (.cons (Rep.dat o4) (.cons (Rep.dat o5) .nil)))))⟩
end
/-! ### == of data -/
section
variable {X : L2.Cx} {α : Type} [DecidableEq α] [Datum α]
def rEqT (K : PySem.W.Frag) (α : Type) [DecidableEq α] [Datum α] (neg : Bool) : R2 := fun x y H Q => ∃ a b : α, Dp K H x (Datum.toD a) ∧ Dp K H y (Datum.toD b) ∧ Q (.bl (if neg then decide (a ≠ b) else decide (a = b))) H
theorem op_eqT (hu : X.A.units + Datum.depth α < cLine) : OpR X (compareOp .Eq) (rEqT X.K α false) := by
  intro pins s σ H x y v u Q I rx ry ⟨a, b, hd, he, q⟩
  obtain ⟨as, r1⟩ := Dp.reads I _ x v hd rx
  obtain ⟨bs, r2⟩ := Dp.reads I _ y u he ry
  exact PySem.W.eq_datum (x := a) (y := b) ⟨as, r1⟩ ⟨bs, r2⟩ hu ⟨.bl _, H, I, rfl, q⟩
theorem op_neT (hu : X.A.units + Datum.depth α < cLine) : OpR X (compareOp .NotEq) (rEqT X.K α true) := by
  intro pins s σ H x y v u Q I rx ry ⟨a, b, hd, he, q⟩
  obtain ⟨as, r1⟩ := Dp.reads I _ x v hd rx
  obtain ⟨bs, r2⟩ := Dp.reads I _ y u he ry
  exact PySem.W.ne_datum (x := a) (y := b) ⟨as, r1⟩ ⟨bs, r2⟩ hu ⟨.bl _, H, I, rfl, q⟩
/-- in a list or tuple of data -/
def rInT (K : PySem.W.Frag) (α : Type) [DecidableEq α] [Datum α] (neg : Bool) : R2 := fun x y H Q => ∃ (a : α) (xs : List α) (p : Addr) (vs : List V), Dp K H x (Datum.toD a) ∧ y = .ref p ∧ (SqL K H p vs ∨ SqT K H p vs) ∧ DpAll K H vs (xs.map Datum.toD) ∧ Q (.bl (if neg then decide (a ∉ xs) else decide (a ∈ xs))) H
theorem op_inT (hu : X.A.units + 1 + Datum.depth α < cLine) : OpR X (compareOp .In) (rInT X.K α false) := by
  intro pins s σ H x y v u Q I rx ry ⟨a, xs, p, vs, hd, ey, hs, ha, q⟩
  subst ey
  cases ry
  obtain ⟨as, r1⟩ := Dp.reads I _ x v hd rx
  rcases hs with hs | hs
  · obtain ⟨its, rv, pl, _⟩ := I.list hs
    obtain ⟨bs, r2⟩ := Dp.readsAll I _ _ its ha rv
    exact PySem.W.in_list_datum (x := a) (xs := xs) pl.isList ⟨bs, r2⟩ ⟨as, r1⟩ hu ⟨.bl _, H, I, rfl, q⟩
  · obtain ⟨its, rv, pl, _⟩ := I.tuple hs
    obtain ⟨bs, r2⟩ := Dp.readsAll I _ _ its ha rv
    exact PySem.W.in_tuple_datum (x := a) (xs := xs) pl ⟨bs, r2⟩ ⟨as, r1⟩ hu ⟨.bl _, H, I, rfl, q⟩
theorem op_notInT (hu : X.A.units + 1 + Datum.depth α < cLine) : OpR X (compareOp .NotIn) (rInT X.K α true) := by
  intro pins s σ H x y v u Q I rx ry ⟨a, xs, p, vs, hd, ey, hs, ha, q⟩
  subst ey
  cases ry
  obtain ⟨as, r1⟩ := Dp.reads I _ x v hd rx
  rcases hs with hs | hs
  · obtain ⟨its, rv, pl, _⟩ := I.list hs
    obtain ⟨bs, r2⟩ := Dp.readsAll I _ _ its ha rv
    exact PySem.W.notIn_list_datum (x := a) (xs := xs) pl.isList ⟨bs, r2⟩ ⟨as, r1⟩ hu ⟨.bl _, H, I, rfl, q⟩
  · obtain ⟨its, rv, pl, _⟩ := I.tuple hs
    obtain ⟨bs, r2⟩ := Dp.readsAll I _ _ its ha rv
    exact PySem.W.notIn_tuple_datum (x := a) (xs := xs) pl ⟨bs, r2⟩ ⟨as, r1⟩ hu ⟨.bl _, H, I, rfl, q⟩
end
section
variable {tb : Tb} {Φ : Fx} {Γ : Gm} {C : List Cell} {σ : L2.St} {F H : Hp} {K : PySem.W.Frag}
theorem Sta.dp (S : Sta tb Φ Γ C σ F H) {v : V} {d : PyData} (h : Dp K F v d) : Dp K H v d := by
  refine Dp.rec (motive_1 := fun v d _ => Dp K H v d) (motive_2 := fun vs ds _ => DpAll K H vs ds) ?_ ?_ ?_ ?_ ?_ ?_ ?_ ?_ h
  · exact .non
  · exact .bl
  · exact .int
  · exact .str
  · intro a xs ds h1 _ h2
    exact .lst (S.seqL h1) h2
  · intro a xs ds h1 _ h2
    exact .tup (S.seqT h1) h2
  · exact .nil
  · intro v vs d ds _ _ h1 h2
    exact .cons h1 h2
theorem Sta.dpAll (S : Sta tb Φ Γ C σ F H) : ∀ {vs : List V} {ds : List PyData}, DpAll K F vs ds → DpAll K H vs ds
  | _, _, .nil => .nil
  | _, _, .cons a b => .cons (S.dp a) (S.dpAll b)
end
section
variable {α : Type} [DecidableEq α] [Datum α] [Rep α] {j : J} {Γ : Gm} {C : List Cell} {R : Ps} {p q : Pr}
/-- p's value is the data a -/
def DatOk (j : J) (C : List Cell) (p : Pr) {α : Type} [DecidableEq α] [Datum α] (a : α) : Prop := ∀ tb Φ Γ σ F H v, Sta tb Φ Γ C σ F H → p.on F v → Dp j.X.K H v (Datum.toD a)
theorem dat_F {a : α} : DatOk j C (pr j.X.K a) a := fun tb Φ Γ σ F H v S o => S.dp (Rep.dat o)
theorem dat_C {xs : List α} {m : Addr} (hm : cL m (xs.map (pr j.X.K)) ∈ C) : DatOk j C (isR m) xs := fun tb Φ Γ σ F H v S e => by
  obtain ⟨o, h1, ⟨vs, e', h2⟩, _⟩ := S.cells.at_ _ hm
  subst e'
  rw [show v = .ref m from e]
  exact .lst (SqL.of h1) (S.dpAll (dat_all h2))
theorem ok_eqT {a b : α} (ha : DatOk j C p a) (hb : DatOk j C q b) (r : R C (isB (decide (a = b)))) : OpOk j Γ (rEqT j.X.K α false) p q C R := fun Φ σ F H v w Q x S o1 o2 K =>
  ⟨a, b, ha _ _ _ _ _ _ _ S o1, hb _ _ _ _ _ _ _ S o2, K.now S r rfl⟩
theorem ok_neT {a b : α} (ha : DatOk j C p a) (hb : DatOk j C q b) (r : R C (isB (decide (a ≠ b)))) : OpOk j Γ (rEqT j.X.K α true) p q C R := fun Φ σ F H v w Q x S o1 o2 K =>
  ⟨a, b, ha _ _ _ _ _ _ _ S o1, hb _ _ _ _ _ _ _ S o2, K.now S r rfl⟩
theorem ok_inL {a : α} {xs : List α} (ha : DatOk j C p a) (hb : LstOk j C q (xs.map (pr j.X.K))) (r : R C (isB (decide (a ∈ xs)))) : OpOk j Γ (rInT j.X.K α false) p q C R := fun Φ σ F H v w Q x S o1 o2 K => by
  obtain ⟨l, vs, e, h, o⟩ := hb _ _ _ _ _ _ _ S o2
  exact ⟨a, xs, l, vs, ha _ _ _ _ _ _ _ S o1, e, .inl h, S.dpAll (dat_all o), K.now S r rfl⟩
theorem ok_notInL {a : α} {xs : List α} (ha : DatOk j C p a) (hb : LstOk j C q (xs.map (pr j.X.K))) (r : R C (isB (decide (a ∉ xs)))) : OpOk j Γ (rInT j.X.K α true) p q C R := fun Φ σ F H v w Q x S o1 o2 K => by
  obtain ⟨l, vs, e, h, o⟩ := hb _ _ _ _ _ _ _ S o2
  exact ⟨a, xs, l, vs, ha _ _ _ _ _ _ _ S o1, e, .inl h, S.dpAll (dat_all o), K.now S r rfl⟩
theorem ok_inTu {a : α} {xs : List α} (ha : DatOk j C p a) (hb : TupOk j q (xs.map (pr j.X.K))) (r : R C (isB (decide (a ∈ xs)))) : OpOk j Γ (rInT j.X.K α false) p q C R := fun Φ σ F H v w Q x S o1 o2 K => by
  obtain ⟨l, vs, e, h, o⟩ := hb _ _ _ _ _ _ _ _ S o2
  exact ⟨a, xs, l, vs, ha _ _ _ _ _ _ _ S o1, e, .inr h, S.dpAll (dat_all o), K.now S r rfl⟩
theorem ok_notInTu {a : α} {xs : List α} (ha : DatOk j C p a) (hb : TupOk j q (xs.map (pr j.X.K))) (r : R C (isB (decide (a ∉ xs)))) : OpOk j Γ (rInT j.X.K α true) p q C R := fun Φ σ F H v w Q x S o1 o2 K => by
  obtain ⟨l, vs, e, h, o⟩ := hb _ _ _ _ _ _ _ _ S o2
  exact ⟨a, xs, l, vs, ha _ _ _ _ _ _ _ S o1, e, .inr h, S.dpAll (dat_all o), K.now S r rfl⟩
end
end Z

end
section
set_option Elab.async false
set_option linter.all false
set_option maxRecDepth 100000
/-! Z7: what operators ask, by words. -/
namespace Z
open PySem PySem.Spec PyProof.Rows L2
open PySem.W (Datum Tup)
open Rep (pr)
/-! ### numbers -/
section
variable {j : J} {Γ : Gm} {C : List Cell} {R : Ps} {p q : Pr} {i k : Int} {s t : Str} {b : Bool}
theorem ok_rI0 {g : Int → Int → V} (r : R C (isV (g i k))) : OpOk j Γ (rI0 g) (isI i) (isI k) C R := fun Φ σ F H v w Q x S o1 o2 K => ⟨i, k, o1, o2, K.now S r rfl⟩
theorem ok_rI {Cd : Int → Int → Prop} {g : Int → Int → V} (hc : Cd i k) (r : R C (isV (g i k))) : OpOk j Γ (rI Cd g) (isI i) (isI k) C R := fun Φ σ F H v w Q x S o1 o2 K => ⟨i, k, o1, o2, hc, K.now S r rfl⟩
theorem ok_rU {g : Int → V} (r : R C (isV (g i))) : UnOk j Γ (rU g) (isI i) C R := fun Φ σ F H v Q x S o1 K => ⟨i, o1, K.now S r rfl⟩
theorem ok_eqS {u z : V} (hs : scal u z = true) (r : R C (isB (decide (u = z)))) : OpOk j Γ rEq (isV u) (isV z) C R := fun Φ σ F H v w Q x S o1 o2 K => by
  rw [show v = u from o1, show w = z from o2]
  exact ⟨hs, K.now S r rfl⟩
theorem ok_neS {u z : V} (hs : scal u z = true) (r : R C (isB (!decide (u = z)))) : OpOk j Γ rNe (isV u) (isV z) C R := fun Φ σ F H v w Q x S o1 o2 K => by
  rw [show v = u from o1, show w = z from o2]
  exact ⟨hs, K.now S r rfl⟩
theorem ok_isN {P : V → V → Hp → VK → Prop} {u : V} (hP : ∀ H Q, Q (.bl (decide (u = .non))) H → P u .non H Q) (r : R C (isB (decide (u = .non)))) : OpOk j Γ P (isV u) isN C R := fun Φ σ F H v w Q x S o1 o2 K => by
  rw [show v = u from o1, show w = .non from o2]
  exact hP H Q (K.now S r rfl)
/-! ### texts -/
theorem ok_addS (hl : s.length + t.length ≤ sizeLine) (r : R C (isS (s ++ t))) : OpOk j Γ (fun x y H Q => ∃ i j, x = .str i ∧ y = .str j ∧ i.length + j.length ≤ sizeLine ∧ Q (.str (i ++ j)) H) (isS s) (isS t) C R := fun Φ σ F H v w Q x S o1 o2 K => ⟨s, t, o1, o2, hl, K.now S r rfl⟩
/-! ### calls of one thing -/
theorem all1 {F : Hp} {vs : List V} (h : AllOn [p] F vs) : ∃ v, vs = [v] ∧ p.on F v := by
  cases h with
  | cons a b => cases b; exact ⟨_, rfl, a⟩
theorem all2 {F : Hp} {vs : List V} (h : AllOn [p, q] F vs) : ∃ v w, vs = [v, w] ∧ p.on F v ∧ q.on F w := by
  cases h with
  | cons a b => cases b with
    | cons a' b => cases b; exact ⟨_, _, rfl, a, a'⟩
theorem ok_abs (r : R C (isI (if i < 0 then -i else i))) : CallOk j Γ (fun xs H Q => ∃ i : Int, xs = [.int i] ∧ Q (.int (if i < 0 then -i else i)) H) [isI i] C R := fun Φ σ F H vs Q x S o K => by
  obtain ⟨v, e, o⟩ := all1 o
  exact ⟨i, by rw [e, show v = .int i from o], K.now S r rfl⟩
theorem ok_intI (r : R C (isI i)) : CallOk j Γ (fun xs H Q => (∃ i, xs = [.int i] ∧ Q (.int i) H) ∨ ∃ k : Bool, xs = [.bl k] ∧ Q (.int (if k then 1 else 0)) H) [isI i] C R := fun Φ σ F H vs Q x S o K => by
  obtain ⟨v, e, o⟩ := all1 o
  exact .inl ⟨i, by rw [e, show v = .int i from o], K.now S r rfl⟩
theorem ok_intB (r : R C (isI (if b then 1 else 0))) : CallOk j Γ (fun xs H Q => (∃ i, xs = [.int i] ∧ Q (.int i) H) ∨ ∃ k : Bool, xs = [.bl k] ∧ Q (.int (if k then 1 else 0)) H) [isB b] C R := fun Φ σ F H vs Q x S o K => by
  obtain ⟨v, e, o⟩ := all1 o
  exact .inr ⟨b, by rw [e, show v = .bl b from o], K.now S r rfl⟩
theorem ok_strI (hl : i.natAbs.log2 < 1920) (r : R C (isS (toString i))) : CallOk j Γ (fun xs H Q => ∃ i : Int, xs = [.int i] ∧ i.natAbs.log2 < 1920 ∧ Q (.str (toString i)) H) [isI i] C R := fun Φ σ F H vs Q x S o K => by
  obtain ⟨v, e, o⟩ := all1 o
  exact ⟨i, by rw [e, show v = .int i from o], hl, K.now S r rfl⟩
end
/-! ### lists, tuples -/
section
variable {j : J} {Γ : Gm} {C : List Cell} {R : Ps} {p q : Pr} {ps : List Pr}
theorem ok_lenL (h : LstOk j C p ps) (r : R C (isI ps.length)) : CallOk j Γ (fun xs H Q => ∃ p ys, xs = [.ref p] ∧ (SqL j.X.K H p ys ∨ SqT j.X.K H p ys) ∧ Q (.int ys.length) H) [p] C R := fun Φ σ F H vs Q x S o K => by
  obtain ⟨v, e, o⟩ := all1 o
  obtain ⟨l, ys, e2, h2, o2⟩ := h _ _ _ _ _ _ _ S o
  refine ⟨l, ys, by rw [e, e2], .inl h2, ?_⟩
  rw [← o2.length]
  exact K.now S r rfl
theorem ok_lenT (h : TupOk j p ps) (r : R C (isI ps.length)) : CallOk j Γ (fun xs H Q => ∃ p ys, xs = [.ref p] ∧ (SqL j.X.K H p ys ∨ SqT j.X.K H p ys) ∧ Q (.int ys.length) H) [p] C R := fun Φ σ F H vs Q x S o K => by
  obtain ⟨v, e, o⟩ := all1 o
  obtain ⟨l, ys, e2, h2, o2⟩ := h _ _ _ _ _ _ _ _ S o
  refine ⟨l, ys, by rw [e, e2], .inr h2, ?_⟩
  rw [← o2.length]
  exact K.now S r rfl
theorem atI_on {F : Hp} {vs : List V} {i : Int} {q : Pr} (h : AllOn ps F vs) (e : atI ps i = some q) : ∃ v, atI vs i = some v ∧ q.on F v := by
  unfold atI at e ⊢
  rw [h.length] at e
  cases hj : ixN vs.length i with
  | none => rw [hj] at e; cases e
  | some k =>
    rw [hj] at e
    exact h.get (i := k) e
theorem ok_ixL {i : Int} (h : LstOk j C p ps) (e : atI ps i = some q) (r : R C q) : OpOk j Γ (rIxL j.X.K) p (isI i) C R := fun Φ σ F H v w Q x S o1 o2 K => by
  obtain ⟨l, ys, e2, h2, o⟩ := h _ _ _ _ _ _ _ S o1
  obtain ⟨z, e3, o3⟩ := atI_on o e
  exact ⟨l, ys, i, z, e2, o2, h2, e3, K.now S r o3⟩
theorem ok_ixT {i : Int} (h : TupOk j p ps) (e : atI ps i = some q) (r : R C q) : OpOk j Γ (rIxT j.X.K) p (isI i) C R := fun Φ σ F H v w Q x S o1 o2 K => by
  obtain ⟨l, ys, e2, h2, o⟩ := h _ _ _ _ _ _ _ _ S o1
  obtain ⟨z, e3, o3⟩ := atI_on o e
  exact ⟨l, ys, i, z, e2, o2, h2, e3, K.now S r o3⟩
theorem tru_L (h : LstOk j C p ps) {R : List Cell → Bool → Prop} (r : R C (!ps.isEmpty)) : TruOk j Γ p C R := fun Φ σ F H v S o => by
  obtain ⟨l, ys, e2, h2, o2⟩ := h _ _ _ _ _ _ _ S o
  refine ⟨!ps.isEmpty, ?_, r⟩
  rw [e2]
  refine .inl ⟨ys, h2, ?_⟩
  have := o2.length
  cases ps <;> cases ys <;> first | rfl | simp at this
theorem tru_B {b : Bool} {R : List Cell → Bool → Prop} (r : R C b) : TruOk j Γ (isB b) C R := fun Φ σ F H v S o => ⟨b, by rw [show v = .bl b from o]; exact rfl, r⟩
theorem tru_I {i : Int} {R : List Cell → Bool → Prop} (r : R C (i != 0)) : TruOk j Γ (isI i) C R := fun Φ σ F H v S o => ⟨i != 0, by rw [show v = .int i from o]; exact rfl, r⟩
theorem tru_N {R : List Cell → Bool → Prop} (r : R C false) : TruOk j Γ isN C R := fun Φ σ F H v S o => ⟨false, by rw [show v = .non from o]; exact rfl, r⟩
theorem fine_lst {vs : List V} : Fine (.lst vs) := ⟨fun _ z => (nomatch z), fun _ _ z => (nomatch z)⟩
theorem fine_tup {vs : List V} : Fine (.tup vs) := ⟨fun _ z => (nomatch z), fun _ _ z => (nomatch z)⟩
/-- a new list of things that are so -/
theorem Kv.newL {Φ : Fx} {σ : L2.St} {F H : Hp} {Q : VK} {a : Addr} {vs : List V} (K : Kv j Φ Γ σ F R Q) (S : Sta j.tb Φ Γ C σ F H) (r : R C (rL ps)) (o : AllOn ps F vs) (h : H a = none) : Q (.ref a) (upd H a (.lst vs)) := by
  obtain ⟨S2, s2⟩ := S.newF (o := .lst vs) h fine_lst
  exact K _ _ _ _ _ r S2 s2 ⟨a, vs, rfl, upd_same, o.mono s2⟩
theorem Kv.newT {Φ : Fx} {σ : L2.St} {F H : Hp} {Q : VK} {a : Addr} {vs : List V} (K : Kv j Φ Γ σ F R Q) (S : Sta j.tb Φ Γ C σ F H) (r : R C (rT j.X.K ps)) (o : AllOn ps F vs) (h : H a = none) : Q (.ref a) (upd H a (.tup vs)) := by
  obtain ⟨S2, s2⟩ := S.newF (o := .tup vs) h fine_tup
  exact K _ _ _ _ _ r S2 s2 ⟨a, vs, rfl, SqT.of upd_same, o.mono s2⟩
/-- .. or a new cell -/
theorem Kv.newCL {Φ : Fx} {σ : L2.St} {F H : Hp} {Q : VK} {a : Addr} {vs : List V} (K : Kv j Φ Γ σ F R Q) (S : Sta j.tb Φ Γ C σ F H) (r : R (cL a ps :: C) (isR a)) (o : AllOn ps F vs) (h : H a = none) : Q (.ref a) (upd H a (.lst vs)) :=
  K _ _ _ _ _ r (S.newC (c := cL a ps) h ⟨vs, rfl, o⟩) (L2.Same.refl F) rfl
/-- list(x), tuple(x) -/
theorem ok_listL (h : LstOk j C p ps) (r : R C (rL ps)) : CallOk j Γ (fun xs H Q => ∃ p ys, xs = [.ref p] ∧ (SqL j.X.K H p ys ∨ SqT j.X.K H p ys) ∧ ∀ l, H l = none → Q (.ref l) (upd H l (.lst ys))) [p] C R := fun Φ σ F H vs Q x S o K => by
  obtain ⟨v, e, o⟩ := all1 o
  obtain ⟨l, ys, e2, h2, o2⟩ := h _ _ _ _ _ _ _ S o
  exact ⟨l, ys, by rw [e, e2], .inl h2, fun a ha => K.newL S r o2 ha⟩
theorem ok_listT (h : TupOk j p ps) (r : R C (rL ps)) : CallOk j Γ (fun xs H Q => ∃ p ys, xs = [.ref p] ∧ (SqL j.X.K H p ys ∨ SqT j.X.K H p ys) ∧ ∀ l, H l = none → Q (.ref l) (upd H l (.lst ys))) [p] C R := fun Φ σ F H vs Q x S o K => by
  obtain ⟨v, e, o⟩ := all1 o
  obtain ⟨l, ys, e2, h2, o2⟩ := h _ _ _ _ _ _ _ _ S o
  exact ⟨l, ys, by rw [e, e2], .inr h2, fun a ha => K.newL S r o2 ha⟩
theorem ok_tupleL (h : LstOk j C p ps) (r : R C (rT j.X.K ps)) : CallOk j Γ (fun xs H Q => ∃ p ys, xs = [.ref p] ∧ ((SqL j.X.K H p ys ∧ ∀ l, H l = none → Q (.ref l) (upd H l (.tup ys))) ∨ (SqT j.X.K H p ys ∧ Q (.ref p) H))) [p] C R := fun Φ σ F H vs Q x S o K => by
  obtain ⟨v, e, o⟩ := all1 o
  obtain ⟨l, ys, e2, h2, o2⟩ := h _ _ _ _ _ _ _ S o
  exact ⟨l, ys, by rw [e, e2], .inl ⟨h2, fun a ha => K.newT S r o2 ha⟩⟩
theorem ok_tupleT (r : R C (rT j.X.K ps)) : CallOk j Γ (fun xs H Q => ∃ p ys, xs = [.ref p] ∧ ((SqL j.X.K H p ys ∧ ∀ l, H l = none → Q (.ref l) (upd H l (.tup ys))) ∨ (SqT j.X.K H p ys ∧ Q (.ref p) H))) [rT j.X.K ps] C R := fun Φ σ F H vs Q x S o K => by
  obtain ⟨v, e, o⟩ := all1 o
  obtain ⟨l, ys, e2, h2, o2⟩ := id o
  exact ⟨l, ys, by rw [e, e2], .inr ⟨S.seqT h2, by rw [← e2]; exact K.now S r o⟩⟩
/-! ### + and * of lists, by reading -/
theorem op_catL {X : L2.Cx} : OpR X (binaryOp .Add) (fun x y H Q => ∃ l b xs zs, x = .ref l ∧ y = .ref b ∧ SqL X.K H l xs ∧ SqL X.K H b zs ∧ xs.length + zs.length ≤ sizeLine ∧ ∀ p, H p = none → Q (.ref p) (upd H p (.lst (xs ++ zs)))) := by
  intro pins s σ H x y v u Q I rx ry h
  obtain ⟨l, b, xs, zs, rfl, rfl, hH, hB, hz, q⟩ := h
  cases rx
  cases ry
  obtain ⟨its, r, pl, z⟩ := I.list hH
  obtain ⟨its2, r2, pl2, z2⟩ := I.list hB
  have hl := r.length
  have hl2 := r2.length
  obtain ⟨⟨cls, dd, data, sl⟩, ho, hc, n, hd⟩ := id pl.isList
  obtain ⟨⟨cls2, dd2, data2, sl2⟩, ho2, hc2, n2, hd2⟩ := id pl2.isList
  simp only at hc hd hc2 hd2
  subst hc hd hc2 hd2
  have e : its.toArray ++ its2.toArray = (its ++ its2).toArray := by simp
  refine concat_meets ⟨_, ho, rfl⟩ ⟨_, ho2, rfl⟩ noFill_list_add seq_list_add PySem.F.slot_list_add PySem.F.entry_list_add (PySem.F.args_list_add_2 _ _) (list_addW l b its.toArray its2.toArray n n2 dd dd2 sl sl2 (by simp only [List.size_toArray]; omega)) ⟨ho, ho2, ?_⟩
  rw [e]
  exact ⟨.ref _, _, I.lnew (t' := s.toks) (r.append r2) (by rw [List.length_append]; omega), rfl, q _ I.fresh⟩
theorem ok_catL {qs : List Pr} (hp : LstOk j C p ps) (hq : LstOk j C q qs) (hz : ps.length + qs.length ≤ sizeLine) (r : R C (rL (ps ++ qs))) :
    OpOk j Γ (fun x y H Q => ∃ l b xs zs, x = .ref l ∧ y = .ref b ∧ SqL j.X.K H l xs ∧ SqL j.X.K H b zs ∧ xs.length + zs.length ≤ sizeLine ∧ ∀ p, H p = none → Q (.ref p) (upd H p (.lst (xs ++ zs)))) p q C R := fun Φ σ F H v w Q x S o1 o2 K => by
  obtain ⟨a, vs, e1, h1, k1⟩ := hp _ _ _ _ _ _ _ S o1
  obtain ⟨b, ws, e2, h2, k2⟩ := hq _ _ _ _ _ _ _ S o2
  exact ⟨a, b, vs, ws, e1, e2, h1, h2, by rw [← k1.length, ← k2.length]; exact hz, fun z hz => K.newL S r (k1.append k2) hz⟩
theorem op_repL {X : L2.Cx} : OpR X (binaryOp .Mult) (fun x y H Q => ∃ l k xs, x = .ref l ∧ y = .int k ∧ L2.Rd H l (.lst xs) ∧ -(2 ^ 63) ≤ k ∧ k < 2 ^ 63 ∧ xs.length * k.toNat ≤ sizeLine ∧
    ∀ p, H p = none → Q (.ref p) (upd H p (.lst (List.replicate k.toNat xs).flatten))) := by
  intro pins s σ H x y v u Q I rx ry h
  obtain ⟨l, k, xs, rfl, rfl, hH, h1, h2, hz, q⟩ := h
  cases rx
  obtain ⟨t, rfl⟩ := ry
  obtain ⟨z, its, n, r, e⟩ := hH.ok I.hok
  have hl := r.length
  have hlen : its.toArray.size * k.toNat ≤ sizeLine := by rw [List.size_toArray, ← hl]; exact hz
  have hcap : ¬ its.toArray.size * k.toNat > (2 ^ 63 - 1) / 8 := by
    have : (sizeLine : Nat) ≤ (2 ^ 63 - 1) / 8 := by decide
    omega
  have hfit : ¬ (!Builtin.List.listFitsIndex k) = true := by
    rw [fitsIndex_both h1 h2]
    exact Bool.false_ne_true
  have hlong : ¬ Builtin.List.listTooLong (its.toArray.size * k.toNat) = true := by
    rw [notLongL hlen]
    exact Bool.false_ne_true
  have hnew : List.foldl (fun x1 x2 => x1 ++ x2) #[] (List.replicate (if its.toArray.isEmpty = true then 0 else k.toNat) its.toArray) = (List.replicate k.toNat its).flatten.toArray := by
    have f0 : ∀ m : Nat, List.foldl (fun x1 x2 => x1 ++ x2) #[] (List.replicate m its.toArray) = (List.replicate m its).flatten.toArray := fun m => by
      have := foldl_rep its m []
      rw [List.nil_append] at this
      exact this
    rw [f0]
    cases its with
    | nil => simp
    | cons a r' => rw [if_neg (by simp)]
  refine wpAny_binaryOp_repeat_ref (T := "list") (U := "int") (by decide) ⟨_, e, rfl⟩ (fun s' => typeIs_int s' k t) noFill_list_mul F.fills_int_mul F.slot_int_rmul repeat_list F.slot_int_index.lookup
    (call_meets F.slot_int_rmul (typeIs_int s k t) F.entry_int_rmul (F.args_int_rmul_2 _ _) (int___rmul___int_list k t l its.toArray n)
      ⟨e, rfl, ⟨_, e, rfl⟩, call_meets F.slot_list_mul ⟨_, e, rfl⟩ F.entry_list_mul (F.args_list_mul_2 _ _) (AutoListH.list___mul___list_int_3 l its.toArray n k t hfit hcap hlong) ⟨e, ?_⟩⟩)
  rw [hnew]
  exact ⟨.ref _, _, I.lnew (t' := s.toks) (r.rep k.toNat) (by rw [PyProof.Rows.lm_len_rep_flat, Nat.mul_comm]; exact hz), rfl, q _ I.fresh⟩
theorem AllOn.rep {F : Hp} {vs : List V} (h : AllOn ps F vs) : ∀ n : Nat, AllOn (List.replicate n ps).flatten F (List.replicate n vs).flatten
  | 0 => .nil
  | n + 1 => by
    rw [List.replicate_succ, List.replicate_succ, List.flatten_cons, List.flatten_cons]
    exact h.append (AllOn.rep h n)
theorem ok_repL {k : Int} (h1 : -(2 ^ 63) ≤ k) (h2 : k < 2 ^ 63) (hz : ps.length * k.toNat ≤ sizeLine) (r : R C (rL (List.replicate k.toNat ps).flatten)) :
    OpOk j Γ (fun x y H Q => ∃ l k xs, x = .ref l ∧ y = .int k ∧ L2.Rd H l (.lst xs) ∧ -(2 ^ 63) ≤ k ∧ k < 2 ^ 63 ∧ xs.length * k.toNat ≤ sizeLine ∧
      ∀ p, H p = none → Q (.ref p) (upd H p (.lst (List.replicate k.toNat xs).flatten))) (rL ps) (isI k) C R := fun Φ σ F H v w Q x S ⟨a, vs, e1, h3, o1⟩ o2 K =>
  ⟨a, k, vs, e1, o2, S.sub _ _ h3, h1, h2, by rw [← o1.length]; exact hz, fun z hz => K.newL S r (o1.rep _) hz⟩
/-! ### slices -/
def cutP (ps : List Pr) (lo hi : Option Int) : List Pr := (ps.drop (HT.sIx ps.length 0 lo)).take (HT.sIx ps.length ps.length hi - HT.sIx ps.length 0 lo)
theorem AllOn.cut {F : Hp} {vs : List V} (h : AllOn ps F vs) (lo hi : Option Int) : AllOn (cutP ps lo hi) F (cutV vs lo hi) := by
  unfold cutP cutV
  rw [h.length]
  exact (h.drop _).take _
/-- a slice's part -/
def Wo (X : L2.Cx) (e : Option Expr) : TO := fun σ H Q => ∀ (pins : Pins) (s : Shared), Inv X pins σ H s → wpAny (model X.prog X.w) X.A (evalPart e X.env) (fun u s' => ∃ o H', Inv X pins σ H' s' ∧ IsPart u o ∧ Q o H') X.xe s
theorem po_wo {X : L2.Cx} {e : Option Expr} : PO X e (Wo X e) := ⟨fun pins s σ H Q I h => h pins s I⟩
def Eo (j : J) (Γ : Gm) (C : List Cell) (e : Option Expr) (R : List Cell → Option Int → Prop) : Prop := ∀ Φ σ F H Q, XW j Φ → Sta j.tb Φ Γ C σ F H → (∀ o F' H' C', R C' o → Sta j.tb Φ Γ C' σ F' H' → L2.Same F F' → Q o H') → Wo j.X e σ H Q
variable {lo hi : Option Expr} {o : Expr} {pos p2 : Pos}
theorem eo_none {R : List Cell → Option Int → Prop} (r : R C none) : Eo j Γ C none R := fun Φ σ F H Q x S K pins s I => po_none.run pins s σ H Q I (K none F H C r S (L2.Same.refl F))
theorem eo_some {e : Expr} {R : List Cell → Option Int → Prop} (h : Ev j Γ C e fun C1 p => ∃ i, p = isI i ∧ R C1 (some i)) : Eo j Γ C (some e) R := fun Φ σ F H Q x S K pins s I => (po_some pe_we).run pins s σ H Q I (h Φ σ F H _ x S fun v F1 H1 C1 p ⟨i, ep, r⟩ S1 s1 o1 => by
  subst ep
  exact ⟨i, o1, K _ _ _ _ r S1 s1⟩)
def SlOk (j : J) (Γ : Gm) (r : V → Option Int → Option Int → Hp → VK → Prop) (p : Pr) (a b : Option Int) (C : List Cell) (R : Ps) : Prop := ∀ Φ σ F H v Q, XW j Φ → Sta j.tb Φ Γ C σ F H → p.on F v → Kv j Φ Γ σ F R Q → r v a b H Q
theorem ev_slice {r : V → Option Int → Option Int → Hp → VK → Prop} (hr : SlR j.X r) (h : Ev j Γ C o fun C1 p => Eo j Γ C1 lo fun C2 a => Eo j Γ C2 hi fun C3 b => SlOk j Γ r p a b C3 R) : Ev j Γ C (.Subscript o (.Slice lo hi none p2) pos) R :=
  ev_lift (pe_slice hr pe_we po_wo po_wo) fun Φ σ F H Q x S K => h Φ σ F H _ x S fun v F1 H1 C1 p r1 S1 s1 o1 => r1 Φ σ F1 H1 _ x S1 fun a F2 H2 C2 r2 S2 s2 => r2 Φ σ F2 H2 _ x S2 fun b F3 H3 C3 r3 S3 s3 =>
    r3 Φ σ F3 H3 v Q x S3 (p.mono (s2.trans s3) o1) (K.same ((s1.trans s2).trans s3))
theorem ok_slL {a b : Option Int} (h : LstOk j C p ps) (r : R C (rL (cutP ps a b))) : SlOk j Γ (rSlL j.X.K) p a b C R := fun Φ σ F H v Q x S o K => by
  obtain ⟨l, vs, e, h1, k1⟩ := h _ _ _ _ _ _ _ S o
  exact ⟨l, vs, e, h1, fun z hz => K.newL S r (k1.cut a b) hz⟩
/-! ### methods of built-in types -/
def MtOk (j : J) (Γ : Gm) (r : V → List V → Hp → VK → Prop) (p : Pr) (qs : List Pr) (C : List Cell) (R : Ps) : Prop := ∀ Φ σ F H v vs Q, XW j Φ → Sta j.tb Φ Γ C σ F H → p.on F v → AllOn qs F vs → Kv j Φ Γ σ F R Q → r v vs H Q
def TyOk (j : J) (C : List Cell) (p : Pr) (T : String) : Prop := ∀ tb Φ Γ σ F H v, Sta tb Φ Γ C σ F H → p.on F v → tyV j.X.K T v H
theorem ty_L (h : LstOk j C p ps) : TyOk j C p "list" := fun tb Φ Γ σ F H v S o => by
  obtain ⟨l, vs, e, h1, k1⟩ := h _ _ _ _ _ _ _ S o
  rw [e]
  exact .inl ⟨rfl, vs, h1⟩
theorem ty_S {s : Str} : TyOk j C (isS s) "str" := fun tb Φ Γ σ F H v S o => by rw [show v = .str s from o]; exact rfl
variable {T id : String} {name : Str} {r : V → List V → Hp → VK → Prop} {apos cpos : Pos} {e : Expr} {es : List Expr}
theorem ev_bm0 (pa : PlainAttrs T) (slot : Slot T name id) (hty : typeOf (.builtin id) = pure (.type "method_descriptor")) (hm : MtR j.X id r) (h : Ev j Γ C o fun C1 p => TyOk j C1 p T ∧ MtOk j Γ r p [] C1 R)
    (hbase : attributeBase o name j.X.env (eval o j.X.env) = eval o j.X.env := by rfl) (hline : (apos.endLine == cpos.line) = true := by rfl) : Ev j Γ C (.Call (.Attribute o name apos) [] [] cpos) R :=
  ev_lift (pe_bm0 pa slot hty hm pe_we hbase hline) fun Φ σ F H Q x S K => h Φ σ F H _ x S fun v F1 H1 C1 p ⟨t1, r1⟩ S1 s1 o1 => ⟨t1 _ _ _ _ _ _ _ S1 o1, r1 Φ σ F1 H1 v [] Q x S1 o1 .nil (K.same s1)⟩
theorem ev_bm (pa : PlainAttrs T) (slot : Slot T name id) (hty : typeOf (.builtin id) = pure (.type "method_descriptor")) (hm : MtR j.X id r) (h : Ev j Γ C o fun C1 p => TyOk j C1 p T ∧ Ea j Γ C1 (e :: es) fun C2 qs => MtOk j Γ r p qs C2 R)
    (hbase : attributeBase o name j.X.env (eval o j.X.env) = eval o j.X.env := by rfl)
    (hfew : ((backTo cpos (starEach (e :: es) j.X.env)).all (fun x => !x.1) && (backToKw cpos (keywordEach [] j.X.env)).all (fun x => x.1.isSome)
      && decide ((e :: es).length + ([] : List Keyword).length + (if ([] : List Keyword).isEmpty then 0 else 1) < 30)) = true := by rfl)
    (hline : (apos.endLine == cpos.line) = true := by rfl) (hs : starEach (e :: es) j.X.env = (false, eval e j.X.env) :: starEach es j.X.env := by rfl) (hplain : (backTo cpos (starEach es j.X.env)).any (·.1) = false := by rfl) : Ev j Γ C (.Call (.Attribute o name apos) (e :: es) [] cpos) R :=
  ev_lift (pe_bm pa slot hty hm pe_we pa_wa hbase hfew hline hs hplain) fun Φ σ F H Q x S K => h Φ σ F H _ x S fun v F1 H1 C1 p ⟨t1, r1⟩ S1 s1 o1 => ⟨t1 _ _ _ _ _ _ _ S1 o1, r1 Φ σ F1 H1 _ x S1 fun vs F2 H2 C2 qs r2 S2 s2 o2 =>
    r2 Φ σ F2 H2 v vs Q x S2 (p.mono s2 o1) o2 (K.same (s1.trans s2))⟩
/-! ### cells by place -/
theorem set_split {α : Type} {l : List α} {i : Nat} {x y : α} (h : l[i]? = some x) : l = l.take i ++ x :: l.drop (i + 1) ∧ l.set i y = l.take i ++ y :: l.drop (i + 1) := by
  obtain ⟨hi, e⟩ := List.getElem?_eq_some_iff.mp h
  refine ⟨?_, List.set_eq_take_append_cons_drop.trans (by rw [if_pos hi])⟩
  rw [← e, List.getElem_cons_drop, List.take_append_drop]
theorem Sta.puti {tb : Tb} {Φ : Fx} {σ : L2.St} {F H : Hp} {i : Nat} {c c' : Cell} {o u : HO} (S : Sta tb Φ Γ C σ F H) (hc : C[i]? = some c) (ha : c'.a = c.a) (hu : H c.a = some u) (h2 : ∀ φ, u ≠ .ext φ) (ho : c'.on F o) : Sta tb Φ Γ (C.set i c') σ F (upd H c.a o) := by
  obtain ⟨e1, e2⟩ := set_split (y := c') hc
  rw [e2]
  rw [e1] at S
  exact S.put ha hu h2 ho
theorem Sta.weaki {tb : Tb} {Φ : Fx} {σ : L2.St} {F H : Hp} {i : Nat} {c c' : Cell} (S : Sta tb Φ Γ C σ F H) (hc : C[i]? = some c) (ha : c'.a = c.a) (ho : ∀ o, H c.a = some o → c.on F o → c'.on F o) : Sta tb Φ Γ (C.set i c') σ F H := by
  obtain ⟨e1, e2⟩ := set_split (y := c') hc
  have hm : ∀ d, d ∈ C.set i c' → d = c' ∨ d ∈ C := fun d hd => by
    rw [e2] at hd
    rcases List.mem_append.mp hd with z | z
    · exact .inr (List.mem_of_mem_take z)
    · rcases List.mem_cons.mp z with z | z
      · exact .inl z
      · exact .inr (List.mem_of_mem_drop z)
  have hcm : c ∈ C := List.mem_of_getElem? hc
  refine ⟨S.env, ⟨fun d hd => ?_, ?_⟩, S.subx, S.fine, S.tab, S.base, S.fresh, S.keep, fun d hd => ?_, S.there⟩
  · rcases hm d hd with rfl | h
    · obtain ⟨o, h1, h2, h3⟩ := S.cells.at_ c hcm
      exact ⟨o, by rw [ha]; exact h1, ho o h1 h2, by rw [ha]; exact h3⟩
    · exact S.cells.at_ d h
  · have nd := S.cells.nd
    rw [e1, List.map_append, List.map_cons] at nd
    rw [e2, List.map_append, List.map_cons, ha]
    exact nd
  · rcases hm d hd with rfl | h
    · rw [ha]
      exact S.own c hcm
    · exact S.own d h
variable {P : Po} {sts : List Stmt} {i : Nat}
/-- a cell's word is weakened -/
theorem tr_weak {c c' : Cell} (hc : C[i]? = some c) (ha : c'.a = c.a) (ho : ∀ F o, c.on F o → c'.on F o) (h : Tr j Γ (C.set i c') sts P) : Tr j Γ C sts P := fun Φ σ F H x S => h Φ σ F H x (S.weaki hc ha fun o _ => ho F o)
theorem ev_weak {c c' : Cell} (hc : C[i]? = some c) (ha : c'.a = c.a) (ho : ∀ F o, c.on F o → c'.on F o) (h : Ev j Γ (C.set i c') e R) : Ev j Γ C e R := fun Φ σ F H Q x S K => h Φ σ F H Q x (S.weaki hc ha fun o _ => ho F o) K
/-- a cell's word is opened -/
theorem tr_open {ω : Type} {c : Cell} (c' : ω → Cell) (hc : C[i]? = some c) (ha : ∀ z, (c' z).a = c.a) (ho : ∀ F o, c.on F o → ∃ z, (c' z).on F o) (h : ∀ z, Tr j Γ (C.set i (c' z)) sts P) : Tr j Γ C sts P := fun Φ σ F H x S => by
  obtain ⟨o, h1, h2, h3⟩ := S.cells.at_ c (List.mem_of_getElem? hc)
  obtain ⟨z, hz⟩ := ho F o h2
  refine h z Φ σ F H x (S.weaki hc (ha z) fun o' h' _ => ?_)
  rw [h1] at h'
  cases h'
  exact hz
end
end Z

end
section
set_option Elab.async false
set_option linter.all false
set_option maxRecDepth 100000
/-! Z8: what changes a cell; dicts; range loops. -/
namespace Z
open PySem PySem.Spec PyProof.Rows L2
open PySem.W (Datum Tup)
open Rep (pr)
section
/-- an int, without effect -/
def EvP' (j : J) (Γ : Gm) (C : List Cell) (e : Expr) (b : Int) : Prop := Ev j Γ C e fun C' q => C' = C ∧ q = isI b
variable {j : J} {Γ : Gm} {C : List Cell} {R : Ps} {p q : Pr} {ps : List Pr} {P : Po} {rest : List Stmt} {pos pos' pos2 : Pos} {o e : Expr} {i : Nat} {m : Addr}
theorem Sta.lst {tb : Tb} {Φ : Fx} {σ : L2.St} {F H : Hp} (S : Sta tb Φ Γ C σ F H) (hm : cL m ps ∈ C) : ∃ vs, H m = some (.lst vs) ∧ AllOn ps F vs := by
  obtain ⟨o, h1, ⟨vs, e, h2⟩, _⟩ := S.cells.at_ _ hm
  subst e
  exact ⟨vs, h1, h2⟩
theorem Sta.dic {tb : Tb} {Φ : Fx} {σ : L2.St} {F H : Hp} {kps : List (Key × Pr)} (S : Sta tb Φ Γ C σ F H) (hm : cK m kps ∈ C) : ∃ kvs, H m = some (.dK kvs) ∧ KvOn kps F kvs := by
  obtain ⟨o, h1, ⟨vs, e, h2⟩, _⟩ := S.cells.at_ _ hm
  subst e
  exact ⟨vs, h1, h2⟩
/-! ### lists -/
theorem ok_append (hc : C[i]? = some (cL m ps)) (hz : ps.length < sizeLine) (r : R (C.set i (cL m (ps ++ [q]))) isN) : MtOk j Γ rAppend (isR m) [q] C R := fun Φ σ F H v vs Q x S ev o K => by
  obtain ⟨w, e, ow⟩ := all1 o
  obtain ⟨xs, h1, h2⟩ := S.lst (List.mem_of_getElem? hc)
  exact ⟨m, xs, w, ev, e, h1, by rw [← h2.length]; exact hz, K _ _ _ _ _ r (S.puti hc rfl h1 (fun _ z => nomatch z) ⟨xs ++ [w], rfl, h2.snoc ow⟩) (L2.Same.refl F) rfl⟩
theorem AllOn.dropLast {F : Hp} {ps : List Pr} {vs : List V} (h : AllOn ps F vs) : AllOn ps.dropLast F vs.dropLast := by
  rw [List.dropLast_eq_take, List.dropLast_eq_take, h.length]
  exact h.take _
theorem ok_pop (hc : C[i]? = some (cL m ps)) (hq : ps[ps.length - 1]? = some q) (r : R (C.set i (cL m ps.dropLast)) q) : MtOk j Γ rPop (isR m) [] C R := fun Φ σ F H v vs Q x S ev o K => by
  cases o
  obtain ⟨xs, h1, h2⟩ := S.lst (List.mem_of_getElem? hc)
  obtain ⟨y, e1, e2⟩ := h2.get hq
  rw [h2.length] at e1
  exact ⟨m, xs, y, ev, rfl, h1, e1, K _ _ _ _ _ r (S.puti hc rfl h1 (fun _ z => nomatch z) ⟨xs.dropLast, rfl, h2.dropLast⟩) (L2.Same.refl F) e2⟩
theorem AllOn.set {F : Hp} : ∀ {ps : List Pr} {vs : List V} {p : Pr} {v : V} (i : Nat), AllOn ps F vs → p.on F v → AllOn (ps.set i p) F (vs.set i v)
  | _, _, _, _, _, .nil, _ => .nil
  | _, _, _, _, 0, .cons _ t, r => .cons r t
  | _, _, _, _, i + 1, .cons a t, r => .cons a (AllOn.set i t r)
/-- xs[k] = e -/
theorem tr_setL {xo ko : Expr} (h : Ev j Γ C e fun C1 q => Ev j Γ C1 xo fun C2 p => Ev j Γ C2 ko fun C3 kp => ∃ m ps k n i, p = isR m ∧ kp = isI k ∧ C3[i]? = some (cL m ps) ∧ ixN ps.length k = some n ∧ Tr j Γ (C3.set i (cL m (ps.set n q))) rest P)
    (hs : swapsWithSole [.Subscript xo ko pos'] e pos.line j.X.env = pure false := by rfl) (hw : swappedStores [.Subscript xo ko pos'] e j.X.env = pure none := by rfl)
    (ha : ∀ v, assign (.Subscript xo ko pos') j.X.env v = (do
      let ov ← holding [v] (eval xo j.X.env)
      let iv ← holding [v, ov] (eval ko j.X.env)
      standAt pos'
      holding [v, ov, iv] (setItem ov iv v)
      release [v, ov, iv] []) := by intro _; rfl) : Tr j Γ C (.Assign [.Subscript xo ko pos'] e pos :: rest) P :=
  tr_lift (ps_asg pe_we (pg_sub pe_we pe_we set_list ha) hs hw) fun Φ σ F H x S => h Φ σ F H _ x S fun v F1 H1 C1 q r1 S1 s1 o1 => r1 Φ σ F1 H1 _ x S1 fun w F2 H2 C2 p r2 S2 s2 o2 => r2 Φ σ F2 H2 _ x S2 fun u F3 H3 C3 kp ⟨m, ps, k, n, i, ep, ek, hc, hn, t⟩ S3 s3 o3 => by
    subst ep
    subst ek
    obtain ⟨xs, h1, h2⟩ := S3.lst (List.mem_of_getElem? hc)
    exact ⟨m, xs, k, n, o2, o3, h1, by rw [← h2.length]; exact hn, t Φ σ F3 _ x (S3.puti hc rfl h1 (fun _ z => nomatch z) ⟨xs.set n v, rfl, h2.set n (q.mono (s2.trans s3) o1)⟩)⟩
/-! ### fields -/
/-- o.f = e, the i-th attribute -/
theorem tr_fld (i : Nat) {f : Str} {Cl : Addr} {fns : List Str} (cl : Cls j.X.K Cl) (na : NoAttr j.X.K Cl f) (nd : fns.Nodup) (hn : fns[i]? = some f) (hl : fns.length < 1000)
    (h : Ev j Γ C e fun C1 q => Ev j Γ C1 o fun C2 p => ∃ m ps k, p = isR m ∧ C2[k]? = some (cI m Cl fns ps) ∧ Tr j Γ (C2.set k (cI m Cl fns (ps.set i q))) rest P)
    (hs : swapsWith e (some (.Attribute o f pos')) pos.line j.X.env = pure false := by rfl) : Tr j Γ C (.Assign [.Attribute o f pos'] e pos :: rest) P :=
  tr_lift (ps_fld pe_we pe_we hs) fun Φ σ F H x S => h Φ σ F H _ x S fun v F1 H1 C1 q r1 S1 s1 o1 => r1 Φ σ F1 H1 _ x S1 fun w F2 H2 C2 p ⟨m, ps, k, ep, hc, t⟩ S2 s2 o2 => by
    subst ep
    obtain ⟨dx, fs, h1, n, h2⟩ := S2.ins (List.mem_of_getElem? hc)
    subst n
    refine ⟨m, Cl, dx, fs, o2, h1, cl, na, by simpa using hl, ?_⟩
    refine t Φ σ F2 _ x (S2.puti hc rfl h1 (fun _ z => nomatch z) ⟨dx, putF f v fs, rfl, ?_, ?_⟩)
    · rw [putF_at nd hn, map_set_self Prod.fst (by exact hn)]
    · rw [putF_at nd hn, map_set_snd]
      exact h2.set i (q.mono s2 o1)
/-- .. a new attribute -/
theorem tr_fldN {f : Str} {Cl : Addr} {fns : List Str} (cl : Cls j.X.K Cl) (na : NoAttr j.X.K Cl f) (hf : f ∉ fns) (hl : fns.length < 1000)
    (h : Ev j Γ C e fun C1 q => Ev j Γ C1 o fun C2 p => ∃ m ps k, p = isR m ∧ C2[k]? = some (cI m Cl fns ps) ∧ Tr j Γ (C2.set k (cI m Cl (fns ++ [f]) (ps ++ [q]))) rest P)
    (hs : swapsWith e (some (.Attribute o f pos')) pos.line j.X.env = pure false := by rfl) : Tr j Γ C (.Assign [.Attribute o f pos'] e pos :: rest) P :=
  tr_lift (ps_fld pe_we pe_we hs) fun Φ σ F H x S => h Φ σ F H _ x S fun v F1 H1 C1 q r1 S1 s1 o1 => r1 Φ σ F1 H1 _ x S1 fun w F2 H2 C2 p ⟨m, ps, k, ep, hc, t⟩ S2 s2 o2 => by
    subst ep
    obtain ⟨dx, fs, h1, n, h2⟩ := S2.ins (List.mem_of_getElem? hc)
    subst n
    refine ⟨m, Cl, dx, fs, o2, h1, cl, na, by simpa using hl, ?_⟩
    refine t Φ σ F2 _ x (S2.puti hc rfl h1 (fun _ z => nomatch z) ⟨dx, putF f v fs, rfl, ?_, ?_⟩)
    · rw [putF_no hf, List.map_append]
      rfl
    · rw [putF_no hf, List.map_append]
      exact h2.snoc (q.mono s2 o1)
/-- o.f += e of ints, the i-th attribute; the value of e has no effect -/
theorem tr_fldaug (i : Nat) {op : Operator} {g : Int → Int → Int} {f : Str} {Cl : Addr} {fns : List Str} (cl : Cls j.X.K Cl) (na : NoAttr j.X.K Cl f) (nd : fns.Nodup) (hn : fns[i]? = some f) (hl : fns.length < 1000)
    (hop : InOp j.X op (fun x y H Q => ∃ i j, x = .int i ∧ y = .int j ∧ Q (.int (g i j)) H))
    (h : Ev j Γ C o fun C1 p => ∃ m ps k a b, p = isR m ∧ C1[k]? = some (cI m Cl fns ps) ∧ ps[i]? = some (isI a) ∧ EvP' j Γ C1 e b ∧ Tr j Γ (C1.set k (cI m Cl fns (ps.set i (isI (g a b))))) rest P) : Tr j Γ C (.AugAssign (.Attribute o f pos') op e pos :: rest) P :=
  tr_lift (ps_fldaug pe_we pe_we hop) fun Φ σ F H x S => h Φ σ F H _ x S fun v F1 H1 C1 p ⟨m, ps, k, a, b, ep, hc, ha, he, t⟩ S1 s1 o1 => by
    subst ep
    obtain ⟨dx, fs, h1, n, h2⟩ := S1.ins (List.mem_of_getElem? hc)
    subst n
    obtain ⟨u, l1, l2⟩ := h2.get ha
    refine ⟨m, Cl, dx, fs, u, o1, h1, cl, na, look_at nd (pair_at hn l1), ?_⟩
    refine he Φ σ F1 H1 _ x S1 fun w F2 H2 C2 q ⟨e2, eq⟩ S2 s2 o2 => ?_
    subst e2
    subst eq
    obtain ⟨dx', fs', h1', n', h2'⟩ := S2.ins (List.mem_of_getElem? hc)
    have nd' : (fs'.map Prod.fst).Nodup := by rw [n']; exact nd
    have hn' : (fs'.map Prod.fst)[i]? = some f := by rw [n']; exact hn
    refine ⟨a, b, l2, o2, dx', fs', h1', by have := congrArg List.length n'; simp only [List.length_map] at this hl; omega, ?_⟩
    refine t Φ σ F2 _ x (S2.puti hc rfl h1' (fun _ z => nomatch z) ⟨dx', putF f _ fs', rfl, ?_, ?_⟩)
    · rw [putF_at nd' hn', map_set_self Prod.fst (by exact hn')]
      exact n'
    · rw [putF_at nd' hn', map_set_snd]
      exact h2'.set i rfl
end
end Z

end
section
set_option Elab.async false
set_option linter.all false
set_option maxRecDepth 100000
/-! Z9: dicts of int and text keys; loops over a range, over a dict's keys. -/
namespace Z
open PySem PySem.Spec PyProof.Rows L2
open PySem.W (Datum Tup)
open Rep (pr)
/-! ### the data -/
section
variable {α : Type}
def vP (kps : List (Key × α)) (k : Key) : Option α := (kps.find? fun kv => decide (kv.1 = k)).map (·.2)
def pP (kps : List (Key × α)) (k : Key) (p : α) : List (Key × α) := if kps.any fun kv => decide (kv.1 = k) then kps.map fun kv => if kv.1 = k then (kv.1, p) else kv else kps ++ [(k, p)]
def dP (kps : List (Key × α)) (k : Key) : List (Key × α) := kps.filter fun kv => decide (kv.1 ≠ k)
end
theorem KvOn.val {F : Hp} : ∀ {kps : List (Key × Pr)} {kvs : List (Key × V)}, KvOn kps F kvs → ∀ k, (∀ p, vP kps k = some p → ∃ v, valV kvs k = some v ∧ p.on F v) ∧ (vP kps k = none → valV kvs k = none)
  | _, _, .nil, k => ⟨fun p h => (nomatch h), fun _ => rfl⟩
  | (a, p) :: kps, (b, v) :: kvs, .cons h t, k => by
    obtain ⟨e, o⟩ := h
    have e : a = b := e
    subst e
    obtain ⟨i1, i2⟩ := KvOn.val t k
    unfold vP valV at i1 i2 ⊢
    simp only [List.find?_cons]
    by_cases hk : a = k
    · simp only [hk, decide_true, Option.map_some]
      exact ⟨fun q h => by cases h; exact ⟨v, rfl, o⟩, fun h => nomatch h⟩
    · simp only [hk, decide_false]
      exact ⟨i1, i2⟩
theorem KvOn.anyK {F : Hp} : ∀ {kps : List (Key × Pr)} {kvs : List (Key × V)}, KvOn kps F kvs → ∀ k, (kps.any fun kv => decide (kv.1 = k)) = kvs.any fun kv => decide (kv.1 = k)
  | _, _, .nil, k => rfl
  | (a, p) :: kps, (b, v) :: kvs, .cons h t, k => by
    obtain ⟨e, o⟩ := h
    have e : a = b := e
    subst e
    rw [List.any_cons, List.any_cons, KvOn.anyK t k]
theorem KvOn.len {F : Hp} {kps : List (Key × Pr)} {kvs : List (Key × V)} (h : KvOn kps F kvs) : kps.length = kvs.length := Paired.length h
theorem KvOn.append {F : Hp} : ∀ {kps qs : List (Key × Pr)} {kvs ws : List (Key × V)}, KvOn kps F kvs → KvOn qs F ws → KvOn (kps ++ qs) F (kvs ++ ws)
  | _, _, _, _, .nil, k => k
  | _, _, _, _, .cons a b, k => .cons a (KvOn.append b k)
theorem KvOn.repl {F : Hp} {p : Pr} {v : V} (r : p.on F v) (k : Key) : ∀ {kps : List (Key × Pr)} {kvs : List (Key × V)}, KvOn kps F kvs →
    KvOn (kps.map fun kv => if kv.1 = k then (kv.1, p) else kv) F (kvs.map fun kv => if kv.1 = k then (kv.1, v) else kv)
  | _, _, .nil => .nil
  | (a, q) :: kps, (b, w) :: kvs, .cons h t => by
    obtain ⟨e, o⟩ := h
    have e : a = b := e
    subst e
    rw [List.map_cons, List.map_cons]
    refine .cons ?_ (KvOn.repl r k t)
    dsimp only
    by_cases hk : a = k
    · rw [if_pos hk, if_pos hk]; exact ⟨rfl, r⟩
    · rw [if_neg hk, if_neg hk]; exact ⟨rfl, o⟩
theorem KvOn.put {F : Hp} {p : Pr} {v : V} (r : p.on F v) (k : Key) {kps : List (Key × Pr)} {kvs : List (Key × V)} (h : KvOn kps F kvs) : KvOn (pP kps k p) F (putK kvs k v) := by
  unfold pP putK
  rw [h.anyK k]
  split
  · exact h.repl r k
  · exact h.append (.cons ⟨rfl, r⟩ .nil)
theorem KvOn.drop {F : Hp} (k : Key) : ∀ {kps : List (Key × Pr)} {kvs : List (Key × V)}, KvOn kps F kvs → KvOn (dP kps k) F (dropK kvs k)
  | _, _, .nil => .nil
  | (a, q) :: kps, (b, w) :: kvs, .cons h t => by
    obtain ⟨e, o⟩ := h
    have e : a = b := e
    subst e
    have ih := KvOn.drop k t
    unfold dP dropK at ih ⊢
    rw [List.filter_cons, List.filter_cons]
    dsimp only
    by_cases hk : a = k
    · rw [if_neg (by simp [hk]), if_neg (by simp [hk])]; exact ih
    · rw [if_pos (by simp [hk]), if_pos (by simp [hk])]; exact .cons ⟨rfl, o⟩ ih
theorem KvOn.keys {F : Hp} : ∀ {kps : List (Key × Pr)} {kvs : List (Key × V)}, KvOn kps F kvs → kps.map (·.1) = kvs.map (·.1)
  | _, _, .nil => rfl
  | (a, q) :: kps, (b, w) :: kvs, .cons h t => by
    obtain ⟨e, o⟩ := h
    rw [List.map_cons, List.map_cons, KvOn.keys t]
    exact congrArg (· :: _) e
/-- a dict that a loop walks -/
def cZ (a : Addr) (od : Obj) (kvs : List (Key × V)) (kps : List (Key × Pr)) : Cell := ⟨a, fun F o => o = .frz od (.dK kvs) ∧ KvOn kps F kvs, fun s ⟨e, h⟩ => ⟨e, h.mono s⟩, fun ⟨e, _⟩ => by subst e; exact fun _ z => (nomatch z), fun ⟨e, _⟩ => by subst e; exact fun _ z => (nomatch z)⟩
section
variable {j : J} {Γ : Gm} {C : List Cell} {R : Ps} {p q : Pr} {ps : List Pr} {P : Po} {rest body : List Stmt} {pos pos' pos2 : Pos} {o e ke : Expr} {i : Nat} {m : Addr} {kps : List (Key × Pr)} {k : Key}
def DicOk (j : J) (C : List Cell) (p : Pr) (kps : List (Key × Pr)) : Prop := ∀ tb Φ Γ σ F H v, Sta tb Φ Γ C σ F H → p.on F v → ∃ a kvs, v = .ref a ∧ L2.Rd H a (.dK kvs) ∧ KvOn kps F kvs
theorem dic_F : DicOk j C (rK kps) kps := fun tb Φ Γ σ F H v S ⟨a, kvs, e, h, o⟩ => ⟨a, kvs, e, S.sub _ _ h, o⟩
theorem dic_C (hm : cK m kps ∈ C) : DicOk j C (isR m) kps := fun tb Φ Γ σ F H v S e => by
  obtain ⟨kvs, h1, h2⟩ := S.dic hm
  exact ⟨m, kvs, e, .inl h1, h2⟩
theorem dic_Z {od : Obj} {kvs : List (Key × V)} (hm : cZ m od kvs kps ∈ C) : DicOk j C (isR m) kps := fun tb Φ Γ σ F H v S e => by
  obtain ⟨o, h1, ⟨e', h2⟩, _⟩ := S.cells.at_ _ hm
  subst e'
  exact ⟨m, kvs, e, .inr ⟨od, h1⟩, h2⟩
/-- d[k], there -/
theorem ev_dget (hu : j.X.A.units + 1 < cLine) (h : Ev j Γ C o fun C1 p => Ev j Γ C1 ke fun C2 kp => ∃ kps k q, DicOk j C2 p kps ∧ kp = isV (kV k) ∧ vP kps k = some q ∧ R C2 q) (hs : NoSl ke := by exact fun _ _ => rfl) : Ev j Γ C (.Subscript o ke pos) R :=
  ev_lift (pe_dget hu pe_we pe_we hs) fun Φ σ F H Q x S K => h Φ σ F H _ x S fun v F1 H1 C1 p r1 S1 s1 o1 => r1 Φ σ F1 H1 _ x S1 fun w F2 H2 C2 kp ⟨kps, k, q, dk, ek, hv, r⟩ S2 s2 o2 => by
    subst ek
    obtain ⟨a, kvs, e1, h1, h2⟩ := dk _ _ _ _ _ _ _ S2 (p.mono s2 o1)
    obtain ⟨z, z1, z2⟩ := (h2.val k).1 q hv
    exact ⟨a, z, e1, .inl ⟨kvs, k, h1, o2, z1.symm⟩, K _ _ _ _ _ r S2 (s1.trans s2) z2⟩
/-- k in d, k not in d -/
theorem ev_din (hu : j.X.A.units + 1 < cLine) (h : Ev j Γ C ke fun C1 kp => Ev j Γ C1 o fun C2 p => ∃ kps k, DicOk j C2 p kps ∧ kp = isV (kV k) ∧ R C2 (isB (vP kps k).isSome)) (hmk : behindInMarks .In o = false := by rfl) : Ev j Γ C (.Compare ke [.In] [o] pos) R :=
  ev_lift (pe_cmp (pc_din hu pe_we pe_we) hmk) fun Φ σ F H Q x S K => h Φ σ F H _ x S fun v F1 H1 C1 kp r1 S1 s1 o1 => r1 Φ σ F1 H1 _ x S1 fun w F2 H2 C2 p ⟨kps, k, dk, ek, r⟩ S2 s2 o2 => by
    subst ek
    obtain ⟨a, kvs, e1, h1, h2⟩ := dk _ _ _ _ _ _ _ S2 o2
    refine ⟨a, valV kvs k, e1, .inl ⟨kvs, k, h1, o1, rfl⟩, K _ _ _ _ _ r S2 (s1.trans s2) ?_⟩
    show V.bl _ = V.bl _
    cases q : vP kps k with
    | none => rw [(h2.val k).2 q]; rfl
    | some q' => obtain ⟨z, z1, _⟩ := (h2.val k).1 q' q; rw [z1]; rfl
theorem ev_dnotin (hu : j.X.A.units + 1 < cLine) (h : Ev j Γ C ke fun C1 kp => Ev j Γ C1 o fun C2 p => ∃ kps k, DicOk j C2 p kps ∧ kp = isV (kV k) ∧ R C2 (isB (!(vP kps k).isSome))) (hmk : behindInMarks .NotIn o = false := by rfl) : Ev j Γ C (.Compare ke [.NotIn] [o] pos) R :=
  ev_lift (pe_cmp (pc_dnotin hu pe_we pe_we) hmk) fun Φ σ F H Q x S K => h Φ σ F H _ x S fun v F1 H1 C1 kp r1 S1 s1 o1 => r1 Φ σ F1 H1 _ x S1 fun w F2 H2 C2 p ⟨kps, k, dk, ek, r⟩ S2 s2 o2 => by
    subst ek
    obtain ⟨a, kvs, e1, h1, h2⟩ := dk _ _ _ _ _ _ _ S2 o2
    refine ⟨a, valV kvs k, e1, .inl ⟨kvs, k, h1, o1, rfl⟩, K _ _ _ _ _ r S2 (s1.trans s2) ?_⟩
    show V.bl _ = V.bl _
    cases q : vP kps k with
    | none => rw [(h2.val k).2 q]; rfl
    | some q' => obtain ⟨z, z1, _⟩ := (h2.val k).1 q' q; rw [z1]; rfl
theorem et_din (hu : j.X.A.units + 1 < cLine) {R' : List Cell → Bool → Prop} (h : Ev j Γ C ke fun C1 kp => Ev j Γ C1 o fun C2 p => ∃ kps k, DicOk j C2 p kps ∧ kp = isV (kV k) ∧ R' C2 (vP kps k).isSome) (hmk : behindInMarks .In o = false := by rfl) : Et j Γ C (.Compare ke [.In] [o] pos) R' :=
  et_lift (pt_cmp (pc_din hu pe_we pe_we) hmk) fun Φ σ F H Q x S K => h Φ σ F H _ x S fun v F1 H1 C1 kp r1 S1 s1 o1 => r1 Φ σ F1 H1 _ x S1 fun w F2 H2 C2 p ⟨kps, k, dk, ek, r⟩ S2 s2 o2 => by
    subst ek
    obtain ⟨a, kvs, e1, h1, h2⟩ := dk _ _ _ _ _ _ _ S2 o2
    refine ⟨a, valV kvs k, e1, .inl ⟨kvs, k, h1, o1, rfl⟩, (vP kps k).isSome, ?_, K _ _ _ _ r S2 (s1.trans s2)⟩
    cases q : vP kps k with
    | none => rw [(h2.val k).2 q]; rfl
    | some q' => obtain ⟨z, z1, _⟩ := (h2.val k).1 q' q; rw [z1]; rfl
theorem et_dnotin (hu : j.X.A.units + 1 < cLine) {R' : List Cell → Bool → Prop} (h : Ev j Γ C ke fun C1 kp => Ev j Γ C1 o fun C2 p => ∃ kps k, DicOk j C2 p kps ∧ kp = isV (kV k) ∧ R' C2 (!(vP kps k).isSome)) (hmk : behindInMarks .NotIn o = false := by rfl) : Et j Γ C (.Compare ke [.NotIn] [o] pos) R' :=
  et_lift (pt_cmp (pc_dnotin hu pe_we pe_we) hmk) fun Φ σ F H Q x S K => h Φ σ F H _ x S fun v F1 H1 C1 kp r1 S1 s1 o1 => r1 Φ σ F1 H1 _ x S1 fun w F2 H2 C2 p ⟨kps, k, dk, ek, r⟩ S2 s2 o2 => by
    subst ek
    obtain ⟨a, kvs, e1, h1, h2⟩ := dk _ _ _ _ _ _ _ S2 o2
    refine ⟨a, valV kvs k, e1, .inl ⟨kvs, k, h1, o1, rfl⟩, !(vP kps k).isSome, ?_, K _ _ _ _ r S2 (s1.trans s2)⟩
    cases q : vP kps k with
    | none => rw [(h2.val k).2 q]; rfl
    | some q' => obtain ⟨z, z1, _⟩ := (h2.val k).1 q' q; rw [z1]; rfl
/-- d[k] = e -/
theorem tr_dput (hu : j.X.A.units + 1 < cLine) (h : Ev j Γ C e fun C1 q => Ev j Γ C1 o fun C2 p => Ev j Γ C2 ke fun C3 kp => ∃ m kps k i, p = isR m ∧ kp = isV (kV k) ∧ C3[i]? = some (cK m kps) ∧ kps.length < sizeLine ∧ Tr j Γ (C3.set i (cK m (pP kps k q))) rest P)
    (hs : swapsWith e (some (.Subscript o ke pos')) pos.line j.X.env = pure false := by rfl) : Tr j Γ C (.Assign [.Subscript o ke pos'] e pos :: rest) P :=
  tr_lift (ps_dput hu pe_we pe_we pe_we hs) fun Φ σ F H x S => h Φ σ F H _ x S fun v F1 H1 C1 q r1 S1 s1 o1 => r1 Φ σ F1 H1 _ x S1 fun w F2 H2 C2 p r2 S2 s2 o2 => r2 Φ σ F2 H2 _ x S2 fun u F3 H3 C3 kp ⟨m, kps, k, i, ep, ek, hc, hl, t⟩ S3 s3 o3 => by
    subst ep
    subst ek
    obtain ⟨kvs, h1, h2⟩ := S3.dic (List.mem_of_getElem? hc)
    refine ⟨m, _, o2, .inl ⟨kvs, k, h1, o3, by rw [← h2.len]; exact hl, rfl⟩, t Φ σ F3 _ x (S3.puti hc rfl h1 (fun _ z => nomatch z) ⟨_, rfl, h2.put (q.mono (s2.trans s3) o1) k⟩)⟩
/-- sorted(d): all keys texts -/
theorem ok_sortedD {ks : List Str} (hd : DicOk j C p kps) (hk : kps.map (·.1) = ks.map Sum.inr) (h64 : ks.length < 64) (r : ∀ ys, ys.Perm ks → sortedS ys = true → R C (rL (ys.map fun y => isS y))) :
    CallOk j Γ (fun xs H Q => ∃ (a : Addr) (kvs : List (Key × V)) (ks : List Str), xs = [.ref a] ∧ L2.Rd H a (.dK kvs) ∧ kvs.map (·.1) = ks.map Sum.inr ∧ ks.length < 64 ∧
      ∀ ys p, ys.Perm ks → sortedS ys = true → H p = none → Q (.ref p) (upd H p (.lst (ys.map V.str)))) [p] C R := fun Φ σ F H vs Q x S o K => by
  obtain ⟨v, e, o⟩ := all1 o
  obtain ⟨a, kvs, e1, h1, h2⟩ := hd _ _ _ _ _ _ _ S o
  refine ⟨a, kvs, ks, by rw [e, e1], h1, by rw [← h2.keys]; exact hk, h64, fun ys z hy hs hz => K.newL S (r ys hy hs) ?_ hz⟩
  clear hy hs r
  induction ys with
  | nil => exact .nil
  | cons y ys ih => exact .cons rfl ih
/-! ### for over a range -/
theorem tr_range1 {tg a : Expr} {pp : Pos} (I : Nat → Gm → List Cell → Prop) (N : Gm → List Cell → Prop) (hm : j.X.mg "range" = none)
    (k : Ev j Γ C a fun C1 p => ∃ n : Int, p = isI n ∧ -(2 ^ 62) ≤ n ∧ n < 2 ^ 62 ∧ I 0 Γ C1 ∧
      (∀ i Γ' C', i < n.toNat → I i Γ' C' → Eg j Γ' C' tg (isI i) fun Γ2 C2 => Tr j Γ2 C2 body { nx := I (i + 1), ct := I (i + 1), bk := N, rt := P.rt }) ∧ (∀ Γ' C', I n.toNat Γ' C' → N Γ' C'))
    (kr : ∀ Γ' C', N Γ' C' → Tr j Γ' C' rest P) (hp : PassesOwn (model j.X.prog j.X.w) j.X.A j.X.env j.X.xe) (hc : j.X.calm = true) (hg : Gl j.X "range" := by rfl) (hst : starEach [a] j.X.env = [(false, eval a j.X.env)] := by rfl)
    (hs : ∀ x, foldedSetIterable (.Call (.Name "range" pp) [a] [] pos2) j.X.env x = pure x := by intro _; rfl) : Tr j Γ C (.For tg (.Call (.Name "range" pp) [a] [] pos2) body [] pos :: rest) P :=
  tr_lift (ps_for hp hc (pi_range1 hg hm (pa_cons pe_we pa_nil hst) hst) pg_wg pss_wb hs) fun Φ σ F H x S => k Φ σ F H _ x S fun v F1 H1 C1 p ⟨n, ep, n1, n2, i0, hs, hd⟩ S1 s1 o1 => by
    subst ep
    have ev : v = .int n := o1
    subst ev
    refine ⟨n, rfl, n1, n2, for_range (lo := 0) (n := n.toNat) (fun i σ H => ∃ Γ C F, I i Γ C ∧ Sta j.tb Φ Γ C σ F H) ⟨Γ, C1, F1, i0, S1⟩ ?_ ?_⟩
    · rintro i σ2 H2 hi ⟨Γ2, C2, F2, i2, S2⟩
      refine hs i Γ2 C2 hi i2 Φ σ2 F2 H2 _ _ x S2 (show V.int (0 + (i : Int)) = V.int (i : Int) by rw [Int.zero_add]) fun Γ3 C3 σ3 F3 H3 t3 S3 s3 => ?_
      refine Wb.mono (t3 Φ σ3 F3 H3 x S3) (fun σ4 H4 h => h) (fun v4 H4 h => h) (fun σ4 H4 ⟨Γ4, C4, F4, n4, S4⟩ => kr Γ4 C4 n4 Φ σ4 F4 H4 x S4) fun σ4 H4 h => h
    · rintro σ2 H2 ⟨Γ2, C2, F2, i2, S2⟩
      exact kr Γ2 C2 (hd Γ2 C2 i2) Φ σ2 F2 H2 x S2
end
end Z

end
section
set_option Elab.async false
set_option linter.all false
set_option maxRecDepth 100000
/-! Z10: operators of any kind, stores of any kind, pure tests. -/
namespace Z
open PySem PySem.Spec PyProof.Rows L2
open PySem.W (Datum Tup)
open Rep (pr)
section
variable {X : L2.Cx}
def rStrAdd : R2 := fun x y H Q => ∃ i j, x = .str i ∧ y = .str j ∧ i.length + j.length ≤ sizeLine ∧ Q (.str (i ++ j)) H
def rCatL (K : PySem.W.Frag) : R2 := fun x y H Q => ∃ l b xs zs, x = .ref l ∧ y = .ref b ∧ SqL K H l xs ∧ SqL K H b zs ∧ xs.length + zs.length ≤ sizeLine ∧ ∀ p, H p = none → Q (.ref p) (upd H p (.lst (xs ++ zs)))
def rRepL : R2 := fun x y H Q => ∃ l k xs, x = .ref l ∧ y = .int k ∧ L2.Rd H l (.lst xs) ∧ -(2 ^ 63) ≤ k ∧ k < 2 ^ 63 ∧ xs.length * k.toNat ≤ sizeLine ∧ ∀ p, H p = none → Q (.ref p) (upd H p (.lst (List.replicate k.toNat xs).flatten))
/-- t + u of tuples (the left not empty) -/
def rCatT2 (K : PySem.W.Frag) : R2 := rCatT K
abbrev rAddA (K : PySem.W.Frag) : R2 := fun x y H Q => rI0 (fun i j => .int (i + j)) x y H Q ∨ (rStrAdd x y H Q ∨ (rCatL K x y H Q ∨ rCatT K x y H Q))
theorem op_addA : OpR X (binaryOp .Add) (rAddA X.K) := op_add.or (op_add_str.or (op_catL.or op_catT))
abbrev rMulA : R2 := fun x y H Q => rI CMul (fun i j => .int (i * j)) x y H Q ∨ rRepL x y H Q
theorem op_mulA : OpR X (binaryOp .Mult) rMulA := op_mul.or op_repL
abbrev rDivA : R2 := rI CDiv fun i j => .int (i / j)
abbrev rModA : R2 := rI (fun _ j => 0 < j) fun i j => .int (i % j)
/-- == of data of any type -/
def rEqX (K : PySem.W.Frag) (u : Nat) (neg : Bool) : R2 := fun x y H Q => ∃ (α : Type) (_ : DecidableEq α) (_ : Datum α), u + Datum.depth α < cLine ∧ rEqT K α neg x y H Q
theorem op_eqX : OpR X (compareOp .Eq) (rEqX X.K X.A.units false) := by
  intro pins s σ H x y v u Q I rx ry ⟨α, d1, d2, hu, q⟩
  exact op_eqT (α := α) hu pins s σ H x y v u Q I rx ry q
theorem op_neX : OpR X (compareOp .NotEq) (rEqX X.K X.A.units true) := by
  intro pins s σ H x y v u Q I rx ry ⟨α, d1, d2, hu, q⟩
  exact op_neT (α := α) hu pins s σ H x y v u Q I rx ry q
abbrev rEqA (K : PySem.W.Frag) (u : Nat) : R2 := fun x y H Q => rEq x y H Q ∨ rEqX K u false x y H Q
abbrev rNeA (K : PySem.W.Frag) (u : Nat) : R2 := fun x y H Q => rNe x y H Q ∨ rEqX K u true x y H Q
theorem op_eqA : OpR X (compareOp .Eq) (rEqA X.K X.A.units) := op_eq.or op_eqX
theorem op_neA : OpR X (compareOp .NotEq) (rNeA X.K X.A.units) := op_ne.or op_neX
/-- in -/
def rInX (K : PySem.W.Frag) (u : Nat) (neg : Bool) : R2 := fun x y H Q => ∃ (α : Type) (_ : DecidableEq α) (_ : Datum α), u + 1 + Datum.depth α < cLine ∧ rInT K α neg x y H Q
theorem op_inX : OpR X (compareOp .In) (rInX X.K X.A.units false) := by
  intro pins s σ H x y v u Q I rx ry ⟨α, d1, d2, hu, q⟩
  exact op_inT (α := α) hu pins s σ H x y v u Q I rx ry q
theorem op_notInX : OpR X (compareOp .NotIn) (rInX X.K X.A.units true) := by
  intro pins s σ H x y v u Q I rx ry ⟨α, d1, d2, hu, q⟩
  exact op_notInT (α := α) hu pins s σ H x y v u Q I rx ry q
def rInD (neg : Bool) : R2 := fun y x H Q => ∃ a o, x = .ref a ∧ DGet H a y o ∧ Q (.bl (if neg then !o.isSome else o.isSome)) H
theorem op_inD (hu : X.A.units + 1 < cLine) : OpR X (compareOp .In) (rInD false) := by
  intro pins s σ H x y v u Q I rx ry ⟨a, o, e, g, q⟩
  subst e
  obtain rfl : u = Value.ref a := ry
  exact d_in hu I g rx fun s3 I3 => ⟨.bl o.isSome, H, I3, rfl, q⟩
theorem op_notInD (hu : X.A.units + 1 < cLine) : OpR X (compareOp .NotIn) (rInD true) := by
  intro pins s σ H x y v u Q I rx ry ⟨a, o, e, g, q⟩
  subst e
  obtain rfl : u = Value.ref a := ry
  exact d_notIn hu I g rx fun s3 I3 => ⟨.bl (!o.isSome), H, I3, rfl, q⟩
def rInC (neg : Bool) : R2 := fun x y H Q => ∃ (c : Nat) (z : Str), x = .str ⟨#[c]⟩ ∧ y = .str z ∧ Q (.bl (if neg then !decide (c ∈ z.cps.toList) else decide (c ∈ z.cps.toList))) H
abbrev rInA (K : PySem.W.Frag) (u : Nat) : R2 := fun x y H Q => rInX K u false x y H Q ∨ (rInD false x y H Q ∨ rInC false x y H Q)
abbrev rNotInA (K : PySem.W.Frag) (u : Nat) : R2 := fun x y H Q => rInX K u true x y H Q ∨ (rInD true x y H Q ∨ rInC true x y H Q)
theorem op_inA (hu : X.A.units + 1 < cLine) : OpR X (compareOp .In) (rInA X.K X.A.units) := op_inX.or ((op_inD hu).or op_in_sign)
theorem op_notInA (hu : X.A.units + 1 < cLine) : OpR X (compareOp .NotIn) (rNotInA X.K X.A.units) := op_notInX.or ((op_notInD hu).or op_notIn_sign)
/-- a[b] -/
def rIxD : R2 := fun x y H Q => ∃ a v, x = .ref a ∧ DGet H a y (some v) ∧ Q v H
theorem ix_dict (hu : X.A.units + 1 < cLine) : IxR X rIxD := by
  intro value slice pins s σ H x y v u Q I rx ry ⟨a, z, e, g, q⟩ hs
  subst e
  obtain rfl : v = Value.ref a := rx
  have hT := dict_typeIs I g
  unfold subscriptTail
  refine wpAny_bind ?_
  rw [getitemInPython_of_ne hT.not_modules]
  refine wpAny_bind (wpAny_specialOf hT PySem.F.slot_dict_getitem.lookup ?_)
  have fin : wpAny (model X.prog X.w) X.A (subscripted slice false (.ref a) u) (fun r s₃ => wpAny (model X.prog X.w) X.A (letTemporaryGo value (.ref a) r >>= fun _ => pure r) (EP X pins σ Q) X.xe s₃) X.xe s := by
    rw [hs]
    exact wpAny_operating (d_getItem hu I g ry fun w' s3 I3 rw' => wpAny_bind (wpAny_letTemporaryGo (wpAny_pure ⟨z, H, I3, rw', q⟩)))
  first
    | exact wpAny_pure (wpAny_bind fin)
    | exact wpAny_bind (wpAny_pure (wpAny_bind fin))
    | exact wpAny_bind fin
abbrev rIxA (K : PySem.W.Frag) : R2 := fun x y H Q => rIxL K x y H Q ∨ (rIxT K x y H Q ∨ (rIxS x y H Q ∨ rIxD x y H Q))
theorem ix_all (hu : X.A.units + 1 < cLine) : IxR X (rIxA X.K) := ix_list.or (ix_tup.or (ix_str.or (ix_dict hu)))
/-- a[b] = v -/
def rSetD : V → V → V → Hp → (Hp → Prop) → Prop := fun o i v H Q => ∃ a H4, o = .ref a ∧ DPut H a i v H4 ∧ Q H4
theorem set_dict (hu : X.A.units + 1 < cLine) : PSet X rSetD := by
  intro pins s σ H o i v ov iv u Q I ro ri rv ⟨a, H4, e, g, q⟩
  subst e
  obtain rfl : ov = Value.ref a := ro
  exact d_setItem hu I g ri rv fun s4 I4 => ⟨H4, I4, q⟩
theorem pset_or {t t' : V → V → V → Hp → (Hp → Prop) → Prop} (h : PSet X t) (h' : PSet X t') : PSet X fun o i v H Q => t o i v H Q ∨ t' o i v H Q := by
  intro pins s σ H o i v ov iv u Q I ro ri rv q
  rcases q with q | q
  · exact h pins s σ H o i v ov iv u Q I ro ri rv q
  · exact h' pins s σ H o i v ov iv u Q I ro ri rv q
abbrev rSetA : V → V → V → Hp → (Hp → Prop) → Prop := fun o i v H Q => rSetL o i v H Q ∨ rSetD o i v H Q
theorem set_all (hu : X.A.units + 1 < cLine) : PSet X rSetA := pset_or set_list (set_dict hu)
/-- len -/
def rLenS : List V → Hp → VK → Prop := fun xs H Q => ∃ z, xs = [.str z] ∧ z.length ≤ sizeLine ∧ Q (.int z.length) H
def rLenL (K : PySem.W.Frag) : List V → Hp → VK → Prop := fun xs H Q => ∃ p ys, xs = [.ref p] ∧ (SqL K H p ys ∨ SqT K H p ys) ∧ Q (.int ys.length) H
def rLenD : List V → Hp → VK → Prop := fun xs H Q => ∃ a kvs, xs = [.ref a] ∧ L2.Rd H a (.dK kvs) ∧ Q (.int kvs.length) H
theorem call_lenD2 : CallR X (.builtin "len") rLenD := by
  intro pins s σ H xs us Q I r ⟨a, kvs, e, h, q⟩
  subst e
  obtain ⟨u, eu, ru⟩ := vals1 r
  subst eu
  obtain rfl : u = Value.ref a := ru
  exact d_len I h fun t s' I' => ⟨.int kvs.length, H, I', ⟨t, rfl⟩, q⟩
abbrev rLenA (K : PySem.W.Frag) : List V → Hp → VK → Prop := fun xs H Q => rLenL K xs H Q ∨ (rLenS xs H Q ∨ rLenD xs H Q)
theorem call_lenA : CallR X (.builtin "len") (rLenA X.K) := call_len_seq.or (call_len_str.or call_lenD2)
end
section
variable {j : J} {Γ : Gm} {C : List Cell} {R : Ps} {p q : Pr} {ps : List Pr} {P : Po} {rest body : List Stmt} {pos pos' pos2 : Pos} {o e ke : Expr} {i : Nat} {m : Addr} {kps : List (Key × Pr)} {k : Key}
theorem OpOk.inl {r r' : R2} (h : OpOk j Γ r p q C R) : OpOk j Γ (fun x y H Q => r x y H Q ∨ r' x y H Q) p q C R := fun Φ σ F H v w Q x S o1 o2 K => .inl (h Φ σ F H v w Q x S o1 o2 K)
theorem OpOk.inr {r r' : R2} (h : OpOk j Γ r' p q C R) : OpOk j Γ (fun x y H Q => r x y H Q ∨ r' x y H Q) p q C R := fun Φ σ F H v w Q x S o1 o2 K => .inr (h Φ σ F H v w Q x S o1 o2 K)
theorem CallOk.inl {r r' : List V → Hp → VK → Prop} (h : CallOk j Γ r ps C R) : CallOk j Γ (fun x H Q => r x H Q ∨ r' x H Q) ps C R := fun Φ σ F H vs Q x S o K => .inl (h Φ σ F H vs Q x S o K)
theorem CallOk.inr {r r' : List V → Hp → VK → Prop} (h : CallOk j Γ r' ps C R) : CallOk j Γ (fun x H Q => r x H Q ∨ r' x H Q) ps C R := fun Φ σ F H vs Q x S o K => .inr (h Φ σ F H vs Q x S o K)
theorem okA_addI {a b : Int} (r : R C (isI (a + b))) : OpOk j Γ (rAddA j.X.K) (isI a) (isI b) C R := .inl (ok_rI0 r)
theorem okA_addS {s t : Str} (hl : s.length + t.length ≤ sizeLine) (r : R C (isS (s ++ t))) : OpOk j Γ (rAddA j.X.K) (isS s) (isS t) C R := .inr (.inl (ok_addS hl r))
theorem okA_addL {qs : List Pr} (hp : LstOk j C p ps) (hq : LstOk j C q qs) (hz : ps.length + qs.length ≤ sizeLine) (r : R C (rL (ps ++ qs))) : OpOk j Γ (rAddA j.X.K) p q C R := .inr (.inr (.inl (ok_catL hp hq hz r)))
theorem okA_mulI {a b : Int} (hc : CMul a b) (r : R C (isI (a * b))) : OpOk j Γ rMulA (isI a) (isI b) C R := .inl (ok_rI hc r)
theorem okA_mulL {k : Int} (h1 : -(2 ^ 63) ≤ k) (h2 : k < 2 ^ 63) (hz : ps.length * k.toNat ≤ sizeLine) (r : R C (rL (List.replicate k.toNat ps).flatten)) : OpOk j Γ rMulA (rL ps) (isI k) C R := .inr (ok_repL h1 h2 hz r)
theorem okA_eqS {u z : V} (hs : scal u z = true) (r : R C (isB (decide (u = z)))) : OpOk j Γ (rEqA j.X.K j.X.A.units) (isV u) (isV z) C R := .inl (ok_eqS hs r)
theorem okA_neS {u z : V} (hs : scal u z = true) (r : R C (isB (!decide (u = z)))) : OpOk j Γ (rNeA j.X.K j.X.A.units) (isV u) (isV z) C R := .inl (ok_neS hs r)
section
variable {α : Type} [DecidableEq α] [Datum α] [Rep α] {a b : α} {xs : List α}
theorem okA_eqT (ha : DatOk j C p a) (hb : DatOk j C q b) (hu : j.X.A.units + Datum.depth α < cLine) (r : R C (isB (decide (a = b)))) : OpOk j Γ (rEqA j.X.K j.X.A.units) p q C R := fun Φ σ F H v w Q x S o1 o2 K => .inr ⟨α, _, _, hu, ok_eqT ha hb r Φ σ F H v w Q x S o1 o2 K⟩
theorem okA_neT (ha : DatOk j C p a) (hb : DatOk j C q b) (hu : j.X.A.units + Datum.depth α < cLine) (r : R C (isB (decide (a ≠ b)))) : OpOk j Γ (rNeA j.X.K j.X.A.units) p q C R := fun Φ σ F H v w Q x S o1 o2 K => .inr ⟨α, _, _, hu, ok_neT ha hb r Φ σ F H v w Q x S o1 o2 K⟩
theorem okA_inL (ha : DatOk j C p a) (hb : LstOk j C q (xs.map (pr j.X.K))) (hu : j.X.A.units + 1 + Datum.depth α < cLine) (r : R C (isB (decide (a ∈ xs)))) : OpOk j Γ (rInA j.X.K j.X.A.units) p q C R := fun Φ σ F H v w Q x S o1 o2 K => .inl ⟨α, _, _, hu, ok_inL ha hb r Φ σ F H v w Q x S o1 o2 K⟩
theorem okA_inT (ha : DatOk j C p a) (hb : TupOk j q (xs.map (pr j.X.K))) (hu : j.X.A.units + 1 + Datum.depth α < cLine) (r : R C (isB (decide (a ∈ xs)))) : OpOk j Γ (rInA j.X.K j.X.A.units) p q C R := fun Φ σ F H v w Q x S o1 o2 K => .inl ⟨α, _, _, hu, ok_inTu ha hb r Φ σ F H v w Q x S o1 o2 K⟩
theorem okA_notInL (ha : DatOk j C p a) (hb : LstOk j C q (xs.map (pr j.X.K))) (hu : j.X.A.units + 1 + Datum.depth α < cLine) (r : R C (isB (decide (a ∉ xs)))) : OpOk j Γ (rNotInA j.X.K j.X.A.units) p q C R := fun Φ σ F H v w Q x S o1 o2 K => .inl ⟨α, _, _, hu, ok_notInL ha hb r Φ σ F H v w Q x S o1 o2 K⟩
theorem okA_notInT (ha : DatOk j C p a) (hb : TupOk j q (xs.map (pr j.X.K))) (hu : j.X.A.units + 1 + Datum.depth α < cLine) (r : R C (isB (decide (a ∉ xs)))) : OpOk j Γ (rNotInA j.X.K j.X.A.units) p q C R := fun Φ σ F H v w Q x S o1 o2 K => .inl ⟨α, _, _, hu, ok_notInTu ha hb r Φ σ F H v w Q x S o1 o2 K⟩
end
theorem KvOn.isSome {F : Hp} {kvs : List (Key × V)} (h : KvOn kps F kvs) (k : Key) : (valV kvs k).isSome = (vP kps k).isSome := by
  cases q : vP kps k with
  | none => rw [(h.val k).2 q] <;> rfl
  | some q' => obtain ⟨z, z1, _⟩ := (h.val k).1 q' q; rw [z1]; rfl
theorem okA_inD (hd : DicOk j C q kps) (r : R C (isB (vP kps k).isSome)) : OpOk j Γ (rInA j.X.K j.X.A.units) (isV (kV k)) q C R := fun Φ σ F H v w Q x S o1 o2 K => by
  obtain ⟨a, kvs, e, h1, h2⟩ := hd _ _ _ _ _ _ _ S o2
  refine .inr (.inl ⟨a, valV kvs k, e, .inl ⟨kvs, k, h1, o1, rfl⟩, ?_⟩)
  show Q (.bl (valV kvs k).isSome) H
  rw [h2.isSome k]
  exact K.now S r rfl
theorem okA_notInD (hd : DicOk j C q kps) (r : R C (isB (!(vP kps k).isSome))) : OpOk j Γ (rNotInA j.X.K j.X.A.units) (isV (kV k)) q C R := fun Φ σ F H v w Q x S o1 o2 K => by
  obtain ⟨a, kvs, e, h1, h2⟩ := hd _ _ _ _ _ _ _ S o2
  refine .inr (.inl ⟨a, valV kvs k, e, .inl ⟨kvs, k, h1, o1, rfl⟩, ?_⟩)
  show Q (.bl (!(valV kvs k).isSome)) H
  rw [h2.isSome k]
  exact K.now S r rfl
theorem okA_inC {c : Nat} {z : Str} (r : R C (isB (decide (c ∈ z.cps.toList)))) : OpOk j Γ (rInA j.X.K j.X.A.units) (isS ⟨#[c]⟩) (isS z) C R := fun Φ σ F H v w Q x S o1 o2 K => .inr (.inr ⟨c, z, o1, o2, K.now S r rfl⟩)
theorem okA_notInC {c : Nat} {z : Str} (r : R C (isB (!decide (c ∈ z.cps.toList)))) : OpOk j Γ (rNotInA j.X.K j.X.A.units) (isS ⟨#[c]⟩) (isS z) C R := fun Φ σ F H v w Q x S o1 o2 K => .inr (.inr ⟨c, z, o1, o2, K.now S r rfl⟩)
/-- a[b] -/
theorem okA_ixL {n : Int} (h : LstOk j C p ps) (e : atI ps n = some q) (r : R C q) : OpOk j Γ (rIxA j.X.K) p (isI n) C R := .inl (ok_ixL h e r)
theorem okA_ixT {n : Int} (h : TupOk j p ps) (e : atI ps n = some q) (r : R C q) : OpOk j Γ (rIxA j.X.K) p (isI n) C R := .inr (.inl (ok_ixT h e r))
theorem okA_ixS {n : Int} {z : Str} {c : Nat} (hz : z.length ≤ sizeLine) (e : atI z.cps.toList n = some c) (r : R C (isS ⟨#[c]⟩)) : OpOk j Γ (rIxA j.X.K) (isS z) (isI n) C R := fun Φ σ F H v w Q x S o1 o2 K => .inr (.inr (.inl ⟨z, n, c, o1, o2, hz, e, K.now S r rfl⟩))
theorem okA_ixD (hd : DicOk j C p kps) (hv : vP kps k = some q) (r : R C q) : OpOk j Γ (rIxA j.X.K) p (isV (kV k)) C R := fun Φ σ F H v w Q x S o1 o2 K => by
  obtain ⟨a, kvs, e, h1, h2⟩ := hd _ _ _ _ _ _ _ S o1
  obtain ⟨z, z1, z2⟩ := (h2.val k).1 q hv
  exact .inr (.inr (.inr ⟨a, z, e, .inl ⟨kvs, k, h1, o2, z1.symm⟩, K.now S r z2⟩))
theorem okA_lenL (h : LstOk j C p ps) (r : R C (isI ps.length)) : CallOk j Γ (rLenA j.X.K) [p] C R := .inl (ok_lenL h r)
theorem okA_lenT (h : TupOk j p ps) (r : R C (isI ps.length)) : CallOk j Γ (rLenA j.X.K) [p] C R := .inl (ok_lenT h r)
theorem okA_lenS {z : Str} (hz : z.length ≤ sizeLine) (r : R C (isI z.length)) : CallOk j Γ (rLenA j.X.K) [isS z] C R := .inr (.inl fun Φ σ F H vs Q x S o K => by
  obtain ⟨v, e, o⟩ := all1 o
  exact ⟨z, by rw [e, show v = .str z from o], hz, K.now S r rfl⟩)
theorem okA_lenD (hd : DicOk j C p kps) (r : R C (isI kps.length)) : CallOk j Γ (rLenA j.X.K) [p] C R := .inr (.inr fun Φ σ F H vs Q x S o K => by
  obtain ⟨v, e, o⟩ := all1 o
  obtain ⟨a, kvs, e1, h1, h2⟩ := hd _ _ _ _ _ _ _ S o
  refine ⟨a, kvs, by rw [e, e1], h1, ?_⟩
  rw [← h2.len]
  exact K.now S r rfl)
/-! ### stores by place -/
/-- what a store asks; T: what follows with the new cells -/
def SetOk (j : J) (p kp q : Pr) (C : List Cell) (T : List Cell → Prop) : Prop := ∀ tb Φ Γ σ F H v w u (Q : Hp → Prop), Sta tb Φ Γ C σ F H → p.on F v → kp.on F w → q.on F u → (∀ C' H', T C' → Sta tb Φ Γ C' σ F H' → Q H') → rSetA v w u H Q
theorem so_L {n : Nat} {k : Int} {T : List Cell → Prop} (hc : C[i]? = some (cL m ps)) (hn : ixN ps.length k = some n) (t : T (C.set i (cL m (ps.set n q)))) : SetOk j (isR m) (isI k) q C T := fun tb Φ Γ σ F H v w u Q S o1 o2 o3 K => by
  obtain ⟨xs, h1, h2⟩ := S.lst (List.mem_of_getElem? hc)
  exact .inl ⟨m, xs, k, n, o1, o2, h1, by rw [← h2.length]; exact hn, K _ _ t (S.puti hc rfl h1 (fun _ z => nomatch z) ⟨xs.set n u, rfl, h2.set n o3⟩)⟩
theorem so_D {T : List Cell → Prop} (hc : C[i]? = some (cK m kps)) (hl : kps.length < sizeLine) (t : T (C.set i (cK m (pP kps k q)))) : SetOk j (isR m) (isV (kV k)) q C T := fun tb Φ Γ σ F H v w u Q S o1 o2 o3 K => by
  obtain ⟨kvs, h1, h2⟩ := S.dic (List.mem_of_getElem? hc)
  exact .inr ⟨m, _, o1, .inl ⟨kvs, k, h1, o2, by rw [← h2.len]; exact hl, rfl⟩, K _ _ t (S.puti hc rfl h1 (fun _ z => nomatch z) ⟨_, rfl, h2.put o3 k⟩)⟩
theorem tr_sput (hu : j.X.A.units + 1 < cLine) {xo : Expr} (h : Ev j Γ C e fun C1 q => Ev j Γ C1 xo fun C2 p => Ev j Γ C2 ke fun C3 kp => SetOk j p kp q C3 fun C4 => Tr j Γ C4 rest P)
    (hs : swapsWithSole [.Subscript xo ke pos'] e pos.line j.X.env = pure false := by rfl) (hw : swappedStores [.Subscript xo ke pos'] e j.X.env = pure none := by rfl)
    (ha : ∀ v, assign (.Subscript xo ke pos') j.X.env v = (do
      let ov ← holding [v] (eval xo j.X.env)
      let iv ← holding [v, ov] (eval ke j.X.env)
      standAt pos'
      holding [v, ov, iv] (setItem ov iv v)
      release [v, ov, iv] []) := by intro _; rfl) : Tr j Γ C (.Assign [.Subscript xo ke pos'] e pos :: rest) P :=
  tr_lift (ps_asg pe_we (pg_sub pe_we pe_we (set_all hu) ha) hs hw) fun Φ σ F H x S => h Φ σ F H _ x S fun v F1 H1 C1 q r1 S1 s1 o1 => r1 Φ σ F1 H1 _ x S1 fun w F2 H2 C2 p r2 S2 s2 o2 => r2 Φ σ F2 H2 _ x S2 fun u F3 H3 C3 kp so S3 s3 o3 =>
    so _ _ _ _ _ _ _ _ _ _ S3 (p.mono s3 o2) o3 (q.mono (s2.trans s3) o1) fun C4 H4 t S4 => t Φ σ F3 H4 x S4
/-! ### pure tests, pure values -/
abbrev EtP (j : J) (Γ : Gm) (C : List Cell) (e : Expr) (B : Bool) : Prop := Et j Γ C e fun C' b => C' = C ∧ b = B
abbrev EtwP (j : J) (Γ : Gm) (C : List Cell) (e : Expr) (B : Bool) : Prop := Etw j Γ C e fun C' b => C' = C ∧ b = B
abbrev EvP (j : J) (Γ : Gm) (C : List Cell) (e : Expr) (p : Pr) : Prop := Ev j Γ C e fun C' q => C' = C ∧ q = p
variable {a b c : Expr} {es : List Expr} {A B : Bool}
theorem et_use {R : List Cell → Bool → Prop} (h : EtP j Γ C c B) (k : R C B) : Et j Γ C c R := h.imp fun C' b ⟨e1, e2⟩ => by subst e1; subst e2; exact k
theorem ev_use (h : EvP j Γ C c p) (k : R C p) : Ev j Γ C c R := h.imp fun C' b ⟨e1, e2⟩ => by subst e1; subst e2; exact k
theorem etp_and (h : EtP j Γ C a A) (k : A = true → EtwP j Γ C (.BoolOp .And (b :: es) pos) B) : EtwP j Γ C (.BoolOp .And (a :: b :: es) pos) (A && B) :=
  etw_and (h.imp fun C' x ⟨e1, e2⟩ => by
    subst e1
    subst e2
    refine ⟨fun z => ?_, fun z => ⟨rfl, by rw [z]; rfl⟩⟩
    rw [z]
    exact k z)
theorem etp_or (h : EtP j Γ C a A) (k : A = false → EtwP j Γ C (.BoolOp .Or (b :: es) pos) B) : EtwP j Γ C (.BoolOp .Or (a :: b :: es) pos) (A || B) :=
  etw_or (h.imp fun C' x ⟨e1, e2⟩ => by
    subst e1
    subst e2
    refine ⟨fun z => ⟨rfl, by rw [z]; rfl⟩, fun z => ?_⟩
    rw [z]
    exact k z)
theorem etp_not (h : EtP j Γ C a A) : EtP j Γ C (.UnaryOp .Not a pos) (!A) := et_not (h.imp fun C' x ⟨e1, e2⟩ => ⟨e1, by rw [e2]⟩)
/-- both values of a conditional expression, of one kind -/
theorem evp_ifV {u z : V} (h : EtP j Γ C c B) (h1 : B = true → EvP j Γ C a (isV u)) (h2 : B = false → EvP j Γ C b (isV z)) : EvP j Γ C (.IfExp c a b pos) (isV (if B then u else z)) :=
  ev_ifx (h.imp fun C' x ⟨e1, e2⟩ => by
    subst e1
    subst e2
    refine ⟨fun y => ?_, fun y => ?_⟩
    · rw [y]; exact h1 y
    · rw [y]; exact h2 y)
end
end Z

end
section
set_option Elab.async false
set_option linter.all false
set_option maxRecDepth 100000
/-! Z11: dicts by place; += ; targets in a row. -/
namespace Z
open PySem PySem.Spec PyProof.Rows L2
open PySem.W (Datum Tup)
open Rep (pr)
section
variable {α : Type}
theorem vP_at : ∀ {kps : List (Key × α)} {i : Nat} {k : Key} {q : α}, (kps.map Prod.fst).Nodup → kps[i]? = some (k, q) → vP kps k = some q
  | [], _, _, _, _, h => by simp at h
  | (g, u) :: l, 0, k, q, _, h => by
    simp at h
    obtain ⟨rfl, rfl⟩ := h
    simp [vP]
  | (g, u) :: l, i + 1, k, q, nd, h => by
    have h' : l[i]? = some (k, q) := by simpa using h
    rw [List.map_cons, List.nodup_cons] at nd
    have ne : ¬ g = k := fun e => by
      subst e
      exact nd.1 (List.mem_map.mpr ⟨_, List.mem_of_getElem? h', rfl⟩)
    have ih := vP_at nd.2 h'
    unfold vP at ih ⊢
    rw [List.find?_cons]
    simp only [ne, decide_false]
    exact ih
theorem vP_no : ∀ {kps : List (Key × α)} {k : Key}, k ∉ kps.map Prod.fst → vP kps k = none
  | [], _, _ => rfl
  | (g, u) :: l, k, h => by
    rw [List.map_cons, List.mem_cons, not_or] at h
    have ih := vP_no h.2
    unfold vP at ih ⊢
    rw [List.find?_cons]
    simp only [show ¬ g = k from fun e => h.1 e.symm, decide_false]
    exact ih
theorem pP_at {p : α} : ∀ {kps : List (Key × α)} {i : Nat} {k : Key}, (kps.map Prod.fst).Nodup → (kps.map Prod.fst)[i]? = some k → pP kps k p = kps.set i (k, p) := by
  intro kps i k nd h
  have hm : (kps.any fun kv => decide (kv.1 = k)) = true := by
    rw [List.any_eq_true]
    rw [List.getElem?_map] at h
    cases e : kps[i]? with
    | none => rw [e] at h; cases h
    | some q => rw [e] at h; cases h; exact ⟨q, List.mem_of_getElem? e, by simp⟩
  unfold pP
  rw [if_pos hm]
  clear hm
  induction kps generalizing i with
  | nil => rfl
  | cons q l ih =>
    rw [List.map_cons, List.nodup_cons] at nd
    cases i with
    | zero =>
      simp at h
      subst h
      rw [List.map_cons, if_pos rfl, List.set_cons_zero]
      congr 1
      clear ih
      have : ∀ r ∈ l, (if r.1 = q.1 then (r.1, p) else r) = r := fun r hr => by
        rw [if_neg fun e => nd.1 (List.mem_map.mpr ⟨r, hr, e⟩)]
      exact (List.map_congr_left this).trans (List.map_id' l)
    | succ i =>
      have h' : (l.map Prod.fst)[i]? = some k := by simpa using h
      have ne : ¬ q.1 = k := fun e => by
        subst e
        exact nd.1 (List.mem_of_getElem? h')
      rw [List.map_cons, if_neg ne, List.set_cons_succ, ih nd.2 h']
theorem pP_new {kps : List (Key × α)} {k : Key} {p : α} (h : k ∉ kps.map Prod.fst) : pP kps k p = kps ++ [(k, p)] := by
  unfold pP
  rw [if_neg]
  intro hm
  obtain ⟨q, hq, e⟩ := List.any_eq_true.mp hm
  exact h (List.mem_map.mpr ⟨q, hq, of_decide_eq_true e⟩)
end
section
variable {j : J} {Γ : Gm} {C : List Cell} {R : Ps} {p q : Pr} {ps : List Pr} {P : Po} {rest body : List Stmt} {pos pos' pos2 : Pos} {o e ke : Expr} {m : Addr} {kps : List (Key × Pr)} {k : Key}
/-- d[k], the i-th key -/
theorem okA_ixDi (i : Nat) (hd : DicOk j C p kps) (nd : (kps.map Prod.fst).Nodup) (hv : kps[i]? = some (k, q)) (r : R C q) : OpOk j Γ (rIxA j.X.K) p (isV (kV k)) C R := okA_ixD hd (vP_at nd hv) r
theorem so_Di (i c : Nat) {T : List Cell → Prop} (hc : C[c]? = some (cK m kps)) (hl : kps.length < sizeLine) (nd : (kps.map Prod.fst).Nodup) (hk : (kps.map Prod.fst)[i]? = some k) (t : T (C.set c (cK m (kps.set i (k, q))))) : SetOk j (isR m) (isV (kV k)) q C T :=
  so_D hc hl (by rw [pP_at nd hk]; exact t)
theorem so_Dn (c : Nat) {T : List Cell → Prop} (hc : C[c]? = some (cK m kps)) (hl : kps.length < sizeLine) (hk : k ∉ kps.map Prod.fst) (t : T (C.set c (cK m (kps ++ [(k, q)])))) : SetOk j (isR m) (isV (kV k)) q C T :=
  so_D hc hl (by rw [pP_new hk]; exact t)
/-! ### x += e -/
def IpOk (j : J) (Γ : Gm) (r : V → V → Hp → VK → Prop) (p q : Pr) (C : List Cell) (R : Ps) : Prop := OpOk j Γ r p q C R
theorem tr_aug (i : Nat) {x : Str} {op : Operator} {ti : TIp} (ho : PIp j.X op ti) (hp : Γ[i]? = some (some p)) (h : Ev j Γ C e fun C1 q => OpOk j Γ ti p q C1 fun C2 z => Tr j (Γ.set i (some z)) C2 rest P) (hN : j.X.N.Nodup) (hi : j.X.N[i]? = some x := by rfl)
    (hx : Loc j.X.env.scope x := by first | exact Or.inl rfl | exact Or.inr rfl) (hf : j.X.fn x = true ∨ j.X.env.scope.names.lookup x = some .local := by first | exact Or.inl rfl | exact Or.inr rfl) : Tr j Γ C (.AugAssign (.Name x pos') op e pos :: rest) P :=
  tr_lift (ps_aug hN hi hx pe_we ho hf) fun Φ σ F H x S => by
    obtain ⟨v, h1, h2⟩ := S.env.at_ i p hp
    exact ⟨v, h1, h Φ σ F H _ x S fun w F1 H1 C1 q r1 S1 s1 o1 => r1 Φ σ F1 H1 v w _ x S1 (p.mono s1 h2) o1 fun z F2 H2 C2 ρ r2 S2 s2 o2 => r2 Φ _ F2 H2 x (S2.setv i o2)⟩
theorem ok_ip {g : Int → Int → Int} {a b : Int} (r : R C (isI (g a b))) : OpOk j Γ (ipI g) (isI a) (isI b) C R := fun Φ σ F H v w Q x S o1 o2 K => ⟨a, b, o1, o2, K.now S r rfl⟩
/-- behind the value a cell's word is weakened -/
theorem ev_endW (i : Nat) (c' : Cell) (h : Ev j Γ C e fun C1 z => ∃ c, C1[i]? = some c ∧ c'.a = c.a ∧ (∀ F o, c.on F o → c'.on F o) ∧ R (C1.set i c') z) : Ev j Γ C e R := fun Φ σ F H Q x S K =>
  h Φ σ F H Q x S fun v F1 H1 C1 z ⟨c, hc, ha, ho, r⟩ S1 s1 o1 => K v F1 H1 _ z r (S1.weaki hc ha fun o _ => ho F1 o) s1 o1
/-! ### targets in a row -/
def Egs (j : J) (Γ : Gm) (C : List Cell) (ts : List Expr) (ps : List Pr) (N : Gm → List Cell → Prop) : Prop := ∃ t : TGs, PGs j.X ts t ∧ ∀ Φ σ F H vs (Q : L2.St → Hp → Prop), XW j Φ → Sta j.tb Φ Γ C σ F H → AllOn ps F vs → (∀ Γ' C' σ' F' H', N Γ' C' → Sta j.tb Φ Γ' C' σ' F' H' → L2.Same F F' → Q σ' H') → t vs σ H Q
end
end Z

end
section
set_option Elab.async false
set_option linter.all false
set_option maxRecDepth 100000
/-! Z12: list comprehensions. -/
namespace Z
open PySem PySem.Spec PyProof.Rows L2
open PySem.W (Datum Tup)
section
variable {tb : Tb} {Φ : Fx} {Γ : Gm} {C : List Cell} {σ : L2.St} {F H : Hp} {D : Addr} {o u : HO}
/-- what stands beside, written -/
theorem Sta.besideUpd (S : Sta tb Φ Γ C σ F H) (hD : H D = some u) (hF : F D = none) (h0 : Φ.H0 D = none) (hC : D ∉ C.map (·.a)) (u1 : ∀ ps, u ≠ .tbl ps) (u2 : ∀ φ, u ≠ .ext φ) : Sta tb Φ Γ C σ F (upd H D o) := by
  refine ⟨S.env, ⟨fun c hc => ?_, S.cells.nd⟩, fun b w e => ?_, S.fine, S.tab.fix (fix_upd hD u1 u2), S.base, S.fresh.new h0, fun b w e n d => ?_, S.own, fun b e => S.there b (upd_none_iff hD e)⟩
  · obtain ⟨w, h1, h2, h3⟩ := S.cells.at_ c hc
    exact ⟨w, by rw [upd_ne fun z => hC (List.mem_map.mpr ⟨c, hc, z⟩)]; exact h1, h2, h3⟩
  · have hb : b ≠ D := fun z => by rw [z, hF] at e; cases e
    unfold RdL
    rw [upd_ne hb]
    exact S.subx b w e
  · have hb : b ≠ D := fun z => by rw [z, h0] at e; cases e
    rw [upd_ne hb]
    exact S.keep b w e n d
/-- what stands beside, frozen -/
theorem Sta.adopt (S : Sta tb Φ Γ C σ F H) (hD : H D = some o) (hF : F D = none) (h0 : Φ.H0 D = none) (hC : D ∉ C.map (·.a)) (ho : Fine o) : Sta tb Φ Γ C σ (upd F D o) H ∧ L2.Same F (upd F D o) := by
  have s := same_new (u := o) hF
  refine ⟨⟨S.env.mono s, ⟨fun c hc => ?_, S.cells.nd⟩, fun b w e => ?_, fun b w e => ?_, S.tab.grow s, fun b w e => s _ _ (S.base _ _ e), S.fresh.add h0, S.keep, S.own, S.there⟩, s⟩
  · obtain ⟨w, h1, h2, h3⟩ := S.cells.at_ c hc
    exact ⟨w, h1, c.mono s h2, by rw [upd_ne fun z => hC (List.mem_map.mpr ⟨c, hc, z⟩)]; exact h3⟩
  · by_cases hb : b = D
    · subst hb
      rw [upd_same] at e
      cases e
      exact .inl hD
    · rw [upd_ne hb] at e
      exact S.subx b w e
  · by_cases hb : b = D
    · subst hb
      rw [upd_same] at e
      cases e
      exact ho
    · rw [upd_ne hb] at e
      exact S.fine b w e
theorem EnvOk.wipe1 {Γ : Gm} {F : Hp} {σ : L2.St} (h : EnvOk Γ F σ) (i : Nat) : EnvOk (Γ.set i none) F (σ.set i none) := by
  refine ⟨by simp [h.len], fun k q e => ?_⟩
  by_cases hk : i = k
  · subst hk
    by_cases hi : i < Γ.length
    · rw [List.getElem?_set_self hi] at e; cases e
    · rw [List.getElem?_eq_none (by simpa using hi)] at e; cases e
  · rw [List.getElem?_set_ne hk] at e
    obtain ⟨v, h1, h2⟩ := h.at_ k q e
    exact ⟨v, by rw [List.getElem?_set_ne hk]; exact h1, h2⟩
end
/-- the block's context -/
abbrev J.blk (j : J) (s : Shared) (H : Hp) (scope : Scope) (Cc : Addr) (cl : List (Str × Addr)) (fp : List Addr) : J := ⟨j.X.blk s H scope (compEnvC scope cl Cc j.X.env) fp, j.tb, fun _ _ => False⟩
theorem xw_none {j : J} {Φ : Fx} (h : ∀ c C, ¬ j.XP c C) : XW j Φ := fun u s ⟨_, _, _, _, _, _, _, _, _, _, _, _, _, _, _, _, C, F, h1, _⟩ => (h _ _ h1).elim
section
variable {j : J} {Γ : Gm} {C : List Cell} {R : Ps} {p q : Pr} {ps : List Pr} {P : Po} {rest : List Stmt} {pos pos' pos2 : Pos} {iter elt : Expr} {ifs : List Expr} {scope : Scope}
/-- a clause's tests: none, one -/
def Wif (X : L2.Cx) (ifs : List Expr) : TT := fun σ H Q => ∀ (pins : Pins) (s : Shared), Inv X pins σ H s →
    wpAny (model X.prog X.w) X.A (forIn ifs true fun c r => if r = true then do let ok ← isTrue c X.env (eval c X.env); pure (ForInStep.yield ok) else pure (ForInStep.yield r)) (TP X pins σ Q) X.xe s
theorem pts_wif {X : L2.Cx} {ifs : List Expr} : PTs X ifs (Wif X ifs) := ⟨fun pins s σ H Q I h => h pins s I⟩
def Eif (j : J) (Γ : Gm) (C : List Cell) (ifs : List Expr) (R : List Cell → Bool → Prop) : Prop := ∀ Φ σ F H Q, XW j Φ → Sta j.tb Φ Γ C σ F H → Kb j Φ Γ σ F R Q → Wif j.X ifs σ H Q
theorem eif_no {R : List Cell → Bool → Prop} (r : R C true) : Eif j Γ C [] R := fun Φ σ F H Q x S K pins s I => pts_nil.run pins s σ H Q I (K true F H C r S (L2.Same.refl F))
theorem eif_one {c : Expr} {R : List Cell → Bool → Prop} (h : Et j Γ C c R) : Eif j Γ C [c] R := fun Φ σ F H Q x S K pins s I => (pts_one pt_wt).run pins s σ H Q I (h Φ σ F H Q x S K)
/-- one turn of a comprehension's block, in every such block -/
def Turn1 (j : J) (scope : Scope) (Γ : Gm) (i : Nat) (q : Pr) (C : List Cell) (acc : List Pr) (elt : Expr) (ifs : List Expr) (N : List Cell → List Pr → Prop) : Prop :=
  ∀ (s : Shared) (H : Hp) (Cc : Addr) (cl : List (Str × Addr)) (fp : List Addr), Eif (j.blk s H scope Cc cl fp) ((Γ.set i none).set i (some q)) C ifs fun C2 b =>
    (b = true → ∀ (s : Shared) (H : Hp) (Cc : Addr) (cl : List (Str × Addr)) (fp : List Addr), Ev (j.blk s H scope Cc cl fp) ((Γ.set i none).set i (some q)) C2 elt fun C3 z => acc.length < sizeLine ∧ N C3 (acc ++ [z])) ∧ (b = false → N C2 acc)
/-- the readings for all blocks -/
def WifB (j : J) (scope : Scope) (ifs : List Expr) : TT := fun σ H Q => ∀ (s0 : Shared) (H0 : Hp) (Cc : Addr) (cl : List (Str × Addr)) (fp : List Addr), Wif (j.blk s0 H0 scope Cc cl fp).X ifs σ H Q
def WeB (j : J) (scope : Scope) (elt : Expr) : TE := fun σ H Q => ∀ (s0 : Shared) (H0 : Hp) (Cc : Addr) (cl : List (Str × Addr)) (fp : List Addr), We (j.blk s0 H0 scope Cc cl fp).X elt σ H Q
theorem pts_wifB {ifs : List Expr} : ∀ (s : Shared) (H : Hp) (Cc : Addr) (cl : List (Str × Addr)) (fp : List Addr), PTs (j.X.blk s H scope (compEnvC scope cl Cc j.X.env) fp) ifs (WifB j scope ifs) := fun s H Cc cl fp => ⟨fun pins s' σ H' Q I h => h s H Cc cl fp pins s' I⟩
theorem pe_weB {elt : Expr} : ∀ (s : Shared) (H : Hp) (Cc : Addr) (cl : List (Str × Addr)) (fp : List Addr), PE (j.X.blk s H scope (compEnvC scope cl Cc j.X.env) fp) elt (WeB j scope elt) := fun s H Cc cl fp => ⟨fun pins s' σ H' Q I h => h s H Cc cl fp pins s' I⟩
/-- the part of the turn that the reading asks -/
theorem turn_read {i : Nat} {acc : List Pr} {N : List Cell → List Pr → Prop} {Φ : Fx} {σ : L2.St} {F H : Hp} {D : Addr} {vs : List V} {v : V} (t : Turn1 j scope Γ i q C acc elt ifs N) (S : Sta j.tb Φ (Γ.set i none) C (σ.set i none) F H) (o : q.on F v)
    (hD : H D = some (.lst vs)) (hF : F D = none) (h0 : Φ.H0 D = none) (hC : D ∉ C.map (·.a)) (ha : AllOn acc F vs) {Nx : Hp → Prop}
    (K : ∀ C' acc' vs' F' H', N C' acc' → Sta j.tb Φ (Γ.set i none) C' (σ.set i none) F' H' → L2.Same F F' → H' D = some (.lst vs') → F' D = none → D ∉ C'.map (·.a) → AllOn acc' F' vs' → Nx H') :
    WifB j scope ifs ((σ.set i none).set i (some v)) H fun b H3 => if b = true then WeB j scope elt ((σ.set i none).set i (some v)) H3 fun y H4 => ∃ ac, H4 D = some (.lst ac) ∧ ac.length < sizeLine ∧ Nx (upd H4 D (.lst (ac ++ [y]))) else Nx H3 := by
  have xw : ∀ s0 H0 Cc cl fp Φ, XW (j.blk s0 H0 scope Cc cl fp) Φ := fun s0 H0 Cc cl fp Φ => xw_none fun _ _ z => z
  have S1 : Sta j.tb Φ ((Γ.set i none).set i (some q)) C ((σ.set i none).set i (some v)) F H := S.setv i o
  have back : ∀ {C' : List Cell} {F' H' : Hp}, Sta j.tb Φ ((Γ.set i none).set i (some q)) C' ((σ.set i none).set i (some v)) F' H' → Sta j.tb Φ (Γ.set i none) C' (σ.set i none) F' H' := fun {C' F' H'} S' => by
    have e := S'.env
    refine ⟨⟨by have := e.len; simpa using this, fun k q' hk => ?_⟩, S'.cells, S'.subx, S'.fine, S'.tab, S'.base, S'.fresh, S'.keep, S'.own, S'.there⟩
    by_cases hik : i = k
    · subst hik
      by_cases hi : i < Γ.length
      · rw [List.getElem?_set_self hi] at hk; cases hk
      · rw [List.getElem?_eq_none (by simpa using hi)] at hk; cases hk
    · obtain ⟨w, h1, h2⟩ := e.at_ k q' (by rw [List.getElem?_set_ne hik]; exact hk)
      exact ⟨w, by rw [List.getElem?_set_ne hik] at h1; exact h1, h2⟩
  -- what a step keeps beside
  have beside : ∀ {C1 C2 : List Cell} {F1 F2 H1 H2 : Hp} {Γ1 Γ2 : Gm} {σ1 σ2 : L2.St}, Sta j.tb (Fx.of F1 H1 C1) Γ2 C2 σ2 F2 H2 → H1 D = some (.lst vs) → F1 D = none → D ∉ C1.map (·.a) → H2 D = some (.lst vs) ∧ F2 D = none ∧ D ∉ C2.map (·.a) := fun {C1 C2 F1 F2 H1 H2 Γ1 Γ2 σ1 σ2} S' h1 h2 h3 => by
    refine ⟨S'.keep D _ h1 (fun _ z => nomatch z) h3, ?_, fun z => ?_⟩
    · cases e : F2 D with
      | none => rfl
      | some w =>
        rcases S'.fresh.fr D w e h2 with this | ⟨_, _, this⟩
        · rw [show (Fx.of F1 H1 C1).H0 D = H1 D from rfl, h1] at this
          cases this
        · rw [show (Fx.of F1 H1 C1).H0 D = H1 D from rfl, h1] at this
          cases this
    · obtain ⟨c, hc, ec⟩ := List.mem_map.mp z
      rcases S'.own c hc with w | w
      · rw [ec] at w; exact h3 w
      · rw [ec, show (Fx.of F1 H1 C1).H0 D = H1 D from rfl, h1] at w; cases w
  intro s0 H0 Cc cl fp
  refine t s0 H0 Cc cl fp (Fx.of F H C) _ F H _ (xw _ _ _ _ _ _) S1.rebase fun b F2 H2 C2 ⟨k1, k2⟩ S2 s2 => ?_
  obtain ⟨d1, d2, d3⟩ := beside (Γ1 := Γ) (σ1 := σ) S2 hD hF hC
  have S2' := S1.trans S2
  cases b with
  | false => exact iteF (K C2 acc vs F2 H2 (k2 rfl) (back S2') s2 d1 d2 d3 (ha.mono s2))
  | true =>
    refine iteT fun s1 H1 Cc1 cl1 fp1 => k1 rfl s1 H1 Cc1 cl1 fp1 (Fx.of F2 H2 C2) _ F2 H2 _ (xw _ _ _ _ _ _) S2'.rebase fun y F3 H3 C3 z ⟨hz, n3⟩ S3 s3 o3 => ?_
    obtain ⟨e1, e2, e3⟩ := beside (Γ1 := Γ) (σ1 := σ) S3 d1 d2 d3
    have S3' := S2'.trans S3
    refine ⟨vs, e1, by rw [← ha.length]; exact hz, K C3 _ (vs ++ [y]) F3 _ n3 (back (S3'.besideUpd e1 e2 h0 e3 (fun _ z => nomatch z) (fun _ z => nomatch z))) (s2.trans s3) upd_same e2 e3 ((ha.mono (s2.trans s3)).snoc o3)⟩
/-- what a comprehension over a list asks -/
def LcL (j : J) (scope : Scope) (Γ : Gm) (C : List Cell) (i : Nat) (iter elt : Expr) (ifs : List Expr) (R : Ps) : Prop :=
  Ev j Γ C iter fun C1 p => ∃ ps, p = rL ps ∧ ∃ I : Nat → List Cell → List Pr → Prop, I 0 C1 [] ∧ (∀ n q Ci acc, ps[n]? = some q → I n Ci acc → Turn1 j scope Γ i q Ci acc elt ifs fun C' acc' => I (n + 1) C' acc') ∧ ∀ Cn acc, I ps.length Cn acc → R Cn (rL acc)
theorem lc_readL {i : Nat} {Φ : Fx} {σ : L2.St} {F H : Hp} {Q : VK} (h : LcL j scope Γ C i iter elt ifs R) (xw : XW j Φ) (S : Sta j.tb Φ Γ C σ F H) (K : Kv j Φ Γ σ F R Q) :
    tLc (iList j.X.K (We j.X iter)) (gName i) (WifB j scope ifs) (WeB j scope elt) [i] σ H Q := by
  refine h Φ σ F H _ xw S fun v F1 H1 C1 p ⟨ps, ep, I, i0, turn, fin⟩ S1 s1 o1 => ?_
  subst ep
  obtain ⟨al, ys, ev, hl, hy⟩ := o1
  refine ⟨al, ev, ⟨ys, .inl (S1.sub _ _ hl)⟩, fun D hD => ?_⟩
  have h0 : Φ.H0 D = none := S1.there D hD
  have w1 : ∀ {F' H' : Hp} {C' : List Cell}, Sta j.tb Φ Γ C' σ F' H' → Sta j.tb Φ (Γ.set i none) C' (σ.set i none) F' H' := fun S' => ⟨S'.env.wipe1 i, S'.cells, S'.subx, S'.fine, S'.tab, S'.base, S'.fresh, S'.keep, S'.own, S'.there⟩
  have dC : D ∉ C1.map (·.a) := fun z => by
    obtain ⟨c, hc, ec⟩ := List.mem_map.mp z
    obtain ⟨w, q1, _, _⟩ := S1.cells.at_ c hc
    rw [ec, hD] at q1
    cases q1
  refine lc_list (K := j.X.K) (a := al) (xs := ys) (fun n H => ∃ C' acc F' vs, I n C' acc ∧ Sta j.tb Φ (Γ.set i none) C' (σ.set i none) F' H ∧ L2.Same F1 F' ∧ H D = some (.lst vs) ∧ F' D = none ∧ D ∉ C'.map (·.a) ∧ AllOn acc F' vs)
    ⟨C1, [], F1, [], i0, w1 (S1.beside hD), L2.Same.refl _, upd_same, S1.notF hD, dC, .nil⟩ (fun n H' _ ⟨C', acc, F', vs, _, S', s', _⟩ => .inl (S'.sub _ _ (s' _ _ hl))) ?_ ?_
  · rintro n y H2 hyn ⟨C2, acc, F2, vs, i2, S2, s2, d1, d2, d3, ha⟩
    have hn : n < ps.length := by rw [hy.length]; exact (List.getElem?_eq_some_iff.mp hyn).1
    obtain ⟨y', e1, e2⟩ := hy.get (List.getElem?_eq_getElem hn)
    rw [hyn] at e1
    cases e1
    refine ⟨by show (((σ.set i none).set i (some y)).set i none) = σ.set i none; rw [List.set_set, List.set_set], ?_⟩
    refine turn_read (turn n ps[n] C2 acc (List.getElem?_eq_getElem hn) i2) S2 (ps[n].mono s2 e2) d1 d2 h0 d3 ha fun C' acc' vs' F' H' n' S' s' f1 f2 f3 f4 => ?_
    exact ⟨C', acc', F', vs', n', S', s2.trans s', f1, f2, f3, f4⟩
  · rintro H2 ⟨C2, acc, F2, vs, i2, S2, s2, d1, d2, d3, ha⟩
    have hlen : ps.length = ys.length := hy.length
    rw [← hlen] at i2
    have S3 : Sta j.tb Φ Γ C2 σ F2 H2 := ⟨S1.env.mono s2, S2.cells, S2.subx, S2.fine, S2.tab, S2.base, S2.fresh, S2.keep, S2.own, S2.there⟩
    obtain ⟨S4, s4⟩ := S3.adopt d1 d2 h0 d3 ⟨fun _ z => (nomatch z), fun _ _ z => (nomatch z)⟩
    exact K _ _ _ _ _ (fin C2 acc i2) S4 ((s1.trans s2).trans s4) ⟨D, vs, rfl, upd_same, ha.mono s4⟩
/-- [elt for x in e if ..], e a frozen list -/
theorem ev_lcL (i : Nat) {x : Str} {px : Pos} (h : LcL j scope Γ C i iter elt ifs R) (hN : j.X.N.Nodup) (ok : BlkOk j.X.N j.X.env.scope scope [(x, i)]) (hc : j.X.calm = true)
    (hg : ∀ (s : Shared) (H : Hp) (Cc : Addr) (cl : List (Str × Addr)) (fp : List Addr), PG (j.X.blk s H scope (compEnvC scope cl Cc j.X.env) fp) (.Name x px) (gName i)) (hs : ∀ x, foldedSetIterable iter j.X.env x = pure x := by intro _; rfl) :
    Ev j Γ C (.ListComp elt [⟨.Name x px, iter, ifs, 0⟩] scope pos) R :=
  ev_lift (pe_lc (own := [(x, i)]) hc hN (pi_list pe_we) ok hg pts_wifB pe_weB hs) fun Φ σ F H Q xw S K => lc_readL h xw S K
/-- y = [elt for x in e if ..] on one line -/
theorem tr_setLcL (k i : Nat) {x y : Str} {px py : Pos} (h : LcL j scope Γ C i iter elt ifs fun C1 z => Tr j (Γ.set k (some z)) C1 rest P) (hN : j.X.N.Nodup) (ok : BlkOk j.X.N j.X.env.scope scope [(x, i)]) (hc : j.X.calm = true)
    (hg : ∀ (s : Shared) (H : Hp) (Cc : Addr) (cl : List (Str × Addr)) (fp : List Addr), PG (j.X.blk s H scope (compEnvC scope cl Cc j.X.env) fp) (.Name x px) (gName i))
    (hsw : swapsWith (.ListComp elt [⟨.Name x px, iter, ifs, 0⟩] scope pos) (some (.Name y py)) pos2.line j.X.env = pure true) (hy : j.X.N[k]? = some y := by rfl) (hyl : j.X.env.scope.names.lookup y = some .local := by rfl) (hs : ∀ x, foldedSetIterable iter j.X.env x = pure x := by intro _; rfl) :
    Tr j Γ C (.Assign [.Name y py] (.ListComp elt [⟨.Name x px, iter, ifs, 0⟩] scope pos) pos2 :: rest) P :=
  tr_lift (ps_setLc (own := [(x, i)]) hc hN hy hyl hsw (pi_list pe_we) ok hg pts_wifB pe_weB hs) fun Φ σ F H xw S => by
    refine lc_readL (R := fun C1 z => Tr j (Γ.set k (some z)) C1 rest P) h xw S fun v F1 H1 C1 z t S1 s1 o1 => ?_
    exact t Φ _ F1 H1 xw (S1.setv k o1)
/-! ### over range(e) -/
def LcR (j : J) (scope : Scope) (Γ : Gm) (C : List Cell) (i : Nat) (a elt : Expr) (ifs : List Expr) (R : Ps) : Prop :=
  Ev j Γ C a fun C1 p => ∃ m : Int, p = isI m ∧ -(2 ^ 62) ≤ m ∧ m < 2 ^ 62 ∧ ∃ I : Nat → List Cell → List Pr → Prop, I 0 C1 [] ∧ (∀ (n : Nat) Ci acc, n < m.toNat → I n Ci acc → Turn1 j scope Γ i (isI n) Ci acc elt ifs fun C' acc' => I (n + 1) C' acc') ∧ ∀ Cn acc, I m.toNat Cn acc → R Cn (rL acc)
theorem lc_readR {i : Nat} {a : Expr} {Φ : Fx} {σ : L2.St} {F H : Hp} {Q : VK} (h : LcR j scope Γ C i a elt ifs R) (xw : XW j Φ) (S : Sta j.tb Φ Γ C σ F H) (K : Kv j Φ Γ σ F R Q) :
    tLc (iRng1 (tCons (We j.X a) tNil)) (gName i) (WifB j scope ifs) (WeB j scope elt) [i] σ H Q := by
  refine h Φ σ F H _ xw S fun v F1 H1 C1 p ⟨m, ep, m1, m2, I, i0, turn, fin⟩ S1 s1 o1 => ?_
  subst ep
  have ev : v = .int m := o1
  subst ev
  refine ⟨m, rfl, m1, m2, fun D hD => ?_⟩
  have h0 : Φ.H0 D = none := S1.there D hD
  have w1 : ∀ {F' H' : Hp} {C' : List Cell}, Sta j.tb Φ Γ C' σ F' H' → Sta j.tb Φ (Γ.set i none) C' (σ.set i none) F' H' := fun S' => ⟨S'.env.wipe1 i, S'.cells, S'.subx, S'.fine, S'.tab, S'.base, S'.fresh, S'.keep, S'.own, S'.there⟩
  have dC : D ∉ C1.map (·.a) := fun z => by
    obtain ⟨c, hc, ec⟩ := List.mem_map.mp z
    obtain ⟨w, q1, _, _⟩ := S1.cells.at_ c hc
    rw [ec, hD] at q1
    cases q1
  refine lc_range (lo := 0) (n := m.toNat) (fun n H => ∃ C' acc F' vs, I n C' acc ∧ Sta j.tb Φ (Γ.set i none) C' (σ.set i none) F' H ∧ L2.Same F1 F' ∧ H D = some (.lst vs) ∧ F' D = none ∧ D ∉ C'.map (·.a) ∧ AllOn acc F' vs)
    ⟨C1, [], F1, [], i0, w1 (S1.beside hD), L2.Same.refl _, upd_same, S1.notF hD, dC, .nil⟩ ?_ ?_
  · rintro n H2 hn ⟨C2, acc, F2, vs, i2, S2, s2, d1, d2, d3, ha⟩
    refine ⟨by show (((σ.set i none).set i (some _)).set i none) = σ.set i none; rw [List.set_set, List.set_set], ?_⟩
    refine turn_read (turn n C2 acc hn i2) S2 (show V.int (0 + (n : Int)) = V.int (n : Int) by rw [Int.zero_add]) d1 d2 h0 d3 ha fun C' acc' vs' F' H' n' S' s' f1 f2 f3 f4 => ?_
    exact ⟨C', acc', F', vs', n', S', s2.trans s', f1, f2, f3, f4⟩
  · rintro H2 ⟨C2, acc, F2, vs, i2, S2, s2, d1, d2, d3, ha⟩
    have S3 : Sta j.tb Φ Γ C2 σ F2 H2 := ⟨S1.env.mono s2, S2.cells, S2.subx, S2.fine, S2.tab, S2.base, S2.fresh, S2.keep, S2.own, S2.there⟩
    obtain ⟨S4, s4⟩ := S3.adopt d1 d2 h0 d3 ⟨fun _ z => (nomatch z), fun _ _ z => (nomatch z)⟩
    exact K _ _ _ _ _ (fin C2 acc i2) S4 ((s1.trans s2).trans s4) ⟨D, vs, rfl, upd_same, ha.mono s4⟩
theorem ev_lcR (i : Nat) {x : Str} {px pr1 pr2 : Pos} {a : Expr} (h : LcR j scope Γ C i a elt ifs R) (hm : j.X.mg "range" = none) (hN : j.X.N.Nodup) (ok : BlkOk j.X.N j.X.env.scope scope [(x, i)]) (hc : j.X.calm = true)
    (hg : ∀ (s : Shared) (H : Hp) (Cc : Addr) (cl : List (Str × Addr)) (fp : List Addr), PG (j.X.blk s H scope (compEnvC scope cl Cc j.X.env) fp) (.Name x px) (gName i)) (hgl : Gl j.X "range" := by rfl) (hst : starEach [a] j.X.env = [(false, eval a j.X.env)] := by rfl)
    (hs : ∀ x, foldedSetIterable (.Call (.Name "range" pr1) [a] [] pr2) j.X.env x = pure x := by intro _; rfl) :
    Ev j Γ C (.ListComp elt [⟨.Name x px, .Call (.Name "range" pr1) [a] [] pr2, ifs, 0⟩] scope pos) R :=
  ev_lift (pe_lc (own := [(x, i)]) hc hN (pi_range1 hgl hm (pa_cons pe_we pa_nil hst) hst) ok hg pts_wifB pe_weB hs) fun Φ σ F H Q xw S K => lc_readR h xw S K
theorem tr_setLcR (k i : Nat) {x y : Str} {px py pr1 pr2 : Pos} {a : Expr} (h : LcR j scope Γ C i a elt ifs fun C1 z => Tr j (Γ.set k (some z)) C1 rest P) (hm : j.X.mg "range" = none) (hN : j.X.N.Nodup) (ok : BlkOk j.X.N j.X.env.scope scope [(x, i)]) (hc : j.X.calm = true)
    (hg : ∀ (s : Shared) (H : Hp) (Cc : Addr) (cl : List (Str × Addr)) (fp : List Addr), PG (j.X.blk s H scope (compEnvC scope cl Cc j.X.env) fp) (.Name x px) (gName i))
    (hsw : swapsWith (.ListComp elt [⟨.Name x px, .Call (.Name "range" pr1) [a] [] pr2, ifs, 0⟩] scope pos) (some (.Name y py)) pos2.line j.X.env = pure true) (hy : j.X.N[k]? = some y := by rfl) (hyl : j.X.env.scope.names.lookup y = some .local := by rfl)
    (hgl : Gl j.X "range" := by rfl) (hst : starEach [a] j.X.env = [(false, eval a j.X.env)] := by rfl) (hs : ∀ x, foldedSetIterable (.Call (.Name "range" pr1) [a] [] pr2) j.X.env x = pure x := by intro _; rfl) :
    Tr j Γ C (.Assign [.Name y py] (.ListComp elt [⟨.Name x px, .Call (.Name "range" pr1) [a] [] pr2, ifs, 0⟩] scope pos) pos2 :: rest) P :=
  tr_lift (ps_setLc (own := [(x, i)]) hc hN hy hyl hsw (pi_range1 hgl hm (pa_cons pe_we pa_nil hst) hst) ok hg pts_wifB pe_weB hs) fun Φ σ F H xw S => by
    refine lc_readR (R := fun C1 z => Tr j (Γ.set k (some z)) C1 rest P) h xw S fun v F1 H1 C1 z t S1 s1 o1 => ?_
    exact t Φ _ F1 H1 xw (S1.setv k o1)
end
end Z

end
section
set_option Elab.async false
set_option linter.all false
set_option maxRecDepth 100000
/-! Z13: captured names shown to a callee, hidden from a closure's frame. -/
namespace Z
open PySem PySem.Spec PyProof.Rows L2 LamX NdefX
def topE : HO := .ext fun _ => True
abbrev frzC (ob : Obj) : HO := .frz ob topE
def del (H : Hp) (c : Addr) : Hp := fun b => if b = c then none else H b
theorem del_same {H : Hp} {c : Addr} : del H c c = none := by unfold del; rw [if_pos rfl]
theorem del_ne {H : Hp} {c b : Addr} (h : b ≠ c) : del H c b = H b := by unfold del; rw [if_neg h]
theorem del_some {H : Hp} {c b : Addr} {o : HO} (h : del H c b = some o) : b ≠ c ∧ H b = some o := by
  by_cases e : b = c
  · rw [e, del_same] at h
    cases h
  · rw [del_ne e] at h
    exact ⟨e, h⟩
section
variable {P : Program} {w : World} {H H' : Hp} {h : Heap} {c : Addr} {ob : Obj}
theorem objOk_top (e : h.get? c = some ob) : ObjOk P w H h c (frzC ob) := ⟨e, True.intro, ⟨ob, e⟩, fun _ _ _ _ => True.intro⟩
theorem hok_del (x : HOk P w H h) (hc : H c = some (frzC ob)) : HOk P w (del H c) h := fun a o e => by
  obtain ⟨ne, e'⟩ := del_some e
  refine (x a o e').stay (fun b u _ q => q) (fun b q => ?_) fun b xs q => ?_
  · rw [del_ne fun z => by rw [z, hc] at q; cases q]
    exact q
  · rw [del_ne fun z => by rw [z, hc] at q; cases q]
    exact q
theorem hok_upd (x : HOk P w H h) (hc : H c = none) (e : h.get? c = some ob) : HOk P w (upd H c (frzC ob)) h := fun a o q => by
  by_cases ha : a = c
  · subst ha
    rw [upd_same] at q
    cases q
    exact objOk_top e
  · rw [upd_ne ha] at q
    refine (x a o q).stay (fun b u _ q => q) (fun b q => ?_) fun b xs q => ?_
    · rw [upd_ne (ne_of_none q hc)]
      exact q
    · rw [upd_ne (ne_of_none q hc)]
      exact q
variable {outer : List Env} {s s' : Shared} {Q Q' : VK} {E E' : XK} {r : Result}
/-- the owner of a cell, behind a callee that knew it -/
theorem cr_hide1 (h0 : s.heap.get? c = some ob) (n : H c = none) (nf : c ∉ frs outer) (h : CR (L2.CX P w) outer P w (upd H c (frzC ob)) s Q E r s') (kQ : ∀ v H', H' c = some (frzC ob) → Q v H' → Q' v (del H' c))
    (kE : ∀ cls d H', H' c = some (frzC ob) → E cls d H' → E' cls d (del H' c)) : CR (L2.CX P w) outer P w H s Q' E' r s' := by
  have nt : ∀ {b o}, H b = some o → b ≠ c := fun {b o} e => ne_of_none e n
  cases r with
  | ok f =>
    cases f with
    | next => exact False.elim h
    | brk => exact False.elim h
    | cont => exact False.elim h
    | ret u =>
      obtain ⟨v, H', os, bare, un, hok, rv, q⟩ := h
      have hc := un.frzs c _ _ upd_same
      have at' : s'.heap.get? c = some ob := (hok c _ hc).1
      refine ⟨v, del H' c, os, bare, ⟨fun b o e n1 h1 h2 => ?_, fun b o e n1 h1 h2 => ?_, fun b o e n1 h2 => ?_, un.there, fun b xs e => ?_, fun b o u e => ?_, fun b ps e => ?_⟩, hok_del hok hc, rv, kQ v H' hc q⟩
      · by_cases hb : b = c
        · subst hb
          rw [h0] at e
          cases e
          exact at'
        · exact un.keep b o e (by rw [upd_ne hb]; exact n1) h1 h2
      · have hb : b ≠ c := fun z => nf (by rw [← z]; exact h1)
        exact un.slot b o e (by rw [upd_ne hb]; exact n1) h1 h2
      · by_cases hb : b = c
        · rw [hb, del_same]
        · rw [del_ne hb]
          exact un.free b o e (by rw [upd_ne hb]; exact n1) h2
      · rw [del_ne (nt e)]
        exact un.tups b xs (by rw [upd_ne (nt e)]; exact e)
      · rw [del_ne (nt e)]
        exact un.frzs b o u (by rw [upd_ne (nt e)]; exact e)
      · rw [del_ne (nt e)]
        exact un.tbls b ps (by rw [upd_ne (nt e)]; exact e)
  | error e =>
    obtain ⟨a, B, H', cls, d, eu, fl, hok, ub, na, os, ag, hE⟩ := h
    have hc := ub.frzs c _ _ upd_same
    have at' : B.get? c = some ob := (hok c _ hc).1
    refine ⟨a, B, del H' c, cls, d, eu, fl, hok_del hok hc, ⟨fun b o e n1 h1 => ?_, ub.slot, fun b o e n1 => ?_, ub.there, fun b xs e => ?_, fun b o u e => ?_, fun b ps e => ?_⟩, ?_, os, ag, kE cls d H' hc hE⟩
    · by_cases hb : b = c
      · subst hb
        rw [h0] at e
        cases e
        exact at'
      · exact ub.keep b o e (by rw [upd_ne hb]; exact n1) h1
    · by_cases hb : b = c
      · rw [hb, del_same]
      · rw [del_ne hb]
        exact ub.free b o e (by rw [upd_ne hb]; exact n1)
    · rw [del_ne (nt e)]
      exact ub.tups b xs (by rw [upd_ne (nt e)]; exact e)
    · rw [del_ne (nt e)]
      exact ub.frzs b o u (by rw [upd_ne (nt e)]; exact e)
    · rw [del_ne (nt e)]
      exact ub.tbls b ps (by rw [upd_ne (nt e)]; exact e)
    · by_cases hb : a = c
      · rw [hb, del_same]
      · rw [del_ne hb]
        exact na
/-- a closure's frame does not track what it captured; its caller does -/
theorem cr_show1 (hc : H c = some (frzC ob)) (h0 : s.heap.get? c = some ob) (nf : c ∉ frs outer) (h : CR (L2.CX P w) outer P w (del H c) s Q E r s') (kQ : ∀ v H', H' c = none → Q v H' → Q' v (upd H' c (frzC ob)))
    (kE : ∀ cls d H', H' c = none → E cls d H' → E' cls d (upd H' c (frzC ob))) : CR (L2.CX P w) outer P w H s Q' E' r s' := by
  have nn : ∀ {b}, H b = none → b ≠ c := fun {b} e z => by rw [z, hc] at e; cases e
  have nt : ∀ {b o}, H b = some o → o ≠ frzC ob → b ≠ c := fun {b o} e k z => by
    rw [z, hc] at e
    exact k (Option.some.inj e).symm
  cases r with
  | ok f =>
    cases f with
    | next => exact False.elim h
    | brk => exact False.elim h
    | cont => exact False.elim h
    | ret u =>
      obtain ⟨v, H', os, bare, un, hok, rv, q⟩ := h
      have hn : H' c = none := un.free c ob h0 del_same (by simp)
      have at' : s'.heap.get? c = some ob := un.keep c ob h0 del_same nf (by simp)
      refine ⟨v, upd H' c (frzC ob), os, bare, ⟨fun b o e n1 h1 h2 => ?_, fun b o e n1 h1 h2 => ?_, fun b o e n1 h2 => ?_, un.there, fun b xs e => ?_, fun b o u e => ?_, fun b ps e => ?_⟩, hok_upd hok hn at', rv, kQ v H' hn q⟩
      · exact un.keep b o e (by rw [del_ne (nn n1)]; exact n1) h1 h2
      · exact un.slot b o e (by rw [del_ne (nn n1)]; exact n1) h1 h2
      · rw [upd_ne (nn n1)]
        exact un.free b o e (by rw [del_ne (nn n1)]; exact n1) h2
      · have hb := nt e fun z => nomatch z
        rw [upd_ne hb]
        exact un.tups b xs (by rw [del_ne hb]; exact e)
      · by_cases hb : b = c
        · rw [hb, hc] at e
          rw [hb, upd_same]
          exact e
        · rw [upd_ne hb]
          exact un.frzs b o u (by rw [del_ne hb]; exact e)
      · have hb := nt e fun z => nomatch z
        rw [upd_ne hb]
        exact un.tbls b ps (by rw [del_ne hb]; exact e)
  | error e =>
    obtain ⟨a, B, H', cls, d, eu, fl, hok, ub, na, os, ag, hE⟩ := h
    have hn : H' c = none := ub.free c ob h0 del_same
    have at' : B.get? c = some ob := ub.keep c ob h0 del_same nf
    have ha : a ≠ c := fun z => by
      have q := fl.2.1
      rw [z, at'] at q
      cases q
    refine ⟨a, B, upd H' c (frzC ob), cls, d, eu, fl, hok_upd hok hn at', ⟨fun b o e n1 h1 => ?_, ub.slot, fun b o e n1 => ?_, ub.there, fun b xs e => ?_, fun b o u e => ?_, fun b ps e => ?_⟩, by rw [upd_ne ha]; exact na, os, ag, kE cls d H' hn hE⟩
    · exact ub.keep b o e (by rw [del_ne (nn n1)]; exact n1) h1
    · rw [upd_ne (nn n1)]
      exact ub.free b o e (by rw [del_ne (nn n1)]; exact n1)
    · have hb := nt e fun z => nomatch z
      rw [upd_ne hb]
      exact ub.tups b xs (by rw [del_ne hb]; exact e)
    · by_cases hb : b = c
      · rw [hb, hc] at e
        rw [hb, upd_same]
        exact e
      · rw [upd_ne hb]
        exact ub.frzs b o u (by rw [del_ne hb]; exact e)
    · have hb := nt e fun z => nomatch z
      rw [upd_ne hb]
      exact ub.tbls b ps (by rw [del_ne hb]; exact e)
end
/-! ### several -/
abbrev CL := List (Addr × Obj)
def shw : CL → Hp → Hp
  | [], H => H
  | p :: L, H => upd (shw L H) p.1 (frzC p.2)
def hid : CL → Hp → Hp
  | [], H => H
  | p :: L, H => hid L (del H p.1)
theorem shw_out {H : Hp} {b : Addr} : ∀ {L : CL}, b ∉ L.map Prod.fst → shw L H b = H b
  | [], _ => rfl
  | p :: L, h => by
    rw [List.map_cons, List.mem_cons, not_or] at h
    unfold shw
    rw [upd_ne h.1, shw_out h.2]
theorem shw_at {H : Hp} {p : Addr × Obj} : ∀ {L : CL}, (L.map Prod.fst).Nodup → p ∈ L → shw L H p.1 = some (frzC p.2)
  | [], _, h => by simp at h
  | q :: L, nd, h => by
    rw [List.map_cons, List.nodup_cons] at nd
    unfold shw
    rcases List.mem_cons.mp h with e | e
    · subst e
      rw [upd_same]
    · rw [upd_ne fun z => nd.1 (List.mem_map.mpr ⟨p, e, z⟩)]
      exact shw_at nd.2 e
theorem hid_out {b : Addr} : ∀ {L : CL} {H : Hp}, b ∉ L.map Prod.fst → hid L H b = H b
  | [], _, _ => rfl
  | p :: L, H, h => by
    rw [List.map_cons, List.mem_cons, not_or] at h
    unfold hid
    rw [hid_out h.2, del_ne h.1]
theorem hid_no {b : Addr} : ∀ {L : CL} {H : Hp}, H b = none → hid L H b = none
  | [], _, h => h
  | p :: L, H, h => by
    unfold hid
    refine hid_no ?_
    by_cases e : b = p.1
    · rw [e, del_same]
    · rw [del_ne e]
      exact h
theorem hid_in {b : Addr} : ∀ {L : CL} {H : Hp}, b ∈ L.map Prod.fst → hid L H b = none
  | [], _, h => by simp at h
  | p :: L, H, h => by
    unfold hid
    rw [List.map_cons] at h
    by_cases e : b = p.1
    · refine hid_no ?_
      rw [e, del_same]
    · rcases List.mem_cons.mp h with z | z
      · exact absurd z e
      · exact hid_in z
section
variable {P : Program} {w : World} {outer : List Env} {s s' : Shared} {r : Result}
theorem cr_hide : ∀ {L : CL} {H : Hp} {Q Q' : VK} {E E' : XK}, (L.map Prod.fst).Nodup → (∀ p ∈ L, s.heap.get? p.1 = some p.2 ∧ H p.1 = none ∧ p.1 ∉ frs outer) → CR (L2.CX P w) outer P w (shw L H) s Q E r s' →
    (∀ v H', (∀ p ∈ L, H' p.1 = some (frzC p.2)) → Q v H' → Q' v (hid L H')) → (∀ cls d H', (∀ p ∈ L, H' p.1 = some (frzC p.2)) → E cls d H' → E' cls d (hid L H')) → CR (L2.CX P w) outer P w H s Q' E' r s'
  | [], H, Q, Q', E, E', _, _, h, kQ, kE => by
    have kQ' : ∀ v H', Q v H' → Q' v H' := fun v H' q => kQ v H' (fun p hp => by simp at hp) q
    have kE' : ∀ c d H', E c d H' → E' c d H' := fun c d H' q => kE c d H' (fun p hp => by simp at hp) q
    cases r with
    | ok f =>
      cases f with
      | next => exact False.elim h
      | brk => exact False.elim h
      | cont => exact False.elim h
      | ret u =>
        obtain ⟨v, H', os, bare, un, hok, rv, q⟩ := h
        exact ⟨v, H', os, bare, un, hok, rv, kQ' v H' q⟩
    | error e =>
      obtain ⟨a, B, H', cls, d, eu, fl, hok, ub, na, os, ag, hE⟩ := h
      exact ⟨a, B, H', cls, d, eu, fl, hok, ub, na, os, ag, kE' cls d H' hE⟩
  | p :: L, H, Q, Q', E, E', nd, hL, h, kQ, kE => by
    rw [List.map_cons, List.nodup_cons] at nd
    obtain ⟨a1, a2, a3⟩ := hL p (by simp)
    have ne : ∀ q ∈ L, q.1 ≠ p.1 := fun q hq z => nd.1 (List.mem_map.mpr ⟨q, hq, z⟩)
    refine cr_hide (L := L) (Q := fun v H'' => ∃ H', H'' = del H' p.1 ∧ H' p.1 = some (frzC p.2) ∧ Q v H') (E := fun c d H'' => ∃ H', H'' = del H' p.1 ∧ H' p.1 = some (frzC p.2) ∧ E c d H') nd.2 (fun q hq => hL q (by simp [hq]))
      (cr_hide1 a1 (by rw [shw_out nd.1]; exact a2) a3 h (fun v H' e q => ⟨H', rfl, e, q⟩) fun c d H' e q => ⟨H', rfl, e, q⟩) (fun v H'' hq ⟨H', e1, e2, q⟩ => ?_) fun c d H'' hq ⟨H', e1, e2, q⟩ => ?_
    · subst e1
      refine kQ v H' (fun q' hq' => ?_) q
      rcases List.mem_cons.mp hq' with z | z
      · rw [z]; exact e2
      · have := hq q' z
        rw [del_ne (ne q' z)] at this
        exact this
    · subst e1
      refine kE c d H' (fun q' hq' => ?_) q
      rcases List.mem_cons.mp hq' with z | z
      · rw [z]; exact e2
      · have := hq q' z
        rw [del_ne (ne q' z)] at this
        exact this
theorem cr_show : ∀ {L : CL} {H : Hp} {Q Q' : VK} {E E' : XK}, (L.map Prod.fst).Nodup → (∀ p ∈ L, s.heap.get? p.1 = some p.2 ∧ H p.1 = some (frzC p.2) ∧ p.1 ∉ frs outer) → CR (L2.CX P w) outer P w (hid L H) s Q E r s' →
    (∀ v H', (∀ p ∈ L, H' p.1 = none) → Q v H' → Q' v (shw L H')) → (∀ cls d H', (∀ p ∈ L, H' p.1 = none) → E cls d H' → E' cls d (shw L H')) → CR (L2.CX P w) outer P w H s Q' E' r s'
  | [], H, Q, Q', E, E', nd, _, h, kQ, kE => cr_hide (L := []) nd (fun p hp => by simp at hp) h (fun v H' _ q => kQ v H' (fun p hp => by simp at hp) q) fun c d H' _ q => kE c d H' (fun p hp => by simp at hp) q
  | p :: L, H, Q, Q', E, E', nd, hL, h, kQ, kE => by
    rw [List.map_cons, List.nodup_cons] at nd
    obtain ⟨a1, a2, a3⟩ := hL p (by simp)
    have ne : ∀ q ∈ L, q.1 ≠ p.1 := fun q hq z => nd.1 (List.mem_map.mpr ⟨q, hq, z⟩)
    refine cr_show1 (Q := fun v H'' => ∃ H', H'' = shw L H' ∧ (∀ q ∈ L, H' q.1 = none) ∧ Q v H') (E := fun c d H'' => ∃ H', H'' = shw L H' ∧ (∀ q ∈ L, H' q.1 = none) ∧ E c d H') a2 a1 a3
      (cr_show (L := L) (H := del H p.1) nd.2 (fun q hq => ?_) h (fun v H' e q => ⟨H', rfl, e, q⟩) fun c d H' e q => ⟨H', rfl, e, q⟩) (fun v H'' hn ⟨H', e1, e2, q⟩ => ?_) fun c d H'' hn ⟨H', e1, e2, q⟩ => ?_
    · obtain ⟨b1, b2, b3⟩ := hL q (by simp [hq])
      exact ⟨b1, by rw [del_ne (ne q hq)]; exact b2, b3⟩
    · subst e1
      refine kQ v H' (fun q' hq' => ?_) q
      rcases List.mem_cons.mp hq' with z | z
      · rw [z]; exact (shw_out nd.1).symm.trans hn
      · exact e2 q' z
    · subst e1
      refine kE c d H' (fun q' hq' => ?_) q
      rcases List.mem_cons.mp hq' with z | z
      · rw [z]; exact (shw_out nd.1).symm.trans hn
      · exact e2 q' z
end
/-! ### the state at a call -/
section
variable {P : Program} {w : World} {K : PySem.W.Frag} {mg : Str → Option Value} {base : Heap} {A : Around} {outer : List Env} {s : Shared}
theorem env0_shw : ∀ {L : CL} {H : Hp}, Env0 P w K mg base A outer s H → (L.map Prod.fst).Nodup → (∀ p ∈ L, s.heap.get? p.1 = some p.2 ∧ H p.1 = none ∧ p.1 ∉ frs outer ∧ base.get? p.1 = none) → Env0 P w K mg base A outer s (shw L H)
  | [], H, e, _, _ => e
  | p :: L, H, e, nd, hL => by
    rw [List.map_cons, List.nodup_cons] at nd
    have e1 := env0_shw (L := L) e nd.2 fun q hq => hL q (by simp [hq])
    obtain ⟨a1, a2, a3, a4⟩ := hL p (by simp)
    have nP : shw L H p.1 = none := by rw [shw_out nd.1]; exact a2
    unfold shw
    refine ⟨e1.frames, e1.mod, fun b o q => ⟨(e1.bs b o q).1, ?_⟩, e1.bsz, e1.funs, fun b hb => ?_, hok_upd e1.hok nP a1, e1.bare⟩
    · rw [upd_ne fun z => by rw [z, a4] at q; cases q]
      exact (e1.bs b o q).2
    · rw [upd_ne fun z => a3 (by rw [← z]; exact hb)]
      exact e1.frf b hb
theorem env0_hid : ∀ {L : CL} {H : Hp}, Env0 P w K mg base A outer s H → (L.map Prod.fst).Nodup → (∀ p ∈ L, H p.1 = some (frzC p.2)) → Env0 P w K mg base A outer s (hid L H)
  | [], H, e, _, _ => e
  | p :: L, H, e, nd, hL => by
    rw [List.map_cons, List.nodup_cons] at nd
    unfold hid
    have ne : ∀ q ∈ L, q.1 ≠ p.1 := fun q hq z => nd.1 (List.mem_map.mpr ⟨q, hq, z⟩)
    refine env0_hid (L := L) (H := del H p.1) ⟨e.frames, e.mod, fun b o q => ⟨(e.bs b o q).1, ?_⟩, e.bsz, e.funs, fun b hb => ?_, hok_del e.hok (hL p (by simp)), e.bare⟩ nd.2 fun q hq => ?_
    · by_cases z : b = p.1
      · rw [z, del_same]
      · rw [del_ne z]
        exact (e.bs b o q).2
    · by_cases z : b = p.1
      · rw [z, del_same]
      · rw [del_ne z]
        exact e.frf b hb
    · rw [del_ne (ne q hq)]
      exact hL q (by simp [hq])
end
/-! ### our state -/
/-- a captured name's cell, shown -/
def cV (c : Addr) (p : Pr) : Cell := ⟨c, fun F o => ∃ ob u v, o = frzC ob ∧ ob.data = .cell (some u) ∧ RelV v u ∧ p.on F v, fun s ⟨ob, u, v, e1, e2, e3, e4⟩ => ⟨ob, u, v, e1, e2, e3, p.mono s e4⟩, fun ⟨ob, u, v, e, _⟩ => by subst e; exact fun _ z => (nomatch z), fun ⟨ob, u, v, e, _⟩ => by subst e; exact fun _ z => (nomatch z)⟩
def capsC (cs : List (Addr × Pr)) : List Cell := cs.map fun q => cV q.1 q.2
theorem capsC_a (cs : List (Addr × Pr)) : (capsC cs).map (·.a) = cs.map Prod.fst := by
  unfold capsC
  rw [List.map_map]
  rfl
def CapOk (F : Hp) (q : Addr × Pr) (p : Addr × Obj) : Prop := q.1 = p.1 ∧ ∃ u v, p.2.data = .cell (some u) ∧ RelV v u ∧ q.2.on F v
theorem CapOk.mono {F F' : Hp} {q : Addr × Pr} {p : Addr × Obj} (s : L2.Same F F') (h : CapOk F q p) : CapOk F' q p := let ⟨a, u, v, b, c, d⟩ := h; ⟨a, u, v, b, c, q.2.mono s d⟩
abbrev CapsOk (F : Hp) : List (Addr × Pr) → CL → Prop := PySem.Paired (CapOk F)
theorem CapsOk.mono {F F' : Hp} (s : L2.Same F F') {cs : List (Addr × Pr)} {L : CL} (h : CapsOk F cs L) : CapsOk F' cs L := L2.Paired.mapP h fun _ _ => CapOk.mono s
theorem CapsOk.fst {F : Hp} : ∀ {cs : List (Addr × Pr)} {L : CL}, CapsOk F cs L → cs.map Prod.fst = L.map Prod.fst
  | _, _, .nil => rfl
  | _, _, .cons a b => by rw [List.map_cons, List.map_cons, a.1, CapsOk.fst b]
section
variable {tb : Tb} {Φ : Fx} {Γ : Gm} {C C' : List Cell} {σ : L2.St} {F H F' H' : Hp}
theorem Sta.shw (S : Sta tb Φ Γ C σ F H) : ∀ {cs : List (Addr × Pr)} {L : CL}, CapsOk F cs L → (∀ p ∈ L, H p.1 = none) → (L.map Prod.fst).Nodup → Sta tb Φ Γ (capsC cs ++ C) σ F (Z.shw L H)
  | _, _, .nil, _, _ => S
  | q :: cs, p :: L, .cons a b, hn, nd => by
    rw [List.map_cons, List.nodup_cons] at nd
    have S1 := Sta.shw S b (fun r hr => hn r (by simp [hr])) nd.2
    obtain ⟨e, u, v, h1, h2, h3⟩ := a
    have hq : Z.shw L H (cV q.1 q.2).a = none := by
      show Z.shw L H q.1 = none
      rw [e, shw_out nd.1]
      exact hn p (by simp)
    have S2 := S1.newC (c := cV q.1 q.2) (o := frzC p.2) hq ⟨p.2, u, v, rfl, h1, h2, h3⟩
    show Sta tb Φ Γ (cV q.1 q.2 :: (capsC cs ++ C)) σ F (upd (Z.shw L H) p.1 (frzC p.2))
    rw [← e]
    exact S2
theorem Sta.caps (S : Sta tb Φ Γ (capsC cs ++ C) σ F H) : ∃ L : CL, CapsOk F cs L ∧ ∀ p ∈ L, H p.1 = some (frzC p.2) := by
  have at_ : ∀ q ∈ cs, ∃ ob u v, H q.1 = some (frzC ob) ∧ ob.data = .cell (some u) ∧ RelV v u ∧ q.2.on F v := fun q hq => by
    obtain ⟨o, h1, ⟨ob, u, v, e, h2, h3, h4⟩, _⟩ := S.cells.at_ (cV q.1 q.2) (List.mem_append_left _ (List.mem_map.mpr ⟨q, hq, rfl⟩))
    subst e
    exact ⟨ob, u, v, h1, h2, h3, h4⟩
  clear S
  induction cs with
  | nil => exact ⟨[], .nil, fun p hp => by simp at hp⟩
  | cons q cs ih =>
    obtain ⟨L, h1, h2⟩ := ih fun r hr => at_ r (by simp [hr])
    obtain ⟨ob, u, v, g1, g2, g3, g4⟩ := at_ q (by simp)
    exact ⟨(q.1, ob) :: L, .cons ⟨rfl, u, v, g2, g3, g4⟩ h1, fun p hp => by
      rcases List.mem_cons.mp hp with z | z
      · rw [z]; exact g1
      · exact h2 p z⟩
theorem Sta.capsNd (S : Sta tb Φ Γ (capsC cs ++ C) σ F H) : (cs.map Prod.fst).Nodup := by
  have nd := S.cells.nd
  rw [List.map_append, capsC_a] at nd
  exact (List.nodup_append.mp nd).1
theorem fix_hid {L : CL} (hL : ∀ p ∈ L, H p.1 = some (frzC p.2)) : Fix H (hid L H) := fun b o e k => by
  rw [hid_out fun z => ?_]
  · exact e
  · obtain ⟨p, hp, ep⟩ := List.mem_map.mp z
    rw [← ep, hL p hp] at e
    cases e
    rcases k with ⟨ps, k⟩ | ⟨φ, k⟩ <;> cases k
/-- what stays when the shown cells are hidden -/
theorem Sta.hid' (S : Sta tb Φ Γ (capsC cs ++ C) σ F H) {L : CL} (hk : CapsOk F cs L) (hL : ∀ p ∈ L, H p.1 = some (frzC p.2)) :
    EnvOk Γ F σ ∧ CellsOk C F (hid L H) ∧ (∀ a o, F a = some o → RdL (hid L H) a o) ∧ Tab tb F (hid L H) ∧ (∀ a, a ∈ L.map Prod.fst → F a = none) := by
  have fL : ∀ a, a ∈ L.map Prod.fst → F a = none := fun a ha => by
    rw [← hk.fst] at ha
    obtain ⟨q, hq, e⟩ := List.mem_map.mp ha
    obtain ⟨_, _, _, h⟩ := S.cells.at_ (cV q.1 q.2) (List.mem_append_left _ (List.mem_map.mpr ⟨q, hq, rfl⟩))
    rw [← e]
    exact h
  have nd := S.cells.nd
  rw [List.map_append, capsC_a, hk.fst] at nd
  obtain ⟨n1, n2, n3⟩ := List.nodup_append.mp nd
  refine ⟨S.env, ⟨fun c hc => ?_, n2⟩, fun a o e => ?_, S.tab.fix (fix_hid hL), fL⟩
  · obtain ⟨o, h1, h2, h3⟩ := S.cells.at_ c (by simp [hc])
    exact ⟨o, by rw [hid_out fun z => n3 c.a z c.a (List.mem_map.mpr ⟨c, hc, rfl⟩) rfl]; exact h1, h2, h3⟩
  · have ha : a ∉ L.map Prod.fst := fun z => by rw [fL a z] at e; cases e
    unfold RdL
    rw [hid_out ha]
    exact S.subx a o e
theorem hid_some {L : CL} {H : Hp} {a : Addr} {o : HO} (e : Z.hid L H a = some o) : H a = some o := by
  by_cases ha : a ∈ L.map Prod.fst
  · rw [hid_in ha] at e
    cases e
  · rw [hid_out ha] at e
    exact e
/-- at the owner's -/
theorem Sta.hid (S : Sta tb Φ Γ (capsC cs ++ C) σ F H) {L : CL} (hk : CapsOk F cs L) (hL : ∀ p ∈ L, H p.1 = some (frzC p.2)) (h0 : ∀ p ∈ L, Φ.H0 p.1 = none) : Sta tb Φ Γ C σ F (Z.hid L H) := by
  obtain ⟨h1, h2, h3, h4, h5⟩ := S.hid' hk hL
  have h0' : ∀ a, a ∈ L.map Prod.fst → Φ.H0 a = none := fun a ha => by
    obtain ⟨p, hp, e⟩ := List.mem_map.mp ha
    rw [← e]
    exact h0 p hp
  refine ⟨h1, h2, h3, S.fine, h4, S.base, S.fresh.del fun a xs e => hid_some e, fun a o e n d => ?_, fun c hc => S.own c (by simp [hc]), fun a e => ?_⟩
  · rw [hid_out fun z => by rw [h0' a z] at e; cases e]
    exact S.keep a o e n d
  · by_cases ha : a ∈ L.map Prod.fst
    · exact h0' a ha
    · rw [hid_out ha] at e
      exact S.there a e
/-- at the closure's -/
theorem Sta.hidR (S : Sta tb Φ Γ (capsC cs ++ C) σ F H) {L : CL} (hk : CapsOk F cs L) (hL : ∀ p ∈ L, H p.1 = some (frzC p.2)) : Sta tb (Fx.of F (Z.hid L H) C) Γ C σ F (Z.hid L H) := by
  obtain ⟨h1, h2, h3, h4, _⟩ := S.hid' hk hL
  exact ⟨h1, h2, h3, S.fine, h4, L2.Same.refl F, ⟨fun a o e n => absurd ((show F a = none from n).symm.trans e) (fun z => (nomatch z)), fun a xs e => .inr e⟩, fun a o e _ _ => e, fun c hc => .inl (List.mem_map.mpr ⟨c, hc, rfl⟩), fun a e => e⟩
/-- behind the closure's body -/
theorem Sta.showR (S : Sta tb Φ Γ (capsC cs ++ C) σ F H) {L : CL} {Γ' : Gm} {σ' : L2.St} (hk : CapsOk F cs L) (hL : ∀ p ∈ L, H p.1 = some (frzC p.2)) (S' : Sta tb (Fx.of F (Z.hid L H) C) Γ' C' σ' F' H') (hn : ∀ p ∈ L, H' p.1 = none) : Sta tb (Fx.of F H (capsC cs ++ C)) Γ' (capsC cs ++ C') σ' F' (Z.shw L H') := by
  have ndL : (L.map Prod.fst).Nodup := by rw [← hk.fst]; exact S.capsNd
  obtain ⟨_, _, _, _, fL⟩ := S.hid' hk hL
  have S1 := S'.shw (hk.mono S'.base) hn ndL
  have inD : ∀ a, a ∈ L.map Prod.fst → a ∈ (capsC cs ++ C).map (·.a) := fun a ha => by
    rw [List.map_append, capsC_a, hk.fst]
    exact List.mem_append_left _ ha
  have nn : ∀ a, Z.hid L H a = none → H a = none ∨ a ∈ L.map Prod.fst := fun a e => by
    by_cases ha : a ∈ L.map Prod.fst
    · exact .inr ha
    · rw [hid_out ha] at e
      exact .inl e
  refine ⟨S1.env, S1.cells, S1.subx, S1.fine, S1.tab, S1.base, ⟨fun a o e n => ?_, fun a xs e => ?_⟩, fun a o e n d => ?_, fun c hc => ?_, fun a e => ?_⟩
  · have w' := S1.fresh.fr a o e n
    refine w'.elim (fun w => ?_) fun ⟨xs, e1, w⟩ => .inr ⟨xs, e1, hid_some w⟩
    rcases nn a w with z | z
    · exact .inl z
    · have z' : a ∈ cs.map Prod.fst := by rw [hk.fst]; exact z
      obtain ⟨q, hq, eq⟩ := List.mem_map.mp z'
      obtain ⟨_, _, _, h⟩ := S1.cells.at_ (cV q.1 q.2) (List.mem_append_left _ (List.mem_map.mpr ⟨q, hq, rfl⟩))
      have h : F' q.1 = none := h
      rw [eq, e] at h
      cases h
  · rcases S1.fresh.tu a xs e with w | w
    · rcases nn a w with z | z
      · exact .inl z
      · obtain ⟨p, hp, ep⟩ := List.mem_map.mp z
        rw [← ep, shw_at ndL hp] at e
        cases e
    · exact .inr (hid_some w)
  · have ha : a ∉ L.map Prod.fst := fun z => d (inD a z)
    refine S1.keep a o (by show Z.hid L H a = some o; rw [hid_out ha]; exact e) n fun z => d ?_
    show a ∈ (capsC cs ++ C).map (·.a)
    rw [List.map_append]
    exact List.mem_append_right _ z
  · rcases S1.own c hc with z | z
    · refine .inl ?_
      show c.a ∈ (capsC cs ++ C).map (·.a)
      rw [List.map_append]
      exact List.mem_append_right _ z
    · rcases nn c.a z with z | z
      · exact .inr z
      · exact .inl (inD _ z)
  · rcases nn a (S1.there a e) with z | z
    · exact z
    · obtain ⟨p, hp, ep⟩ := List.mem_map.mp z
      rw [← ep, shw_at ndL hp] at e
      cases e
end
end Z

end
section
set_option Elab.async false
set_option linter.all false
set_option maxRecDepth 100000
/-! Z14: lambdas: made, called; what their bodies promise. -/
namespace Z
open PySem PySem.Spec PyProof.Rows L2 LamX NdefX
/-! ### the object -/
abbrev lfd (G : NF) (body : Expr) (pm ctv : Value) : FuncData := PySem.W.kla_fn G.name G.qual G.params body G.scope G.cl pm (.ref G.c) ctv
def LamO (f : Addr) (G : NF) (body : Expr) : HO := .ext fun h => ∃ (od : Option Addr) (sl : Array (Option Value)) (pm ctv : Value), h.get? f = some (⟨.type "function", od, .func (lfd G body pm ctv), sl⟩ : Obj)
section
variable {P : Program} {w : World} {H : Hp} {h : Heap} {f c : Addr} {G : NF} {body : Expr} {q : Str}
theorem lamO_at (x : ObjOk P w H h f (LamO f G body)) : ∃ (od : Option Addr) (sl : Array (Option Value)) (pm ctv : Value), h.get? f = some (⟨.type "function", od, .func (lfd G body pm ctv), sl⟩ : Obj) := by
  obtain ⟨z, _, _⟩ := x
  exact z
theorem codeO_at' (x : ObjOk P w H h c (CodeO c q)) : h.CodeRec (.ref c) q := by
  obtain ⟨⟨oc, vs, t, h1, h2, h3⟩, _, _⟩ := x
  exact ⟨c, oc, vs, t, rfl, h1, h2, h3⟩
theorem fnAt_lam (x : ObjOk P w H h f (LamO f G body)) : PySem.W.FnAt f h := by
  obtain ⟨od, sl, pm, ctv, e⟩ := lamO_at x
  exact ⟨_, od, _, sl, e⟩
end
/-! ### made -/
abbrev lamG (X : L2.Cx) (params : Arguments) (scope : Scope) (c' : Addr) : NF := ⟨"<lambda>", X.env.qual ++ "<lambda>", params, [], scope, cloFrom X.env.cells scope.names [], c'⟩
def tLamM (X : L2.Cx) (P : Addr) (params : Arguments) (body : Expr) (scope : Scope) (pos : Pos) : TE := fun σ H Q => ∃ ps : Array Value, H P = some (.tbl ps) ∧ TriplesOk ps.toList ∧ (∀ (pos' : Pos) (cv : Value), codeAmong pos' ps.toList = some cv → ∃ c, cv = .ref c) ∧
  (∀ c' f : Addr, H c' = none → f ≠ c' → f ≠ P → H f = none → Q (.ref f) (upd (upd (upd H P (.tbl (ps ++ #[rawInt pos.line, rawInt pos.col, .ref c']))) c' (CodeO c' (X.env.qual ++ "<lambda>"))) f (LamO f (lamG X params scope c') body))) ∧
  ∀ c' f : Addr, codeAmong pos ps.toList = some (.ref c') → H f = none → Q (.ref f) (upd H f (LamO f (lamG X params scope c') body))
section
variable {X : L2.Cx}
theorem inv_lam {pins : List (Addr × Obj)} {σ : L2.St} {H : Hp} {s : Shared} {G : NF} {body : Expr} {t' : Nat} {pm ctv : Value} (I : Inv X pins σ H s) :
    Inv X pins σ (upd H s.heap.objs.size (LamO s.heap.objs.size G body)) { s with heap := s.heap.push ({ cls := .type "function", data := .func (lfd G body pm ctv) } : Obj), toks := t' } := by
  have e : (s.heap.push ({ cls := .type "function", data := .func (lfd G body pm ctv) } : Obj)).get? s.heap.objs.size = some ({ cls := .type "function", data := .func (lfd G body pm ctv) } : Obj) := Heap.get?_push_size _ rfl
  exact I.laid (a := s.heap.objs.size) (fun b u e => Heap.get?_push_of_some _ e) (Nat.le_refl _) ⟨⟨_, _, pm, ctv, e⟩, ⟨_, e⟩, fun h1 h2 ⟨od, sl, p, t, z⟩ st => ⟨od, sl, p, t, st _ z⟩⟩
theorem pe_lamM {c P : Addr} {params : Arguments} {body : Expr} {scope : Scope} {pos : Pos} (TB : TabB X.base X.mg c P) (hcode : X.env.code = .ref c) (hdef : defaultsOf params X.env = ([], []))
    (hfr : ∀ y ∈ scope.names, y.2 = .free → X.env.scope.names.lookup y.1 = some .cell ∨ X.env.scope.names.lookup y.1 = some .free) : PE X (.Lambda params body scope pos) (tLamM X P params body scope pos) := by
  refine ⟨fun pins s σ H Q I h => ?_⟩
  obtain ⟨ps, hP, ht, ha, miss, hit⟩ := h
  have hfree : ∀ y ∈ scope.names, y.2 = .free → ∃ c, X.env.cells.lookup y.1 = some c := fun y hy e => (hfr y hy e).elim (fun z => I.ok.has _ (.inl z)) fun z => I.ok.has _ (.inr z)
  refine PySem.W.kla_eval hdef ?_
  have bP : s.heap.BuiltinsAt X.mg P := TB.bm.keeps I.bk
  have hP' : s.heap.get? P = some { cls := .none, data := .fields ps } := I.hok P _ hP
  cases hc : codeAmong pos ps.toList with
  | none =>
    refine PySem.W.kla_makeFunction (mg := X.mg) (c := c) (P := P) (ps := ps) (closure_ok hfree) I.ok.glob (I.mod.glob.keeps I.bk) hcode (TB.code.keeps I.bk) hP' ht hc TB.gP bP fun c' ctv h' tk hx hge hlt hrec htb => ?_
    obtain ⟨c2, oc, vs, t, e2, hoc, hd, hv⟩ := hrec
    cases e2
    have I1 := inv_table (t' := tk) (more := #[rawInt pos.line, rawInt pos.col, .ref c']) (h' := h') I hP (fun b o hb e => hx b o hb e) htb hge ⟨oc, vs, t, hoc, hd, hv⟩
    have I2 := inv_lam (G := lamG X params scope c') (body := body) (pm := (X.mg "__name__").getD .none) (ctv := ctv) (t' := tk) I1
    have nP : P < s.heap.objs.size := Heap.lt_size hP'
    exact ⟨.ref h'.objs.size, _, I2, rfl, miss c' h'.objs.size (I.hok.fresh hge) (Nat.ne_of_gt hlt) (Nat.ne_of_gt (Nat.lt_of_lt_of_le nP (Nat.le_trans hge (Nat.le_of_lt hlt)))) (I.hok.fresh (Nat.le_trans hge (Nat.le_of_lt hlt)))⟩
  | some cv =>
    obtain ⟨c', e⟩ := ha pos cv hc
    subst e
    refine PySem.W.kla_makeFunctionHit (mg := X.mg) (c := c) (P := P) (ps := ps) (closure_ok hfree) I.ok.glob (I.mod.glob.keeps I.bk) hcode (TB.code.keeps I.bk) hP' ht hc bP fun ctv h' tk hx hsz => ?_
    have I1 : Inv X pins σ H { s with heap := h', toks := tk } := I.kept hx
    have I2 := inv_lam (G := lamG X params scope c') (body := body) (pm := (X.mg "__name__").getD .none) (ctv := ctv) (t' := tk) I1
    exact ⟨.ref h'.objs.size, _, I2, rfl, hit c' h'.objs.size hc (I.hok.fresh hsz)⟩
end
/-- a lambda's value -/
def rFu (mk : Addr → NF) (body : Expr) : Pr := ⟨fun F v => ∃ f c', v = .ref f ∧ F f = some (LamO f (mk c') body) ∧ F c' = some (CodeO c' (mk c').qual), fun s ⟨f, c', e, h1, h2⟩ => ⟨f, c', e, s _ _ h1, s _ _ h2⟩⟩
section
variable {tb : Tb} {Φ : Fx} {Γ : Gm} {C : List Cell} {σ : L2.St} {F H : Hp}
theorem fine_ext {φ : Heap → Prop} : Fine (.ext φ) := ⟨fun _ z => (nomatch z), fun _ _ z => (nomatch z)⟩
theorem Sta.notTab (S : Sta tb Φ Γ C σ F H) {P : Addr} {ps : Array Value} (hP : H P = some (.tbl ps)) : F P = none := by
  cases e : F P with
  | none => rfl
  | some o =>
    rcases S.sub P o e with z | ⟨ob, z⟩
    · rw [hP] at z
      cases z
      exact absurd rfl ((S.fine _ _ e).1 ps)
    · rw [hP] at z
      cases z
/-- a new code object in a table -/
theorem Sta.code (S : Sta tb Φ Γ C σ F H) {P c' : Addr} {nm : Nat → Nat → Str} {ps : Array Value} {pos : Pos} (hP : H P = some (.tbl ps)) (hm : (P, nm) ∈ tb.nt) (hu : ∀ p ∈ tb.nt, p.1 = P → p.2 = nm) (hc : H c' = none) :
    Sta tb Φ Γ C σ (upd F c' (CodeO c' (nm pos.line pos.col))) (upd (upd H P (.tbl (ps ++ #[rawInt pos.line, rawInt pos.col, .ref c']))) c' (CodeO c' (nm pos.line pos.col))) ∧ L2.Same F (upd F c' (CodeO c' (nm pos.line pos.col))) := by
  have hF := S.notF hc
  have s := same_new (u := CodeO c' (nm pos.line pos.col)) hF
  have nPc : P ≠ c' := ne_of_none hP hc
  have FP := S.notTab hP
  have hne : ∀ b o, H b = some o → NoTbl o → b ≠ P := fun b o e n z => by
    rw [z, hP] at e
    cases e
    exact n ps rfl
  refine ⟨⟨S.env.mono s, ⟨fun c hc' => ?_, S.cells.nd⟩, fun b u e => ?_, fun b u e => ?_, ⟨fun p hp => ?_⟩, fun b u e => s _ _ (S.base _ _ e), ((S.fresh.put (fun _ z => (HO.noConfusion z))).new (S.there c' hc)).add (S.there c' hc), fun b u e n d => ?_, S.own, fun b e => ?_⟩, s⟩
  · obtain ⟨o, h1, h2, h3⟩ := S.cells.at_ c hc'
    have n1 := ne_of_none h1 hc
    exact ⟨o, by rw [upd_ne n1, upd_ne (hne _ _ h1 (c.nt h2))]; exact h1, c.mono s h2, by rw [upd_ne n1]; exact h3⟩
  · by_cases hb : b = c'
    · subst hb
      rw [upd_same] at e
      cases e
      exact .inl upd_same
    · rw [upd_ne hb] at e
      have hbP : b ≠ P := fun z => by rw [z, FP] at e; cases e
      unfold RdL
      rw [upd_ne hb, upd_ne hbP]
      exact S.subx b u e
  · by_cases hb : b = c'
    · subst hb
      rw [upd_same] at e
      cases e
      exact fine_ext
    · rw [upd_ne hb] at e
      exact S.fine b u e
  · obtain ⟨ps', h1, h2, h3⟩ := S.tab.nt p hp
    by_cases hb : p.1 = P
    · have e2 := hu p hp hb
      rw [hb, hP] at h1
      cases h1
      have eL : (ps ++ #[rawInt pos.line, rawInt pos.col, .ref c']).toList = ps.toList ++ [rawInt pos.line, rawInt pos.col, .ref c'] := by simp
      refine ⟨_, by rw [hb, upd_ne nPc, upd_same], by rw [eL]; exact PySem.TriplesOk_snoc _ _ _ _ h2, fun p' cv hcv => ?_⟩
      rw [eL] at hcv
      rcases among_app2 _ h2 hcv with z | ⟨z, z1, z2⟩
      · obtain ⟨c0, e1, e3⟩ := h3 p' cv z
        exact ⟨c0, e1, s _ _ e3⟩
      · refine ⟨c', z, ?_⟩
        rw [upd_same, e2, z1, z2]
    · refine ⟨ps', by rw [upd_ne (ne_of_none h1 hc), upd_ne hb]; exact h1, h2, fun p' cv hcv => ?_⟩
      obtain ⟨c0, e1, e3⟩ := h3 p' cv hcv
      exact ⟨c0, e1, s _ _ e3⟩
  · have h1 := S.keep b u e n d
    rw [upd_ne (ne_of_none h1 hc), upd_ne (hne _ _ h1 n)]
    exact h1
  · by_cases hb : b = c'
    · subst hb
      exact S.there b hc
    · rw [upd_ne hb] at e
      exact S.there b (upd_none_iff hP e)
end
section
variable {ω : Type} {j : J} {Γ : Gm} {C : List Cell} {R : Ps} {pos ppos : Pos} {params : Arguments} {body : Expr} {scope : Scope}
/-- lambda: .. -/
theorem ev_lam {c P : Addr} {nm : Nat → Nat → Str} (hm : (P, nm) ∈ j.tb.nt) (hn : nm pos.line pos.col = j.X.env.qual ++ "<lambda>") (hu : ∀ p ∈ j.tb.nt, p.1 = P → p.2 = nm) (TB : TabB j.X.base j.X.mg c P) (hcode : j.X.env.code = .ref c)
    (r : R C (rFu (lamG j.X params scope) body)) (hfr : ∀ y ∈ scope.names, y.2 = .free → j.X.env.scope.names.lookup y.1 = some .cell ∨ j.X.env.scope.names.lookup y.1 = some .free) (hdef : defaultsOf params j.X.env = ([], []) := by rfl) : Ev j Γ C (.Lambda params body scope pos) R :=
  ev_lift (pe_lamM TB hcode hdef hfr) fun Φ σ F H Q xw S K => by
    obtain ⟨ps, h1, h2, h3⟩ := S.tab.nt _ hm
    have h1 : H P = some (.tbl ps) := h1
    have h3 : ∀ (pos : Pos) (cv : Value), codeAmong pos ps.toList = some cv → ∃ c, cv = .ref c ∧ F c = some (CodeO c (nm pos.line pos.col)) := h3
    refine ⟨ps, h1, h2, fun p' cv hc => let ⟨c0, e, _⟩ := h3 p' cv hc; ⟨c0, e⟩, fun c' f n1 ne nP n2 => ?_, fun c' f hc n2 => ?_⟩
    · obtain ⟨S1, s1⟩ := S.code (pos := pos) h1 hm hu n1
      rw [hn] at S1 s1
      have n3 : upd (upd H P (.tbl (ps ++ #[rawInt pos.line, rawInt pos.col, .ref c']))) c' (CodeO c' (j.X.env.qual ++ "<lambda>")) f = none := by rw [upd_ne ne, upd_ne nP]; exact n2
      obtain ⟨S2, s2⟩ := S1.newF (o := LamO f (lamG j.X params scope c') body) n3 fine_ext
      exact K _ _ _ _ _ r S2 (s1.trans s2) ⟨f, c', rfl, upd_same, s2 _ _ upd_same⟩
    · obtain ⟨c0, e, hF⟩ := h3 pos _ hc
      cases e
      obtain ⟨S2, s2⟩ := S.newF (o := LamO f (lamG j.X params scope c') body) n2 fine_ext
      refine K _ _ _ _ _ r S2 s2 ⟨f, c', rfl, upd_same, s2 _ _ ?_⟩
      rw [hF, hn]
end
/-! ### called -/
structure CloOk (Pg : Program) (w : World) (K : PySem.W.Frag) (mg : Str → Option Value) (base : Heap) (k : Nat) (G : NF) (body : Expr) (sp : Sp) : Prop where
  run : ∀ (f : Addr) (A : Around) (outer : List Env) (s : Shared) (H : Hp) (us : List Value) (vs : List V) (Q : VK) (E : XK), Room k A → Env0 Pg w K mg base A outer s H → ObjOk Pg w H s.heap f (LamO f G body) → ObjOk Pg w H s.heap G.c (CodeO G.c G.qual) →
    Vals vs us → sp vs H Q E → codeAny (model Pg w) A (.call (.ref f) ⟨us, []⟩) (CR (L2.CX Pg w) outer Pg w H s Q E) s
theorem CloOk.mono {Pg : Program} {w : World} {K : PySem.W.Frag} {mg : Str → Option Value} {base : Heap} {i k : Nat} {G : NF} {body : Expr} {sp : Sp} (o : CloOk Pg w K mg base i G body sp) (h : i ≤ k) : CloOk Pg w K mg base k G body sp := ⟨fun f A outer s H us vs Q E hr => o.run f A outer s H us vs Q E (hr.mono h)⟩
def tClo (mk : Addr → NF) (body : Expr) (i : Nat) (sp : Sp) (E : XK) (t : TA) : TE := fun σ H Q => ∃ f c', σ[i]? = some (some (.ref f)) ∧ L2.Rd H f (LamO f (mk c') body) ∧
  t σ H fun vs H1 => L2.Rd H1 f (LamO f (mk c') body) ∧ L2.Rd H1 (mk c').c (CodeO (mk c').c (mk c').qual) ∧ sp vs H1 Q E
section
variable {X : L2.Cx} {mk : Addr → NF} {body : Expr} {i k : Nat} {x : Str} {sp : Sp} {E : XK} {t : TA} {e : Expr} {es : List Expr} {p pos : Pos}
theorem run_clo {pins : List (Addr × Obj)} {σ : L2.St} {H : Hp} {s : Shared} {Q : VK} {f : Addr} {G : NF} {us : List Value} {vs : List V} (Fn : CloOk X.prog X.w X.K X.mg X.base k G body sp) (hr : Room k X.A) (hx : Passes (L2.CX X.prog X.w) X E) (I : Inv X pins σ H s)
    (hf : L2.Rd H f (LamO f G body)) (hc : L2.Rd H G.c (CodeO G.c G.qual)) (r : Vals vs us) (q : sp vs H Q E) : wpAny (model X.prog X.w) X.A (call (.ref f) us) (EP X pins σ Q) X.xe s := by
  refine wpAny_call (codeAny_mono (Fn.run f X.A X.stack s H us vs Q E hr I.env0 (hf.ok I.hok) (hc.ok I.hok) r q) fun r s' hq => ?_)
  cases r with
  | error e => exact hx pins σ H s e s' I hq
  | ok fl =>
    cases fl with
    | ret u => exact I.after hq
    | next => exact False.elim hq
    | brk => exact False.elim hq
    | cont => exact False.elim hq
theorem pe_clo (Fn : ∀ c', CloOk X.prog X.w X.K X.mg X.base k (mk c') body sp) (hr : Room k X.A) (hx : Passes (L2.CX X.prog X.w) X E) (hN : X.N[i]? = some x) (hv : Vis X.env.scope x) (ha : PA X (e :: es) t)
    (hd : (x == ("__debug__" : Str)) = false := by decide) (hcd : (x == ("__classdict__" : Str)) = false := by decide)
    (he : starEach (e :: es) X.env = (false, eval e X.env) :: starEach es X.env := by rfl) (hpl : (backTo pos (starEach es X.env)).any (·.1) = false := by rfl) :
    PE X (.Call (.Name x p) (e :: es) [] pos) (tClo mk body i sp E t) := by
  refine ⟨fun pins s σ H Q I h => ?_⟩
  obtain ⟨f, c', hs, hf, ht⟩ := h
  refine wpAny_Call_Name_kw (thn ((pe_var (pos := p) hN hv hd hcd).run pins s σ H (fun v H1 => v = .ref f ∧ H1 = H) I ⟨.ref f, hs, rfl, rfl⟩) fun u s1 ⟨v, H1, I1, r1, q1⟩ => ?_)
  obtain ⟨ev, eH⟩ := q1
  subst ev
  rw [eH] at I1
  obtain rfl : u = Value.ref f := r1
  refine PySem.W.callWith_F (first := []) (fnAt_lam (hf.ok I1.hok)) (thn (ha.run pos pins s1 σ H _ I1 ht) fun us s2 ⟨vs, H2, I2, r, h1, h2, q⟩ => ⟨fnAt_lam (h1.ok I2.hok), ?_⟩) he hpl
  show wpAny _ _ (call (.ref f) us) _ _ _
  exact run_clo (Fn c') hr hx I2 h1 h2 r q
theorem pe_clo0 (Fn : ∀ c', CloOk X.prog X.w X.K X.mg X.base k (mk c') body sp) (hr : Room k X.A) (hx : Passes (L2.CX X.prog X.w) X E) (hN : X.N[i]? = some x) (hv : Vis X.env.scope x)
    (hd : (x == ("__debug__" : Str)) = false := by decide) (hcd : (x == ("__classdict__" : Str)) = false := by decide) : PE X (.Call (.Name x p) [] [] pos) (tClo mk body i sp E tNil) := by
  refine ⟨fun pins s σ H Q I h => ?_⟩
  obtain ⟨f, c', hs, hf, h1, h2, q⟩ := h
  refine wpAny_Call_Name_kw (thn ((pe_var (pos := p) hN hv hd hcd).run pins s σ H (fun v H1 => v = .ref f ∧ H1 = H) I ⟨.ref f, hs, rfl, rfl⟩) fun u s1 ⟨v, H1, I1, r1, q1⟩ => ?_)
  obtain ⟨ev, eH⟩ := q1
  subst ev
  rw [eH] at I1
  obtain rfl : u = Value.ref f := r1
  refine PySem.W.callWith_F0 (first := []) (fnAt_lam (hf.ok I1.hok)) ?_
  show wpAny _ _ (call (.ref f) []) _ _ _
  exact run_clo (Fn c') hr hx I1 h1 h2 .nil q
end
section
variable {ω : Type} {p : Prom ω} {j : J} {Γ : Gm} {C : List Cell} {R : Ps} {pos ppos : Pos} {e : Expr} {es : List Expr} {x : Str} {k : Nat} {mk : Addr → NF} {body : Expr}
/-- x(e, ..), x a name that holds a lambda -/
theorem ev_clo (i : Nat) (Fn : ∀ c', CloOk j.X.prog j.X.w j.X.K j.X.mg j.X.base k (mk c') body (p.sp j.tb)) (hr : Room k j.X.A) (hc : ∀ c', (mk c').c = c') (hΓ : Γ[i]? = some (some (rFu mk body)))
    (h : Ea j Γ C (e :: es) fun C1 qs => ∃ o Cr, p.pre o ∧ qs = p.ps o ∧ C1.Perm (p.C o ++ Cr) ∧ Away j p o Cr R)
    (hN : j.X.N[i]? = some x := by rfl) (hv : Vis j.X.env.scope x := by first | exact Or.inl rfl | exact Or.inr (Or.inl rfl) | exact Or.inr (Or.inr rfl))
    (hd : (x == ("__debug__" : Str)) = false := by decide) (hcd : (x == ("__classdict__" : Str)) = false := by decide)
    (he : starEach (e :: es) j.X.env = (false, eval e j.X.env) :: starEach es j.X.env := by rfl) (hpl : (backTo pos (starEach es j.X.env)).any (·.1) = false := by rfl) :
    Ev j Γ C (.Call (.Name x ppos) (e :: es) [] pos) R := fun Φ σ F H Q xw S K =>
  we_of (pe_clo Fn hr (takes_w xw) hN hv pa_wa hd hcd he hpl) (by
    obtain ⟨v, hs, f, c', ev, h1, h2⟩ := S.env.at_ i _ hΓ
    subst ev
    refine ⟨f, c', hs, S.sub _ _ h1, h Φ σ F H _ xw S fun vs F1 H1 C1 qs ⟨o, Cr, hp, eq, hc', aw⟩ S1 s1 o1 => ?_⟩
    subst eq
    refine ⟨S1.sub _ _ (s1 _ _ h1), ?_, sp_call S1 (K.same s1) hp o1 hc' aw⟩
    rw [hc c']
    exact S1.sub _ _ (s1 _ _ h2))
theorem ev_clo0 (i : Nat) (Fn : ∀ c', CloOk j.X.prog j.X.w j.X.K j.X.mg j.X.base k (mk c') body (p.sp j.tb)) (hr : Room k j.X.A) (hc : ∀ c', (mk c').c = c') (hΓ : Γ[i]? = some (some (rFu mk body)))
    (h : ∃ o Cr, p.pre o ∧ [] = p.ps o ∧ C.Perm (p.C o ++ Cr) ∧ Away j p o Cr R)
    (hN : j.X.N[i]? = some x := by rfl) (hv : Vis j.X.env.scope x := by first | exact Or.inl rfl | exact Or.inr (Or.inl rfl) | exact Or.inr (Or.inr rfl))
    (hd : (x == ("__debug__" : Str)) = false := by decide) (hcd : (x == ("__classdict__" : Str)) = false := by decide) :
    Ev j Γ C (.Call (.Name x ppos) [] [] pos) R := fun Φ σ F H Q xw S K =>
  we_of (pe_clo0 Fn hr (takes_w xw) hN hv hd hcd) (by
    obtain ⟨v, hs, f, c', ev, h1, h2⟩ := S.env.at_ i _ hΓ
    subst ev
    obtain ⟨o, Cr, hp, eq, hc', aw⟩ := h
    refine ⟨f, c', hs, S.sub _ _ h1, S.sub _ _ h1, ?_, sp_call S K hp (by rw [← eq]; exact .nil) hc' aw⟩
    rw [hc c']
    exact S.sub _ _ h2)
end
/-! ### by its body -/
theorem EnvOk.app {F : Hp} {Γ1 Γ2 : Gm} {σ1 σ2 : L2.St} (a : EnvOk Γ1 F σ1) (b : EnvOk Γ2 F σ2) : EnvOk (Γ1 ++ Γ2) F (σ1 ++ σ2) := by
  refine ⟨by simp [a.len, b.len], fun i p e => ?_⟩
  by_cases h : i < Γ1.length
  · rw [List.getElem?_append_left h] at e
    obtain ⟨v, h1, h2⟩ := a.at_ i p e
    exact ⟨v, by rw [List.getElem?_append_left (by rw [a.len]; exact h)]; exact h1, h2⟩
  · rw [List.getElem?_append_right (by omega)] at e
    obtain ⟨v, h1, h2⟩ := b.at_ _ p e
    exact ⟨v, by rw [List.getElem?_append_right (by rw [a.len]; omega), a.len]; exact h1, h2⟩
theorem EnvOk.all {F : Hp} : ∀ {ps : List Pr} {vs : List V}, AllOn ps F vs → EnvOk (ps.map some) F (vs.map some)
  | _, _, .nil => ⟨rfl, fun i p e => by simp at e⟩
  | _, _, .cons a b => by
    have ih := EnvOk.all b
    refine ⟨by simp [AllOn.length b], fun i p e => ?_⟩
    cases i with
    | zero =>
      simp at e
      subst e
      exact ⟨_, rfl, a⟩
    | succ i =>
      obtain ⟨v, h1, h2⟩ := ih.at_ i p (by simpa using e)
      exact ⟨v, by simpa using h1, h2⟩
theorem EnvOk.nones {F : Hp} (n : Nat) : EnvOk (List.replicate n none) F (List.replicate n none) := ⟨by simp, fun i p e => by
  rw [List.getElem?_replicate] at e
  split at e <;> cases e⟩
/-- the captured names' addresses -/
structure CloAt (cl : List (Str × Addr)) (fr : List Str) (as : List Addr) : Prop where
  len : as.length = fr.length
  nd : as.Nodup
  has : ∀ (i : Nat) (y : Str), fr[i]? = some y → ∃ a, as[i]? = some a ∧ cl.lookup y = some a
  sub : ∀ (y : Str) (c : Addr), cl.lookup y = some c → ∃ i : Nat, fr[i]? = some y ∧ as[i]? = some c
theorem CapsOk.vals {F : Hp} : ∀ {cs : List (Addr × Pr)} {L : CL}, CapsOk F cs L → ∃ ws : List V, AllOn (cs.map Prod.snd) F ws ∧ ∀ (i : Nat) (v : V), ws[i]? = some v → ∃ p u, L[i]? = some p ∧ p.2.data = .cell (some u) ∧ RelV v u
  | _, _, .nil => ⟨[], .nil, fun i v e => by simp at e⟩
  | _, _, .cons a b => by
    obtain ⟨ws, h1, h2⟩ := CapsOk.vals b
    obtain ⟨_, u, v, g1, g2, g3⟩ := a
    refine ⟨v :: ws, .cons g3 h1, fun i w e => ?_⟩
    cases i with
    | zero =>
      simp at e
      subst e
      exact ⟨_, u, rfl, g1, g2⟩
    | succ i =>
      obtain ⟨p, u', e1, e2⟩ := h2 i w (by simpa using e)
      exact ⟨p, u', by simpa using e1, e2⟩
def Prom.cap {ω : Type} (q : Prom ω) (caps : ω → List (Addr × Pr)) : Prom ω := { q with C := fun o => capsC (caps o) ++ q.C o, R := fun o C' ρ => ∃ C'', C' = capsC (caps o) ++ C'' ∧ q.R o C'' ρ, XP := fun o cls C' => ∃ C'', C' = capsC (caps o) ++ C'' ∧ q.XP o cls C'' }
/-- THE RULE: a lambda by its body -/
theorem clo_ok {ω : Type} {Pg : Program} {w : World} {K : PySem.W.Frag} {mg : Str → Option Value} {base : Heap} {k : Nat} {G : NF} {body : Expr} {tb : Tb} {q : Prom ω} {caps : ω → List (Addr × Pr)} {N ps fr : List Str} {as : List Addr}
    (hfs : ∀ o, q.pre o → (caps o).map Prod.fst = as) (Sc : NScope N ps fr G.scope) (CA : CloAt G.cl fr as) (hb : ∀ (pm ctv : Value) (us : List Value), us.length = ps.length → bindArgs (lfd G body pm ctv) ⟨us, []⟩ = pure (ps.zip us)) (len : ∀ o, (q.ps o).length = ps.length)
    (hbody : ∀ (o : ω) (f : Addr) (A : Around) (outer : List Env) (s : Shared) (H : Hp) (E : XK), q.pre o → Room k (A.deeper (envF G f s.heap.objs.size)) →
      Ev ⟨ncx (L2.CX Pg w) Pg w K mg base N G f A outer s H E, tb, q.XP o⟩ ((q.ps o).map some ++ (((caps o).map Prod.snd).map some ++ List.replicate (N.length - ps.length - fr.length) none)) (q.C o) body (q.R o)) :
    CloOk Pg w K mg base (k + 1) G body ((q.cap caps).sp tb) := by
  refine ⟨fun f A outer s H us vs Q E hr e0 hf hc r hsp => ?_⟩
  obtain ⟨o, F, hp, ha, S, kR, kX⟩ := hsp
  have ha : AllOn (q.ps o) F vs := ha
  have hp : q.pre o := hp
  have S : Sta tb (Fx.of F H (capsC (caps o) ++ q.C o)) [] (capsC (caps o) ++ q.C o) [] F H := S
  obtain ⟨L, hk, hL⟩ := S.caps
  have eas : L.map Prod.fst = as := by rw [← hk.fst]; exact hfs o hp
  have ndL : (L.map Prod.fst).Nodup := by rw [eas]; exact CA.nd
  have e1 := env0_hid e0 ndL hL
  have hLs : ∀ p ∈ L, s.heap.get? p.1 = some p.2 := fun p hp => (e0.hok _ _ (hL p hp)).1
  have hLf : ∀ p ∈ L, p.1 ∉ frs outer := fun p hp z => by
    have q := e0.frf _ z
    rw [hL p hp] at q
    cases q
  have SR := S.hidR hk hL
  refine codeAny_mono (R := CR (L2.CX Pg w) outer Pg w (hid L H) s (fun v H' => ∃ F' C' ρ, q.R o C' ρ ∧ Sta tb (Fx.of F (hid L H) (q.C o)) [] C' [] F' H' ∧ ρ.on F' v) (fun cls d H' => ∃ C' F', q.XP o cls C' ∧ Sta tb (Fx.of F (hid L H) (q.C o)) [] C' [] F' H')) ?_ fun r s' h =>
    cr_show ndL (fun p hp => ⟨hLs p hp, hL p hp, hLf p hp⟩) h (fun v H' hn ⟨F', C', ρ, r, S', o'⟩ => kR v F' _ _ ρ ⟨C', rfl, r⟩ (S.showR hk hL S' hn) o') fun cls d H' hn ⟨C', F', r, S'⟩ => kX cls d F' _ _ ⟨C', rfl, r⟩ (S.showR hk hL S' hn)
  obtain ⟨od, sl, pm, ctv, ho⟩ := lamO_at hf
  obtain ⟨ws, w1, w2⟩ := hk.vals
  have hl : vs.length = ps.length := by rw [← ha.length]; exact len o
  have wl : ws.length = fr.length := by
    rw [← w1.length, List.length_map, ← CA.len, ← hfs o hp, List.length_map]
  have CellsK : CellsAt G.cl fr (ws.map some) s.heap (hid L H) := by
    have inL : ∀ {i : Nat} {c : Addr}, as[i]? = some c → ∃ p, L[i]? = some p ∧ p.1 = c := fun {i c} e => by
      rw [← eas, List.getElem?_map] at e
      cases q : L[i]? with
      | none => rw [q] at e; cases e
      | some p =>
        rw [q] at e
        cases e
        exact ⟨p, rfl, rfl⟩
    refine ⟨by rw [List.length_map, wl], fun y c e => ?_, fun x y c e1 e2 => ?_, fun i y e => ?_⟩
    · obtain ⟨i, h1, h2⟩ := CA.sub y c e
      obtain ⟨p, p1, p2⟩ := inL h2
      have pm := List.mem_of_getElem? p1
      refine ⟨hid_in (List.mem_map.mpr ⟨p, pm, p2⟩), ?_⟩
      have hi : i < ws.length := by
        rw [wl, ← CA.len]
        exact (List.getElem?_eq_some_iff.mp h2).1
      obtain ⟨p', u, q1, q2, q3⟩ := w2 i _ (List.getElem?_eq_getElem hi)
      rw [p1] at q1
      cases q1
      exact ⟨some u, p.2, by rw [← p2]; exact hLs p pm, q2⟩
    · obtain ⟨i, h1, h2⟩ := CA.sub x c e1
      obtain ⟨i', h3, h4⟩ := CA.sub y c e2
      have ei : i = i' := (List.getElem?_inj (List.getElem?_eq_some_iff.mp h2).1 CA.nd).mp (h2.trans h4.symm)
      subst ei
      rw [h1] at h3
      exact Option.some.inj h3
    · obtain ⟨a, h1, h2⟩ := CA.has i y e
      refine ⟨a, h2, fun v ev => ?_⟩
      rw [List.getElem?_map] at ev
      cases q : ws[i]? with
      | none => rw [q] at ev; cases ev
      | some v' =>
        rw [q] at ev
        cases ev
        obtain ⟨p, u, q1, q2, q3⟩ := w2 i v q
        obtain ⟨p', p1, p2⟩ := inL h1
        rw [q1] at p1
        cases p1
        exact ⟨u, q3, p.2, by rw [← p2]; exact hLs p (List.mem_of_getElem? q1), q2⟩
  have lim : s.heap.NoLimit := e1.mod.nolimit.keeps fun b o e => (e1.bs b o e).1
  refine PySem.W.kla_callFunE hr.depth ho rfl Sc.co Sc.gen rfl (codeO_at' hc) ?_
  rw [hb pm ctv us (by rw [← r.length]; exact hl)]
  refine wpAny_pure (wpAny_newFunctionEnv Sc.nocell (fun ⟨n, _⟩ hy => Sc.par n (List.of_mem_zip hy).1) (fun h₁ hns hsb => ⟨lim.fresh _ hsb, ?_⟩) Sc.kind)
  show codeAny _ _ (.expr body (envF G f s.heap.objs.size)) _ _
  have kp : ∀ b o, s.heap.get? b = some o → h₁.get? b = some o := fun b o e => hsb.extBut b o (Nat.ne_of_lt (Heap.lt_size e)) (Heap.get?_push_of_some _ e)
  have tk : ∀ E : XK, Takes (ncx (L2.CX Pg w) Pg w K mg base N G f A outer s (hid L H) E) (fun cls d _ H => E cls d H) := fun E => takes_of rfl rfl rfl rfl
  have xw : XW ⟨ncx (L2.CX Pg w) Pg w K mg base N G f A outer s (hid L H) (fun cls d H' => ∃ C' F', q.XP o cls C' ∧ Sta tb (Fx.of F (hid L H) (q.C o)) [] C' [] F' H'), tb, q.XP o⟩ (Fx.of F (hid L H) (q.C o)) := (tk _).imp fun cls d σ H' ⟨C', F', h1, S'⟩ => ⟨C', F', h1, S'⟩
  have I : Inv (ncx (L2.CX Pg w) Pg w K mg base N G f A outer s (hid L H) (fun cls d H' => ∃ C' F', q.XP o cls C' ∧ Sta tb (Fx.of F (hid L H) (q.C o)) [] C' [] F' H')) [] (startF N vs (ws.map some)) (hid L H) { s with heap := h₁, toks := s.toks + (ps.zip us).length } := inv_startN Sc hr.hd e1 hl r CellsK hns kp
  have env : EnvOk ((q.ps o).map some ++ (((caps o).map Prod.snd).map some ++ List.replicate (N.length - ps.length - fr.length) none)) F (startF N vs (ws.map some)) := by
    unfold startF
    rw [List.length_map, wl, hl]
    exact (EnvOk.all ha).app ((EnvOk.all w1).app (EnvOk.nones _))
  refine PySem.W.kla_codeExpr (wpAny_mono (hbody o f A outer s (hid L H) _ hp (hr.deeper _) (Fx.of F (hid L H) (q.C o)) _ F (hid L H) (fun v H' => ∃ F' C' ρ, q.R o C' ρ ∧ Sta tb (Fx.of F (hid L H) (q.C o)) [] C' [] F' H' ∧ ρ.on F' v) xw (SR.env' env) (fun v F' H' C' ρ r S' s' o' => ⟨F', C', ρ, r, S'.noenv, o'⟩) [] _ I) (fun v s' hq => ?_) fun e s' hq => hq)
  obtain ⟨w', H', J', rv, q⟩ := hq
  exact ⟨w', H', J'.os, J'.bare, J'.base, J'.hok, rv, q⟩
end Z

end
section
set_option Elab.async false
set_option linter.all false
set_option maxRecDepth 100000
/-! Z15: calls that show captured names. -/
namespace Z
open PySem PySem.Spec PyProof.Rows L2 LamX NdefX
def cellAt (X : L2.Cx) (y : Str) : Addr := (X.env.cells.lookup y).getD 0
/-- names that a def's own frame holds in cells: the slots, the names -/
structure Owns (X : L2.Cx) (is : List (Nat × Str)) : Prop where
  ix : ∀ q ∈ is, X.N[q.1]? = some q.2 ∧ X.fn q.2 = true ∧ X.env.scope.names.lookup q.2 = some .cell
  nd : (is.map Prod.snd).Nodup
def SlotR (X : L2.Cx) (σ : L2.St) (q : Nat × Str) (p : Addr × Obj) : Prop := p.1 = cellAt X q.2 ∧ ∀ v, σ[q.1]? = some (some v) → ∃ u, p.2.data = .cell (some u) ∧ RelV v u
def CapR (X : L2.Cx) (Γ : Gm) (q : Nat × Str) (c : Addr × Pr) : Prop := c.1 = cellAt X q.2 ∧ Γ[q.1]? = some (some c.2)
theorem caps_ok {X : L2.Cx} {σ : L2.St} {Γ : Gm} {F : Hp} (E : EnvOk Γ F σ) : ∀ {is : List (Nat × Str)} {L : CL} {cs : List (Addr × Pr)}, Paired (SlotR X σ) is L → Paired (CapR X Γ) is cs → CapsOk F cs L
  | _, _, _, .nil, .nil => .nil
  | _, _, _, .cons a b, .cons c d => by
    refine .cons ⟨c.1.trans a.1.symm, ?_⟩ (caps_ok E b d)
    obtain ⟨v, h1, h2⟩ := E.at_ _ _ c.2
    obtain ⟨u, h3, h4⟩ := a.2 v h1
    exact ⟨u, v, h3, h4, h2⟩
theorem slots_fst {X : L2.Cx} {σ : L2.St} : ∀ {is : List (Nat × Str)} {L : CL}, Paired (SlotR X σ) is L → L.map Prod.fst = is.map fun q => cellAt X q.2
  | _, _, .nil => rfl
  | _, _, .cons a b => by rw [List.map_cons, List.map_cons, a.1, slots_fst b]
section
variable {X : L2.Cx} {pins : List (Addr × Obj)} {σ : L2.St} {H : Hp} {s : Shared} {is : List (Nat × Str)}
/-- what is true of a shown cell -/
def Shown (X : L2.Cx) (H : Hp) (s : Shared) (p : Addr × Obj) : Prop := s.heap.get? p.1 = some p.2 ∧ H p.1 = none ∧ p.1 ∉ frs X.stack ∧ X.base.get? p.1 = none
theorem inv_caps (I : Inv X pins σ H s) (O : Owns X is) : ∃ L : CL, Paired (SlotR X σ) is L ∧ (L.map Prod.fst).Nodup ∧ ∀ p ∈ L, Shown X H s p := by
  have at_ : ∀ q ∈ is, ∃ c, X.env.cells.lookup q.2 = some c := fun q hq => I.ok.has _ (.inl (O.ix q hq).2.2)
  have one : ∀ q ∈ is, ∃ p : Addr × Obj, SlotR X σ q p ∧ Shown X H s p := fun q hq => by
    obtain ⟨c, hc⟩ := at_ q hq
    obtain ⟨o1, o2, o3⟩ := O.ix q hq
    obtain ⟨v, ob, ho, hd⟩ := I.cell _ c hc
    have ec : cellAt X q.2 = c := by unfold cellAt; rw [hc]; rfl
    have ge := I.ok.cab _ c o2 hc
    refine ⟨(c, ob), ⟨ec.symm, fun v' e => ?_⟩, ho, I.freeC _ c hc, fun z => ?_, Heap.get?_none_of_le (Nat.le_trans I.ok.bsz ge)⟩
    · obtain ⟨m, hn, hl⟩ := I.loc
      obtain ⟨u, r, l⟩ := hl q.1 q.2 v' o1 e (.inr (.inl o3))
      rcases l with ⟨z, _⟩ | ⟨_, c', hc', ob', ho', hd'⟩
      · have z' : X.env.scope.names.lookup q.2 = some .local := z
        rw [o3] at z'
        cases z'
      · rw [hc] at hc'
        cases hc'
        rw [ho] at ho'
        cases ho'
        exact ⟨u, hd', r⟩
    · rcases List.mem_cons.mp (I.stkSub _ z) with e | e
      · exact I.cne _ c hc e
      · obtain ⟨_, o, ho', _⟩ := I.ok.funs.mem e
        exact absurd (Nat.lt_of_lt_of_le (Heap.lt_size ho') ge) (Nat.lt_irrefl _)
  have build : ∀ js : List (Nat × Str), (∀ q ∈ js, q ∈ is) → ∃ L : CL, Paired (SlotR X σ) js L ∧ ∀ p ∈ L, Shown X H s p := fun js => by
    induction js with
    | nil => exact fun _ => ⟨[], .nil, fun p hp => by simp at hp⟩
    | cons q js ih =>
      intro h
      obtain ⟨L, h1, h2⟩ := ih fun r hr => h r (by simp [hr])
      obtain ⟨p, g1, g2⟩ := one q (h q (by simp))
      exact ⟨p :: L, .cons g1 h1, fun p' hp => by
        rcases List.mem_cons.mp hp with z | z
        · rw [z]; exact g2
        · exact h2 p' z⟩
  obtain ⟨L, h1, h2⟩ := build is fun q h => h
  refine ⟨L, h1, ?_, h2⟩
  rw [slots_fst h1]
  have e2 : (is.map fun q => cellAt X q.2) = (is.map Prod.snd).map (cellAt X) := by rw [List.map_map]; rfl
  rw [e2]
  have inj : ∀ x ∈ is.map Prod.snd, ∀ y ∈ is.map Prod.snd, cellAt X x = cellAt X y → x = y := fun x hx y hy e => by
    obtain ⟨q, hq, rfl⟩ := List.mem_map.mp hx
    obtain ⟨q', hq', rfl⟩ := List.mem_map.mp hy
    obtain ⟨c, hc⟩ := at_ q hq
    obtain ⟨c', hc'⟩ := at_ q' hq'
    unfold cellAt at e
    rw [hc, hc'] at e
    have e : c = c' := e
    subst e
    exact I.ok.inj _ _ c hc hc'
  have nd := O.nd
  generalize is.map Prod.snd = ys at nd inj
  clear e2
  induction ys with
  | nil => exact List.nodup_nil
  | cons y ys ih =>
    rw [List.nodup_cons] at nd
    rw [List.map_cons, List.nodup_cons]
    refine ⟨fun z => ?_, ih nd.2 fun x hx y' hy => inj x (List.mem_cons_of_mem _ hx) y' (List.mem_cons_of_mem _ hy)⟩
    obtain ⟨y', hy', e⟩ := List.mem_map.mp z
    have := inj y' (by simp [hy']) y (by simp) e
    subst this
    exact nd.1 hy'
end
/-! ### the calls -/
def QX (L : CL) (Q : VK) : VK := fun v H' => (∀ p ∈ L, H' p.1 = some (frzC p.2)) → Q v (hid L H')
def EX (L : CL) (E : XK) : XK := fun cls d H' => (∀ p ∈ L, H' p.1 = some (frzC p.2)) → E cls d (hid L H')
section
variable {X : L2.Cx} {k : Nat} {f C : Addr} {fd : FuncData} {ps : List Str} {sp : Sp} {E : XK} {x m : Str} {p pos apos : Pos} {e o : Expr} {es : List Expr} {ta : TE} {t : TA} {is : List (Nat × Str)}
theorem run_fnX {pins : List (Addr × Obj)} {σ : L2.St} {H : Hp} {s : Shared} {Q : VK} {us : List Value} {vs : List V} {L : CL} (F : FnOk X.prog X.w X.K X.mg X.base (L2.CX X.prog X.w) k f fd ps sp) (hr : Room k X.A) (hb : Binds X.K fd ps []) (hx : Passes (L2.CX X.prog X.w) X E)
    (I : Inv X pins σ H s) (r : Vals vs us) (nd : (L.map Prod.fst).Nodup) (hL : ∀ p ∈ L, Shown X H s p) (h : sp vs (shw L H) (QX L Q) (EX L E)) : wpAny (model X.prog X.w) X.A (call (.ref f) us) (EP X pins σ Q) X.xe s := by
  have hl : (us ++ []).length = ps.length := by rw [List.append_nil, ← r.length]; exact F.len _ _ _ _ h
  have hb' := hb s us I.kIn hl
  rw [List.append_nil] at hb'
  refine wpAny_call (codeAny_mono (F.run X.A X.stack s (shw L H) ⟨us, []⟩ us vs _ _ hr (env0_shw I.env0 nd hL) hb' r h) fun r s' hq => ?_)
  have hq := cr_hide (Q' := Q) (E' := E) nd (fun p hp => ⟨(hL p hp).1, (hL p hp).2.1, (hL p hp).2.2.1⟩) hq (fun v H' k q => q k) fun c d H' k q => q k
  cases r with
  | error e => exact hx pins σ H s e s' I hq
  | ok fl =>
    cases fl with
    | ret u => exact I.after hq
    | next => exact False.elim hq
    | brk => exact False.elim hq
    | cont => exact False.elim hq
/-- what is asked at the call: the shown cells come -/
def spX (X : L2.Cx) (is : List (Nat × Str)) (sp : Sp) (E : XK) (σ : L2.St) (vs : List V) (H : Hp) (Q : VK) : Prop := ∀ L : CL, Paired (SlotR X σ) is L → (L.map Prod.fst).Nodup → (∀ p ∈ L, H p.1 = none) → sp vs (shw L H) (QX L Q) (EX L E)
def tCallX (X : L2.Cx) (is : List (Nat × Str)) (sp : Sp) (E : XK) (t : TA) : TE := fun σ H Q => t σ H fun vs H1 => spX X is sp E σ vs H1 Q
def tMethX (X : L2.Cx) (is : List (Nat × Str)) (C : Addr) (m : Str) (sp : Sp) (E : XK) (ta : TE) (t : TA) : TE := fun σ H Q => ta σ H fun x H1 => ∃ a dx fs, x = .ref a ∧ H1 a = some (.ins C dx fs) ∧ fs.lookup m = none ∧ t σ H1 fun vs H2 => spX X is sp E σ (x :: vs) H2 Q
theorem run_spX {pins : List (Addr × Obj)} {σ : L2.St} {H : Hp} {s : Shared} {Q : VK} {us : List Value} {vs : List V} (F : FnOk X.prog X.w X.K X.mg X.base (L2.CX X.prog X.w) k f fd ps sp) (hr : Room k X.A) (hb : Binds X.K fd ps []) (hx : Passes (L2.CX X.prog X.w) X E) (O : Owns X is)
    (I : Inv X pins σ H s) (r : Vals vs us) (h : spX X is sp E σ vs H Q) : wpAny (model X.prog X.w) X.A (call (.ref f) us) (EP X pins σ Q) X.xe s := by
  obtain ⟨L, h1, h2, h3⟩ := inv_caps I O
  exact run_fnX F hr hb hx I r h2 h3 (h L h1 h2 fun p hp => (h3 p hp).2.1)
theorem pe_callX (F : FnOk X.prog X.w X.K X.mg X.base (L2.CX X.prog X.w) k f fd ps sp) (hr : Room k X.A) (hg : Gl X x) (hm : X.mg x = some (.ref f)) (hk : PySem.W.keepIn X.K (.ref f) = true) (hb : Binds X.K fd ps []) (hx : Passes (L2.CX X.prog X.w) X E) (O : Owns X is)
    (ha : PA X (e :: es) t) (hdb : (x == ("__debug__" : Str)) = false := by decide) (he : starEach (e :: es) X.env = (false, eval e X.env) :: starEach es X.env := by rfl) (hpl : (backTo pos (starEach es X.env)).any (·.1) = false := by rfl) :
    PE X (.Call (.Name x p) (e :: es) [] pos) (tCallX X is sp E t) := by
  refine ⟨fun pins s σ H Q I h => ?_⟩
  refine wpAny_Call_Name_kw (ld_glob I hg hm ?_ hdb)
  refine PySem.W.callWith_K (h₀ := X.base) I.ok.mod.kin hk (thn (ha.run pos pins s σ H _ I h) fun us s1 ⟨vs, H1, I1, r, q⟩ => ⟨I1.kIn, ?_⟩) he hpl
  exact run_spX F hr hb hx O I1 r q
theorem pe_methX {pl : Sem Bool} (he : PE X o ta) (c : Cls X.K C) (hm : Meth X.K C m f) (F : FnOk X.prog X.w X.K X.mg X.base (L2.CX X.prog X.w) k f fd ps sp) (hr : Room k X.A) (hb : Binds X.K fd ps []) (hx : Passes (L2.CX X.prog X.w) X E) (O : Owns X is) (ha : PA X (e :: es) t)
    (hst : starEach (e :: es) X.env = (false, eval e X.env) :: starEach es X.env := by rfl) (hpl : (backTo pos (starEach es X.env)).any (·.1) = false := by rfl)
    (ht : eval (.Call (.Attribute o m apos) (e :: es) [] pos) X.env = (do
      let ov ← eval o X.env
      standAt apos.atName
      let (f, first) ← holding [ov] (getMethod ov m pl)
      callWith pos f first (backTo pos (starEach (e :: es) X.env)) (backToKw pos (keywordEach [] X.env))) := by rfl) :
    PE X (.Call (.Attribute o m apos) (e :: es) [] pos) (tMethX X is C m sp E ta t) := by
  refine ⟨fun pins s σ H Q I h => ?_⟩
  refine PySem.W.methodCall_KW (pl := pl) (thn (he.run pins s σ H _ I h) fun u s1 ⟨x, H1, I1, rx, a, dx, fs, ex, ea, l, q⟩ => ?_) ht
  subst ex
  obtain rfl : u = Value.ref a := rx
  refine getmeth_ok I1 ea c hm l ?_
  refine PySem.W.callWith_K (first := [.ref a]) (h₀ := X.base) I.ok.mod.kin hm.kp (thn (ha.run pos pins s1 σ H1 _ I1 q) fun us s2 ⟨vs, H2, I2, r, q2⟩ => ⟨I2.kIn, ?_⟩) hst hpl
  exact run_spX (us := .ref a :: us) (vs := .ref a :: vs) F hr hb hx O I2 (.cons rfl r) q2
end
section
variable {ω : Type} {tb : Tb} {p : Prom ω}
theorem sp_mono {vs : List V} {H : Hp} {Q Q' : VK} {E E' : XK} (h : p.sp tb vs H Q E) (kQ : ∀ v H, Q v H → Q' v H) (kE : ∀ c d H, E c d H → E' c d H) : p.sp tb vs H Q' E' := by
  obtain ⟨o, F, h1, h2, h3, h4, h5⟩ := h
  exact ⟨o, F, h1, h2, h3, fun v F' H' C' ρ r S o => kQ _ _ (h4 v F' H' C' ρ r S o), fun c d F' H' C' r S => kE _ _ _ (h5 c d F' H' C' r S)⟩
/-- what must follow a call that showed cs -/
def AwayX (j : J) (p : Prom ω) (o : ω) (Cr : List Cell) (cs : List (Addr × Pr)) (R : Ps) : Prop := (∀ C' ρ, p.R o C' ρ → ∃ C'', (C' ++ Cr).Perm (capsC cs ++ C'') ∧ R C'' ρ) ∧ ∀ cls C', p.XP o cls C' → ∃ C'', (C' ++ Cr).Perm (capsC cs ++ C'') ∧ j.XP cls C''
variable {j : J} {Γ : Gm} {C : List Cell} {R : Ps} {pos ppos apos : Pos} {e ob : Expr} {es : List Expr} {x : Str} {k : Nat} {f : Addr} {fd : FuncData} {ps : List Str} {is : List (Nat × Str)}
theorem sp_callX {Φ : Fx} {σ : L2.St} {F H : Hp} {Q : VK} {vs : List V} {o : ω} {Cr : List Cell} {cs : List (Addr × Pr)} (S : Sta j.tb Φ Γ C σ F H) (K : Kv j Φ Γ σ F R Q) (hp : p.pre o) (ha : AllOn (p.ps o) F vs) (hcs : Paired (CapR j.X Γ) is cs)
    (hc : (capsC cs ++ C).Perm (p.C o ++ Cr)) (aw : AwayX j p o Cr cs R) : spX j.X is (p.sp j.tb) (fun cls _ H => ∃ C F, j.XP cls C ∧ Sta j.tb Φ [] C [] F H) σ vs H Q := by
  intro L hs nd hn
  have hk := caps_ok S.env hs hcs
  have S1 := S.shw hk hn nd
  have h0 : ∀ p ∈ L, Φ.H0 p.1 = none := fun p hp => S.there _ (hn p hp)
  have K1 : Kv j Φ Γ σ F (fun C' ρ => ∃ C'', C'.Perm (capsC cs ++ C'') ∧ R C'' ρ) (QX L Q) := fun v F' H' C' ρ ⟨C'', pm, r⟩ S' s' o' hL => K v F' _ C'' ρ r ((S'.perm pm).hid (hk.mono s') hL h0) s' o'
  have S2 := S1.perm hc
  exact ⟨o, F, hp, ha, S2.part, fun v F' H' C' ρ r S' o' => K1 v F' H' _ ρ (aw.1 C' ρ r) (S2.join S') S'.base o', fun cls d F' H' C' r S' hL => by
    obtain ⟨C'', pm, x⟩ := aw.2 cls C' r
    exact ⟨C'', F', x, (((S2.join S').perm pm).hid (hk.mono S'.base) hL h0).noenv⟩⟩
/-- f(e, ..), a closure among what is handed -/
theorem ev_callX (is : List (Nat × Str)) (Fn : FnOk j.X.prog j.X.w j.X.K j.X.mg j.X.base (L2.CX j.X.prog j.X.w) k f fd ps (p.sp j.tb)) (hr : Room k j.X.A) (hm : j.X.mg x = some (.ref f)) (hk : PySem.W.keepIn j.X.K (.ref f) = true) (hb : Binds j.X.K fd ps []) (O : Owns j.X is)
    (h : Ea j Γ C (e :: es) fun C1 qs => ∃ o Cr cs, Paired (CapR j.X Γ) is cs ∧ p.pre o ∧ qs = p.ps o ∧ (capsC cs ++ C1).Perm (p.C o ++ Cr) ∧ AwayX j p o Cr cs R)
    (hg : Gl j.X x := by rfl) (hdb : (x == ("__debug__" : Str)) = false := by decide) (he : starEach (e :: es) j.X.env = (false, eval e j.X.env) :: starEach es j.X.env := by rfl) (hpl : (backTo pos (starEach es j.X.env)).any (·.1) = false := by rfl) :
    Ev j Γ C (.Call (.Name x ppos) (e :: es) [] pos) R := fun Φ σ F H Q xw S K =>
  we_of (pe_callX Fn hr hg hm hk hb (takes_w xw) O pa_wa hdb he hpl) (h Φ σ F H _ xw S fun vs F1 H1 C1 qs ⟨o, Cr, cs, hcs, hp, eq, hc, aw⟩ S1 s1 o1 => by
    subst eq
    exact sp_callX S1 (K.same s1) hp o1 hcs hc aw)
/-- o.m(e, ..) -/
theorem ev_methX (is : List (Nat × Str)) {Cl : Addr} {m : Str} (Fn : FnOk j.X.prog j.X.w j.X.K j.X.mg j.X.base (L2.CX j.X.prog j.X.w) k f fd ps (p.sp j.tb)) (hr : Room k j.X.A) (cl : Cls j.X.K Cl) (hm : Meth j.X.K Cl m f) (hb : Binds j.X.K fd ps []) (O : Owns j.X is)
    (h : Ev j Γ C ob fun C0 q0 => InsOk j C0 q0 Cl m ∧ Ea j Γ C0 (e :: es) fun C1 qs => ∃ o Cr cs, Paired (CapR j.X Γ) is cs ∧ p.pre o ∧ q0 :: qs = p.ps o ∧ (capsC cs ++ C1).Perm (p.C o ++ Cr) ∧ AwayX j p o Cr cs R) {pl : Sem Bool}
    (hst : starEach (e :: es) j.X.env = (false, eval e j.X.env) :: starEach es j.X.env := by rfl) (hpl : (backTo pos (starEach es j.X.env)).any (·.1) = false := by rfl)
    (ht : eval (.Call (.Attribute ob m apos) (e :: es) [] pos) j.X.env = (do
      let ov ← eval ob j.X.env
      standAt apos.atName
      let (f, first) ← holding [ov] (getMethod ov m pl)
      callWith pos f first (backTo pos (starEach (e :: es) j.X.env)) (backToKw pos (keywordEach [] j.X.env))) := by rfl) :
    Ev j Γ C (.Call (.Attribute ob m apos) (e :: es) [] pos) R := fun Φ σ F H Q xw S K =>
  we_of (pe_methX pe_we cl hm Fn hr hb (takes_w xw) O pa_wa hst hpl ht) (h Φ σ F H _ xw S fun v F0 H0 C0 q0 ⟨io, ha⟩ S0 s0 o0 => by
    obtain ⟨a, dx, fs, ev, h1, h2⟩ := io _ _ _ _ _ _ _ S0 o0
    refine ⟨a, dx, fs, ev, h1, h2, ha Φ σ F0 H0 _ xw S0 fun vs F1 H1 C1 qs ⟨o, Cr, cs, hcs, hp, eq, hc, aw⟩ S1 s1 o1 => ?_⟩
    exact sp_callX S1 (K.same (s0.trans s1)) hp (by rw [← eq]; exact .cons (q0.mono s1 o0) o1) hcs hc aw)
end
end Z

end
section
set_option Elab.async false
set_option linter.all false
set_option maxRecDepth 100000
/-! Z16: cells reordered and dropped, targets, displays, more loops, try. -/
namespace Z
open PySem PySem.Spec PyProof.Rows L2
open PySem.W (Datum Tup)
open Rep (pr)
section
variable {tb : Tb} {Φ : Fx} {Γ : Gm} {C C' D' : List Cell} {σ : L2.St} {F H : Hp} {D : Addr} {o u : HO}
theorem Sta.drop (S : Sta tb Φ Γ (C ++ D') σ F H) : Sta tb Φ Γ C σ F H :=
  ⟨S.env, ⟨fun c hc => S.cells.at_ c (List.mem_append_left _ hc), by
    have nd := S.cells.nd
    rw [List.map_append] at nd
    exact (List.nodup_append.mp nd).1⟩, S.subx, S.fine, S.tab, S.base, S.fresh, S.keep, fun c hc => S.own c (List.mem_append_left _ hc), S.there⟩
theorem Sta.keepC (S : Sta tb Φ Γ C σ F H) (p : C.Perm (C' ++ D')) : Sta tb Φ Γ C' σ F H := (S.perm p).drop
/-- what stands beside becomes a cell -/
theorem Sta.besideC (S : Sta tb Φ Γ C σ F H) {c : Cell} (hD : H c.a = some o) (hF : F c.a = none) (h0 : Φ.H0 c.a = none) (hC : c.a ∉ C.map (·.a)) (ho : c.on F o) : Sta tb Φ Γ (c :: C) σ F H := by
  refine ⟨S.env, ⟨fun d hd => ?_, ?_⟩, S.subx, S.fine, S.tab, S.base, S.fresh, S.keep, fun d hd => ?_, S.there⟩
  · rcases List.mem_cons.mp hd with z | z
    · subst z
      exact ⟨o, hD, ho, hF⟩
    · exact S.cells.at_ d z
  · rw [List.map_cons, List.nodup_cons]
    exact ⟨hC, S.cells.nd⟩
  · rcases List.mem_cons.mp hd with z | z
    · subst z
      exact .inr h0
    · exact S.own d z
/-- what a step keeps beside -/
theorem Sta.besideKeep {Γ2 : Gm} {C1 C2 : List Cell} {σ2 : L2.St} {F1 F2 H1 H2 : Hp} (S' : Sta tb (Fx.of F1 H1 C1) Γ2 C2 σ2 F2 H2) (h1 : H1 D = some o) (nt : NoTbl o) (ntu : ∀ xs, o ≠ .tup xs) (h2 : F1 D = none) (h3 : D ∉ C1.map (·.a)) : H2 D = some o ∧ F2 D = none ∧ D ∉ C2.map (·.a) := by
  refine ⟨S'.keep D _ h1 nt h3, ?_, fun z => ?_⟩
  · cases e : F2 D with
    | none => rfl
    | some w =>
      rcases S'.fresh.fr D w e h2 with this | ⟨xs, _, this⟩
      · rw [show (Fx.of F1 H1 C1).H0 D = H1 D from rfl, h1] at this
        cases this
      · rw [show (Fx.of F1 H1 C1).H0 D = H1 D from rfl, h1] at this
        exact absurd (Option.some.inj this) (ntu xs)
  · obtain ⟨c, hc, ec⟩ := List.mem_map.mp z
    rcases S'.own c hc with w | w
    · rw [ec] at w; exact h3 w
    · rw [ec, show (Fx.of F1 H1 C1).H0 D = H1 D from rfl, h1] at w; cases w
end
section
variable {ω : Type} {j : J} {Γ Γ' : Gm} {C C' D' : List Cell} {R : Ps} {p q : Pr} {ps qs : List Pr} {P : Po} {rest body : List Stmt} {pos pos' pos2 : Pos} {e a b o ke : Expr} {es : List Expr} {sts : List Stmt}
theorem tr_keep (h : C.Perm (C' ++ D')) (t : Tr j Γ C' sts P) : Tr j Γ C sts P := fun Φ σ F H x S => t Φ σ F H x (S.keepC h)
theorem ev_keep (h : C.Perm (C' ++ D')) (t : Ev j Γ C' e R) : Ev j Γ C e R := fun Φ σ F H Q x S K => t Φ σ F H Q x (S.keepC h) K
theorem tr_perm (h : C.Perm C') (t : Tr j Γ C' sts P) : Tr j Γ C sts P := fun Φ σ F H x S => t Φ σ F H x (S.perm h)
theorem ev_perm (h : C.Perm C') (t : Ev j Γ C' e R) : Ev j Γ C e R := fun Φ σ F H Q x S K => t Φ σ F H Q x (S.perm h) K
/-- behind a value, cells reordered -/
theorem ev_end (h : Ev j Γ C e fun C1 z => ∃ C2 D2, C1.Perm (C2 ++ D2) ∧ R C2 z) : Ev j Γ C e R := fun Φ σ F H Q x S K =>
  h Φ σ F H Q x S fun v F1 H1 C1 z ⟨C2, D2, hp, r⟩ S1 s1 o1 => K v F1 H1 _ z r (S1.keepC hp) s1 o1
/-! ### targets -/
variable {N : Gm → List Cell → Prop}
theorem eg_lift {tg : Expr} {g : TG} (h : PG j.X tg g) (k : ∀ Φ σ F H v (Q : L2.St → Hp → Prop), XW j Φ → Sta j.tb Φ Γ C σ F H → p.on F v → (∀ Γ' C' σ' F' H', N Γ' C' → Sta j.tb Φ Γ' C' σ' F' H' → L2.Same F F' → Q σ' H') → g v σ H Q) : Eg j Γ C tg p N :=
  fun Φ σ F H v Q x S o K pins s u I r => h.run pins s σ H v u Q I r (k Φ σ F H v Q x S o K)
/-- o[k] = .. -/
theorem eg_sub (hu : j.X.A.units + 1 < cLine) {xo : Expr} (h : Ev j Γ C xo fun C2 r => Ev j Γ C2 ke fun C3 kp => SetOk j r kp p C3 fun C4 => N Γ C4)
    (ha : ∀ v, assign (.Subscript xo ke pos') j.X.env v = (do
      let ov ← holding [v] (eval xo j.X.env)
      let iv ← holding [v, ov] (eval ke j.X.env)
      standAt pos'
      holding [v, ov, iv] (setItem ov iv v)
      release [v, ov, iv] []) := by intro _; rfl) : Eg j Γ C (.Subscript xo ke pos') p N :=
  eg_lift (pg_sub pe_we pe_we (set_all hu) ha) fun Φ σ F H v Q x S o1 K => h Φ σ F H _ x S fun w F2 H2 C2 r r2 S2 s2 o2 => r2 Φ σ F2 H2 _ x S2 fun u F3 H3 C3 kp so S3 s3 o3 =>
    so _ _ _ _ _ _ _ _ _ _ S3 (r.mono s3 o2) o3 (p.mono (s2.trans s3) o1) fun C4 H4 t S4 => K _ _ _ _ _ t S4 (s2.trans s3)
/-- o.f = .. -/
def gFld (K : PySem.W.Frag) (to : TE) (f : Str) : TG := fun v σ H Q => to σ H fun x H1 => ∃ a C dx fs, x = .ref a ∧ H1 a = some (.ins C dx fs) ∧ Cls K C ∧ NoAttr K C f ∧ fs.length < 1000 ∧ Q σ (upd H1 a (.ins C dx (putF f v fs)))
theorem pg_fld {X : L2.Cx} {o : Expr} {to : TE} {f : Str} {pos : Pos} (ho : PE X o to) : PG X (.Attribute o f pos) (gFld X.K to f) := by
  refine ⟨fun pins s σ H v u Q I r h => ?_⟩
  rw [arm_assign_Attribute]
  refine wpAny_bind (wpAny_holding (thn (ho.run pins s σ H _ I h) fun ov s1 ⟨x, H1, I1, rx, a, C, dx, fs, ex, ea, c, n, l, q⟩ => ?_))
  subst ex
  obtain rfl : ov = Value.ref a := rx
  refine wpAny_bind (wpAny_standAt (wpAny_bind (wpAny_holding (setattr_ok I1 ea c n l r fun s3 I3 => ?_))))
  exact wpAny_release ⟨σ, _, I3, q⟩
theorem eg_fld (i : Nat) {f : Str} {Cl : Addr} {fns : List Str} (cl : Cls j.X.K Cl) (na : NoAttr j.X.K Cl f) (nd : fns.Nodup) (hn : fns[i]? = some f) (hl : fns.length < 1000)
    (h : Ev j Γ C o fun C2 q => ∃ m ps k, q = isR m ∧ C2[k]? = some (cI m Cl fns ps) ∧ N Γ (C2.set k (cI m Cl fns (ps.set i p)))) : Eg j Γ C (.Attribute o f pos') p N :=
  eg_lift (pg_fld pe_we) fun Φ σ F H v Q x S o1 K => h Φ σ F H _ x S fun w F2 H2 C2 q ⟨m, ps, k, ep, hc, t⟩ S2 s2 o2 => by
    subst ep
    obtain ⟨dx, fs, h1, n, h2⟩ := S2.ins (List.mem_of_getElem? hc)
    subst n
    refine ⟨m, Cl, dx, fs, o2, h1, cl, na, by simpa using hl, ?_⟩
    refine K _ _ _ _ _ t (S2.puti hc rfl h1 (fun _ z => nomatch z) ⟨dx, putF f v fs, rfl, ?_, ?_⟩) s2
    · rw [putF_at nd hn, map_set_self Prod.fst (by exact hn)]
    · rw [putF_at nd hn, map_set_snd]
      exact h2.set i (p.mono s2 o1)
/-- targets one after another -/
def EgL (j : J) (Γ : Gm) (C : List Cell) (ts : List Expr) (ps : List Pr) (N : Gm → List Cell → Prop) : Prop := ∀ Φ σ F H vs (Q : L2.St → Hp → Prop), XW j Φ → Sta j.tb Φ Γ C σ F H → AllOn ps F vs → (∀ Γ' C' σ' F' H', N Γ' C' → Sta j.tb Φ Γ' C' σ' F' H' → L2.Same F F' → Q σ' H') →
  ∀ (pins : Pins) (s : Shared) (us : List Value), Inv j.X pins σ H s → Vals vs us → wpAny (model j.X.prog j.X.w) j.X.A (assignInOrder ((assignEach ts j.X.env).map (·.2)) us) (fun _ s' => ∃ σ' H', Inv j.X pins σ' H' s' ∧ Q σ' H') j.X.xe s
theorem egl_nil (h : N Γ C) : EgL j Γ C [] [] N := fun Φ σ F H vs Q x S o K pins s us I r => by
  cases o
  cases r
  exact assignInOrder_nil ⟨σ, H, I, K _ _ _ _ _ h S (L2.Same.refl F)⟩
theorem egl_cons {t : Expr} {ts : List Expr} (h : Eg j Γ C t p fun Γ1 C1 => EgL j Γ1 C1 ts ps N) (hs : (assignEach (t :: ts) j.X.env).map (·.2) = assign t j.X.env :: (assignEach ts j.X.env).map (·.2) := by rfl) : EgL j Γ C (t :: ts) (p :: ps) N := fun Φ σ F H vs Q x S o K pins s us I r => by
  cases o with
  | cons o1 o2 =>
    cases r with
    | cons r1 r2 =>
      rw [hs]
      refine assignInOrder_cons ?_
      refine wpAny_mono (h Φ σ F H _ (fun σ' H' => ∃ Γ1 C1 F1, EgL j Γ1 C1 ts ps N ∧ Sta j.tb Φ Γ1 C1 σ' F1 H' ∧ L2.Same F F1) x S o1 (fun Γ1 C1 σ1 F1 H1 n S1 s1 => ⟨Γ1, C1, F1, n, S1, s1⟩) pins s _ I r1) (fun _ s' ⟨σ1, H1, I1, Γ1, C1, F1, n, S1, s1⟩ => ?_) fun _ _ h => h
      exact n Φ σ1 F1 H1 _ Q x S1 (AllOn.mono s1 o2) (fun Γ' C' σ' F' H' k S' s' => K Γ' C' σ' F' H' k S' (s1.trans s')) pins s' _ I1 r2
/-- (t, ..) = .. -/
theorem eg_tup {ts : List Expr} {k n : Nat} (hc : j.X.calm = true) (hp : TupOk j p ps) (hl : ps.length = n) (h : EgL j Γ C ts ps N) (hn : (assignEach ts j.X.env).length = n := by rfl) (hst : (assignEach ts j.X.env).findIdx? (·.1) = none := by rfl) : Eg j Γ C (.Tuple ts k pos) p N :=
  eg_lift (pg_tup (t := fun vs σ H Q => ∀ (pins : Pins) (s : Shared) (us : List Value), Inv j.X pins σ H s → Vals vs us → wpAny (model j.X.prog j.X.w) j.X.A (assignInOrder ((assignEach ts j.X.env).map (·.2)) us) (fun _ s' => ∃ σ' H', Inv j.X pins σ' H' s' ∧ Q σ' H') j.X.xe s) hc
    ⟨fun pins s σ H vs us Q I r h => h pins s us I r⟩ hn hst) fun Φ σ F H v Q x S o K => by
    obtain ⟨l, vs, ev, h1, h2⟩ := hp _ _ _ _ _ _ _ _ S o
    exact ⟨l, vs, ev, h1, by rw [← h2.length]; exact hl, h Φ σ F H vs Q x S h2 K⟩
/-- t = e, t any target -/
theorem tr_asg {t : Expr} (h : Ev j Γ C e fun C1 p => Eg j Γ C1 t p fun Γ2 C2 => Tr j Γ2 C2 rest P) (hs : swapsWithSole [t] e pos.line j.X.env = pure false := by rfl) (hw : swappedStores [t] e j.X.env = pure none := by rfl)
    (h1 : (assignEach [t] j.X.env).map (·.2) = [assign t j.X.env] := by rfl) : Tr j Γ C (.Assign [t] e pos :: rest) P :=
  tr_lift (ps_asg pe_we pg_wg hs hw h1) fun Φ σ F H x S => h Φ σ F H _ x S fun v F1 H1 C1 p g S1 s1 o1 => g Φ σ F1 H1 v _ x S1 o1 fun Γ2 C2 σ2 F2 H2 t2 S2 s2 => t2 Φ σ2 F2 H2 x S2
/-- x, y = a, b: two plain names -/
theorem tr_par (i k : Nat) {x y : Str} {px py pt pt2 : Pos} {kt k2 : Nat} (h : Ea j Γ C [a, b] fun C1 qs => ∃ p q, qs = [p, q] ∧ Tr j ((Γ.set i (some p)).set k (some q)) C1 rest P) (hc : j.X.calm = true) (hN : j.X.N.Nodup) (hik : i ≠ k)
    (hw : swappedStores [.Tuple [.Name x px, .Name y py] kt pt] (.Tuple [a, b] k2 pt2) j.X.env = pure (some [x, y]) := by rfl) (hi : j.X.N[i]? = some x := by rfl) (hk : j.X.N[k]? = some y := by rfl)
    (hx : j.X.env.scope.names.lookup x = some .local := by rfl) (hy : j.X.env.scope.names.lookup y = some .local := by rfl) (hs : swapsWithSole [.Tuple [.Name x px, .Name y py] kt pt] (.Tuple [a, b] k2 pt2) pos.line j.X.env = pure false := by rfl) :
    Tr j Γ C (.Assign [.Tuple [.Name x px, .Name y py] kt pt] (.Tuple [a, b] k2 pt2) pos :: rest) P :=
  tr_lift (ps_par hc hN hi hk hik hx hy pa_wa hw hs) fun Φ σ F H xw S => h Φ σ F H _ xw S fun vs F1 H1 C1 qs ⟨p, q, eq, t⟩ S1 s1 o1 => by
    subst eq
    obtain ⟨v, w, ev, o2, o3⟩ := all2 o1
    exact ⟨v, w, ev, t Φ _ F1 H1 xw ((S1.setv i o2).setv k o3)⟩
end
end Z

end
section
set_option Elab.async false
set_option linter.all false
set_option maxRecDepth 100000
/-! Z17: displays, loops over dicts and cells, data within tuples, or, try. -/
namespace Z
open PySem PySem.Spec PyProof.Rows L2
open PySem.W (Datum Tup)
open Rep (pr)
section
variable {ω : Type} {j : J} {Γ Γ' : Gm} {C C' D' : List Cell} {R : Ps} {p q : Pr} {ps qs : List Pr} {P : Po} {rest body : List Stmt} {pos pos' pos2 : Pos} {e a b o ke : Expr} {es : List Expr} {sts : List Stmt} {N : Gm → List Cell → Prop}
/-! ### {k: e, ..} -/
def EpL (j : J) (Γ : Gm) (C : List Cell) (trs : List (TE × TE)) (R : List Cell → List (Str × Pr) → Prop) : Prop := ∀ Φ σ F H (Q : List (V × V) → Hp → Prop), XW j Φ → Sta j.tb Φ Γ C σ F H →
  (∀ (kvs : List (Str × V)) F' H' C' kps, R C' kps → Sta j.tb Φ Γ C' σ F' H' → L2.Same F F' → Paired (fun (p : Str × Pr) (q : Str × V) => p.1 = q.1 ∧ p.2.on F' q.2) kps kvs → Q (kvs.map fun kv => (V.str kv.1, kv.2)) H') → tPairs trs σ H Q
theorem epl_nil {R : List Cell → List (Str × Pr) → Prop} (r : R C []) : EpL j Γ C [] R := fun Φ σ F H Q x S K => K [] F H C [] r S (L2.Same.refl F) .nil
theorem paired_mono {F F' : Hp} (s : L2.Same F F') : ∀ {kps : List (Str × Pr)} {kvs : List (Str × V)}, Paired (fun (p : Str × Pr) (q : Str × V) => p.1 = q.1 ∧ p.2.on F q.2) kps kvs → Paired (fun (p : Str × Pr) (q : Str × V) => p.1 = q.1 ∧ p.2.on F' q.2) kps kvs
  | _, _, .nil => .nil
  | p :: _, _, .cons a b => .cons ⟨a.1, p.2.mono s a.2⟩ (paired_mono s b)
theorem epl_cons {k : Str} {trs : List (TE × TE)} {R : List Cell → List (Str × Pr) → Prop} (h : Ev j Γ C e fun C1 q => EpL j Γ C1 trs fun C2 kps => R C2 ((k, q) :: kps)) : EpL j Γ C ((fun σ H Q => Q (.str k) H, We j.X e) :: trs) R := fun Φ σ F H Q x S K =>
  h Φ σ F H _ x S fun v F1 H1 C1 q r S1 s1 o1 => r Φ σ F1 H1 _ x S1 fun kvs F2 H2 C2 kps r2 S2 s2 o2 => K ((k, v) :: kvs) F2 H2 C2 _ r2 S2 (s1.trans s2) (.cons ⟨rfl, q.mono s2 o1⟩ o2)
def keyed (kps : List (Str × Pr)) : List (Key × Pr) := kps.map fun kv => (.inr kv.1, kv.2)
theorem merge_new : ∀ (more kvs : List (Key × V)), ((kvs ++ more).map Prod.fst).Nodup → mergeK kvs more = kvs ++ more
  | [], kvs, _ => by simp [mergeK]
  | p :: r, kvs, nd => by
    have h1 : putK kvs p.1 p.2 = kvs ++ [p] := by
      have nk : ¬ (kvs.any fun kv => decide (kv.1 = p.1)) = true := fun z => by
        obtain ⟨q, hq, e⟩ := List.any_eq_true.mp z
        have e : q.1 = p.1 := of_decide_eq_true e
        rw [List.map_append, List.nodup_append] at nd
        exact nd.2.2 q.1 (List.mem_map.mpr ⟨q, hq, rfl⟩) p.1 (by simp) e
      unfold putK
      rw [if_neg nk]
    show mergeK (putK kvs p.1 p.2) r = _
    rw [h1, merge_new r (kvs ++ [p]) (by simpa using nd)]
    simp
theorem paired_fst {F : Hp} : ∀ {kps : List (Str × Pr)} {kvs : List (Str × V)}, Paired (fun (p : Str × Pr) (q : Str × V) => p.1 = q.1 ∧ p.2.on F q.2) kps kvs → kvs.map Prod.fst = kps.map Prod.fst
  | _, _, .nil => rfl
  | _, _, .cons a b => by rw [List.map_cons, List.map_cons, paired_fst b, a.1]
theorem paired_kv {F : Hp} : ∀ {kps : List (Str × Pr)} {kvs : List (Str × V)}, Paired (fun (p : Str × Pr) (q : Str × V) => p.1 = q.1 ∧ p.2.on F q.2) kps kvs → KvOn (keyed kps) F (kvs.map fun kv => ((Sum.inr kv.1 : Key), kv.2))
  | _, _, .nil => .nil
  | _, _, .cons a b => .cons ⟨congrArg Sum.inr a.1, a.2⟩ (paired_kv b)
/-- a dict display with keys that are texts, as a cell -/
theorem ev_disp {keys : List (Option Expr)} {values : List Expr} {trs : List (TE × TE)} {ks : List Str} (hp : PPs j.X pos keys values trs) (h : EpL j Γ C trs fun C1 kps => kps.map Prod.fst = ks ∧ ∀ d, R (cK d (keyed kps) :: C1) (isR d)) (nd : ks.Nodup) (hk : ks.length ≤ 15)
    (hall : keys.all (·.isSome) = true := by rfl) (hl : keys.length = values.length := by rfl) (h0 : keys ≠ [] := by exact fun z => nomatch z) (h15 : keys.length ≤ 15 := by decide) : Ev j Γ C (.Dict keys values pos) R :=
  ev_lift (pe_disp hp hall hl h0 h15) fun Φ σ F H Q x S K d hd => by
    have S0 := S.beside (o := .dK []) hd
    have dC : d ∉ C.map (·.a) := fun z => by
      obtain ⟨c, hc, ec⟩ := List.mem_map.mp z
      obtain ⟨w, q1, _, _⟩ := S.cells.at_ c hc
      rw [ec, hd] at q1
      cases q1
    refine h (Fx.of F (upd H d (.dK [])) C) σ F _ _ (x.rebase S0) S0.rebase fun kvs F1 H1 C1 kps ⟨ek, r⟩ S1 s1 o1 => ?_
    obtain ⟨b1, b2, b3⟩ := S1.besideKeep upd_same (fun _ z => (nomatch z)) (fun _ z => (nomatch z)) (S.notF hd) dC
    have ln := Paired.length o1
    have S2 := S0.trans S1
    have hks : kvs.map Prod.fst = ks := (paired_fst o1).trans ek
    have kvO := paired_kv o1
    refine ⟨b1, kvs.map fun kv => ((Sum.inr kv.1 : Key), kv.2), by rw [List.map_map]; rfl, by rw [List.length_map, ← List.length_map (f := Prod.fst), hks]; exact hk, ?_⟩
    have em : mergeK [] (kvs.map fun kv => ((Sum.inr kv.1 : Key), kv.2)) = kvs.map fun kv => ((Sum.inr kv.1 : Key), kv.2) := by
      rw [merge_new _ [] ?_]
      · rfl
      · rw [List.nil_append, List.map_map]
        have e2 : (Prod.fst ∘ fun kv : Str × V => ((Sum.inr kv.1 : Key), kv.2)) = (fun y : Str => (Sum.inr y : Key)) ∘ Prod.fst := rfl
        rw [e2, ← List.map_map, hks]
        exact List.Pairwise.map _ (fun a b ne e => ne (Sum.inr.inj e)) nd
    rw [em]
    have h0 : Φ.H0 d = none := S.there d hd
    have S3 := S2.besideUpd (o := .dK (kvs.map fun kv => ((Sum.inr kv.1 : Key), kv.2))) b1 b2 h0 b3 (fun _ z => (nomatch z)) (fun _ z => (nomatch z))
    exact K _ _ _ _ _ (r d) (S3.besideC (c := cK d (keyed kps)) upd_same b2 h0 b3 ⟨_, rfl, kvO⟩) s1 rfl
/-! ### for over a cell's list, a tuple -/
theorem tr_forW {tg : Expr} {wi : TI} {n : Nat} (I : Nat → Gm → List Cell → Prop) (hi : PI j.X tg e wi)
    (k : ∀ Φ σ F H (R : It → Hp → Prop), XW j Φ → Sta j.tb Φ Γ C σ F H → (∀ (J : It) (G : Hp → Prop) (Y : Nat → Hp → V → Hp → Prop) C1 F1 H1, L2.Walk J n G Y → I 0 Γ C1 → Sta j.tb Φ Γ C1 σ F1 H1 →
      (∀ i Γ' C' σ' F' H', i ≤ n → I i Γ' C' → Sta j.tb Φ Γ' C' σ' F' H' → G H') →
      (∀ i x Γ' C' σ' F' H' H'', i < n → I i Γ' C' → Sta j.tb Φ Γ' C' σ' F' H' → Y i H' x H'' → ∃ q, H'' = H' ∧ q.on F' x ∧ Eg j Γ' C' tg q fun Γ2 C2 => Tr j Γ2 C2 body { nx := I (i + 1), ct := I (i + 1), bk := N, rt := P.rt }) → R J H1) → wi σ H R)
    (hd : ∀ Γ' C', I n Γ' C' → N Γ' C') (kr : ∀ Γ' C', N Γ' C' → Tr j Γ' C' rest P) (hp : PassesOwn (model j.X.prog j.X.w) j.X.A j.X.env j.X.xe) (hc : j.X.calm = true) (hs : ∀ x, foldedSetIterable e j.X.env x = pure x := by intro _; rfl) : Tr j Γ C (.For tg e body [] pos :: rest) P :=
  tr_lift (ps_for hp hc hi pg_wg pss_wb hs) fun Φ σ F H x S => k Φ σ F H _ x S fun J G Y C1 F1 H1 w i0 S1 hG hs => by
    refine for_it w (fun i σ H => ∃ Γ C F, I i Γ C ∧ Sta j.tb Φ Γ C σ F H) ⟨Γ, C1, F1, i0, S1⟩ (fun i σ' H' hi ⟨Γ', C', F', i', S'⟩ => hG i Γ' C' σ' F' H' hi i' S') ?_ ?_
    · rintro i y σ2 H2 H2' hi ⟨Γ2, C2, F2, i2, S2⟩ hy
      obtain ⟨q, e1, o, g⟩ := hs i y Γ2 C2 σ2 F2 H2 H2' hi i2 S2 hy
      subst e1
      refine g Φ σ2 F2 H2' y _ x S2 o fun Γ3 C3 σ3 F3 H3 t3 S3 s3 => ?_
      refine Wb.mono (t3 Φ σ3 F3 H3 x S3) (fun σ4 H4 h => h) (fun v4 H4 h => h) (fun σ4 H4 ⟨Γ4, C4, F4, n4, S4⟩ => kr Γ4 C4 n4 Φ σ4 F4 H4 x S4) fun σ4 H4 h => h
    · rintro σ2 H2 ⟨Γ2, C2, F2, i2, S2⟩
      exact kr Γ2 C2 (hd Γ2 C2 i2) Φ σ2 F2 H2 x S2
/-- for over a tuple -/
theorem tr_forT {tg : Expr} (I : Nat → Gm → List Cell → Prop) (N : Gm → List Cell → Prop)
    (k : Ev j Γ C e fun C1 p => ∃ ps, p = rT j.X.K ps ∧ I 0 Γ C1 ∧
      (∀ i q Γ' C', ps[i]? = some q → I i Γ' C' → Eg j Γ' C' tg q fun Γ2 C2 => Tr j Γ2 C2 body { nx := I (i + 1), ct := I (i + 1), bk := N, rt := P.rt }) ∧ (∀ Γ' C', I ps.length Γ' C' → N Γ' C'))
    (kr : ∀ Γ' C', N Γ' C' → Tr j Γ' C' rest P) (hp : PassesOwn (model j.X.prog j.X.w) j.X.A j.X.env j.X.xe) (hc : j.X.calm = true) (hs : ∀ x, foldedSetIterable e j.X.env x = pure x := by intro _; rfl) : Tr j Γ C (.For tg e body [] pos :: rest) P :=
  tr_lift (ps_for hp hc (pi_tup pe_we) pg_wg pss_wb hs) fun Φ σ F H x S => k Φ σ F H _ x S fun v F1 H1 C1 p ⟨ps, ep, i0, hs, hd⟩ S1 s1 o1 => by
    subst ep
    obtain ⟨al, vs, ev, hl, ho⟩ := o1
    refine ⟨al, ev, ⟨vs, S1.seqT hl⟩, for_it (walk_tup (K := j.X.K) (a := al) (xs := vs)) (fun i σ H => ∃ Γ C F, I i Γ C ∧ Sta j.tb Φ Γ C σ F H ∧ SqT j.X.K F al vs ∧ AllOn ps F vs) ⟨Γ, C1, F1, i0, S1, hl, ho⟩ (fun i σ H _ ⟨Γ', C', F', _, S', hl', _⟩ => S'.seqT hl') ?_ ?_⟩
    · rintro i y σ2 H2 H2' hi ⟨Γ2, C2, F2, i2, S2, hl2, ho2⟩ ⟨eH, hy⟩
      subst eH
      have hi' : i < ps.length := by rw [ho2.length]; exact hi
      obtain ⟨y', e1, e2⟩ := ho2.get (List.getElem?_eq_getElem hi')
      rw [hy] at e1
      cases e1
      refine hs i ps[i] Γ2 C2 (List.getElem?_eq_getElem hi') i2 Φ σ2 F2 H2' y _ x S2 e2 fun Γ3 C3 σ3 F3 H3 t3 S3 s3 => ?_
      refine Wb.mono (Tr.at t3 x S3) (fun σ4 H4 ⟨Γ4, C4, F4, n4, S4, s4⟩ => ?_) (fun v4 H4 ⟨Γ4, C4, F4, σ4, ρ4, r4, S4, o4, _⟩ => ⟨Γ4, C4, F4, σ4, ρ4, r4, S4, o4⟩) (fun σ4 H4 ⟨Γ4, C4, F4, n4, S4, s4⟩ => ?_) fun σ4 H4 ⟨Γ4, C4, F4, n4, S4, s4⟩ => ?_
      · exact ⟨Γ4, C4, F4, n4, S4, seqT_mono (s3.trans s4) hl2, ho2.mono (s3.trans s4)⟩
      · exact kr Γ4 C4 n4 Φ σ4 F4 H4 x S4
      · exact ⟨Γ4, C4, F4, n4, S4, seqT_mono (s3.trans s4) hl2, ho2.mono (s3.trans s4)⟩
    · rintro σ2 H2 ⟨Γ2, C2, F2, i2, S2, _, _⟩
      have hlen : ps.length = vs.length := ho.length
      rw [← hlen] at i2
      exact kr Γ2 C2 (hd Γ2 C2 i2) Φ σ2 F2 H2 x S2
/-! ### for over a dict's keys: the dict is locked meanwhile, nothing is raised -/
def jq (j : J) : J := ⟨j.X, j.tb, fun _ _ => False⟩
theorem Sta.lockD {tb : Tb} {Φ : Fx} {σ : L2.St} {F H : Hp} {k : Nat} {d : Addr} {kps : List (Key × Pr)} (S : Sta tb Φ Γ C σ F H) (hc : C[k]? = some (cK d kps)) : ∃ kvs, H d = some (.dK kvs) ∧ KvOn kps F kvs ∧ ∀ od, Sta tb Φ Γ (C.set k (cZ d od kvs kps)) σ F (upd H d (.frz od (.dK kvs))) := by
  obtain ⟨kvs, h1, h2⟩ := S.dic (List.mem_of_getElem? hc)
  exact ⟨kvs, h1, h2, fun od => S.puti hc rfl h1 (fun _ z => nomatch z) ⟨rfl, h2⟩⟩
theorem tr_forD {tg : Expr} (c : Nat) {d : Addr} {kps : List (Key × Pr)} (I : Obj → List (Key × V) → Nat → Gm → List Cell → Prop) (N : Gm → List Cell → Prop)
    (he : ∀ Γ' C' (R' : Ps), (∀ C'', C'' = C' → R' C'' (isR d)) → Γ' = Γ → Ev (jq j) Γ' C' e R') (hcell : C[c]? = some (cK d kps))
    (k : ∀ od kvs, kps.map Prod.fst = kvs.map Prod.fst → I od kvs 0 Γ (C.set c (cZ d od kvs kps)) ∧
      (∀ i kp Γ' C', kps[i]? = some kp → I od kvs i Γ' C' → cZ d od kvs kps ∈ C' ∧ Eg (jq j) Γ' C' tg (isV (kV kp.1)) fun Γ2 C2 => Tr (jq j) Γ2 C2 body { nx := I od kvs (i + 1), ct := I od kvs (i + 1), bk := fun Γ' C' => C'[c]? = some (cZ d od kvs kps) ∧ N Γ' (C'.set c (cK d kps)), rt := fun C' ρ => C'[c]? = some (cZ d od kvs kps) ∧ P.rt (C'.set c (cK d kps)) ρ }) ∧
      (∀ Γ' C', I od kvs kps.length Γ' C' → C'[c]? = some (cZ d od kvs kps) ∧ N Γ' (C'.set c (cK d kps))))
    (kr : ∀ Γ' C', N Γ' C' → Tr j Γ' C' rest P) (hp : PassesOwn (model j.X.prog j.X.w) j.X.A j.X.env j.X.xe) (hcm : j.X.calm = true) (hs : ∀ x, foldedSetIterable e j.X.env x = pure x := by intro _; rfl) : Tr j Γ C (.For tg e body [] pos :: rest) P :=
  tr_lift (ps_lock (ps_for hp hcm (pi_keys pe_we) pg_wg pss_wb hs)) fun Φ σ F H x S => by
    obtain ⟨kvs, h1, h2, h3⟩ := S.lockD hcell
    have xq : XW (jq j) Φ := xw_none fun _ _ z => z
    refine ⟨d, .dK kvs, h1, True.intro, fun od => ?_⟩
    obtain ⟨i0, turn, fin⟩ := k od kvs h2.keys
    have S1 := h3 od
    have un : ∀ {Γ' : Gm} {C' : List Cell} {σ' : L2.St} {F' H' : Hp}, C'[c]? = some (cZ d od kvs kps) → Sta j.tb Φ Γ' C' σ' F' H' → H' d = some (.frz od (.dK kvs)) ∧ Sta j.tb Φ Γ' (C'.set c (cK d kps)) σ' F' (upd H' d (.dK kvs)) := fun {Γ' C' σ' F' H'} hc S' => by
      obtain ⟨u, q1, ⟨q2, q3⟩, _⟩ := S'.cells.at_ _ (List.mem_of_getElem? hc)
      subst q2
      exact ⟨q1, S'.puti (c := cZ d od kvs kps) (c' := cK d kps) hc rfl q1 (fun _ z => nomatch z) ⟨kvs, rfl, q3⟩⟩
    refine he Γ (C.set c (cZ d od kvs kps)) (fun C'' p => C'' = C.set c (cZ d od kvs kps) ∧ p = isR d) (fun C'' e => ⟨e, rfl⟩) rfl Φ σ F _ _ xq S1 fun v F1 H1 C1 p ⟨e1, e2⟩ S2 s2 o2 => ?_
    subst e1
    subst e2
    have zin : (C.set c (cZ d od kvs kps))[c]? = some (cZ d od kvs kps) := List.getElem?_set_self (List.getElem?_eq_some_iff.mp hcell).1
    obtain ⟨z1, _⟩ := un zin S2
    refine ⟨d, od, o2, .inl ⟨kvs, z1, ?_⟩⟩
    refine for_it (walk_keys (d := d) (o := od) (kvs := kvs)) (fun i σ H => ∃ Γ C F, I od kvs i Γ C ∧ Sta j.tb Φ Γ C σ F H) ⟨Γ, _, F1, i0, S2⟩ (fun i σ' H' hi ⟨Γ', C', F', i', S'⟩ => ?_) ?_ ?_
    · by_cases hlt : i < kvs.length
      · have hlt' : i < kps.length := by rw [h2.len]; exact hlt
        obtain ⟨hz, _⟩ := turn i _ Γ' C' (List.getElem?_eq_getElem hlt') i'
        obtain ⟨u, q1, ⟨q2, q3⟩, _⟩ := S'.cells.at_ _ hz
        subst q2
        exact q1
      · have e : i = kps.length := by rw [h2.len]; omega
        subst e
        obtain ⟨hz, _⟩ := fin Γ' C' i'
        exact (un hz S').1
    · rintro i y σ2 H2 H2' hi ⟨Γ2, C2, F2, i2, S2'⟩ ⟨eH, k1, v1, hk, ey⟩
      subst eH
      subst ey
      have hi' : i < kps.length := by rw [h2.len]; exact hi
      obtain ⟨_, g⟩ := turn i _ Γ2 C2 (List.getElem?_eq_getElem hi') i2
      have ek : kps[i].1 = k1 := by
        have q := congrArg (fun l => l[i]?) h2.keys
        simp only [List.getElem?_map, hk, List.getElem?_eq_getElem hi', Option.map_some, Option.some.injEq] at q
        exact q
      refine g Φ σ2 F2 H2' _ _ xq S2' (by rw [ek]; exact rfl) fun Γ3 C3 σ3 F3 H3 t3 S3 s3 => ?_
      refine Wb.mono (t3 Φ σ3 F3 H3 xq S3) (fun σ4 H4 h => h) (fun v4 H4 ⟨Γ4, C4, F4, σ4, ρ4, ⟨hz, r4⟩, S4, o4⟩ => ?_) (fun σ4 H4 ⟨Γ4, C4, F4, ⟨hz, n4⟩, S4⟩ => ?_) fun σ4 H4 h => h
      · obtain ⟨z, S5⟩ := un hz S4
        exact ⟨z, Γ4, _, F4, σ4, ρ4, r4, S5, o4⟩
      · obtain ⟨z, S5⟩ := un hz S4
        exact ⟨z, kr Γ4 _ n4 Φ σ4 F4 _ x S5⟩
    · rintro σ2 H2 ⟨Γ2, C2, F2, i2, S2'⟩
      rw [← h2.len] at i2
      obtain ⟨hz, n2⟩ := fin Γ2 C2 i2
      obtain ⟨z, S5⟩ := un hz S2'
      exact ⟨z, kr Γ2 _ n2 Φ σ2 F2 _ x S5⟩
/-! ### or, as a value -/
theorem ev_orV (h : Ev j Γ C a fun C1 p => TruOk j Γ p C1 fun C2 x => C2 = C1 ∧ (x = true → R C1 p) ∧ (x = false → Ev j Γ C1 (.BoolOp .Or (b :: es) pos) R)) : Ev j Γ C (.BoolOp .Or (a :: b :: es) pos) R :=
  ev_lift (pe_orT pe_we pe_we) fun Φ σ F H Q x S K => h Φ σ F H _ x S fun v F1 H1 C1 p r S1 s1 o1 => by
    obtain ⟨k, h1, e, r1, r2⟩ := r Φ σ F1 H1 v S1 o1
    refine ⟨k, h1, ?_⟩
    cases k with
    | true => exact iteT (K _ _ _ _ _ (r1 rfl) S1 s1 o1)
    | false => exact iteF (r2 rfl Φ σ F1 H1 Q x S1 (K.same s1))
theorem ev_andV (h : Ev j Γ C a fun C1 p => TruOk j Γ p C1 fun C2 x => C2 = C1 ∧ (x = true → Ev j Γ C1 (.BoolOp .And (b :: es) pos) R) ∧ (x = false → R C1 p)) : Ev j Γ C (.BoolOp .And (a :: b :: es) pos) R :=
  ev_lift (pe_andT pe_we pe_we) fun Φ σ F H Q x S K => h Φ σ F H _ x S fun v F1 H1 C1 p r S1 s1 o1 => by
    obtain ⟨k, h1, e, r1, r2⟩ := r Φ σ F1 H1 v S1 o1
    refine ⟨k, h1, ?_⟩
    cases k with
    | true => exact iteT (r1 rfl Φ σ F1 H1 Q x S1 (K.same s1))
    | false => exact iteF (K _ _ _ _ _ (r2 rfl) S1 s1 o1)
/-! ### try: return e / except X: return 'x' -/
abbrev J.tr (j : J) (pn : List (Addr × Obj)) (xe : Value → Shared → Prop) (XP' : Value → List Cell → Prop) : J := ⟨j.X.tr pn xe, j.tb, XP'⟩
theorem tr_tryRet {x ret : Str} {k : Nat} {c : Value} {p1 p2 p3 p4 p5 : Pos} (XP' : Value → List Cell → Prop) (hs : j.X.stack = j.X.env :: j.X.outer) (hf : j.X.env.frame = some j.X.env.locals) (hc : Names j.X x c)
    (h : ∀ pn xe, Ev (j.tr pn xe XP') Γ C e P.rt) (hx : ∀ cls C', XP' cls C' → ∃ b, PySem.W.exmOne j.X.K cls c = some b ∧ (b = true → P.rt C' (isS ret)) ∧ (b = false → j.XP cls C')) :
    Tr j Γ C (.Try [.Return (some e) p1] [.ExceptHandler (some (.Name x p2)) none [.Return (some (.Constant (.str ret) k p3)) p4] p5] [] [] pos :: rest) P := fun Φ σ F H xw S => by
  refine wb_of (pss_cons (ps_try_only (X := j.X) (Wout := WXof j Φ) (tb := fun W D σ H => ∀ pn xe, Takes (j.X.tr pn xe) W → We (j.X.tr pn xe) e σ H D.rt) (ts := fun a cls d D σ H => D.rt (.str ret) H) hs hf hc xw (fun W pn xe tk _ => ?_) fun a oe cls d pn _ _ => pss_one (ps_ret pe_str)) pss_wb) ?_
  · exact ⟨fun pins s σ H D I h => (pss_one (ps_ret pe_we)).run pins s σ H D I (h pn xe tk)⟩
  · intro pn xe tk
    refine h pn xe Φ σ F H _ (Takes.imp tk fun cls d σ' H' ⟨C', F', r, S'⟩ => ?_) S fun v F' H' C' ρ r S' s' o' => ⟨Γ, C', F', σ, ρ, r, S', o'⟩
    obtain ⟨b, e1, e2, e3⟩ := hx cls C' r
    exact ⟨b, e1, fun hb _ _ => ⟨[], C', F', [], isS ret, e2 hb, S', rfl⟩, fun hb => ⟨C', F', e3 hb, S'⟩⟩
end
/-! ### data within a tuple -/
section
variable {j : J} {C : List Cell} {α β γ δ ε : Type} [DecidableEq α] [Datum α] [DecidableEq β] [Datum β] [DecidableEq γ] [Datum γ] [DecidableEq δ] [Datum δ] [DecidableEq ε] [Datum ε] {p1 p2 p3 p4 p5 : Pr}
theorem dat_T5 {a : α} {b : β} {c : γ} {d : δ} {e : ε} (h1 : DatOk j C p1 a) (h2 : DatOk j C p2 b) (h3 : DatOk j C p3 c) (h4 : DatOk j C p4 d) (h5 : DatOk j C p5 e) : DatOk j C (rT j.X.K [p1, p2, p3, p4, p5]) (⟨a, b, c, d, e⟩ : T5 α β γ δ ε) := fun tb Φ Γ σ F H v S ⟨l, vs, ev, h, o⟩ => by
  cases o with | cons o1 o => cases o with | cons o2 o => cases o with | cons o3 o => cases o with | cons o4 o => cases o with | cons o5 o =>
    cases o
    rw [ev]
    exact .tup (S.seqT h) (.cons (h1 _ _ _ _ _ _ _ S o1) (.cons (h2 _ _ _ _ _ _ _ S o2) (.cons (h3 _ _ _ _ _ _ _ S o3) (.cons (h4 _ _ _ _ _ _ _ S o4) (.cons (h5 _ _ _ _ _ _ _ S o5) .nil)))))
end
end Z

end
section
set_option Elab.async false
set_option linter.all false
set_option maxRecDepth 100000
/-! Z18: more cells, globals. -/
namespace Z
open PySem PySem.Spec PyProof.Rows L2
open PySem.W (Datum Tup)
open Rep (pr)
section
variable {j : J} {Γ : Gm} {C : List Cell} {R : Ps} {p q : Pr} {ps qs : List Pr} {P : Po} {rest : List Stmt}
/-- a slice as a new cell -/
theorem ok_slLC {a b : Option Int} (h : LstOk j C p ps) (r : ∀ m, R (cL m (cutP ps a b) :: C) (isR m)) : SlOk j Γ (rSlL j.X.K) p a b C R := fun Φ σ F H v Q x S o K => by
  obtain ⟨l, vs, e, h1, k1⟩ := h _ _ _ _ _ _ _ S o
  exact ⟨l, vs, e, h1, fun z hz => K.newCL S (r z) (k1.cut a b) hz⟩
theorem ea_perm {C' : List Cell} {es : List Expr} {R' : List Cell → List Pr → Prop} (h : C.Perm C') (t : Ea j Γ C' es R') : Ea j Γ C es R' := fun Φ σ F H Q x S K => t Φ σ F H Q x (S.perm h) K
theorem et_perm {C' : List Cell} {c : Expr} {R' : List Cell → Bool → Prop} (h : C.Perm C') (t : Et j Γ C' c R') : Et j Γ C c R' := fun Φ σ F H Q x S K => t Φ σ F H Q x (S.perm h) K
/-- a tuple of the module's top -/
theorem tup_G {W : Addr} {vs : List V} (h : ∀ H, SqT j.X.K H W vs) (o : ∀ F, AllOn ps F vs) : TupOk j (isR W) ps := fun tb Φ Γ C σ F H v S e => ⟨W, vs, e, h H, o F⟩
theorem tru_Lc (h : LstOk j C p ps) {R : List Cell → Bool → Prop} (r : R C (!ps.isEmpty)) : TruOk j Γ p C R := tru_L h r
end
end Z

end
section
set_option Elab.async false
set_option linter.all false
set_option maxRecDepth 100000
/-! Z19: a list comprehension whose block sees shown cells. -/
namespace Z
open PySem PySem.Spec PyProof.Rows L2
theorem hok_shw {P : Program} {w : World} {h : Heap} : ∀ {L : CL} {H : Hp}, HOk P w H h → (L.map Prod.fst).Nodup → (∀ p ∈ L, h.get? p.1 = some p.2 ∧ H p.1 = none) → HOk P w (shw L H) h
  | [], H, x, _, _ => x
  | p :: L, H, x, nd, hL => by
    rw [List.map_cons, List.nodup_cons] at nd
    exact hok_upd (hok_shw x nd.2 fun q hq => hL q (by simp [hq])) (by rw [shw_out nd.1]; exact (hL p (by simp)).2) (hL p (by simp)).1
theorem hok_hid {P : Program} {w : World} {h : Heap} : ∀ {L : CL} {H : Hp}, HOk P w H h → (L.map Prod.fst).Nodup → (∀ p ∈ L, H p.1 = some (frzC p.2)) → HOk P w (hid L H) h
  | [], H, x, _, _ => x
  | p :: L, H, x, nd, hL => by
    rw [List.map_cons, List.nodup_cons] at nd
    refine hok_hid (L := L) (H := del H p.1) (hok_del x (hL p (by simp))) nd.2 fun q hq => ?_
    rw [del_ne fun z => nd.1 (List.mem_map.mpr ⟨q, hq, z⟩)]
    exact hL q (by simp [hq])
theorem shw_none {L : CL} {H : Hp} {b : Addr} (h : shw L H b = none) : b ∉ L.map Prod.fst ∧ H b = none := by
  induction L with
  | nil => exact ⟨by simp, h⟩
  | cons p L ih =>
    unfold shw at h
    by_cases e : b = p.1
    · rw [e, upd_same] at h
      cases h
    · rw [upd_ne e] at h
      obtain ⟨h1, h2⟩ := ih h
      refine ⟨?_, h2⟩
      rw [List.map_cons, List.mem_cons, not_or]
      exact ⟨e, h1⟩
theorem un_hide {P : Program} {w : World} {fs ex : List Addr} {L : CL} {H H' : Hp} {h h' : Heap} (un : Un fs ex (shw L H) H' h h') (hL : ∀ p ∈ L, h.get? p.1 = some p.2 ∧ H p.1 = none ∧ p.1 ∉ fs) (hF : ∀ p ∈ L, H' p.1 = some (frzC p.2)) (hok : HOk P w H' h') : Un fs ex H (hid L H') h h' := by
  have inL : ∀ b, b ∈ L.map Prod.fst → ∃ p ∈ L, p.1 = b := fun b hb => let ⟨p, hp, e⟩ := List.mem_map.mp hb; ⟨p, hp, e⟩
  have out : ∀ b o, H b = some o → b ∉ L.map Prod.fst := fun b o e z => by
    obtain ⟨p, hp, ep⟩ := inL b z
    rw [← ep, (hL p hp).2.1] at e
    cases e
  refine ⟨fun b o e n h1 h2 => ?_, fun b o e n h1 h2 => ?_, fun b o e n h2 => ?_, un.there, fun b xs e => ?_, fun b o u e => ?_, fun b ps e => ?_⟩
  · by_cases hb : b ∈ L.map Prod.fst
    · obtain ⟨p, hp, ep⟩ := inL b hb
      rw [← ep] at e ⊢
      rw [(hL p hp).1] at e
      cases e
      exact (hok _ _ (hF p hp)).1
    · exact un.keep b o e (by rw [shw_out hb]; exact n) h1 h2
  · have hb : b ∉ L.map Prod.fst := fun z => by
      obtain ⟨p, hp, ep⟩ := inL b z
      exact (hL p hp).2.2 (by rw [ep]; exact h1)
    exact un.slot b o e (by rw [shw_out hb]; exact n) h1 h2
  · by_cases hb : b ∈ L.map Prod.fst
    · exact hid_in hb
    · rw [hid_out hb]
      exact un.free b o e (by rw [shw_out hb]; exact n) h2
  · rw [hid_out (out _ _ e)]
    exact un.tups b xs (by rw [shw_out (out _ _ e)]; exact e)
  · rw [hid_out (out _ _ e)]
    exact un.frzs b o u (by rw [shw_out (out _ _ e)]; exact e)
  · rw [hid_out (out _ _ e)]
    exact un.tbls b ps (by rw [shw_out (out _ _ e)]; exact e)
section
variable {X : L2.Cx} {pins : List (Addr × Obj)} {σ : L2.St} {H : Hp} {s s4 : Shared}
/-- the block's state, with cells of the frame around it shown -/
theorem blk_show {scope : Scope} {ce : Env} {fp : List Addr} {L : CL} (I : Inv (X.blk s H scope ce fp) [] σ H s4) (nd : (L.map Prod.fst).Nodup) (hL : ∀ p ∈ L, s4.heap.get? p.1 = some p.2 ∧ H p.1 = none ∧ p.1 ∉ frs X.stack ∧ X.base.get? p.1 = none)
    (hce : ∀ y c, ce.cells.lookup y = some c → c ∉ L.map Prod.fst) (hlo : ce.locals ∉ L.map Prod.fst) : Inv (X.blk s (shw L H) scope ce fp) [] σ (shw L H) s4 := by
  have ok := I.ok
  refine ⟨⟨ok.mod, ok.kind, ok.glob, ok.blt, ok.above, ok.inj, ok.has, ok.cab, ok.hd, ok.frames, ok.stk, ok.exf, fun b o e => ⟨(ok.bs b o e).1, ?_⟩, ok.bsz, ok.noex, ok.exfs, ok.funs, fun b hb => ?_⟩, I.os, I.bare,
    ⟨fun b o e n h1 h2 => I.base.keep b o e (shw_none n).2 h1 h2, fun b o e n h1 h2 => I.base.slot b o e (shw_none n).2 h1 h2, fun b o e n _ => n, I.base.there, fun b xs e => e, fun b o u e => e, fun b ps e => ⟨#[], by rw [Array.append_empty]; exact e⟩⟩, I.loc, I.cell, ?_, fun y c e => ?_, fun p hp => absurd (show p ∈ ([] : List (Addr × Obj)) ++ [] from hp) (by simp), hok_shw I.hok nd fun p hp => ⟨(hL p hp).1, (hL p hp).2.1⟩, I.len⟩
  · show shw L H b = none
    rw [shw_out fun z => ?_]
    · exact (ok.bs b o e).2
    · obtain ⟨p, hp, ep⟩ := List.mem_map.mp z
      have e : X.base.get? b = some o := e
      rw [← ep, (hL p hp).2.2.2] at e
      cases e
  · show shw L H b = none
    rw [shw_out fun z => ?_]
    · exact ok.frf b hb
    · obtain ⟨p, hp, ep⟩ := List.mem_map.mp z
      exact (hL p hp).2.2.1 (by rw [ep]; exact hb)
  · show shw L H ce.locals = none
    rw [shw_out hlo]
    exact I.free
  · rw [shw_out (hce y c e)]
    exact I.freeC y c e
/-- [elt for tg in iter if ..], the frame's cells of is shown meanwhile -/
def tLcX (X : L2.Cx) (is : List (Nat × Str)) (wi : TI) (g : TG) (tt : TT) (te : TE) (vs : List Nat) : TE := fun σ H Q => wi σ H fun J H1 => ∀ D, H1 D = none → ∀ L : CL, Paired (SlotR X σ) is L → (L.map Prod.fst).Nodup → (∀ p ∈ L, H1 p.1 = none ∧ p.1 ≠ D) →
  ∃ W : Nat → Nat → Hp → Prop, (∃ m, W 0 m (shw L (upd H1 D (.lst [])))) ∧ ∀ i m H, W i m H →
  (J.stop i H ∧ ((∀ p ∈ L, H p.1 = some (frzC p.2)) → Q (.ref D) (hid L H))) ∨ (J.go i H ∧ ∃ Nx : Hp → Prop, (∀ H', Nx H' → ∃ m', m' < m ∧ W (i + 1) m' H') ∧ ∀ x H', J.yld i H x H' → g x (wipe σ vs) H' fun σ2 H2 => wipe σ2 vs = wipe σ vs ∧ tt σ2 H2 fun b H3 =>
    if b = true then te σ2 H3 fun y H4 => ∃ acc, H4 D = some (.lst acc) ∧ acc.length < sizeLine ∧ Nx (upd H4 D (.lst (acc ++ [y]))) else Nx H3)
theorem pe_lcX {is : List (Nat × Str)} {elt tg iter : Expr} {ifs : List Expr} {scope : Scope} {own : List (Str × Nat)} {pos : Pos} {wi : TI} {g : TG} {tt : TT} {te : TE} (hc : X.calm = true) (hN : X.N.Nodup) (hi : PI X tg iter wi) (ok : BlkOk X.N X.env.scope scope own) (O : Owns X is) (hno : ∀ q ∈ is, (q.2, NameKind.free) ∉ scope.names)
    (hg : ∀ (s : Shared) (H : Hp) (C : Addr) (cl : List (Str × Addr)) (fp : List Addr), PG (X.blk s H scope (compEnvC scope cl C X.env) fp) tg g) (ht : ∀ (s : Shared) (H : Hp) (C : Addr) (cl : List (Str × Addr)) (fp : List Addr), PTs (X.blk s H scope (compEnvC scope cl C X.env) fp) ifs tt)
    (he : ∀ (s : Shared) (H : Hp) (C : Addr) (cl : List (Str × Addr)) (fp : List Addr), PE (X.blk s H scope (compEnvC scope cl C X.env) fp) elt te) (hs : ∀ x, foldedSetIterable iter X.env x = pure x := by intro _; rfl) :
    PE X (.ListComp elt [⟨tg, iter, ifs, 0⟩] scope pos) (tLcX X is wi g tt te (own.map (·.2))) := by
  refine ⟨fun pins s σ H Q I h => ?_⟩
  have hfree : ∀ y ∈ scope.names, y.2 = .free → ∃ c, X.env.cells.lookup y.1 = some c := fun y hy e => by
    rcases ok.free y hy e with z | z
    · exact I.ok.has _ (.inl z)
    · exact I.ok.has _ (.inr z)
  rw [eval_ListComp]
  refine wpAny_comprehension_free (use := none) rfl hs (closure_ok hfree) ok.kind (fun y hy e => by rw [ok.uniq y hy, e]) (thn (hi.run pins s σ H _ I h) fun xv s1 hx => thn hx fun itv s2 h2 => ?_)
  obtain ⟨it, fp, tn, J, H2, e, I2, T, st2, f2, q⟩ := h2
  subst e
  refine wpAny_newObj_type (newEnv_comp ?_) (by show 0 ≤ sizeLine; decide)
  -- the new list at D
  obtain ⟨D, hD⟩ : ∃ D : Addr, D = s2.heap.objs.size := ⟨_, rfl⟩
  obtain ⟨s3, hs3⟩ : ∃ s3 : Shared, s3 = ({ s2 with heap := s2.heap.push { cls := .type "list", data := .seq ([] : List Value).toArray } } : Shared) := ⟨_, rfl⟩
  have h3 : s3.heap = s2.heap.push { cls := .type "list", data := .seq ([] : List Value).toArray } := by rw [hs3]
  have hDn : H2 D = none := I2.hok.fresh (Nat.le_of_eq hD.symm)
  have keepL : ∀ b o, s2.heap.get? b = some o → s3.heap.get? b = some o := fun b o e => by
    rw [h3]
    exact Heap.get?_push_of_some _ e
  have I3 : Inv X pins σ (upd H2 D (.lst [])) s3 := by
    have z := I2.laid (t' := s2.toks) (fun b o e => Heap.get?_push_of_some _ e) (Nat.le_refl _) (o := .lst []) (a := s2.heap.objs.size) (h' := s2.heap.push { cls := .type "list", data := .seq ([] : List Value).toArray }) ⟨Nat.zero_le _, [], 0, .nil, Heap.get?_push_size _ rfl⟩
    rw [hs3, hD]
    exact z
  have szf : ∀ b ∈ fp, b < s2.heap.objs.size := fun b hb => let ⟨_, e, _⟩ := T.obj _ _ st2 b hb; Heap.lt_size e
  have f3 : ∀ b ∈ fp, FpOk X pins (upd H2 D (.lst [])) b ∧ b < s3.heap.objs.size := fun b hb => by
    refine ⟨⟨?_, (f2 b hb).2⟩, by rw [h3, Heap.size_push]; exact Nat.lt_succ_of_lt (szf b hb)⟩
    rw [upd_ne (by rw [hD]; exact Nat.ne_of_lt (szf b hb))]
    exact (f2 b hb).1
  have st3 : tn 0 s3.heap := T.keep _ _ _ st2 fun b _ o e => keepL b o e
  rw [← hD, ← hs3]
  -- the shown cells
  obtain ⟨L, l1, l2, l3⟩ := inv_caps I3 O
  have lD : ∀ p ∈ L, H2 p.1 = none ∧ p.1 ≠ D := fun p hp => by
    have z := (l3 p hp).2.1
    by_cases e : p.1 = D
    · rw [e, upd_same] at z
      cases z
    · rw [upd_ne e] at z
      exact ⟨z, e⟩
  obtain ⟨W, ⟨m0, w0⟩, turn⟩ := q D hDn L l1 l2 lD
  have I4 := block_start I3 ok hN f3
  show codeAny _ _ (.compStart (.ListComp elt [⟨tg, iter, ifs, 0⟩] scope pos) 0 (.ref it) (.ref D) (compEnvC scope (cellsFrom (s3.heap.objs.size + 1) scope.names (cloFrom X.env.cells scope.names [])) s3.heap.objs.size X.env)) (compPost (model X.prog X.w) X.A X.xe none (EP X pins σ Q) (.ref D) s3.heap.objs.size) { s3 with heap := pushCells (s3.heap.push { cls := .type "dict", data := .dict #[] }) scope.names }
  obtain ⟨Hs, hHs⟩ : ∃ Hs : Hp, Hs = shw L (upd H2 D (.lst [])) := ⟨_, rfl⟩
  have pg := hg s3 Hs s3.heap.objs.size (cellsFrom (s3.heap.objs.size + 1) scope.names (cloFrom X.env.cells scope.names [])) fp
  have pt := ht s3 Hs s3.heap.objs.size (cellsFrom (s3.heap.objs.size + 1) scope.names (cloFrom X.env.cells scope.names [])) fp
  have pe := he s3 Hs s3.heap.objs.size (cellsFrom (s3.heap.objs.size + 1) scope.names (cloFrom X.env.cells scope.names [])) fp
  have hcl : (compEnvC scope (cellsFrom (s3.heap.objs.size + 1) scope.names (cloFrom X.env.cells scope.names [])) s3.heap.objs.size X.env).cells = cellsFrom (s3.heap.objs.size + 1) scope.names (cloFrom X.env.cells scope.names []) := rfl
  have cL : (compEnvC scope (cellsFrom (s3.heap.objs.size + 1) scope.names (cloFrom X.env.cells scope.names [])) s3.heap.objs.size X.env).locals = s3.heap.objs.size := rfl
  generalize compEnvC scope (cellsFrom (s3.heap.objs.size + 1) scope.names (cloFrom X.env.cells scope.names [])) s3.heap.objs.size X.env = ce at I4 pg pt pe hcl cL ⊢
  obtain ⟨s4, hs4⟩ : ∃ s4 : Shared, s4 = ({ s3 with heap := pushCells (s3.heap.push { cls := .type "dict", data := .dict #[] }) scope.names } : Shared) := ⟨_, rfl⟩
  rw [← hs4] at I4 ⊢
  have keep4 : ∀ b o, s3.heap.get? b = some o → s4.heap.get? b = some o := fun b o e => by
    rw [hs4]
    exact pushCells_keeps _ _ _ _ (Heap.get?_push_of_some _ e)
  have st4 : tn 0 s4.heap := T.keep _ _ _ st3 fun b _ o e => keep4 b o e
  have ltL : ∀ p ∈ L, p.1 < s3.heap.objs.size := fun p hp => Heap.lt_size (l3 p hp).1
  have inL : ∀ b, b ∈ L.map Prod.fst → ∃ p ∈ L, p.1 = b := fun b hb => let ⟨p, hp, e⟩ := List.mem_map.mp hb; ⟨p, hp, e⟩
  have I4s : Inv (X.blk s3 Hs scope ce fp) [] (wipe σ (own.map (·.2))) Hs s4 := by
    rw [hHs]
    refine blk_show I4 l2 (fun p hp => ⟨keep4 _ _ (l3 p hp).1, (l3 p hp).2.1, (l3 p hp).2.2.1, (l3 p hp).2.2.2⟩) (fun y c e z => ?_) fun z => ?_
    · obtain ⟨p, hp, ep⟩ := inL c z
      have lt := ltL p hp
      rw [hcl, ← Heap.size_push s3.heap { cls := .type "dict", data := .dict #[] }] at e
      rcases cells_mem (PySem.mem_of_lookup e) with hm | ⟨_, k2, _⟩
      · rcases cloFrom_mem hm with hm | ⟨k1, k2⟩
        · cases hm
        · -- y is captured by the block: it is one of is
          obtain ⟨c1, hc1⟩ := hfree _ k1 rfl
          have hc1 : X.env.cells.lookup y = some c1 := hc1
          have ec : c = c1 := by
            rw [k2, hc1]
            rfl
          have hmm : c ∈ is.map fun q => cellAt X q.2 := by
            rw [← slots_fst l1]
            exact z
          obtain ⟨q, hq, eq⟩ := List.mem_map.mp hmm
          obtain ⟨c2, hc2⟩ := I3.ok.has q.2 (.inl (O.ix q hq).2.2)
          have e2 : cellAt X q.2 = c2 := by unfold cellAt; rw [hc2]; rfl
          have e3 : c2 = c1 := by rw [← e2, eq, ec]
          rw [e3] at hc2
          have e4 := I3.ok.inj _ _ _ hc1 hc2
          rw [e4] at k1
          exact hno q hq k1
      · rw [Heap.size_push] at k2
        rw [ep] at lt
        exact absurd (Nat.lt_of_lt_of_le lt (Nat.le_of_succ_le k2)) (Nat.lt_irrefl _)
    · obtain ⟨p, hp, ep⟩ := inL _ z
      have lt := ltL p hp
      rw [ep, cL] at lt
      exact Nat.lt_irrefl _ lt
  have nfp : ∀ b ∈ fp, Hs b = none := fun b hb => by
    rw [hHs, shw_out fun z => ?_]
    · exact (f3 b hb).1.1
    · have hmm : b ∈ is.map fun q => cellAt X q.2 := by
        rw [← slots_fst l1]
        exact z
      obtain ⟨q, hq, eq⟩ := List.mem_map.mp hmm
      obtain ⟨c2, hc2⟩ := I3.ok.has q.2 (.inl (O.ix q hq).2.2)
      have e2 : cellAt X q.2 = c2 := by unfold cellAt; rw [hc2]; rfl
      exact (f3 b hb).1.2.2.2.2.1 _ _ hc2 (by rw [← e2]; exact eq)
  rw [← hHs] at w0
  have stat : ∀ {σ' : L2.St} {H' : Hp} {s' : Shared}, Inv (X.blk s3 Hs scope ce fp) [] σ' H' s' → (∀ b ∈ fp, H' b = none) → ∀ b ∈ fp, FpOk (X.blk s3 Hs scope ce fp) [] H' b := fun {σ' H' s'} I' hn b hb =>
    ⟨hn b hb, (I'.ok.exf b hb).1, I'.ok.exfs b hb, .inl hb, fun x c e => (I'.ok.exf b hb).2 x c e, fun p hp => absurd (show p ∈ ([] : List (Addr × Obj)) ++ [] from hp) (by simp)⟩
  have loop : codeAny (model X.prog X.w) X.A (.compLoop (.ListComp elt [⟨tg, iter, ifs, 0⟩] scope pos) 0 (.ref it) (.ref D) ce) (compPost (model X.prog X.w) X.A X.xe none (EP X pins σ Q) (.ref D) s3.heap.objs.size) s4 := by
    refine compLoop_any (fun n s' => ∃ i H', Inv (X.blk s3 Hs scope ce fp) [] (wipe σ (own.map (·.2))) H' s' ∧ tn i s'.heap ∧ (∀ b ∈ fp, H' b = none) ∧ W i n H') ?_ m0 ⟨0, Hs, I4s, st4, nfp, w0⟩
    rintro n s5 ⟨i, H5, I5, st5, n5, w5⟩
    rcases turn i n H5 w5 with ⟨stop, qq⟩ | ⟨go, Nx, hNx, step⟩
    · -- the end: the cells are hidden again
      refine thnF (T.done (X.blk s3 Hs scope ce fp) rfl rfl rfl hc i [] s5 _ H5 (fun _ _ => False) I5 (stat I5 n5) st5 stop) fun r s6 ⟨hr, I6⟩ => ?_
      subst hr
      have sees : ∀ p ∈ L, H5 p.1 = some (frzC p.2) := fun p hp => I6.base.frzs p.1 _ _ (by show Hs p.1 = _; rw [hHs]; exact shw_at l2 hp)
      have un : Un (frs X.stack) fp (upd H2 D (.lst [])) (hid L H5) s3.heap s6.heap := by
        have z : Un (frs X.stack) fp Hs H5 s3.heap s6.heap := I6.base
        rw [hHs] at z
        exact un_hide z (fun p hp => ⟨(l3 p hp).1, (l3 p hp).2.1, (l3 p hp).2.2.1⟩) sees I6.hok
      have I7 : Inv X pins σ (hid L H5) s6 := I3.call' (ch := fp) I6.os un (hok_hid I6.hok l2 sees) I6.bare fun b hb => ⟨(f3 b hb).1.2.2.2.1, (f3 b hb).1.2.1, (f3 b hb).1.2.2.2.2.1, (f3 b hb).1.2.2.2.2.2⟩
      have nC : hid L H5 s3.heap.objs.size = none := by
        refine hid_no ?_
        have z : H5 ce.locals = none := I6.free
        rw [cL] at z
        exact z
      obtain ⟨m, hn, _⟩ := I6.loc
      have hn : s6.heap.Ns ce.locals m := hn
      rw [cL] at hn
      refine ⟨m, hn, fun h'' sb => ?_⟩
      obtain ⟨g0, g1, g2, g3, g4, g5⟩ := I3.fpOk (H' := hid L H5) (Nat.le_refl _) nC
      exact ⟨.ref D, hid L H5, I7.turned (t' := s6.toks) (fun b o hb e => (sb.2 b hb).trans e) g0 g1 g3 g4 g5, rfl, qq sees⟩
    · refine thnF (T.item (X.blk s3 Hs scope ce fp) rfl rfl rfl hc i [] s5 _ H5 (fun _ _ => False) I5 (stat I5 n5) st5 go) fun r s6 ⟨u, hr, h6⟩ => ?_
      subst hr
      refine thnF h6 fun _ s7 ⟨x, H7, I7, r7, y7, st7, n7⟩ => ?_
      refine thnF (pg.run _ s7 _ H7 x u _ (I7.pinned (stat I7 n7) (T.obj _ _ st7)) r7 (step x H7 y7)) fun _ s8 ⟨σ8, H8, I8, hw8, q8⟩ => ?_
      refine thnF (pt.run _ s8 σ8 H8 _ I8 q8) fun bb s9 ⟨H9, I9, q9⟩ => ?_
      have fin : ∀ {s' : Shared} {H' : Hp}, Inv (X.blk s3 Hs scope ce fp) ([] ++ pinsAt fp s7.heap) σ8 H' s' → Nx H' → ∃ m, m < n ∧ ∃ i H', Inv (X.blk s3 Hs scope ce fp) [] (wipe σ (own.map (·.2))) H' s' ∧ tn i s'.heap ∧ (∀ b ∈ fp, H' b = none) ∧ W i m H' := fun {s' H'} I' nx => by
        obtain ⟨m', hm, w'⟩ := hNx H' nx
        have still : ∀ b ∈ fp, ∀ o, s7.heap.get? b = some o → s'.heap.get? b = some o ∧ H' b = none := fun b hb o e =>
          let z := I'.pin (b, o) (List.mem_append_right _ (List.mem_append_right _ (mem_pinsAt hb e)))
          ⟨z.1, z.2.1⟩
        refine ⟨m', hm, i + 1, H', (I'.unpinned (pins := [])).weak (by rw [← hw8, wipe_length]) (fun j v e => ?_), T.keep _ _ _ st7 fun b hb o e => (still b hb o e).1, fun b hb => ?_, w'⟩
        · rw [← hw8] at e
          exact (wipe_some e).1
        · obtain ⟨o, e, _⟩ := T.obj _ _ st7 b hb
          exact (still b hb o e).2
      cases bb with
      | false =>
        simp only [Bool.false_eq_true, if_false] at q9 ⊢
        exact fin I9 q9
      | true =>
        simp only [if_true] at q9 ⊢
        refine thnF (pe.run _ s9 σ8 H9 _ I9 q9) fun z s10 ⟨yv, H10, I10, r10, acc, hD10, hz10, nx⟩ => ?_
        exact app_ok (X := X.blk s3 Hs scope ce fp) I10 hD10 hz10 r10 fun s11 I11 => fin I11 nx
  exact codeAny_compStart_list loop (T.self X.A 0 _ _ _ st4 loop)
end
section
variable {j : J} {Γ : Gm} {C : List Cell} {R : Ps} {pos : Pos} {iter elt : Expr} {ifs : List Expr} {scope : Scope}
/-- [elt for x in e if ..], e a frozen list; the block sees the frame's cells of is -/
theorem ev_lcX (i : Nat) (is : List (Nat × Str)) {x : Str} {px : Pos} (O : Owns j.X is)
    (h : Ev j Γ C iter fun C1 p => ∃ ps, p = rL ps ∧ ∃ cs, Paired (CapR j.X Γ) is cs ∧ ∃ I : Nat → List Cell → List Pr → Prop, I 0 (capsC cs ++ C1) [] ∧ (∀ n q Ci acc, ps[n]? = some q → I n Ci acc → Turn1 j scope Γ i q Ci acc elt ifs fun C' acc' => I (n + 1) C' acc') ∧ ∀ Cn acc, I ps.length Cn acc → ∃ C'', Cn.Perm (capsC cs ++ C'') ∧ R C'' (rL acc))
    (hN : j.X.N.Nodup) (ok : BlkOk j.X.N j.X.env.scope scope [(x, i)]) (hno : ∀ q ∈ is, (q.2, NameKind.free) ∉ scope.names) (hc : j.X.calm = true)
    (hg : ∀ (s : Shared) (H : Hp) (Cc : Addr) (cl : List (Str × Addr)) (fp : List Addr), PG (j.X.blk s H scope (compEnvC scope cl Cc j.X.env) fp) (.Name x px) (gName i)) (hs : ∀ x, foldedSetIterable iter j.X.env x = pure x := by intro _; rfl) :
    Ev j Γ C (.ListComp elt [⟨.Name x px, iter, ifs, 0⟩] scope pos) R :=
  ev_lift (pe_lcX (own := [(x, i)]) hc hN (pi_list pe_we) ok O hno hg pts_wifB pe_weB hs) fun Φ σ F H Q xw S K => by
    refine h Φ σ F H _ xw S fun v F1 H1 C1 p ⟨ps, ep, cs, hcs, I, i0, turn, fin⟩ S1 s1 o1 => ?_
    subst ep
    obtain ⟨al, ys, ev, hl, hy⟩ := o1
    refine ⟨al, ev, ⟨ys, .inl (S1.sub _ _ hl)⟩, fun D hD L l1 l2 l3 => ?_⟩
    have h0 : Φ.H0 D = none := S1.there D hD
    have w1 : ∀ {F' H' : Hp} {C' : List Cell}, Sta j.tb Φ Γ C' σ F' H' → Sta j.tb Φ (Γ.set i none) C' (σ.set i none) F' H' := fun S' => ⟨S'.env.wipe1 i, S'.cells, S'.subx, S'.fine, S'.tab, S'.base, S'.fresh, S'.keep, S'.own, S'.there⟩
    have hk := caps_ok S1.env l1 hcs
    have hn : ∀ p ∈ L, upd H1 D (.lst []) p.1 = none := fun p hp => by
      rw [upd_ne (l3 p hp).2]
      exact (l3 p hp).1
    have SX := (S1.beside (o := .lst []) hD).shw hk hn l2
    have dL : D ∉ L.map Prod.fst := fun z => by
      obtain ⟨p, hp, e⟩ := List.mem_map.mp z
      exact (l3 p hp).2 e
    have dC : D ∉ (capsC cs ++ C1).map (·.a) := fun z => by
      rw [List.map_append, capsC_a, hk.fst] at z
      rcases List.mem_append.mp z with z | z
      · exact dL z
      · obtain ⟨c, hc, ec⟩ := List.mem_map.mp z
        obtain ⟨w, q1, _, _⟩ := S1.cells.at_ c hc
        rw [ec, hD] at q1
        cases q1
    have hD' : Z.shw L (upd H1 D (.lst [])) D = some (.lst []) := by rw [shw_out dL, upd_same]
    have wl := walk_list (K := j.X.K) (a := al) (xs := ys)
    have hlen : ps.length = ys.length := hy.length
    refine ⟨fun n m H => m = ys.length - n ∧ n ≤ ys.length ∧ ∃ C' acc F' vs, I n C' acc ∧ Sta j.tb Φ (Γ.set i none) C' (σ.set i none) F' H ∧ L2.Same F1 F' ∧ H D = some (.lst vs) ∧ F' D = none ∧ D ∉ C'.map (·.a) ∧ AllOn acc F' vs,
      ⟨ys.length, by simp, Nat.zero_le _, capsC cs ++ C1, [], F1, [], i0, w1 SX, L2.Same.refl _, hD', S1.notF hD, dC, .nil⟩, ?_⟩
    rintro n m H2 ⟨rfl, hn2, C2, acc, F2, vs, i2, S2, s2, d1, d2, d3, ha⟩
    have hsq : SqL j.X.K H2 al ys := .inl (S2.sub _ _ (s2 _ _ hl))
    by_cases hlt : n < ys.length
    · refine .inr ⟨wl.goes n H2 hlt hsq, fun H' => ∃ C' acc F' vs, I (n + 1) C' acc ∧ Sta j.tb Φ (Γ.set i none) C' (σ.set i none) F' H' ∧ L2.Same F1 F' ∧ H' D = some (.lst vs) ∧ F' D = none ∧ D ∉ C'.map (·.a) ∧ AllOn acc F' vs, fun H' p' => ⟨ys.length - (n + 1), by omega, rfl, hlt, p'⟩, fun y H' yl => ?_⟩
      obtain ⟨eH, hyn⟩ := wl.yields n H2 y H' hlt hsq yl
      subst eH
      have hn : n < ps.length := by omega
      obtain ⟨y', e1, e2⟩ := hy.get (List.getElem?_eq_getElem hn)
      rw [hyn] at e1
      cases e1
      refine ⟨by show (((σ.set i none).set i (some y)).set i none) = σ.set i none; rw [List.set_set, List.set_set], ?_⟩
      refine turn_read (turn n ps[n] C2 acc (List.getElem?_eq_getElem hn) i2) S2 (ps[n].mono s2 e2) d1 d2 h0 d3 ha fun C' acc' vs' F' H' n' S' s' f1 f2 f3 f4 => ?_
      exact ⟨C', acc', F', vs', n', S', s2.trans s', f1, f2, f3, f4⟩
    · have en : n = ys.length := by omega
      subst en
      refine .inl ⟨wl.stops H2 hsq, fun sees => ?_⟩
      rw [← hlen] at i2
      obtain ⟨C'', pm, r⟩ := fin C2 acc i2
      have S3 : Sta j.tb Φ Γ C2 σ F2 H2 := ⟨S1.env.mono s2, S2.cells, S2.subx, S2.fine, S2.tab, S2.base, S2.fresh, S2.keep, S2.own, S2.there⟩
      obtain ⟨S4, s4⟩ := S3.adopt d1 d2 h0 d3 ⟨fun _ z => (nomatch z), fun _ _ z => (nomatch z)⟩
      have S5 := (S4.perm pm).hid (hk.mono (s2.trans s4)) sees fun p hp => S1.there _ (l3 p hp).1
      exact K _ _ _ _ _ r S5 ((s1.trans s2).trans s4) ⟨D, vs, rfl, upd_same, ha.mono s4⟩
end
end Z

end
section
set_option Elab.async false
set_option linter.all false
set_option maxRecDepth 100000
/-! Z20: a def by its body, its code object known. -/
namespace Z
open PySem PySem.Spec PyProof.Rows L2
theorem def_okC {ω : Type} {p : Prom ω} {tb : Tb} {Pg : Program} {w : World} {K : PySem.W.Frag} {mg : Str → Option Value} {base : Heap} {st : Stmt} {name qual : Str} {N ps : List Str} {k : Nat} {f : Addr} {dV kV doc pm cdv ct oc : Value} {an od : Option Addr} {osl : Array (Option Value)}
    (lk : K.lookup f = some ⟨oc, od, .func (PySem.W.fnOf name qual (defArgs st) (defBody st) (defScope st) dV kV doc pm an cdv ct), osl⟩) (hcd : PySem.W.codeIn K cdv qual = true) (Sc : FnScope N ps (defScope st)) (len : ∀ o, (p.ps o).length = ps.length)
    (body : ∀ (o : ω) (A : Around) (outer : List Env) (s : Shared) (H : Hp) (E : XK), p.pre o → Room k (A.deeper (envOfC qual (defScope st) s.heap.objs.size f cdv)) →
      PassesOwn (model Pg w) (cxOf (L2.CX Pg w) Pg w K mg base N qual (defScope st) f cdv A outer s H E).A (cxOf (L2.CX Pg w) Pg w K mg base N qual (defScope st) f cdv A outer s H E).env (cxOf (L2.CX Pg w) Pg w K mg base N qual (defScope st) f cdv A outer s H E).xe →
      Tr ⟨cxOf (L2.CX Pg w) Pg w K mg base N qual (defScope st) f cdv A outer s H E, tb, p.XP o⟩ ((p.ps o).map some ++ List.replicate (N.length - ps.length) none) (p.C o) (defBody st) { rt := p.R o, nx := fun _ C => p.R o C isN }) :
    FnOk Pg w K mg base (L2.CX Pg w) (k + 1) f (PySem.W.fnOf name qual (defArgs st) (defBody st) (defScope st) dV kV doc pm an cdv ct) ps (p.sp tb) := by
  refine fn_of lk hcd Sc (fun vs H Q E h => ?_) (fun A outer s H vs Q E hr h => ?_)
  · obtain ⟨o, F, _, ha, _⟩ := h
    rw [← ha.length]
    exact len o
  · obtain ⟨o, F, hp, ha, S, kR, kX⟩ := h
    have tk : Takes (cxOf (L2.CX Pg w) Pg w K mg base N qual (defScope st) f cdv A outer s H E) (fun cls d _ H => E cls d H) := takes_of rfl rfl rfl rfl
    have t := body o A outer s H E hp hr (passes_of (K := fun e s'' => L2.CX Pg w outer H s E e s'') rfl)
    refine ⟨Wb _ (defBody st), pss_wb, ?_⟩
    have xw : XW ⟨cxOf (L2.CX Pg w) Pg w K mg base N qual (defScope st) f cdv A outer s H E, tb, p.XP o⟩ (Fx.of F H (p.C o)) := tk.imp fun cls d σ H' ⟨C', F', h1, S'⟩ => kX cls d F' H' C' h1 S'
    have hl : vs.length = ps.length := by rw [← ha.length]; exact len o
    have env : EnvOk ((p.ps o).map some ++ List.replicate (N.length - ps.length) none) F (L2.start N vs) := by
      unfold L2.start
      rw [hl]
      exact (EnvOk.all ha).app (EnvOk.nones _)
    refine (t _ _ F H xw (S.env' env)).mono (fun σ' H' ⟨Γ', C', F', n, S'⟩ => ?_) (fun v H' ⟨Γ', C', F', σ', ρ, r, S', o'⟩ => kR v F' H' C' ρ r S'.noenv o') (fun σ' H' ⟨Γ', C', F', n, S'⟩ => n.elim) fun σ' H' ⟨Γ', C', F', n, S'⟩ => n.elim
    exact kR .non F' H' C' isN n S'.noenv rfl
section
variable {j : J} {Γ : Gm} {C : List Cell} {R R' : Ps} {pos pos' pos2 : Pos} {a b c e : Expr} {P : Po} {st : Stmt} {rest body : List Stmt}
/-- for over a frozen list; the invariant by what the list is -/
theorem tr_forA {κ : Type} {tg : Expr} (I : κ → Nat → Gm → List Cell → Prop) (N : Gm → List Cell → Prop)
    (k : Ev j Γ C e fun C1 p => ∃ (y : κ) (ps : List Pr), p = rL ps ∧ I y 0 Γ C1 ∧
      (∀ i q Γ' C', ps[i]? = some q → I y i Γ' C' → Eg j Γ' C' tg q fun Γ2 C2 => Tr j Γ2 C2 body { nx := I y (i + 1), ct := I y (i + 1), bk := N, rt := P.rt }) ∧ (∀ Γ' C', I y ps.length Γ' C' → N Γ' C'))
    (kr : ∀ Γ' C', N Γ' C' → Tr j Γ' C' rest P) (hp : PassesOwn (model j.X.prog j.X.w) j.X.A j.X.env j.X.xe) (hc : j.X.calm = true) (hs : ∀ x, foldedSetIterable e j.X.env x = pure x := by intro _; rfl) : Tr j Γ C (.For tg e body [] pos :: rest) P :=
  tr_lift (ps_for hp hc (pi_list pe_we) pg_wg pss_wb hs) fun Φ σ F H x S => k Φ σ F H _ x S fun v F1 H1 C1 p ⟨y0, ps, ep, i0, hs, hd⟩ S1 s1 o1 => by
    subst ep
    obtain ⟨al, vs, ev, hl, ho⟩ := o1
    refine ⟨al, ev, ⟨vs, .inl (S1.sub _ _ hl)⟩, for_list (K := j.X.K) (a := al) (xs := vs) (fun i σ H => ∃ Γ C F, I y0 i Γ C ∧ Sta j.tb Φ Γ C σ F H ∧ F al = some (.lst vs) ∧ AllOn ps F vs) ⟨Γ, C1, F1, i0, S1, hl, ho⟩ (fun i σ H _ ⟨Γ', C', F', _, S', hl', _⟩ => .inl (S'.sub _ _ hl')) ?_ ?_⟩
    · rintro i y σ2 H2 hy ⟨Γ2, C2, F2, i2, S2, hl2, ho2⟩
      have hi : i < vs.length := (List.getElem?_eq_some_iff.mp hy).1
      have hi' : i < ps.length := by rw [ho2.length]; exact hi
      obtain ⟨y', e1, e2⟩ := ho2.get (List.getElem?_eq_getElem hi')
      rw [hy] at e1
      cases e1
      refine hs i ps[i] Γ2 C2 (List.getElem?_eq_getElem hi') i2 Φ σ2 F2 H2 y _ x S2 e2 fun Γ3 C3 σ3 F3 H3 t3 S3 s3 => ?_
      refine Wb.mono (Tr.at t3 x S3) (fun σ4 H4 ⟨Γ4, C4, F4, n4, S4, s4⟩ => ?_) (fun v4 H4 ⟨Γ4, C4, F4, σ4, ρ4, r4, S4, o4, _⟩ => ⟨Γ4, C4, F4, σ4, ρ4, r4, S4, o4⟩) (fun σ4 H4 ⟨Γ4, C4, F4, n4, S4, s4⟩ => ?_) fun σ4 H4 ⟨Γ4, C4, F4, n4, S4, s4⟩ => ?_
      · exact ⟨Γ4, C4, F4, n4, S4, (s3.trans s4) _ _ hl2, ho2.mono (s3.trans s4)⟩
      · exact kr Γ4 C4 n4 Φ σ4 F4 H4 x S4
      · exact ⟨Γ4, C4, F4, n4, S4, (s3.trans s4) _ _ hl2, ho2.mono (s3.trans s4)⟩
    · rintro σ2 H2 ⟨Γ2, C2, F2, i2, S2, _, _⟩
      have hlen : ps.length = vs.length := ho.length
      rw [← hlen] at i2
      exact kr Γ2 C2 (hd Γ2 C2 i2) Φ σ2 F2 H2 x S2
end
end Z

end
section
set_option Elab.async false
set_option linter.all false
set_option maxRecDepth 100000
/-! Z21: for over a text; ord. -/
namespace Z
open PySem PySem.Spec PyProof.Rows L2
section
variable {j : J} {Γ : Gm} {C : List Cell} {R R' : Ps} {pos pos' pos2 : Pos} {a b c e : Expr} {P : Po} {st : Stmt} {rest body : List Stmt}
/-- for over a text -/
theorem tr_forS (x : Str) {tg : Expr} (I : Nat → Gm → List Cell → Prop) (N : Gm → List Cell → Prop)
    (k : Ev j Γ C e fun C1 p => p = isS x ∧ I 0 Γ C1 ∧
      (∀ i ch Γ' C', x.cps[i]? = some ch → I i Γ' C' → Eg j Γ' C' tg (isS ⟨#[ch]⟩) fun Γ2 C2 => Tr j Γ2 C2 body { nx := I (i + 1), ct := I (i + 1), bk := N, rt := P.rt }) ∧ (∀ Γ' C', I x.cps.size Γ' C' → N Γ' C'))
    (kr : ∀ Γ' C', N Γ' C' → Tr j Γ' C' rest P) (hp : PassesOwn (model j.X.prog j.X.w) j.X.A j.X.env j.X.xe) (hc : j.X.calm = true) (hs : ∀ x, foldedSetIterable e j.X.env x = pure x := by intro _; rfl) : Tr j Γ C (.For tg e body [] pos :: rest) P :=
  tr_lift (ps_for hp hc (pi_str pe_we) pg_wg pss_wb hs) fun Φ σ F H xw S => k Φ σ F H _ xw S fun v F1 H1 C1 p ⟨ep, i0, hb, hd⟩ S1 s1 o1 => by
    subst ep
    have o1 : v = .str x := o1
    refine ⟨x, o1, for_it walk_str (fun i σ H => ∃ Γ C F, I i Γ C ∧ Sta j.tb Φ Γ C σ F H) ⟨Γ, C1, F1, i0, S1⟩ (fun _ _ _ _ _ => True.intro) ?_ ?_⟩
    · rintro i y σ2 H2 H2' hi ⟨Γ2, C2, F2, i2, S2⟩ ⟨eH, ch, hch, ey⟩
      subst eH
      refine hb i ch Γ2 C2 hch i2 Φ σ2 F2 H2' y _ xw S2 ey fun Γ3 C3 σ3 F3 H3 t3 S3 s3 => ?_
      refine Wb.mono (t3 Φ σ3 F3 H3 xw S3) (fun σ4 H4 h => h) (fun v4 H4 h => h) (fun σ4 H4 ⟨Γ4, C4, F4, n4, S4⟩ => kr Γ4 C4 n4 Φ σ4 F4 H4 xw S4) fun σ4 H4 h => h
    · rintro σ2 H2 ⟨Γ2, C2, F2, i2, S2⟩
      exact kr Γ2 C2 (hd Γ2 C2 i2) Φ σ2 F2 H2 xw S2
end
section
variable {j : J} {Γ : Gm} {C : List Cell} {R : Ps}
theorem ok_ord {ch : Nat} (r : R C (isI (ch : Nat))) : CallOk j Γ (fun xs H Q => ∃ x : Str, xs = [.str x] ∧ x.length = 1 ∧ Q (.int (x.cps.getD 0 0 : Nat)) H) [isS ⟨#[ch]⟩] C R := fun Φ σ F H vs Q x S o K => by
  obtain ⟨v, e, o⟩ := all1 o
  exact ⟨⟨#[ch]⟩, by rw [e, show v = .str ⟨#[ch]⟩ from o], rfl, K.now S r rfl⟩
end
end Z

end
section
set_option Elab.async false
set_option linter.all false
set_option maxRecDepth 100000
set_option maxHeartbeats 1000000
/-! Z22: generator expressions: their frame, one turn, the walk. -/
namespace Z
open PySem PySem.Spec PyProof.Rows L2
/-- the frame's words -/
abbrev gEnv (X : L2.Cx) (scope : Scope) (C : Addr) (code : Value) : Env := genEnv scope (cloFrom X.env.cells scope.names []) C code builtinsNs X.env
/-- the context in which its parts are read -/
abbrev gx (X : L2.Cx) (A : Around) (s : Shared) (H : Hp) (env : Env) (fp : List Addr) (pn : Pins) : L2.Cx :=
  { X with A := A, s_0 := s, H_0 := H, env := env, outer := X.stack, stack := env :: X.stack, ex := fp, fn := fun _ => false, calm := true, pn := pn, xe := fun _ _ => False }
section
variable {X : L2.Cx} {A : Around} {pins pn : Pins} {σ : L2.St} {H : Hp} {s s' : Shared} {scope : Scope} {own : List (Str × Nat)} {code : Value} {fp : List Addr}
theorem gx_cells (I : Inv X pins σ H s) (hfree : ∀ y ∈ scope.names, y.2 = .free → ∃ c, X.env.cells.lookup y.1 = some c) {y : Str} {c : Addr} (e : (cloFrom X.env.cells scope.names []).lookup y = some c) : X.env.cells.lookup y = some c ∧ c < s.heap.objs.size := by
  rcases cloFrom_mem (PySem.mem_of_lookup e) with h | ⟨h1, h2⟩
  · exact nomatch h
  · obtain ⟨c1, hc⟩ := hfree _ h1 rfl
    rw [hc] at h2
    have h2 : c = c1 := h2
    subst h2
    obtain ⟨v, z⟩ := I.cell _ _ hc
    exact ⟨hc, z.lt⟩
theorem gx_look (I : Inv X pins σ H s) (hfree : ∀ y ∈ scope.names, y.2 = .free → ∃ c, X.env.cells.lookup y.1 = some c) {y : Str} (h : scope.names.lookup y = some .free) : ∃ c, (cloFrom X.env.cells scope.names []).lookup y = some c ∧ X.env.cells.lookup y = some c := by
  obtain ⟨c, e⟩ := mem_lookup (cloFrom_has (cells := X.env.cells) (acc := []) (PySem.mem_of_lookup h))
  exact ⟨c, e, (gx_cells I hfree e).1⟩
theorem gx_start (I : Inv X pins σ H s) (ok : BlkOk X.N X.env.scope scope own) (hN : X.N.Nodup) (hcell : ∀ y ∈ scope.names, y.2 ≠ .cell) (hA : A.handled = none) (hfr : A.frames = some (gEnv X scope s.heap.objs.size code :: X.stack))
    (hfp : ∀ b ∈ fp, FpOk X pins H b ∧ b < s.heap.objs.size) (hns : ∃ m, s'.heap.Ns s.heap.objs.size m) (kp : ∀ b o, s.heap.get? b = some o → s'.heap.get? b = some o) (hos : s'.os = s.os) (hb : AllBare s'.gens)
    (hpn : ∀ p ∈ pn, s'.heap.get? p.1 = some p.2 ∧ s.heap.objs.size < p.1 ∧ ∀ v, p.2.data ≠ .cell v) : Inv (gx X A s H (gEnv X scope s.heap.objs.size code) fp pn) [] (wipe σ (own.map (·.2))) H s' := by
  have hfree : ∀ y ∈ scope.names, y.2 = .free → ∃ c, X.env.cells.lookup y.1 = some c := fun y hy e => by
    rcases ok.free y hy e with k | k
    · exact I.ok.has _ (.inl k)
    · exact I.ok.has _ (.inr k)
  have cel := fun {y c} e => gx_cells I hfree (y := y) (c := c) e
  have stk : ∀ b, b ∈ frs X.stack → b < s.heap.objs.size := fun b hb => by
    rcases List.mem_cons.mp (I.stkSub b hb) with z | z
    · rw [z]; exact I.lt
    · exact Nat.lt_of_not_le fun h => I.nofs h z
  refine ⟨⟨I.ok.mod, ok.kind, I.ok.glob, rfl, Nat.le_refl _, fun y z c e1 e2 => I.ok.inj y z c (cel e1).1 (cel e2).1, fun y hy => ?_, fun y c z _ => absurd z (by simp), fun _ => hA, hfr, .inr ⟨rfl, rfl⟩, fun b hb => ⟨Nat.ne_of_lt (hfp b hb).2, fun y c e z => (hfp b hb).1.2.2.2.2.1 y c (cel e).1 z⟩,
    I.bs, Nat.le_trans I.ok.bsz I.sz, fun b o e hb => ?_, fun b hb z => ?_, I.stack, I.stkFree⟩, hos, hb, Un.kept kp, ?_, fun y c e => ?_, I.hok.fresh (Nat.le_refl _), fun y c e => I.freeC y c (cel e).1, fun p hp => ?_, I.hok.kept kp, by rw [wipe_length]; exact I.len⟩
  · have hy : scope.names.lookup y = some .cell ∨ scope.names.lookup y = some .free := hy
    rcases hy with hy | hy
    · exact absurd rfl (hcell _ (PySem.mem_of_lookup hy))
    · obtain ⟨c, h1, _⟩ := gx_look I hfree hy
      exact ⟨c, h1⟩
  · rcases (hfp b hb).1.2.2.2.1 with z | z
    · exact I.ok.noex b o e z
    · exact absurd (Nat.lt_of_lt_of_le (Heap.lt_size e) (Nat.le_trans I.ok.bsz z)) (Nat.lt_irrefl _)
  · rcases List.mem_cons.mp (I.stkSub b z) with z | z
    · exact (hfp b hb).1.2.1 z
    · exact (hfp b hb).1.2.2.1 z
  · obtain ⟨m, hm⟩ := hns
    refine ⟨m, hm, fun i y v e1 e2 e3 => ?_⟩
    obtain ⟨e2, hne⟩ := wipe_some e2
    have no : ∀ k, scope.names.lookup y = some k → ¬ (k = .local ∨ k = .cell) := fun k e hh => by
      rcases ok.own _ (PySem.mem_of_lookup e) hh with q | q
      · obtain ⟨p, hp, hpy⟩ := List.mem_map.mp q
        have hpy : p.1 = y := hpy
        have e3 := ok.ix p hp
        rw [hpy] at e3
        exact hne (List.mem_map.mpr ⟨p, hp, nodup_ix hN e3 e1⟩)
      · exact q (List.mem_of_getElem? e1)
    have hfr2 : scope.names.lookup y = some .free := by
      have e3 : Vis scope y := e3
      rcases e3 with e3 | e3 | e3
      · exact absurd (.inl rfl) (no _ e3)
      · exact absurd (.inr rfl) (no _ e3)
      · exact e3
    have two := ok.free _ (PySem.mem_of_lookup hfr2) rfl
    obtain ⟨m0, _, hl⟩ := I.loc
    obtain ⟨u, r, q⟩ := hl i y v e1 e2 (two.elim (fun k => .inr (.inl k)) fun k => .inr (.inr k))
    refine ⟨u, r, .inr ⟨.inr hfr2, ?_⟩⟩
    obtain ⟨c, h1, h2⟩ := gx_look I hfree hfr2
    rcases q with ⟨k, _⟩ | ⟨_, c', e', z⟩
    · have k : X.env.scope.names.lookup y = some .local := k
      rcases two with k' | k' <;> (have k' : X.env.scope.names.lookup y = _ := k'; rw [k'] at k; cases k)
    · rw [h2] at e'
      cases e'
      exact ⟨c, h1, z.keeps kp⟩
  · obtain ⟨v, z⟩ := I.cell y c (cel e).1
    exact ⟨v, z.keeps kp⟩
  · have hp : p ∈ pn := by simpa using hp
    obtain ⟨h1, h2, h3⟩ := hpn p hp
    exact ⟨h1, I.hok.fresh (Nat.le_of_lt h2), Nat.ne_of_gt h2, fun z => absurd (stk _ z) (Nat.not_lt_of_lt h2), h3⟩
end
/-! ### the consumer -/
/-- between two turns it puts what came to what it holds -/
def Slp (ca : List Addr) (cs : List V → Pins → Prop) (ys : List V) (s s' : Shared) : Prop :=
  s'.os = s.os ∧ AllBare s'.gens ∧ (∀ b o, b ∉ ca → s.heap.get? b = some o → s'.heap.get? b = some o) ∧ ∃ pc, cs ys pc ∧ ∀ q ∈ pc, s'.heap.get? q.1 = some q.2 ∧ ∀ v, q.2.data ≠ .cell v
section
variable {X : L2.Cx} {ca : List Addr} {cs : List V → Pins → Prop} {pc ip : Pins} {σ : L2.St} {H : Hp} {s s' : Shared} {ys : List V}
theorem inv_slp (I : Inv X (pc ++ ip) σ H s) (hcs : ∀ ys p, cs ys p → p.map Prod.fst = ca) (hc : pc.map Prod.fst = ca) (hap : ∀ b ∈ ca, X.s_0.heap.objs.size ≤ b ∧ (∀ x c, X.env.cells.lookup x = some c → c ≠ b) ∧ ∀ p ∈ X.pn, p.1 ≠ b) (hip : ∀ p ∈ ip, p.1 ∉ ca)
    (z : Slp ca cs ys s s') : ∃ pc', cs ys pc' ∧ Inv X (pc' ++ ip) σ H s' := by
  obtain ⟨z1, z2, z3, pc', z4, z5⟩ := z
  have at_ : ∀ b ∈ ca, H b = none ∧ b ≠ X.env.locals ∧ b ∉ X.fs := fun b hb => by
    rw [← hc] at hb
    obtain ⟨p, hp, e⟩ := List.mem_map.mp hb
    obtain ⟨_, h2, h3, h4, _⟩ := I.pin p (List.mem_append_right _ (List.mem_append_left _ hp))
    rw [← e]
    exact ⟨h2, h3, h4⟩
  have I0 : Inv X ip σ H s := I.pins_of fun p hp => I.pin p (List.mem_append_right _ (List.mem_append_right _ hp))
  have trk : ∀ {b u}, H b = some u → b ∉ ca := fun {b u} e hb => by
    rw [(at_ b hb).1] at e
    cases e
  have J : Inv X ip σ H s' := by
    refine I0.call' (ch := ca) z1 ⟨fun b ob q _ _ hx => z3 b ob hx q, fun b ob q _ _ hx => ⟨ob.slots, z3 b ob hx q⟩, fun _ _ _ n _ => n, fun b ob q hx => ⟨ob, z3 b ob hx q⟩, fun _ _ q => q, fun _ _ _ q => q, fun _ ps q => ⟨#[], by rw [q]; simp⟩⟩ (fun b u q => ?_) z2 fun b hb => ?_
    · refine (I0.hok b u q).stay (fun c v hc y => z3 c v ?_ y) (fun _ y => y) fun _ _ y => y
      rcases hc with y | y
      · rw [y]; exact trk q
      · exact trk y
    · obtain ⟨a1, a2, a3⟩ := at_ b hb
      obtain ⟨b1, b2, b3⟩ := hap b hb
      refine ⟨.inr b1, a2, b2, fun p hp => ?_⟩
      rcases List.mem_append.mp hp with hp | hp
      · exact b3 p hp
      · exact fun e => hip p hp (by rw [e]; exact hb)
  refine ⟨pc', z4, J.pins_of fun p hp => ?_⟩
  rcases List.mem_append.mp hp with hp | hp
  · have hm : p.1 ∈ ca := by
      rw [← hcs ys pc' z4]
      exact List.mem_map.mpr ⟨p, hp, rfl⟩
    obtain ⟨a1, a2, a3⟩ := at_ _ hm
    exact ⟨(z5 p hp).1, a1, a2, a3, (z5 p hp).2⟩
  · exact J.pin p (List.mem_append_right _ hp)
end
/-! ### the walk -/
/-- one turn and what follows: W at the turn i, the measure m, what is out so far -/
def GWalk (J : It) (g : TG) (tt : TT) (te : TE) (vs : List Nat) (σ : L2.St) (step : List V → V → Hp → (Hp → Prop) → Prop) (fin : List V → Hp → Prop) (W : Nat → Nat → List V → Hp → Prop) : Prop := ∀ i m ys H, W i m ys H →
  (J.stop i H ∧ fin ys H) ∨ (J.go i H ∧ ∃ Nx : List V → Hp → Prop, (∀ ys' H', Nx ys' H' → ∃ m', m' < m ∧ W (i + 1) m' ys' H') ∧ ∀ x H', J.yld i H x H' → g x (wipe σ vs) H' fun σ2 H2 => wipe σ2 vs = wipe σ vs ∧ tt σ2 H2 fun b H3 =>
    if b = true then te σ2 H3 fun y H4 => step ys y H4 (Nx (ys ++ [y])) else Nx ys H3)
/-- an item is handed out -/
def GYld (X : L2.Cx) (ca : List Addr) (cs : List V → Pins → Prop) (step : List V → V → Hp → (Hp → Prop) → Prop) : Protocol := fun _ _ v s kap =>
  ∃ ys y H σ pc N, cs ys pc ∧ RelV y v ∧ Inv X pc σ H s ∧ step ys y H N ∧ ∀ s', Slp ca cs (ys ++ [y]) s s' → N H → kap (.send .none) s'
/-- the end -/
def GFin (X : L2.Cx) (cs : List V → Pins → Prop) (fin : List V → Hp → Prop) (s : Shared) : Prop := ∃ ys H σ pc, cs ys pc ∧ Inv X pc σ H s ∧ fin ys H
abbrev GEnd' (X : L2.Cx) (cs : List V → Pins → Prop) (fin : List V → Hp → Prop) : GenEnd := fun _ _ r s => r = .ok .next ∧ GFin X cs fin s
section
variable {X : L2.Cx} {A : Around} {tg iter elt : Expr} {ifs : List Expr} {scope : Scope} {pos : Pos} {it : Addr} {fp : List Addr} {tn : Nat → Heap → Prop} {J : It} {g : TG} {tt : TT} {te : TE} {vs : List Nat} {σ : L2.St}
  {ca : List Addr} {cs : List V → Pins → Prop} {step : List V → V → Hp → (Hp → Prop) → Prop} {fin : List V → Hp → Prop} {W : Nat → Nat → List V → Hp → Prop}
theorem seg_gx (hA : A.over (.compLoop (.GeneratorExp elt [⟨tg, iter, ifs, 0⟩] scope pos) 0 (.ref it) .none X.env) [] = X.A) (hx : ∀ e s, ¬ X.xe e s) (hc : X.calm = true) (hco : X.env.scope.isCoroutine = false)
    (hcs : ∀ ys p, cs ys p → p.map Prod.fst = ca) (hap : ∀ b ∈ ca, X.s_0.heap.objs.size ≤ b ∧ (∀ x c, X.env.cells.lookup x = some c → c ≠ b) ∧ ∀ p ∈ X.pn, p.1 ≠ b)
    (hfp : ∀ b ∈ fp, b ≠ X.env.locals ∧ b ∉ X.fs ∧ b ∈ X.ex ∧ (∀ x c, X.env.cells.lookup x = some c → c ≠ b) ∧ (∀ p ∈ X.pn, p.1 ≠ b) ∧ b ∉ ca) (T : Turn X.prog X.w X.K tg J fp it tn) (pg : PG X tg g) (pt : PTs X ifs tt) (pe : PE X elt te) (turn : GWalk J g tt te vs σ step fin W) :
    ∀ (m n i : Nat) (ys : List V) (s₀ s : Shared) (H : Hp) (pc : Pins), m < n → W i m ys H → cs ys pc → Inv X pc (wipe σ vs) H s → tn i s.heap → (∀ b ∈ fp, H b = none) →
      Seg (model X.prog X.w) A (GEnd' X cs fin) (GYld X ca cs step) n s₀ (.compLoop (.GeneratorExp elt [⟨tg, iter, ifs, 0⟩] scope pos) 0 (.ref it) .none X.env)
        ((model X.prog X.w).den (.compLoop (.GeneratorExp elt [⟨tg, iter, ifs, 0⟩] scope pos) 0 (.ref it) .none X.env)) [] s := by
  intro m
  induction m using Nat.strongRecOn with
  | ind m ih =>
    intro n i ys s₀ s H pc hmn w hcp I st nf
    have stat : ∀ {σ' : L2.St} {H' : Hp} {s' : Shared}, Inv X pc σ' H' s' → (∀ b ∈ fp, H' b = none) → ∀ b ∈ fp, FpOk X pc H' b := fun {σ' H' s'} I' hn b hb => by
      obtain ⟨f1, f2, f3, f4, f5, f6⟩ := hfp b hb
      refine ⟨hn b hb, f1, f2, .inl f3, f4, fun p hp => ?_⟩
      rcases List.mem_append.mp hp with hp | hp
      · exact f5 p hp
      · exact fun e => f6 (by rw [← hcs ys pc hcp, ← e]; exact List.mem_map.mpr ⟨p, hp, rfl⟩)
    show Seg _ A _ _ _ s₀ _ ((compTurn (.GeneratorExp elt [⟨tg, iter, ifs, 0⟩] scope pos) 0 (.ref it) .none X.env).onRaise (leaving X.env)) [] s
    rw [compTurn_gen, Sem.onRaise_eq_wrap]
    refine seg_bind_wrap (wpAny_standAt ?_)
    rcases turn i m ys H w with ⟨stop, q⟩ | ⟨go, Nx, hNx, next⟩
    · have td := T.done X rfl rfl rfl hc i pc s _ H (fun _ _ => False) I (stat I nf) st stop
      refine seg_bind_wrap ?_
      rw [hA]
      refine wpAny_mono td (fun r s1 ⟨hr, I1⟩ => ?_) fun _ _ z => z.elim
      subst hr
      exact seg_end (.ok .next) ⟨rfl, ys, H, _, pc, hcp, I1, q⟩
    · have ti := T.item X rfl rfl rfl hc i pc s _ H (fun _ _ => False) I (stat I nf) st go
      refine seg_bind_wrap ?_
      rw [hA]
      refine wpAny_mono ti (fun r s1 ⟨u, hr, h1⟩ => ?_) fun _ _ z => z.elim
      subst hr
      refine seg_bind_wrap ?_
      rw [hA]
      refine wpAny_mono h1 (fun _ s2 ⟨x, H2, I2, r2, y2, st2, n2⟩ => ?_) fun _ _ z => z.elim
      have I2' := I2.pinned (stat I2 n2) (T.obj _ _ st2)
      refine seg_bind_wrap ?_
      rw [hA]
      refine wpAny_mono (pg.run _ s2 _ H2 x u _ I2' r2 (next x H2 y2)) (fun _ s3 ⟨σ3, H3, I3, hw3, q3⟩ => ?_) fun e s' z => (hx e s' z).elim
      refine seg_bind_wrap ?_
      rw [hA]
      refine wpAny_mono (pt.run _ s3 σ3 H3 _ I3 q3) (fun b s4 ⟨H4, I4, q4⟩ => ?_) fun e s' z => (hx e s' z).elim
      have hl : (wipe σ vs).length = σ3.length := by rw [← hw3, wipe_length]
      -- the turn's end
      have back : ∀ {pc' : Pins} {H' : Hp} {s' : Shared}, Inv X (pc' ++ pinsAt fp s2.heap) σ3 H' s' → Inv X pc' (wipe σ vs) H' s' ∧ tn (i + 1) s'.heap ∧ ∀ b ∈ fp, H' b = none := fun {pc' H' s'} I' => by
        have pin' : ∀ b ∈ fp, ∀ o, s2.heap.get? b = some o → s'.heap.get? b = some o ∧ H' b = none := fun b hb o e =>
          let z := I'.pin (b, o) (List.mem_append_right _ (List.mem_append_right _ (mem_pinsAt hb e)))
          ⟨z.1, z.2.1⟩
        refine ⟨I'.unpinned.weak hl fun k v e => ?_, T.keep _ _ _ st2 fun b hb o e => (pin' b hb o e).1, fun b hb => ?_⟩
        · rw [← hw3] at e
          exact (wipe_some e).1
        · obtain ⟨o, e, _⟩ := T.obj _ _ st2 b hb
          exact (pin' b hb o e).2
      cases b with
      | false =>
        simp only [Bool.false_eq_true, if_false] at q4 ⊢
        obtain ⟨m', hm, w'⟩ := hNx _ _ q4
        obtain ⟨b1, b2, b3⟩ := back I4
        exact seg_again rfl (ih m' hm n (i + 1) ys s₀ s4 H4 pc (by omega) w' hcp b1 b2 b3)
      | true =>
        simp only [if_true] at q4 ⊢
        have hy : ∀ v, yieldOut X.env v = yieldValue v := fun v => by simp only [yieldOut, hco, Bool.false_eq_true, if_false]
        simp only [hy]
        rw [Sem.bind_eq_wrap', Sem.bind_eq_wrap', Sem.wrap_wrap, Sem.wrap_wrap]
        refine seg_wrap ?_
        rw [hA]
        refine wpAny_mono (pe.run _ s4 σ3 H4 _ I4 q4) (fun v s5 ⟨y, H5, I5, r5, q5⟩ => ?_) fun e s' z => (hx e s' z).elim
        obtain ⟨k, rfl⟩ : ∃ k, n = k + 1 := ⟨n - 1, by omega⟩
        refine seg_at (seg_yield rfl rfl rfl ⟨ys, y, H5, σ3, pc, _, hcp, r5, I5.unpinned, q5, fun s' z nx => ?_⟩)
        obtain ⟨pc', c', I6⟩ := inv_slp I5 hcs (hcs ys pc hcp) hap (fun p hp => (hfp p.1 (of_pinsAt hp).1).2.2.2.2.2) z
        obtain ⟨m', hm, w'⟩ := hNx _ _ nx
        obtain ⟨b1, b2, b3⟩ := back I6
        exact seg_again rfl (ih m' hm k (i + 1) _ s' s' H5 pc' (by omega) w' c' b1 b2 b3)
/-- from its first step on -/
theorem seg_gx0 {A : Around} {R : GenEnd} {Y : Protocol} {n : Nat} {s₀ s : Shared} {Pg : Program} {w : World} {K : PySem.W.Frag} {env : Env} {J : It} (T : Turn Pg w K tg J fp it tn) (st : tn 0 s.heap)
    (loop : Seg (model Pg w) A R Y n s₀ (.compLoop (.GeneratorExp elt [⟨tg, iter, ifs, 0⟩] scope pos) 0 (.ref it) .none env) ((model Pg w).den (.compLoop (.GeneratorExp elt [⟨tg, iter, ifs, 0⟩] scope pos) 0 (.ref it) .none env)) [] s) :
    Seg (model Pg w) A R Y n s₀ (.compStart (.GeneratorExp elt [⟨tg, iter, ifs, 0⟩] scope pos) 0 (.ref it) .none env) ((model Pg w).den (.compStart (.GeneratorExp elt [⟨tg, iter, ifs, 0⟩] scope pos) 0 (.ref it) .none env)) [] s := by
  show Seg _ A _ _ _ s₀ _ ((compStart (.GeneratorExp elt [⟨tg, iter, ifs, 0⟩] scope pos) 0 (.ref it) .none env).onRaise (leaving env)) [] s
  unfold compStart
  rw [Sem.onRaise_eq_wrap]
  show Seg _ A _ _ _ s₀ _ ((ask >>= _).wrap _ _ _ _) [] s
  refine seg_bind_wrap (wpAny_askSetting ?_)
  split
  · exact seg_again rfl loop
  · first
      | exact seg_bind_wrap (wpAny_rule (seg_bind_wrap (wpAny_standAt (seg_bind_wrap (T.self _ 0 s _ _ st (seg_again rfl loop))))))
      | (refine seg_bind_wrap (wpAny_rule ?_); show Seg _ A _ _ _ s₀ _ ((standAt iter.pos >>= _).wrap _ _ _ _) [] s; exact seg_bind_wrap (wpAny_standAt (seg_bind_wrap (T.self _ 0 s _ _ st (seg_again rfl loop)))))
theorem inv_gens {pins : Pins} {H : Hp} {s : Shared} {G : Array GenState} (I : Inv X pins σ H s) (h : AllBare G) : Inv X pins σ H { s with gens := G } := ⟨I.ok, I.os, h, I.base, I.loc, I.cell, I.free, I.freeC, I.pin, I.hok, I.len⟩
/-- back in the outer frame -/
theorem gx_back {A : Around} {pins pc pn : Pins} {σ σ' : L2.St} {H H' : Hp} {s s' : Shared} {env : Env} (I : Inv X pins σ H s) (hf : ∀ b ∈ fp, FpOk X pins H b) (G : Inv (gx X A s H env fp pn) pc σ' H' s') : Inv X pins σ H' s' :=
  I.call' (ch := fp) G.os G.base G.hok G.bare fun b hb => let ⟨_, f1, _, f3, f4, f5⟩ := hf b hb; ⟨f3, f1, f4, f5⟩
end
end Z

end
section
set_option Elab.async false
set_option linter.all false
set_option maxRecDepth 100000
set_option maxHeartbeats 1000000
/-! Z23: generator expressions made; any, all, tuple of them. -/
namespace Z
open PySem PySem.Spec PyProof.Rows L2
/-! ### the code object -/
/-- the def's table tells the code object at pos, or does so from now on -/
def tTab (P : Addr) (q : Str) (pos : Pos) (H : Hp) (R : Hp → Prop) : Prop := ∃ ps : Array Value, H P = some (.tbl ps) ∧ TriplesOk ps.toList ∧
  (∀ c' : Addr, H c' = none → R (upd (upd H P (.tbl (ps ++ #[rawInt pos.line, rawInt pos.col, .ref c']))) c' (LamX.CodeO c' q))) ∧ (∀ cv, codeAmong pos ps.toList = some cv → R H)
/-- a generator that has not begun -/
def GRdy (X : L2.Cx) (pins : Pins) (σ : L2.St) (k : Nat) (step : List V → V → Hp → (Hp → Prop) → Prop) (fin : List V → Hp → Prop) (a : Addr) (s5 : Shared) : Prop := ∃ (g : Nat) (c : Code) (s3 : Shared) (H3 : Hp) (fp : List Addr) (env : Env) (go : Obj) (m0 : Nat),
  Inv X pins σ H3 s3 ∧ (∀ b ∈ fp, FpOk X pins H3 b) ∧ s3.heap.objs.size < a ∧ a < s5.heap.objs.size ∧ (∀ b o, s3.heap.get? b = some o → s5.heap.get? b = some o) ∧ s5.os = s3.os ∧ AllBare s5.gens ∧ s5.heap.get? a = some go ∧ (∀ h : Heap, h.get? a = some go → h.IsGen a g) ∧
  s5.gens[g]? = some (.fresh c) ∧ ∀ (A : Around) (ca : List Addr) (cs : List V → Pins → Prop) (s2 : Shared) (n : Nat), Room (k + 1) A → A.frames = some X.stack → (∀ ys p, cs ys p → p.map Prod.fst = ca) → (∀ b ∈ ca, s5.heap.objs.size ≤ b) →
    (∀ b o, s5.heap.get? b = some o → s2.heap.get? b = some o) → s2.os = s5.os → AllBare s2.gens → (∃ pc, cs [] pc ∧ ∀ q ∈ pc, s2.heap.get? q.1 = some q.2 ∧ ∀ v, q.2.data ≠ .cell v) → m0 < n →
    ∃ A', Seg (model X.prog X.w) A (GEnd' (gx X A' s3 H3 env fp [(a, go)]) cs fin) (GYld (gx X A' s3 H3 env fp [(a, go)]) ca cs step) n s2 c ((model X.prog X.w).den c) [] s2
def tGx (X : L2.Cx) (P : Addr) (gpos : Pos) (wi : TI) (g : TG) (tt : TT) (te : TE) (vs : List Nat) (step : List V → V → Hp → (Hp → Prop) → Prop) (fin : List V → Hp → Prop) : L2.St → Hp → Prop := fun σ H =>
  wi σ H fun J H1 => tTab P (X.env.qual ++ "<genexpr>") gpos H1 fun H3 => ∃ W : Nat → Nat → List V → Hp → Prop, (∃ m, W 0 m [] H3) ∧ GWalk J g tt te vs σ step fin W
/-- in every such frame -/
abbrev InGx (X : L2.Cx) (scope : Scope) (k : Nat) (P : L2.Cx → Prop) : Prop := ∀ (A : Around) (s : Shared) (H : Hp) (C : Addr) (code : Value) (fp : List Addr) (pn : Pins), Room k A → P (gx X A s H (gEnv X scope C code) fp pn)
section
variable {X : L2.Cx} {pins : Pins} {σ : L2.St} {H : Hp} {s : Shared} {tg iter elt : Expr} {ifs : List Expr} {scope : Scope} {own : List (Str × Nat)} {gpos : Pos} {wi : TI} {g : TG} {tt : TT} {te : TE} {k : Nat} {c P : Addr} {step : List V → V → Hp → (Hp → Prop) → Prop} {fin : List V → Hp → Prop} {Q' : Value → Shared → Prop}
theorem gen_ok (hd : X.A.handled = none) (hroom : X.A.depth < recursionLimit) (TB : LamX.TabB X.base X.mg c P) (hcode : X.env.code = .ref c) (ok : BlkOk X.N X.env.scope scope own) (hN : X.N.Nodup) (hcell : ∀ y ∈ scope.names, y.2 ≠ .cell) (hdot : scope.names.lookup (".0" : Str) = some NameKind.local) (hco : scope.isCoroutine = false)
    (hi : PI X tg iter wi) (hg : InGx X scope k fun Y => PG Y tg g) (ht : InGx X scope k fun Y => PTs Y ifs tt) (he : InGx X scope k fun Y => PE Y elt te) (hs : ∀ v, genFold iter X.env v = pure v) (I : Inv X pins σ H s) (h : tGx X P gpos wi g tt te (own.map (·.2)) step fin σ H)
    (hQ : ∀ a s5, GRdy X pins σ k step fin a s5 → Q' (.ref a) s5) : wpAny (model X.prog X.w) X.A (eval (.GeneratorExp elt [⟨tg, iter, ifs, 0⟩] scope gpos) X.env) Q' X.xe s := by
  have hfree : ∀ y ∈ scope.names, y.2 = .free → ∃ c, X.env.cells.lookup y.1 = some c := fun y hy e => by
    rcases ok.free y hy e with k | k
    · exact I.ok.has _ (.inl k)
    · exact I.ok.has _ (.inr k)
  refine wpAny_GeneratorExp_make hco (closure_ok hfree) hcell hdot ok.kind hroom ?_ hs
  refine thn (hi.run pins s σ H _ I h) fun xv s1 h1 => thn h1 fun itv s2 ⟨it, fp, tn, J, H2, e, I2, T, st2, f2, q⟩ => ?_
  subst e
  obtain ⟨ps, hP, htr, miss, hit⟩ := q
  refine ⟨I2.nolimit, ?_⟩
  have hP2 : s2.heap.get? P = some { cls := .none, data := .fields ps } := I2.hok P _ hP
  have cd : PySem.W.CodeHd s2.heap c P := TB.code.keeps I2.bk
  have sz : ∀ b ∈ fp, b < s2.heap.objs.size := fun b hb => by
    obtain ⟨o, e, _⟩ := T.obj _ _ st2 b hb
    exact Heap.lt_size e
  have cont : ∀ (code : Value) (s3 : Shared) (H3 : Hp), Inv X pins σ H3 s3 → (∀ b ∈ fp, FpOk X pins H3 b) → s2.heap.objs.size ≤ s3.heap.objs.size → (∀ b ∈ fp, ∀ o, s2.heap.get? b = some o → s3.heap.get? b = some o) → (∃ W : Nat → Nat → List V → Hp → Prop, (∃ m, W 0 m [] H3) ∧ GWalk J g tt te (own.map (·.2)) σ step fin W) →
      wpAny (model X.prog X.w) X.A (builtinsFor X.env.globals X.env.builtins) (fun bi s₄ =>
        ∀ h', h'.Ns s₄.heap.objs.size (fun y => if y = ".0" then some (.ref it) else none) → Heap.SameBut s₄.heap.objs.size (s₄.heap.push { cls := .type "frame", data := .dict #[] }) h' →
          Q' (.ref h'.objs.size) { s₄ with
            gens := s₄.gens.push (.fresh (.compStart (.GeneratorExp elt [⟨tg, iter, ifs, 0⟩] scope gpos) 0 (.ref it) .none (genEnv scope (cloFrom X.env.cells scope.names []) s₄.heap.objs.size code bi X.env))),
            toks := s₄.toks + 1 + 1 + 1,
            heap := h'.push { cls := .type "generator", data := .fields #[.int s₄.gens.size 0, .str "<genexpr>" (s₄.toks + 1), .str (X.env.qual ++ "<genexpr>") (s₄.toks + 1 + 1)] } }) X.xe s3 := by
    intro code s3 H3 I3 f3 hsz hk3 ⟨W, ⟨m0, w0⟩, turn⟩
    obtain ⟨bm, ob, e1, e2, e3, e4, e5, e6, e7, e8⟩ := TB.bm
    refine wpAny_builtinsFor (m := X.mg) (by rw [I3.ok.glob]; exact I3.mod.glob.keeps I3.bk) e1 e2 (I3.bk _ _ e5) e6 e7 e8 ?_
    intro h' hn' hs'
    have szh : h'.objs.size = s3.heap.objs.size + 1 := by rw [hs'.1, Heap.size_push]
    have keep' : ∀ b o, s3.heap.get? b = some o → h'.get? b = some o := fun b o e => hs'.extBut b o (Nat.ne_of_lt (Heap.lt_size e)) (Heap.get?_push_of_some _ e)
    generalize hgo : ({ cls := .type "generator", data := .fields #[.int s3.gens.size 0, .str "<genexpr>" (s3.toks + 1), .str (X.env.qual ++ "<genexpr>") (s3.toks + 1 + 1)] } : Obj) = go
    have hgen : ∀ h : Heap, h.get? h'.objs.size = some go → h.IsGen h'.objs.size s3.gens.size := fun h e => ⟨go, _, _, e, by rw [← hgo], by rw [← hgo], by rw [← hgo]⟩
    have hgc : ∀ v, go.data ≠ .cell v := fun v z => by
      rw [← hgo] at z
      cases z
    have hb5 : AllBare (s3.gens.push (.fresh (.compStart (.GeneratorExp elt [⟨tg, iter, ifs, 0⟩] scope gpos) 0 (.ref it) .none (genEnv scope (cloFrom X.env.cells scope.names []) s3.heap.objs.size code builtinsNs X.env)))) := AllBare.push I3.bare rfl
    refine hQ h'.objs.size _ ⟨s3.gens.size, _, s3, H3, fp, gEnv X scope s3.heap.objs.size code, go, m0, I3, f3, by omega, by show _ < (h'.push go).objs.size; rw [Heap.size_push]; exact Nat.lt_succ_self _, fun b o e => Heap.get?_push_of_some _ (keep' b o e), rfl, hb5, Heap.get?_push_size _ (by rw [← hgo]; rfl), hgen, Array.getElem?_push_size .., ?_⟩
    intro A ca cs s2' n hrA hfA hcs hca kp2 hos hba ⟨pc, hcp, hpc⟩ hmn
    generalize hAo : A.over (.compLoop (.GeneratorExp elt [⟨tg, iter, ifs, 0⟩] scope gpos) 0 (.ref it) .none (gEnv X scope s3.heap.objs.size code)) [] = A'
    have rA : Room k A' := by
      rw [← hAo]
      refine ⟨hrA.hd, ?_, ?_⟩
      · have := hrA.dp
        show A.depth + 0 + 1 + 3 * k + 5 < _
        omega
      · have := hrA.un
        show A.units + 0 + 3 + 16 * k + 200 < _
        omega
    have hA' : A'.handled = none := rA.hd
    have hfr' : A'.frames = some (gEnv X scope s3.heap.objs.size code :: X.stack) := by
      rw [← hAo]
      show pushEnvs [_] (pushEnvs [] A.frames) = _
      rw [hfA]
      rfl
    have kp : ∀ b o, s3.heap.get? b = some o → s2'.heap.get? b = some o := fun b o e => kp2 b o (Heap.get?_push_of_some _ (keep' b o e))
    have sz3 : ∀ b ∈ fp, b < s3.heap.objs.size := fun b hb => Nat.lt_of_lt_of_le (sz b hb) hsz
    have lt5 : s3.heap.objs.size < (h'.push go).objs.size := by rw [Heap.size_push]; omega
    have I5 : Inv (gx X A' s3 H3 (gEnv X scope s3.heap.objs.size code) fp [(h'.objs.size, go)]) [] (wipe σ (own.map (·.2))) H3 s2' := by
      refine gx_start I3 ok hN hcell hA' hfr' (fun b hb => ⟨f3 b hb, sz3 b hb⟩) ⟨_, (hn'.push go).keeps kp2⟩ kp hos hba fun p hp => ?_
      rw [List.mem_singleton.mp hp]
      exact ⟨kp2 _ _ (Heap.get?_push_size _ (by rw [← hgo]; rfl)), by show s3.heap.objs.size < h'.objs.size; omega, hgc⟩
    have above : ∀ b ∈ ca, s3.heap.objs.size < b := fun b hb => Nat.lt_of_lt_of_le lt5 (hca b hb)
    have stk : ∀ b, b ∈ frs X.stack → b < s3.heap.objs.size := fun b hb => by
      rcases List.mem_cons.mp (I3.stkSub b hb) with z | z
      · rw [z]; exact I3.lt
      · exact Nat.lt_of_not_le fun h => I3.nofs h z
    have I6 : Inv (gx X A' s3 H3 (gEnv X scope s3.heap.objs.size code) fp [(h'.objs.size, go)]) pc (wipe σ (own.map (·.2))) H3 s2' := I5.pins_of fun p hp => by
      have hm : p.1 ∈ ca := by
        rw [← hcs _ _ hcp]
        exact List.mem_map.mpr ⟨p, hp, rfl⟩
      have hlt := above _ hm
      exact ⟨(hpc p hp).1, I3.hok.fresh (Nat.le_of_lt hlt), Nat.ne_of_gt hlt, fun z => absurd (stk _ z) (Nat.not_lt_of_lt hlt), (hpc p hp).2⟩
    have cel := fun {y c} e => gx_cells I3 hfree (y := y) (c := c) e
    refine ⟨A', seg_gx0 (K := X.K) (Pg := X.prog) (w := X.w) T (T.keep _ _ _ st2 fun b hb o e => kp b o (hk3 b hb o e)) ?_⟩
    refine seg_gx (X := gx X A' s3 H3 (gEnv X scope s3.heap.objs.size code) fp [(h'.objs.size, go)]) hAo (fun e s z => z) rfl hco hcs (fun b hb => ⟨Nat.le_of_lt (above b hb), fun y c e => Nat.ne_of_lt (Nat.lt_trans (cel e).2 (above b hb)), fun p hp => ?_⟩) (fun b hb => ?_) T (hg A' s3 H3 _ code fp _ rA) (ht A' s3 H3 _ code fp _ rA) (he A' s3 H3 _ code fp _ rA) turn m0 n 0 [] s2' s2' H3 pc hmn w0 hcp I6
      (T.keep _ _ _ st2 fun b hb o e => kp b o (hk3 b hb o e)) fun b hb => (f3 b hb).1
    · rw [List.mem_singleton.mp hp]
      have := hca b hb
      have h9 : (h'.push go).objs.size ≤ b := this
      rw [Heap.size_push] at h9
      exact Nat.ne_of_lt h9
    · obtain ⟨g1, g2, g3, g4, g5, g6⟩ := f3 b hb
      refine ⟨Nat.ne_of_lt (sz3 b hb), fun z => ?_, hb, fun y c e z => g5 y c (cel e).1 z, fun p hp => ?_, fun z => absurd (sz3 b hb) (Nat.not_lt_of_lt (above b z))⟩
      · rcases List.mem_cons.mp (I3.stkSub b z) with z | z
        · exact g2 z
        · exact g3 z
      · rw [List.mem_singleton.mp hp]
        have := sz3 b hb
        exact Nat.ne_of_gt (Nat.lt_of_lt_of_le this (by omega))
  cases hf : codeAmong gpos ps.toList with
  | none =>
    refine wpAny_genexprCodeX hcode (cd.code hP2 htr) (cd.tab hP2) hf fun c' h3 tk hx hge hlt _ hrec htab' _ => ?_
    obtain ⟨c2, oc, vs, t, e2, hoc, hd2, hv⟩ := hrec
    cases e2
    have I3 := LamX.inv_table (t' := tk) (more := #[rawInt gpos.line, rawInt gpos.col, .ref c']) (h' := h3) I2 hP (fun b o hb e => hx b o hb e) htab'.2 hge ⟨oc, vs, t, hoc, hd2, hv⟩
    have ne : ∀ b ∈ fp, b ≠ P ∧ b ≠ c' := fun b hb => ⟨fun z => (by have := (f2 b hb).1; rw [z, hP] at this; cases this), fun z => absurd (sz b hb) (Nat.not_lt_of_le (by rw [z]; exact hge))⟩
    refine cont _ { s2 with heap := h3, toks := tk } _ I3 (fun b hb => ⟨?_, (f2 b hb).2⟩) (Nat.le_trans hge (Nat.le_of_lt hlt)) (fun b hb o e => hx b o (ne b hb).1 e) (miss c' (I2.hok.fresh hge))
    rw [upd_ne (ne b hb).2, upd_ne (ne b hb).1]
    exact (f2 b hb).1
  | some cv =>
    refine wpAny_genexprCode_hit hcode (cd.code hP2 htr) hf ?_
    exact cont cv s2 H2 I2 f2 (Nat.le_refl _) (fun _ _ _ e => e) (hit cv hf)
end
end Z

end
section
set_option Elab.async false
set_option linter.all false
set_option maxRecDepth 100000
set_option maxHeartbeats 1000000
/-! Z24: any, all of a generator expression. -/
namespace Z
open PySem PySem.Spec PyProof.Rows L2 GenW
abbrev cs0 : List V → Pins → Prop := fun _ p => p = []
abbrev stepAny (Q : VK) : List V → V → Hp → (Hp → Prop) → Prop := fun _ y H N => ∃ b, y = .bl b ∧ (b = true → Q (.bl true) H) ∧ (b = false → N H)
abbrev finAny (Q : VK) : List V → Hp → Prop := fun _ H => Q (.bl false) H
abbrev stepAll (Q : VK) : List V → V → Hp → (Hp → Prop) → Prop := fun _ y H N => ∃ b, y = .bl b ∧ (b = true → N H) ∧ (b = false → Q (.bl false) H)
abbrev finAll (Q : VK) : List V → Hp → Prop := fun _ H => Q (.bl true) H
theorem slp0 {ys : List V} {s : Shared} {g : Nat} {gs : GenState} (hb : AllBare s.gens) (hg : gs.bare = true) : Slp [] cs0 ys s ((s.setGen g gs).setGen g .running) :=
  ⟨rfl, allBare_setGen (allBare_setGen hb hg) rfl, fun _ _ _ e => e, [], rfl, fun q hq => nomatch hq⟩
section
variable {Y : L2.Cx} {A : Around} {a : Addr} {g : Nat} {R : Result → Shared → Prop} {Q : VK}
theorem any_gx (hd : A.handled = none) (hdp : A.depth < recursionLimit) (hgen : ∀ {pc : Pins} {σ : L2.St} {H : Hp} {s : Shared}, Inv Y pc σ H s → s.heap.IsGen a g) (hR : ∀ b H σ s', Inv Y [] σ H s' → Q (.bl b) H → R (.ok (.ret (.bool b))) s') :
    ∀ (n : Nat) (s : Shared) (gs : GenState), s.gens[g]? = some gs → s.heap.IsGen a g → s.heap.NoLimit → gs.Goes (model Y.prog Y.w) A.in1.in1 (GEnd' Y cs0 (finAny Q)) (GYld Y [] cs0 (stepAny Q)) n (.send .none) (s.setGen g .running) →
      codeAny (model Y.prog Y.w) A (.builtin "any.loop" ⟨[.ref a], []⟩) R s := by
  intro n
  induction n with
  | zero =>
    intro s gs hgs hg hl hgo
    refine codeAny_builtin F.entry_any_loop ?_
    rw [Around.under_plainId F.plain_any_loop _]
    show wpAny _ A.in1 (pyNext (.ref a) >>= _) _ _ s
    refine wpAny_bind (wpAny_pyNext_genexpQ (P := fun _ _ s => GFin Y cs0 (finAny Q) s) hd hl hdp hg hgs hgo (fun v s1 gs' hb hv => ?_) fun s1 hp h' hk => ?_)
    · obtain ⟨ys, y, H, σ, pc, N, hc, rv, I, ⟨b, ey, q1, q2⟩, kap⟩ := hv
      subst ey
      subst hc
      obtain rfl : v = Value.bool b := rv
      refine wpAny_bind (wpAny_holding (wpAny_truthy_bool (wpAny_bind (wpAny_letGo ?_))))
      cases b with
      | false => exact (kap _ (slp0 (g := g) (gs := gs') I.bare hb) (q2 rfl)).elim
      | true =>
        simp only [if_true]
        exact wpAny_bind (wpAny_rule (wpAny_pure (hR true H σ _ (inv_gens I (allBare_setGen I.bare hb)) (q1 rfl))))
    · obtain ⟨ys, H, σ, pc, hc, I, q⟩ := hp
      subst hc
      exact wpAny_bind (wpAny_rule (wpAny_pure (hR false H σ _ ((inv_gens I (allBare_setGen (g := g) (x := .finished) I.bare rfl)).kept hk) q)))
  | succ n ih =>
    intro s gs hgs hg hl hgo
    have hgl : g < s.gens.size := (Array.getElem?_eq_some_iff.mp hgs).1
    refine codeAny_builtin F.entry_any_loop ?_
    rw [Around.under_plainId F.plain_any_loop _]
    show wpAny _ A.in1 (pyNext (.ref a) >>= _) _ _ s
    refine wpAny_bind (wpAny_gsz (n := g + 1) hgl (wpAny_pyNext_genexpQ (P := fun _ _ s => GFin Y cs0 (finAny Q) s) hd hl hdp hg hgs hgo (fun v s1 gs' hb hv => ?_) fun s1 hp h' hk => ?_))
    · intro hsz
      obtain ⟨ys, y, H, σ, pc, N, hc, rv, I, ⟨b, ey, q1, q2⟩, kap⟩ := hv
      subst ey
      subst hc
      obtain rfl : v = Value.bool b := rv
      refine wpAny_bind (wpAny_holding (wpAny_truthy_bool (wpAny_bind (wpAny_letGo ?_))))
      cases b with
      | false =>
        simp only [Bool.false_eq_true, if_false]
        have hsz1 : g < s1.gens.size := by
          have q : (s1.setGen g gs').gens.size = s1.gens.size := setGen_size _ _ _
          have hsz' : g + 1 ≤ (s1.setGen g gs').gens.size := hsz
          omega
        exact wpAny_pure ⟨plainId_quiet F.plain_any_loop _, ih (s1.setGen g gs') gs' (setGen_at hsz1) (hgen (inv_gens I (allBare_setGen I.bare hb))) I.nolimit (kap _ (slp0 (g := g) (gs := gs') I.bare hb) (q2 rfl))⟩
      | true =>
        simp only [if_true]
        exact wpAny_bind (wpAny_rule (wpAny_pure (hR true H σ _ (inv_gens I (allBare_setGen I.bare hb)) (q1 rfl))))
    · intro hsz
      obtain ⟨ys, H, σ, pc, hc, I, q⟩ := hp
      subst hc
      exact wpAny_bind (wpAny_rule (wpAny_pure (hR false H σ _ ((inv_gens I (allBare_setGen (g := g) (x := .finished) I.bare rfl)).kept hk) q)))
theorem all_gx (hd : A.handled = none) (hdp : A.depth < recursionLimit) (hgen : ∀ {pc : Pins} {σ : L2.St} {H : Hp} {s : Shared}, Inv Y pc σ H s → s.heap.IsGen a g) (hR : ∀ b H σ s', Inv Y [] σ H s' → Q (.bl b) H → R (.ok (.ret (.bool b))) s') :
    ∀ (n : Nat) (s : Shared) (gs : GenState), s.gens[g]? = some gs → s.heap.IsGen a g → s.heap.NoLimit → gs.Goes (model Y.prog Y.w) A.in1.in1 (GEnd' Y cs0 (finAll Q)) (GYld Y [] cs0 (stepAll Q)) n (.send .none) (s.setGen g .running) →
      codeAny (model Y.prog Y.w) A (.builtin "all.loop" ⟨[.ref a], []⟩) R s := by
  intro n
  induction n with
  | zero =>
    intro s gs hgs hg hl hgo
    refine codeAny_builtin F.entry_all_loop ?_
    rw [Around.under_plainId F.plain_all_loop _]
    show wpAny _ A.in1 (pyNext (.ref a) >>= _) _ _ s
    refine wpAny_bind (wpAny_pyNext_genexpQ (P := fun _ _ s => GFin Y cs0 (finAll Q) s) hd hl hdp hg hgs hgo (fun v s1 gs' hb hv => ?_) fun s1 hp h' hk => ?_)
    · obtain ⟨ys, y, H, σ, pc, N, hc, rv, I, ⟨b, ey, q1, q2⟩, kap⟩ := hv
      subst ey
      subst hc
      obtain rfl : v = Value.bool b := rv
      refine wpAny_bind (wpAny_holding (wpAny_truthy_bool (wpAny_bind (wpAny_letGo ?_))))
      cases b with
      | true => exact (kap _ (slp0 (g := g) (gs := gs') I.bare hb) (q1 rfl)).elim
      | false =>
        simp only [Bool.false_eq_true, if_false]
        exact wpAny_bind (wpAny_rule (wpAny_pure (hR false H σ _ (inv_gens I (allBare_setGen I.bare hb)) (q2 rfl))))
    · obtain ⟨ys, H, σ, pc, hc, I, q⟩ := hp
      subst hc
      exact wpAny_bind (wpAny_rule (wpAny_pure (hR true H σ _ ((inv_gens I (allBare_setGen (g := g) (x := .finished) I.bare rfl)).kept hk) q)))
  | succ n ih =>
    intro s gs hgs hg hl hgo
    have hgl : g < s.gens.size := (Array.getElem?_eq_some_iff.mp hgs).1
    refine codeAny_builtin F.entry_all_loop ?_
    rw [Around.under_plainId F.plain_all_loop _]
    show wpAny _ A.in1 (pyNext (.ref a) >>= _) _ _ s
    refine wpAny_bind (wpAny_gsz (n := g + 1) hgl (wpAny_pyNext_genexpQ (P := fun _ _ s => GFin Y cs0 (finAll Q) s) hd hl hdp hg hgs hgo (fun v s1 gs' hb hv => ?_) fun s1 hp h' hk => ?_))
    · intro hsz
      obtain ⟨ys, y, H, σ, pc, N, hc, rv, I, ⟨b, ey, q1, q2⟩, kap⟩ := hv
      subst ey
      subst hc
      obtain rfl : v = Value.bool b := rv
      refine wpAny_bind (wpAny_holding (wpAny_truthy_bool (wpAny_bind (wpAny_letGo ?_))))
      cases b with
      | true =>
        simp only [if_true]
        have hsz1 : g < s1.gens.size := by
          have q : (s1.setGen g gs').gens.size = s1.gens.size := setGen_size _ _ _
          have hsz' : g + 1 ≤ (s1.setGen g gs').gens.size := hsz
          omega
        exact wpAny_pure ⟨plainId_quiet F.plain_all_loop _, ih (s1.setGen g gs') gs' (setGen_at hsz1) (hgen (inv_gens I (allBare_setGen I.bare hb))) I.nolimit (kap _ (slp0 (g := g) (gs := gs') I.bare hb) (q1 rfl))⟩
      | false =>
        simp only [Bool.false_eq_true, if_false]
        exact wpAny_bind (wpAny_rule (wpAny_pure (hR false H σ _ (inv_gens I (allBare_setGen I.bare hb)) (q2 rfl))))
    · intro hsz
      obtain ⟨ys, H, σ, pc, hc, I, q⟩ := hp
      subst hc
      exact wpAny_bind (wpAny_rule (wpAny_pure (hR true H σ _ ((inv_gens I (allBare_setGen (g := g) (x := .finished) I.bare rfl)).kept hk) q)))
end
section
variable {X : L2.Cx} {tg iter elt : Expr} {ifs : List Expr} {scope : Scope} {own : List (Str × Nat)} {gpos pos p : Pos} {wi : TI} {g : TG} {tt : TT} {te : TE} {k : Nat} {c P : Addr}
/-- any(.. for .. in ..) -/
theorem pe_anyG (hr : Room (k + 3) X.A) (hG : Gl X "any") (hm : X.mg "any" = none) (TB : LamX.TabB X.base X.mg c P) (hcode : X.env.code = .ref c) (ok : BlkOk X.N X.env.scope scope own) (hN : X.N.Nodup) (hcell : ∀ y ∈ scope.names, y.2 ≠ .cell) (hdot : scope.names.lookup (".0" : Str) = some NameKind.local) (hco : scope.isCoroutine = false)
    (hi : PI X tg iter wi) (hg : InGx X scope k fun Y => PG Y tg g) (ht : InGx X scope k fun Y => PTs Y ifs tt) (he : InGx X scope k fun Y => PE Y elt te) (hs : ∀ v, genFold iter X.env v = pure v)
    (hst : starEach [.GeneratorExp elt [⟨tg, iter, ifs, 0⟩] scope gpos] X.env = (false, eval (.GeneratorExp elt [⟨tg, iter, ifs, 0⟩] scope gpos) X.env) :: starEach [] X.env := by rfl) :
    PE X (.Call (.Name "any" p) [.GeneratorExp elt [⟨tg, iter, ifs, 0⟩] scope gpos] [] pos) (fun σ H Q => tGx X P gpos wi g tt te (own.map (·.2)) (stepAny Q) (finAny Q) σ H) := by
  refine ⟨fun pins s σ H Q I h => ?_⟩
  refine wpAny_Call_Name_kw (ld_blt I hG hm boot_any ?_)
  refine PyProof.Rows.callWith_builtin1 ?_ hst (by rfl)
  rw [hst]
  show wpAny _ _ (spliced ((false, eval (.GeneratorExp elt [⟨tg, iter, ifs, 0⟩] scope gpos) X.env) :: backTo pos (starEach [] X.env))) _ _ s
  refine Calls.spliced_cons (gen_ok hr.hd hr.depth TB hcode ok hN hcell hdot hco hi hg ht he hs I h fun a s5 hR => ?_)
  refine Calls.spliced_nil ?_
  obtain ⟨gg, cc, s3, H3, fp, env, go, m0, I3, f3, _, _, kp, os5, hb5, hgo, hgen, hgs, wake⟩ := hR
  obtain ⟨A', seg⟩ := wake X.A.in1.in1 [] cs0 (s5.setGen gg .running) (m0 + 1) (hr.in1.in1) I3.ok.frames (fun ys p e => by rw [show p = [] from e]; rfl) (fun b hb => nomatch hb) (fun _ _ e => e) rfl (allBare_setGen hb5 rfl) ⟨[], rfl, fun q hq => nomatch hq⟩ (Nat.lt_succ_self _)
  have lim : s5.heap.NoLimit := I3.nolimit.keeps kp
  refine call_function_tree F.kind_any F.plain_any F.entry_any (F.args_any1 _) ?_
  unfold Builtin.«any»
  refine wpAny_bind (m := oneArg "any" _) (wpAny_pure ?_)
  refine wpAny_bind (wpAny_pyIter_gen (hgen _ hgo) ?_)
  refine wpAny_pure ⟨plainId_quiet F.plain_any_loop _, any_gx (Y := gx X A' s3 H3 env fp [(a, go)]) (Q := Q) hr.hd hr.depth (fun I => hgen _ (I.pin (a, go) (List.mem_append_left _ (List.mem_singleton.mpr rfl))).1) (fun b H' σ' s' G q => ?_) (m0 + 1) s5 _ hgs (hgen _ hgo) lim ⟨rfl, seg⟩⟩
  exact ⟨.bl b, H', gx_back I3 f3 G, rfl, q⟩
theorem pe_allG (hr : Room (k + 3) X.A) (hG : Gl X "all") (hm : X.mg "all" = none) (TB : LamX.TabB X.base X.mg c P) (hcode : X.env.code = .ref c) (ok : BlkOk X.N X.env.scope scope own) (hN : X.N.Nodup) (hcell : ∀ y ∈ scope.names, y.2 ≠ .cell) (hdot : scope.names.lookup (".0" : Str) = some NameKind.local) (hco : scope.isCoroutine = false)
    (hi : PI X tg iter wi) (hg : InGx X scope k fun Y => PG Y tg g) (ht : InGx X scope k fun Y => PTs Y ifs tt) (he : InGx X scope k fun Y => PE Y elt te) (hs : ∀ v, genFold iter X.env v = pure v)
    (hst : starEach [.GeneratorExp elt [⟨tg, iter, ifs, 0⟩] scope gpos] X.env = (false, eval (.GeneratorExp elt [⟨tg, iter, ifs, 0⟩] scope gpos) X.env) :: starEach [] X.env := by rfl) :
    PE X (.Call (.Name "all" p) [.GeneratorExp elt [⟨tg, iter, ifs, 0⟩] scope gpos] [] pos) (fun σ H Q => tGx X P gpos wi g tt te (own.map (·.2)) (stepAll Q) (finAll Q) σ H) := by
  refine ⟨fun pins s σ H Q I h => ?_⟩
  have hb : bootBuiltins "all" = some (.builtin "all") := by decide +kernel
  refine wpAny_Call_Name_kw (ld_blt I hG hm hb ?_)
  refine PyProof.Rows.callWith_builtin1 ?_ hst (by rfl)
  rw [hst]
  show wpAny _ _ (spliced ((false, eval (.GeneratorExp elt [⟨tg, iter, ifs, 0⟩] scope gpos) X.env) :: backTo pos (starEach [] X.env))) _ _ s
  refine Calls.spliced_cons (gen_ok hr.hd hr.depth TB hcode ok hN hcell hdot hco hi hg ht he hs I h fun a s5 hR => ?_)
  refine Calls.spliced_nil ?_
  obtain ⟨gg, cc, s3, H3, fp, env, go, m0, I3, f3, _, _, kp, os5, hb5, hgo, hgen, hgs, wake⟩ := hR
  obtain ⟨A', seg⟩ := wake X.A.in1.in1 [] cs0 (s5.setGen gg .running) (m0 + 1) (hr.in1.in1) I3.ok.frames (fun ys p e => by rw [show p = [] from e]; rfl) (fun b hb => nomatch hb) (fun _ _ e => e) rfl (allBare_setGen hb5 rfl) ⟨[], rfl, fun q hq => nomatch hq⟩ (Nat.lt_succ_self _)
  have lim : s5.heap.NoLimit := I3.nolimit.keeps kp
  refine call_function_tree F.kind_all F.plain_all F.entry_all (F.args_all1 _) ?_
  unfold Builtin.«all»
  refine wpAny_bind (m := oneArg "all" _) (wpAny_pure ?_)
  refine wpAny_bind (wpAny_pyIter_gen (hgen _ hgo) ?_)
  refine wpAny_pure ⟨plainId_quiet F.plain_all_loop _, all_gx (Y := gx X A' s3 H3 env fp [(a, go)]) (Q := Q) hr.hd hr.depth (fun I => hgen _ (I.pin (a, go) (List.mem_append_left _ (List.mem_singleton.mpr rfl))).1) (fun b H' σ' s' G q => ?_) (m0 + 1) s5 _ hgs (hgen _ hgo) lim ⟨rfl, seg⟩⟩
  exact ⟨.bl b, H', gx_back I3 f3 G, rfl, q⟩
end
end Z

end
section
set_option Elab.async false
set_option linter.all false
set_option maxRecDepth 100000
set_option maxHeartbeats 1000000
/-! Z25: tuple of a generator expression. -/
namespace Z
open PySem PySem.Spec PyProof.Rows L2 GenW
abbrev csL (S : Addr) : List V → Pins → Prop := fun ys p => ∃ (acc : Array Value) (c : Nat), Vals ys acc.toList ∧ ys.length ≤ sizeLine ∧ p = [(S, lstObj acc c)]
abbrev stepL : List V → V → Hp → (Hp → Prop) → Prop := fun ys _ H N => ys.length < sizeLine ∧ N H
section
variable {Y : L2.Cx} {A : Around} {a S : Addr} {g : Nat} {R : Result → Shared → Prop} {Qf : List V → Hp → Prop} {res : Value}
theorem ext_gx (hd : A.handled = none) (hdp : A.depth < recursionLimit) (hSa : S ≠ a) (hSc : S ≠ cStatics) (hgen : ∀ {pc : Pins} {σ : L2.St} {H : Hp} {s : Shared}, Inv Y pc σ H s → s.heap.IsGen a g)
    (hR : ∀ ys H σ acc c s', Inv Y [(S, lstObj acc c)] σ H s' → Vals ys acc.toList → ys.length ≤ sizeLine → Qf ys H → R (.ok (.ret res)) s') :
    ∀ (n : Nat) (s : Shared) (gs : GenState), s.gens[g]? = some gs → s.heap.IsGen a g → s.heap.NoLimit → gs.Goes (model Y.prog Y.w) A.in1.in1 (GEnd' Y (csL S) Qf) (GYld Y [S] (csL S) stepL) n (.send .none) (s.setGen g .running) →
      codeAny (model Y.prog Y.w) A (.builtin "list.extend.loop" ⟨[.ref S, .ref a, res], []⟩) R s := by
  have fin : ∀ {s1 : Shared} {h' : Heap}, GFin Y (csL S) Qf s1 → (∀ b o, s1.heap.get? b = some o → h'.get? b = some o) → R (.ok (.ret res)) { s1.setGen g .finished with heap := h' } := fun {s1 h'} hp hk => by
    obtain ⟨ys, H, σ, pc, ⟨acc, c, hv, hz, ep⟩, I, q⟩ := hp
    subst ep
    exact hR ys H σ acc c _ ((inv_gens I (allBare_setGen (g := g) (x := .finished) I.bare rfl)).kept hk) hv hz q
  intro n
  induction n with
  | zero =>
    intro s gs hgs hg hl hgo
    refine codeAny_builtin F.entry_extend_loop ?_
    rw [Around.under_plainId F.plain_extend_loop _]
    show wpAny _ A.in1 (pyNext (.ref a) >>= _) _ _ s
    refine wpAny_bind (wpAny_pyNext_genexpQ (P := fun _ _ s => GFin Y (csL S) Qf s) hd hl hdp hg hgs hgo (fun v s1 gs' hb hv => ?_) fun s1 hp h' hk => ?_)
    · obtain ⟨ys, y, H, σ, pc, N, ⟨acc, c, hva, hz, ep⟩, rv, I, ⟨hlt, nH⟩, kap⟩ := hv
      subst ep
      have hS := (I.pin (S, lstObj acc c) (List.mem_append_right _ (List.mem_singleton.mpr rfl))).1
      have sl := Slept.push (v := v) hS (allBare_setGen (g := g) (x := gs') I.bare hb)
      obtain ⟨c', e'⟩ := sl.own acc c hS
      refine (kap ({ s1.setGen g gs' with heap := s1.heap.update S (Obj.mapSeq (·.push v)) } : Shared) ⟨rfl, sl.bare, fun b o hb => sl.keep b o fun z => hb (by rw [z]; exact List.mem_singleton.mpr rfl), _, ⟨acc.push v, c', ?_, ?_, rfl⟩, fun q hq => ?_⟩ nH).elim
      · rw [Array.toList_push]; exact hva.append (.cons rv .nil)
      · rw [List.length_append]; exact hlt
      · rw [List.mem_singleton.mp hq]; exact ⟨e', fun v z => (by cases z)⟩
    · exact wpAny_pure (fin hp hk)
  | succ n ih =>
    intro s gs hgs hg hl hgo
    have hgl : g < s.gens.size := (Array.getElem?_eq_some_iff.mp hgs).1
    refine codeAny_builtin F.entry_extend_loop ?_
    rw [Around.under_plainId F.plain_extend_loop _]
    show wpAny _ A.in1 (pyNext (.ref a) >>= _) _ _ s
    refine wpAny_bind (wpAny_gsz (n := g + 1) hgl (wpAny_pyNext_genexpQ (P := fun _ _ s => GFin Y (csL S) Qf s) hd hl hdp hg hgs hgo (fun v s1 gs' hb hv => ?_) fun s1 hp h' hk => ?_))
    · intro hsz
      obtain ⟨ys, y, H, σ, pc, N, ⟨acc, c, hva, hz, ep⟩, rv, I, ⟨hlt, nH⟩, kap⟩ := hv
      subst ep
      have hS := (I.pin (S, lstObj acc c) (List.mem_append_right _ (List.mem_singleton.mpr rfl))).1
      have sl := Slept.push (v := v) hS (allBare_setGen (g := g) (x := .running) (allBare_setGen (g := g) (x := gs') I.bare hb) rfl)
      obtain ⟨c', e'⟩ := sl.own acc c hS
      have hsz1 : g < s1.gens.size := by
        have q : (s1.setGen g gs').gens.size = s1.gens.size := setGen_size _ _ _
        have hsz' : g + 1 ≤ (s1.setGen g gs').gens.size := hsz
        omega
      have hacc : acc.size < sizeLine := by
        have e1 := hva.length
        have e2 : acc.toList.length = acc.size := by simp
        omega
      have keep3 : ∀ b o, b ≠ S → s1.heap.get? b = some o → (s1.heap.update S (Obj.mapSeq (·.push v))).get? b = some o := fun b o hbS e => (Heap.get?_update_other _ _ (Ne.symm hbS)).trans e
      show wpAny _ A.in1 (updateSeq S (·.push v) >>= _) _ _ _
      refine wpAny_bind ?_
      refine wpAny_updateSeq hS rfl (wpAny_pure ⟨plainId_quiet F.plain_extend_loop _, ?_⟩) (Nat.le_of_lt hacc) (by show (acc.push v).size ≤ sizeLine + 1; rw [Array.size_push]; omega)
      refine ih { s1.setGen g gs' with heap := s1.heap.update S (Obj.mapSeq (·.push v)) } gs' (setGen_at hsz1) ?_ ?_ (kap _ ⟨rfl, sl.bare, fun b o hb => sl.keep b o fun z => hb (by rw [z]; exact List.mem_singleton.mpr rfl), _, ⟨acc.push v, c', ?_, ?_, rfl⟩, fun q hq => ?_⟩ nH)
      · obtain ⟨o, nm, qn, ho, r⟩ := hgen I
        exact ⟨o, nm, qn, keep3 a o (Ne.symm hSa) ho, r⟩
      · obtain ⟨mc, hns, hnn⟩ := I.nolimit
        exact ⟨mc, hns.at' fun o e => keep3 _ o (Ne.symm hSc) e, hnn⟩
      · rw [Array.toList_push]; exact hva.append (.cons rv .nil)
      · rw [List.length_append]; exact hlt
      · rw [List.mem_singleton.mp hq]; exact ⟨e', fun v z => (by cases z)⟩
    · intro hsz
      exact wpAny_pure (fin hp hk)
end
section
variable {X : L2.Cx} {pins : Pins} {σ : L2.St} {A : Around} {E : Value → Shared → Prop} {k : Nat} {a : Addr} {s : Shared} {Qf : List V → Hp → Prop}
/-- all that it hands out -/
theorem collect_gx {Q : List Value → Shared → Prop} (hr : Room (k + 3) A) (hfr : A.frames = some X.stack) (hR : GRdy X pins σ k stepL Qf a s) (hQ : ∀ ys H us s', Inv X pins σ H s' → Vals ys us → ys.length ≤ sizeLine → Qf ys H → Q us s') : wpAny (model X.prog X.w) A (collect (.ref a)) Q E s := by
  obtain ⟨gg, cc, s3, H3, fp, env, go, m0, I3, f3, ha3, ha5, kp, os5, hb5, hgo, hgen, hgs, wake⟩ := hR
  have lim : s.heap.NoLimit := I3.nolimit.keeps kp
  have hSa : s.heap.objs.size ≠ a := Nat.ne_of_gt ha5
  have hcl : cStatics < s.heap.objs.size := let ⟨_, hn, _⟩ := lim; hn.lt
  have hSc : s.heap.objs.size ≠ cStatics := Nat.ne_of_gt hcl
  unfold collect
  refine wpAny_bind (wpAny_runValue (codeAny_builtin F.entry_proto_collect ?_))
  rw [Around.under_plainId F.plain_proto_collect _]
  show wpAny _ A.in1 (newList [] >>= fun l => again (.builtin "list.__iadd__" ⟨[l, .ref a], []⟩)) _ _ s
  refine wpAny_bind (wpAny_newObj_type ?_)
  refine wpAny_pure ⟨plainId_quiet F.plain_list_iadd _, codeAny_builtin F.entry_list_iadd ?_⟩
  rw [Around.under_plainId F.plain_list_iadd _]
  have k1 : ∀ b o, s.heap.get? b = some o → (s.heap.push { cls := .type "list", data := .seq ([] : List Value).toArray }).get? b = some o := fun b o e => Heap.get?_push_of_some _ e
  have up : ∀ (h : Heap) (f : Obj → Obj), (∀ b o, s.heap.get? b = some o → h.get? b = some o) → ∀ b o, s.heap.get? b = some o → (h.update s.heap.objs.size f).get? b = some o := fun h f q b o e =>
    (Heap.get?_update_other _ _ (Ne.symm (Nat.ne_of_lt (Heap.lt_size e)))).trans (q b o e)
  have gty : ∀ {h : Heap}, (∀ b o, s.heap.get? b = some o → h.get? b = some o) → h.IsGen a gg := fun {h} q => hgen h (q a go hgo)
  show wpAny _ A.in1 (Builtin.List.listExtendWith (.ref s.heap.objs.size) (.ref a) (.ref s.heap.objs.size)) _ _ _
  unfold Builtin.List.listExtendWith
  refine wpAny_bind (wpAny_typeOf (Heap.IsGen.typeIs (s := { s with heap := _ }) (gty k1)) ?_)
  have n1 : Builtin.List.listSameRef (.ref s.heap.objs.size) (.ref a) = false := by simp [Builtin.List.listSameRef, hSa]
  have n2 : (Value.type "generator" == Value.type "list") = false := by decide
  have n3 : (Value.type "generator" == Value.type "tuple") = false := by decide
  simp only [n1, n2, n3, Bool.or_false, Bool.false_eq_true, if_false]
  refine wpAny_bind (wpAny_pyIter_gen (s := { s with heap := _ }) (gty k1) ?_)
  refine wpAny_bind (wpAny_holding ?_)
  unfold Builtin.List.listLengthHint
  refine wpAny_bind (wpAny_specialOf (Heap.IsGen.typeIs (s := { s with heap := _ }) (gty k1)) F.gen_no_len ?_)
  show wpAny _ A.in1 (specialOf (Value.ref a) (Str.ofString "__length_hint__") >>= _) _ _ _
  refine wpAny_bind (wpAny_specialOf (Heap.IsGen.typeIs (s := { s with heap := _ }) (gty k1)) F.gen_no_hint ?_)
  refine wpAny_pure ?_
  show wpAny _ A.in1 (rule "list.extend.makes-room" >>= fun _ => Builtin.List.listTouch (.ref s.heap.objs.size) >>= fun _ =>
    again (.builtin "list.extend.loop" ⟨[.ref s.heap.objs.size, .ref a, .ref s.heap.objs.size], []⟩)) _ _ _
  refine wpAny_bind (wpAny_rule ?_)
  have hS1 : (s.heap.push { cls := .type "list", data := .seq ([] : List Value).toArray }).get? s.heap.objs.size = some { cls := .type "list", data := .seq ([] : List Value).toArray } := Heap.get?_push_size _ rfl
  refine wpAny_bind ?_
  show wpAny _ A.in1 (updateSeq s.heap.objs.size (·.push .none) >>= fun _ => updateSeq s.heap.objs.size (·.pop)) _ _ _
  refine wpAny_bind (wpAny_updateSeq hS1 rfl ?_)
  have hS2 := Heap.get?_update_self (Obj.mapSeq (·.push Value.none)) hS1 rfl
  refine wpAny_updateSeq (hz := by seq_fits) hS2 rfl ?_
  have hS3 := Heap.get?_update_self (Obj.mapSeq (·.pop)) hS2 rfl
  have k3 := up _ (Obj.mapSeq (·.pop)) (up _ (Obj.mapSeq (·.push Value.none)) k1)
  generalize hh : (((s.heap.push { cls := .type "list", data := .seq ([] : List Value).toArray }).update s.heap.objs.size (Obj.mapSeq (·.push Value.none))).update s.heap.objs.size (Obj.mapSeq (·.pop))) = h3 at hS3 k3 ⊢
  obtain ⟨A', seg⟩ := wake A.in1.in1 [s.heap.objs.size] (csL s.heap.objs.size) (({ s with heap := h3 } : Shared).setGen gg .running) (m0 + 1) hr.in1.in1 hfr (fun ys p ⟨_, _, _, _, e⟩ => by rw [e]; rfl) (fun b hb => by rw [List.mem_singleton.mp hb]; exact Nat.le_refl _) k3 rfl (allBare_setGen (s := ({ s with heap := h3 } : Shared)) hb5 rfl)
    ⟨_, ⟨_, _, (.nil : Vals [] (#[] : Array Value).toList), Nat.zero_le _, rfl⟩, fun q hq => by rw [List.mem_singleton.mp hq]; exact ⟨hS3, fun v z => (by cases z)⟩⟩ (Nat.lt_succ_self _)
  refine wpAny_pure ⟨plainId_quiet F.plain_extend_loop _, ext_gx (Y := gx X A' s3 H3 env fp [(a, go)]) (Qf := Qf) hr.hd hr.depth hSa hSc (fun I => hgen _ (I.pin (a, go) (List.mem_append_left _ (List.mem_singleton.mpr rfl))).1) (fun ys H' σ' acc c s' G hv hz q => ?_) (m0 + 1) ({ s with heap := h3 } : Shared) _ hgs (gty k3) (lim.keeps k3) ⟨rfl, seg⟩⟩
  have hS' := (G.pin (s.heap.objs.size, lstObj acc c) (List.mem_append_right _ (List.mem_singleton.mpr rfl))).1
  show wpAny _ A (load s.heap.objs.size >>= _) _ _ s'
  refine wpAny_bind (wpAny_load hS' ?_)
  exact wpAny_pure (hQ ys H' acc.toList s' (gx_back I3 f3 G) hv hz q)
theorem newtup_gx {Q1 : Value → Shared → Prop} (hr : Room (k + 4) A) (hfr : A.frames = some X.stack) (hR : GRdy X pins σ k stepL Qf a s)
    (h : ∀ ys H us s', Inv X pins σ H s' → Vals ys us → ys.length ≤ sizeLine → Qf ys H → Q1 (.ref s'.heap.objs.size) { s' with heap := s'.heap.push { cls := .type "tuple", data := .seq us.toArray } }) :
    codeAny (model X.prog X.w) A (.call (.builtin "tuple.__new__") ⟨[.type "tuple", .ref a], []⟩) (wants Q1 E) s := by
  refine codeAny_of_tree ?_
  show wpAny _ A.in1 (do checkBuiltinCall "tuple.__new__" ⟨[.type "tuple", .ref a], []⟩; again (.builtin "tuple.__new__" ⟨[.type "tuple", .ref a], []⟩)) _ _ s
  refine wpAny_bind (wpAny_of_eq (F.newCall_tuple_1 _) (wpAny_pure ⟨plainId_quiet F.plain_tuple_new _, codeAny_builtin F.entry_tuple_new ?_⟩))
  rw [Around.under_plainId F.plain_tuple_new _]
  have hsub := sub_tuple_self
  have hinit := init_tuple_lookup
  have hmh := madeHere_tuple
  have hTI : s.TypeIs (.ref a) "generator" := (let ⟨_, _, _, _, _, _, _, _, _, _, _, _, _, _, _, hgo, hgen, _⟩ := hR; (hgen _ hgo).typeIs)
  wp_walk using wpAny_typeOf hTI, collect_gx (X := X) (pins := pins) (σ := σ) (Qf := Qf) (hr.in1 : Room (k + 3) A.in1) hfr hR
  intro ys H us s' I hv hz q
  have hl := hv.length
  show wpAny _ _ (Builtin.Tuple.tupleExact us.toArray >>= fun v => ret v) _ _ _
  unfold Builtin.Tuple.tupleExact
  refine wpAny_bind (wpAny_newObj_type ?_ (by show us.toArray.size ≤ sizeLine; rw [List.size_toArray]; omega))
  exact wpAny_pure (h ys H us s' I hv hz q)
end
section
variable {X : L2.Cx} {tg iter elt : Expr} {ifs : List Expr} {scope : Scope} {own : List (Str × Nat)} {gpos pos p : Pos} {wi : TI} {g : TG} {tt : TT} {te : TE} {k : Nat} {c P : Addr}
/-- tuple(.. for .. in ..) -/
theorem pe_tupG (hr : Room (k + 6) X.A) (hG : Gl X "tuple") (hm : X.mg "tuple" = none) (TB : LamX.TabB X.base X.mg c P) (hcode : X.env.code = .ref c) (ok : BlkOk X.N X.env.scope scope own) (hN : X.N.Nodup) (hcell : ∀ y ∈ scope.names, y.2 ≠ .cell) (hdot : scope.names.lookup (".0" : Str) = some NameKind.local) (hco : scope.isCoroutine = false)
    (hi : PI X tg iter wi) (hg : InGx X scope k fun Y => PG Y tg g) (ht : InGx X scope k fun Y => PTs Y ifs tt) (he : InGx X scope k fun Y => PE Y elt te) (hs : ∀ v, genFold iter X.env v = pure v)
    (hst : starEach [.GeneratorExp elt [⟨tg, iter, ifs, 0⟩] scope gpos] X.env = (false, eval (.GeneratorExp elt [⟨tg, iter, ifs, 0⟩] scope gpos) X.env) :: starEach [] X.env := by rfl) :
    PE X (.Call (.Name "tuple" p) [.GeneratorExp elt [⟨tg, iter, ifs, 0⟩] scope gpos] [] pos) (fun σ H Q => tGx X P gpos wi g tt te (own.map (·.2)) stepL (fun ys H' => ∀ q, H' q = none → Q (.ref q) (upd H' q (.tup ys))) σ H) := by
  have hb : bootBuiltins "tuple" = some (.type "tuple") := by decide +kernel
  refine ⟨fun pins s σ H Q I h => ?_⟩
  refine wpAny_Call_Name_kw (ld_blt I hG hm hb ?_)
  refine PyProof.Rows.callWith_type1 ?_ hst rfl
  rw [hst]
  show wpAny _ _ (spliced ((false, eval (.GeneratorExp elt [⟨tg, iter, ifs, 0⟩] scope gpos) X.env) :: backTo pos (starEach [] X.env))) _ _ s
  refine Calls.spliced_cons (gen_ok hr.hd hr.depth TB hcode ok hN hcell hdot hco hi hg ht he hs I h fun a s5 hR => ?_)
  refine Calls.spliced_nil ?_
  refine callType_codes (Q₁ := fun obj s₁ => s₁.TypeIs obj "tuple" ∧ EP X pins σ Q obj s₁) F.called_tuple (F.typeCall_tuple_1 _) F.entry_object_init
    (newtup_gx (X := X) (pins := pins) (σ := σ) (hr.in1.mono (Nat.le_succ _) : Room (k + 4) X.A.in1) I.ok.frames hR fun ys H' us s' I' hv hz q => ⟨⟨_, Heap.get?_push_size _ rfl, rfl⟩, ?_⟩) fun obj s₁ h₁ => ?_
  · refine ⟨.ref s'.heap.objs.size, _, I'.laid (a := s'.heap.objs.size) (o := .tup ys) (t' := s'.toks) (fun b u e => Heap.get?_push_of_some _ e) (Nat.le_refl _) ?_, rfl, q _ (I'.hok.fresh (Nat.le_refl _))⟩
    exact ⟨hz, us, hv, _, Heap.get?_push_size _ rfl, rfl, _, rfl⟩
  · exact ⟨h₁.1, F.args_object_init_2 obj _, object_init_meets F.called_tuple.init.lookup F.called_tuple.made (by decide) X.prog X.w X.A.in1 _ s₁ ⟨h₁.1, rfl, h₁.2⟩⟩
end
end Z

end
section
set_option Elab.async false
set_option linter.all false
set_option maxRecDepth 100000
set_option maxHeartbeats 1000000
/-! Z26: generator expressions by words. -/
namespace Z
open PySem PySem.Spec PyProof.Rows L2
def wG (Γ : Gm) : List Nat → Gm
  | [] => Γ
  | v :: vs => (wG Γ vs).set v none
theorem EnvOk.wipeL {Γ : Gm} {F : Hp} {σ : L2.St} (h : EnvOk Γ F σ) : ∀ vs : List Nat, EnvOk (wG Γ vs) F (wipe σ vs)
  | [] => h
  | v :: vs => (EnvOk.wipeL h vs).wipe1 v
abbrev J.gx (j : J) (A : Around) (s : Shared) (H : Hp) (scope : Scope) (C : Addr) (code : Value) (fp : List Addr) (pn : Pins) : J := ⟨Z.gx j.X A s H (gEnv j.X scope C code) fp pn, j.tb, fun _ _ => False⟩
abbrev InG (j : J) (scope : Scope) (k : Nat) (P : J → Prop) : Prop := ∀ (A : Around) (s : Shared) (H : Hp) (C : Addr) (code : Value) (fp : List Addr) (pn : Pins), Room k A → P (j.gx A s H scope C code fp pn)
/-- a target takes a thing that is so -/
structure Tgt (vs : List Nat) (g : TG) (Γ : Gm) (q : Pr) (Γ1 : Gm) : Prop where
  run : ∀ tb Φ C σ F H v (Q : L2.St → Hp → Prop), Sta tb Φ (wG Γ vs) C (wipe σ vs) F H → q.on F v → (∀ σ1, EnvOk Γ1 F σ1 → wipe σ1 vs = wipe σ vs → Q σ1 H) → g v (wipe σ vs) H Q
theorem tgt_name {i : Nat} {Γ : Gm} {q : Pr} : Tgt [i] (gName i) Γ q ((wG Γ [i]).set i (some q)) :=
  ⟨fun tb Φ C σ F H v Q S o k => k _ (S.env.set i o) (by show (((σ.set i none).set i (some v)).set i none) = σ.set i none; rw [List.set_set, List.set_set])⟩
abbrev gPair (K : PySem.W.Frag) (i k : Nat) : TG := gTup K 2 (gCons (gName i) (gCons (gName k) gNil))
theorem tgt_pair {K : PySem.W.Frag} {i k : Nat} {Γ : Gm} {p q : Pr} (hik : i ≠ k) : Tgt [i, k] (gPair K i k) Γ (rT K [p, q]) (((wG Γ [i, k]).set i (some p)).set k (some q)) :=
  ⟨fun tb Φ C σ F H v Q S ⟨a, ws, ev, hs, ho⟩ kk => by
    obtain ⟨x, y, e, o1, o2⟩ := all2 ho
    subst e
    refine ⟨a, _, ev, S.seqT hs, rfl, x, [y], rfl, y, [], rfl, rfl, ?_⟩
    refine kk _ ((S.env.set i o1).set k o2) ?_
    show ((((((σ.set k none).set i none).set i (some x)).set k (some y)).set k none).set i none) = (σ.set k none).set i none
    refine List.ext_getElem? fun n => ?_
    by_cases h1 : n = i
    · subst h1
      simp [List.getElem?_set, Ne.symm hik]
    · by_cases h2 : n = k
      · subst h2
        simp [List.getElem?_set, hik]
      · simp [List.getElem?_set, Ne.symm h1, Ne.symm h2]⟩
abbrev gTrip (K : PySem.W.Frag) (i k l : Nat) : TG := gTup K 3 (gCons (gName i) (gCons (gName k) (gCons (gName l) gNil)))
section
variable {j : J} {scope : Scope} {Γ Γ1 : Gm} {C : List Cell} {R : Ps} {iter elt tg : Expr} {ifs : List Expr} {vs : List Nat} {k : Nat} {g : TG} {P : Addr} {gpos pos pp : Pos} {c : Addr} {nm : Nat → Nat → Str}
def WifG (j : J) (scope : Scope) (k : Nat) (ifs : List Expr) : TT := fun σ H Q => InG j scope k fun jg => Wif jg.X ifs σ H Q
def WeG (j : J) (scope : Scope) (k : Nat) (elt : Expr) : TE := fun σ H Q => InG j scope k fun jg => We jg.X elt σ H Q
theorem pts_wifG : InGx j.X scope k fun Y => PTs Y ifs (WifG j scope k ifs) := fun A s H C code fp pn hr => ⟨fun pins s' σ H' Q I h => h A s H C code fp pn hr pins s' I⟩
theorem pe_weG : InGx j.X scope k fun Y => PE Y elt (WeG j scope k elt) := fun A s H C code fp pn hr => ⟨fun pins s' σ H' Q I h => h A s H C code fp pn hr pins s' I⟩
/-- one turn; SZ: what is asked of what is handed out -/
def GTurn (j : J) (scope : Scope) (k : Nat) (Γ : Gm) (vs : List Nat) (g : TG) (q : Pr) (C : List Cell) (acc : List Pr) (elt : Expr) (ifs : List Expr) (SZ : List Cell → List Pr → Pr → (List Cell → List Pr → Prop) → Prop) (N : List Cell → List Pr → Prop) : Prop :=
  ∃ Γ1, Tgt vs g Γ q Γ1 ∧ InG j scope k fun jg => Eif jg Γ1 C ifs fun C2 b => (b = true → InG j scope k fun jg => Ev jg Γ1 C2 elt fun C3 z => SZ C3 acc z N) ∧ (b = false → N C2 acc)
/-- over a frozen list -/
def GL (j : J) (scope : Scope) (k : Nat) (Γ : Gm) (C : List Cell) (vs : List Nat) (g : TG) (iter elt : Expr) (ifs : List Expr) (SZ : List Cell → List Pr → Pr → (List Cell → List Pr → Prop) → Prop) (Rf : List Cell → List Pr → Prop) : Prop :=
  Ev j Γ C iter fun C1 p => ∃ ps, p = rL ps ∧ ∃ I : Nat → List Cell → List Pr → Prop, I 0 C1 [] ∧ (∀ n q Ci acc, ps[n]? = some q → I n Ci acc → GTurn j scope k Γ vs g q Ci acc elt ifs SZ fun C' acc' => I (n + 1) C' acc') ∧ ∀ Cn acc, I ps.length Cn acc → Rf Cn acc
theorem Sta.envTo {tb : Tb} {Φ : Fx} {Γ Γ' : Gm} {σ σ' : L2.St} {F H : Hp} (S : Sta tb Φ Γ C σ F H) (E : EnvOk Γ' F σ') : Sta tb Φ Γ' C σ' F H := ⟨E, S.cells, S.subx, S.fine, S.tab, S.base, S.fresh, S.keep, S.own, S.there⟩
theorem gl_read {SZ : List Cell → List Pr → Pr → (List Cell → List Pr → Prop) → Prop} {Rf : List Cell → List Pr → Prop} {step : List V → V → Hp → (Hp → Prop) → Prop} {fin : List V → Hp → Prop} {Φ : Fx} {σ : L2.St} {F H : Hp} (h : GL j scope k Γ C vs g iter elt ifs SZ Rf) (xw : XW j Φ) (S : Sta j.tb Φ Γ C σ F H)
    (hm : (P, nm) ∈ j.tb.nt) (hn : nm gpos.line gpos.col = j.X.env.qual ++ "<genexpr>") (hu : ∀ p ∈ j.tb.nt, p.1 = P → p.2 = nm)
    (hstep : ∀ C3 acc z (N : List Cell → List Pr → Prop) ys y F' H' (Nx : Hp → Prop), L2.Same F F' → SZ C3 acc z N → Sta j.tb Φ Γ C3 σ F' H' → AllOn acc F' ys → z.on F' y → (∀ acc', N C3 acc' → AllOn acc' F' (ys ++ [y]) → Nx H') → step ys y H' Nx)
    (hfin : ∀ Cn acc ys F' H', L2.Same F F' → Rf Cn acc → Sta j.tb Φ Γ Cn σ F' H' → AllOn acc F' ys → fin ys H') :
    tGx j.X P gpos (iList j.X.K (We j.X iter)) g (WifG j scope k ifs) (WeG j scope k elt) vs step fin σ H := by
  refine h Φ σ F H _ xw S fun v F1 H1 C1 p ⟨ps, ep, I, i0, turn, fi⟩ S1 s1 o1 => ?_
  subst ep
  obtain ⟨al, ys0, ev, hl, hy⟩ := o1
  refine ⟨al, ev, ⟨ys0, .inl (S1.sub _ _ hl)⟩, ?_⟩
  obtain ⟨pst, t1, t2, t3⟩ := S1.tab.nt _ hm
  have t1 : H1 P = some (.tbl pst) := t1
  have wl := walk_list (K := j.X.K) (a := al) (xs := ys0)
  have hlen : ps.length = ys0.length := hy.length
  have xq : ∀ A s H C code fp pn Φ, XW (j.gx A s H scope C code fp pn) Φ := fun A s H C code fp pn Φ => xw_none fun _ _ z => z
  have main : ∀ F3 H3, Sta j.tb Φ Γ C1 σ F3 H3 → L2.Same F1 F3 → ∃ W : Nat → Nat → List V → Hp → Prop, (∃ m, W 0 m [] H3) ∧ GWalk (Itl j.X.K al) g (WifG j scope k ifs) (WeG j scope k elt) vs σ step fin W := by
    intro F3 H3 S3 s3
    refine ⟨fun i m ys H' => m = ys0.length - i ∧ i ≤ ys0.length ∧ ∃ C' acc F', I i C' acc ∧ Sta j.tb Φ (wG Γ vs) C' (wipe σ vs) F' H' ∧ L2.Same F3 F' ∧ AllOn acc F' ys, ⟨ys0.length, by simp, Nat.zero_le _, C1, [], F3, i0, S3.envTo (S3.env.wipeL vs), L2.Same.refl _, .nil⟩, ?_⟩
    rintro i m ys H' ⟨rfl, hi, C', acc, F', hI, S', s', ha⟩
    have hsq : SqL j.X.K H' al ys0 := .inl (S'.sub _ _ (s' _ _ (s3 _ _ hl)))
    by_cases hlt : i < ys0.length
    · refine .inr ⟨wl.goes i H' hlt hsq, fun ys' H'' => ∃ C' acc F', I (i + 1) C' acc ∧ Sta j.tb Φ (wG Γ vs) C' (wipe σ vs) F' H'' ∧ L2.Same F3 F' ∧ AllOn acc F' ys', fun ys' H'' q => ⟨ys0.length - (i + 1), by omega, rfl, hlt, q⟩, fun x H'' yl => ?_⟩
      obtain ⟨eH, hyn⟩ := wl.yields i H' x H'' hlt hsq yl
      subst eH
      have hip : i < ps.length := by omega
      obtain ⟨y', e1, e2⟩ := hy.get (List.getElem?_eq_getElem hip)
      rw [hyn] at e1
      cases e1
      obtain ⟨Γ1, tgt, tn⟩ := turn i ps[i] C' acc (List.getElem?_eq_getElem hip) hI
      refine tgt.run _ Φ C' σ F' H'' x _ S' (ps[i].mono (s3.trans s') e2) fun σ1 env1 hw => ⟨hw, ?_⟩
      have S1' := S'.envTo env1
      intro A s0 H0 Cc code fp pn hrA
      refine tn A s0 H0 Cc code fp pn hrA Φ σ1 F' H'' _ (xq _ _ _ _ _ _ _ _) S1' fun b F2 H2 C2 ⟨k1, k2⟩ S2 s2 => ?_
      cases b with
      | false => exact iteF ⟨C2, acc, F2, k2 rfl, S2.envTo (S'.env.mono s2), s'.trans s2, ha.mono s2⟩
      | true =>
        refine iteT fun A s0 H0 Cc code fp pn hrA => k1 rfl A s0 H0 Cc code fp pn hrA Φ σ1 F2 H2 _ (xq _ _ _ _ _ _ _ _) S2 fun y F4 H4 C4 z sz S4 s4 o4 => ?_
        have sF : L2.Same F' F4 := s2.trans s4
        refine hstep C4 acc z _ ys y F4 H4 _ (((s1.trans s3).trans s').trans sF) sz (S4.envTo (S3.env.mono (s'.trans sF))) (ha.mono sF) o4 fun acc' n' ha' => ?_
        exact ⟨C4, acc', F4, n', S4.envTo (S'.env.mono sF), s'.trans sF, ha'⟩
    · have en : i = ys0.length := by omega
      subst en
      rw [← hlen] at hI
      exact .inl ⟨wl.stops H' hsq, hfin C' acc ys F' H' ((s1.trans s3).trans s') (fi C' acc hI) (S'.envTo (S3.env.mono s')) ha⟩
  refine ⟨pst, t1, t2, fun c' n1 => ?_, fun cv hc => main F1 H1 S1 (L2.Same.refl _)⟩
  obtain ⟨S2, s2⟩ := S1.code (pos := gpos) t1 hm hu n1
  rw [hn] at S2 s2
  exact main _ _ S2 s2
abbrev szTup : List Cell → List Pr → Pr → (List Cell → List Pr → Prop) → Prop := fun C acc z N => acc.length < sizeLine ∧ N C (acc ++ [z])
abbrev szAny (R : Ps) : List Cell → List Pr → Pr → (List Cell → List Pr → Prop) → Prop := fun C acc z N => ∃ b, z = isB b ∧ (b = true → R C (isB true)) ∧ (b = false → N C (acc ++ [z]))
abbrev szAll (R : Ps) : List Cell → List Pr → Pr → (List Cell → List Pr → Prop) → Prop := fun C acc z N => ∃ b, z = isB b ∧ (b = true → N C (acc ++ [z])) ∧ (b = false → R C (isB false))
/-- what the rules ask of the place -/
structure GOk (j : J) (scope : Scope) (own : List (Str × Nat)) (k : Nat) (iter tg : Expr) (g : TG) (P : Addr) (c : Addr) (nm : Nat → Nat → Str) (gpos : Pos) : Prop where
  tb : (P, nm) ∈ j.tb.nt
  at_ : nm gpos.line gpos.col = j.X.env.qual ++ "<genexpr>"
  un : ∀ p ∈ j.tb.nt, p.1 = P → p.2 = nm
  TB : LamX.TabB j.X.base j.X.mg c P
  code : j.X.env.code = .ref c
  ok : BlkOk j.X.N j.X.env.scope scope own
  nd : j.X.N.Nodup
  cell : ∀ y ∈ scope.names, y.2 ≠ .cell
  dot : scope.names.lookup (".0" : Str) = some NameKind.local
  co : scope.isCoroutine = false
  tg : InGx j.X scope k fun Y => PG Y tg g
  fold : ∀ v, genFold iter j.X.env v = pure v
variable {own : List (Str × Nat)}
theorem ev_tupGL (G : GOk j scope own k iter tg g P c nm gpos) (hr : Room (k + 6) j.X.A) (hmg : j.X.mg "tuple" = none) (h : GL j scope k Γ C (own.map (·.2)) g iter elt ifs szTup fun C' acc => R C' (rT j.X.K acc)) (hG : Gl j.X "tuple" := by rfl)
    (hst : starEach [.GeneratorExp elt [⟨tg, iter, ifs, 0⟩] scope gpos] j.X.env = (false, eval (.GeneratorExp elt [⟨tg, iter, ifs, 0⟩] scope gpos) j.X.env) :: starEach [] j.X.env := by rfl) :
    Ev j Γ C (.Call (.Name "tuple" pp) [.GeneratorExp elt [⟨tg, iter, ifs, 0⟩] scope gpos] [] pos) R :=
  ev_lift (pe_tupG hr hG hmg G.TB G.code G.ok G.nd G.cell G.dot G.co (pi_list pe_we) G.tg pts_wifG pe_weG G.fold hst) fun Φ σ F H Q xw S K => gl_read h xw S G.tb G.at_ G.un
    (fun C3 acc z N ys y F' H' Nx s' ⟨h1, h2⟩ S' ha o k => ⟨by rw [← ha.length]; exact h1, k _ h2 (ha.snoc o)⟩)
    fun Cn acc ys F' H' s' r S' ha q hq => by
      obtain ⟨S2, s2⟩ := S'.newF (o := .tup ys) hq ⟨fun _ z => (nomatch z), fun _ _ z => (nomatch z)⟩
      exact K _ _ _ _ _ r S2 (s'.trans s2) ⟨q, ys, rfl, SqT.of upd_same, ha.mono s2⟩
theorem ev_anyGL (G : GOk j scope own k iter tg g P c nm gpos) (hr : Room (k + 3) j.X.A) (hmg : j.X.mg "any" = none) (h : GL j scope k Γ C (own.map (·.2)) g iter elt ifs (szAny R) fun C' acc => R C' (isB false)) (hG : Gl j.X "any" := by rfl)
    (hst : starEach [.GeneratorExp elt [⟨tg, iter, ifs, 0⟩] scope gpos] j.X.env = (false, eval (.GeneratorExp elt [⟨tg, iter, ifs, 0⟩] scope gpos) j.X.env) :: starEach [] j.X.env := by rfl) :
    Ev j Γ C (.Call (.Name "any" pp) [.GeneratorExp elt [⟨tg, iter, ifs, 0⟩] scope gpos] [] pos) R :=
  ev_lift (pe_anyG hr hG hmg G.TB G.code G.ok G.nd G.cell G.dot G.co (pi_list pe_we) G.tg pts_wifG pe_weG G.fold hst) fun Φ σ F H Q xw S K => gl_read h xw S G.tb G.at_ G.un
    (fun C3 acc z N ys y F' H' Nx s' ⟨b, ez, h1, h2⟩ S' ha o k => ⟨b, by subst ez; exact o, fun hb => K _ F' H' C3 _ (h1 hb) S' s' rfl, fun hb => k _ (h2 hb) (ha.snoc o)⟩)
    fun Cn acc ys F' H' s' r S' ha => K _ F' H' Cn _ r S' s' rfl
theorem ev_allGL (G : GOk j scope own k iter tg g P c nm gpos) (hr : Room (k + 3) j.X.A) (hmg : j.X.mg "all" = none) (h : GL j scope k Γ C (own.map (·.2)) g iter elt ifs (szAll R) fun C' acc => R C' (isB true)) (hG : Gl j.X "all" := by rfl)
    (hst : starEach [.GeneratorExp elt [⟨tg, iter, ifs, 0⟩] scope gpos] j.X.env = (false, eval (.GeneratorExp elt [⟨tg, iter, ifs, 0⟩] scope gpos) j.X.env) :: starEach [] j.X.env := by rfl) :
    Ev j Γ C (.Call (.Name "all" pp) [.GeneratorExp elt [⟨tg, iter, ifs, 0⟩] scope gpos] [] pos) R :=
  ev_lift (pe_allG hr hG hmg G.TB G.code G.ok G.nd G.cell G.dot G.co (pi_list pe_we) G.tg pts_wifG pe_weG G.fold hst) fun Φ σ F H Q xw S K => gl_read h xw S G.tb G.at_ G.un
    (fun C3 acc z N ys y F' H' Nx s' ⟨b, ez, h1, h2⟩ S' ha o k => ⟨b, by subst ez; exact o, fun hb => k _ (h1 hb) (ha.snoc o), fun hb => K _ F' H' C3 _ (h2 hb) S' s' rfl⟩)
    fun Cn acc ys F' H' s' r S' ha => K _ F' H' Cn _ r S' s' rfl
end
end Z

end
section
set_option Elab.async false
set_option linter.all false
set_option maxRecDepth 100000
set_option maxHeartbeats 1000000
/-! Z27: zip over any two things that hand out their items one by one (a list and a tuple). -/
namespace Z
open PySem PySem.Spec
/-- an iterator i over the sequence at l, n items, item k is val k; S k: it stands before item k -/
structure SqS (prog : Program) (w : World) (i l : Addr) (n : Nat) (val : Nat → Value) (S : Nat → Heap → Prop) : Prop where
  stay : ∀ {k : Nat} {h h' : Heap}, S k h → (∀ o, h.get? i = some o → h'.get? i = some o) → (∀ o, h.get? l = some o → h'.get? l = some o) → S k h'
  obj : ∀ {k : Nat} {h : Heap}, S k h → ∃ o, h.get? i = some o ∧ ∀ v, o.data ≠ .cell v
  item : ∀ {A : Around} {s : Shared} {k : Nat} {Q : Value → Shared → Prop} {E : Value → Shared → Prop}, k < n → S k s.heap → (∀ h', S (k + 1) h' → Heap.SameBut i s.heap h' → Q (val k) { s with heap := h' }) → wpAny (model prog w) A (Builtin.SmallTypes.nextOf (.ref i)) Q E s
  fin : ∀ {A : Around} {s : Shared} {Q : Value → Shared → Prop} {E : Value → Shared → Prop}, A.handled = none → S n s.heap → (∀ h' e, Heap.ExtBut i s.heap h' → (∃ o, h'.get? e = some o ∧ o.cls = .type "StopIteration") → E (.ref e) { s with heap := h' }) →
    wpAny (model prog w) A (Builtin.SmallTypes.nextOf (.ref i)) Q E s
theorem SqS.list {prog : Program} {w : World} {i l : Addr} (ne : l ≠ i) (xs : Array Value) : SqS prog w i l xs.size (fun k => xs[k]?.getD .none) (fun k h => h.IsListIter i l k ∧ h.IsList l xs) where
  stay := fun ⟨a, b⟩ c d => ⟨a.at c, b.at d⟩
  obj := fun ⟨⟨o, e, _, d⟩, _⟩ => ⟨o, e, fun v q => by rw [d] at q; cases q⟩
  item := fun {A s k Q E} hk ⟨a, b⟩ h => by
    have ex := Array.getElem?_eq_getElem hk
    refine wpAny_nextOf_list_item a b ex fun h' a' sb => ?_
    have q := h h' ⟨a', b.extBut sb.extBut ne⟩ sb
    rw [ex] at q
    exact q
  fin := fun hh ⟨a, b⟩ h => wpAny_nextOf_list_end hh a b (Array.getElem?_eq_none (Nat.le_refl _)) h
theorem SqS.tuple {prog : Program} {w : World} {i l : Addr} (ne : l ≠ i) (xs : Array Value) : SqS prog w i l xs.size (fun k => xs[k]?.getD .none) (fun k h => h.IsTupleIter i l k ∧ h.IsTuple l xs) where
  stay := fun ⟨a, b⟩ c d => ⟨a.at c, b.at d⟩
  obj := fun ⟨⟨o, e, _, d⟩, _⟩ => ⟨o, e, fun v q => by rw [d] at q; cases q⟩
  item := fun {A s k Q E} hk ⟨a, b⟩ h => by
    have ex := Array.getElem?_eq_getElem hk
    refine RZ.nextOf_tuple_item a b ex fun h' a' sb => ?_
    have q := h h' ⟨a', b.extBut sb.extBut ne⟩ sb
    rw [ex] at q
    exact q
  fin := fun hh ⟨a, b⟩ h => RZ.nextOf_tuple_end hh a b (Array.getElem?_eq_none (Nat.le_refl _)) h
section
variable {prog : Program} {w : World} {A : Around} {E : Value → Shared → Prop} {s : Shared} {z TI TO i1 i2 l1 l2 : Addr} {n m k : Nat} {v1 v2 : Nat → Value} {S1 S2 : Nat → Heap → Prop}
/-- all but what a zip turns -/
abbrev Oth (z TO i1 i2 : Addr) (h h' : Heap) : Prop := ∀ c o, c ≠ z → c ≠ TO → c ≠ i1 → c ≠ i2 → h.get? c = some o → h'.get? c = some o
/-- one of the two slots is filled -/
theorem slot_fill {T : Addr} {a b x : Value} {j : Nat} {Q : Unit → Shared → Prop} (hT : IsPair s.heap T a b) (hj : j = 0 ∨ j = 1)
    (h : ∀ h', IsPair h' T (if j = 0 then x else a) (if j = 0 then b else x) → Heap.SameBut T s.heap h' → Q () { s with heap := h' }) : wpAny (model prog w) A (updateSeq T (·.setIfInBounds j x)) Q E s := by
  refine wpAny_updateSeq_pair hT fun h' e sb => h h' ?_ sb
  rcases hj with rfl | rfl
  · exact e
  · exact e
theorem zipG_item (P1 : SqS prog w i1 l1 n v1 S1) (P2 : SqS prog w i2 l2 m v2 S2) (D : ZipApart z TI TO i1 i2 l1 l2) {a b : Value} {Q : Value → Shared → Prop} (h1n : k < n) (h2m : k < m)
    (hz : IsZip s.heap z TI TO .none) (hTI : IsPair s.heap TI (.ref i1) (.ref i2)) (hTO : IsPair s.heap TO a b) (s1 : S1 k s.heap) (s2 : S2 k s.heap)
    (hQ : ∀ h', IsZip h' z TI TO (rawInt s.heap.objs.size) → IsPair h' TO (v1 k) (v2 k) → S1 (k + 1) h' → S2 (k + 1) h' → IsPair h' s.heap.objs.size (v1 k) (v2 k) → Oth z TO i1 i2 s.heap h' → Q (.ref s.heap.objs.size) { s with heap := h' }) :
    wpAny (model prog w) A (Builtin.«zip.__next__» ⟨[.ref z], []⟩) (fun fin s' => ∃ v, fin = .done (.ret v) ∧ Q v s') E s := by
  show wpAny _ _ (field (.ref z) 2 >>= _) _ _ _
  refine wpAny_bind (wpAny_field hz rfl (x := .bool false) rfl ?_)
  show wpAny _ _ (field (.ref z) 3 >>= _) _ _ _
  refine wpAny_bind (wpAny_field hz rfl (x := .ref TI) rfl (wpAny_bind (wpAny_seqItems hTI rfl ?_)))
  show wpAny _ _ (Builtin.SmallTypes.ownedTupleIsFree (.ref z) >>= _) _ _ _
  unfold Builtin.SmallTypes.ownedTupleIsFree
  refine wpAny_bind (wpAny_bind (wpAny_field hz rfl (x := .none) rfl (wpAny_pure ?_)))
  simp only [if_true]
  refine wpAny_bind (wpAny_rule (wpAny_bind (wpAny_field hz rfl (x := .ref TO) rfl (wpAny_bind (wpAny_setField_rec hz (by simp) fun ha za ba => ?_)))))
  replace za : IsZip ha z TI TO .ellipsis := za
  simp only [List.zipIdx_cons, List.zipIdx_nil, List.forIn_cons, List.forIn_nil]
  refine wpAny_bind (wpAny_bind (wpAny_bind (wpAny_onRaise ?_)))
  show wpAny _ _ (Builtin.SmallTypes.nextOf (.ref i1) >>= _) _ _ _
  have ka := ba.extBut
  refine wpAny_bind (P1.item (s := { s with heap := ha }) h1n (P1.stay s1 (fun o => ka _ o D.i1z) fun o => ka _ o D.l1z) fun hb tb bb => wpAny_pure ?_)
  have kb := bb.extBut
  have pb : IsPair hb TO a b := kb _ _ D.TOi1 (ka _ _ D.TOz hTO)
  refine wpAny_bind (wpAny_seqItems pb rfl (wpAny_bind (slot_fill pb (.inl rfl) fun hc pc bc => ?_)))
  have kc := bc.extBut
  refine wpAny_bind (wpAny_letGo (wpAny_pure ?_))
  refine wpAny_bind (wpAny_bind (wpAny_onRaise ?_))
  show wpAny _ _ (Builtin.SmallTypes.nextOf (.ref i2) >>= _) _ _ _
  have t2 : S2 k hc := P2.stay s2 (fun o e => kc _ o D.TOi2.symm (kb _ o D.i12.symm (ka _ o D.i2z e))) fun o e => kc _ o D.l2TO (kb _ o D.l2i1 (ka _ o D.l2z e))
  refine wpAny_bind (P2.item (s := { s with heap := hc }) h2m t2 fun hd td bd => wpAny_pure ?_)
  have kd := bd.extBut
  have pd : IsPair hd TO (v1 k) b := kd _ _ D.TOi2 pc
  refine wpAny_bind (wpAny_seqItems pd rfl (wpAny_bind (slot_fill pd (.inr rfl) fun he pe be => ?_)))
  have ke := be.extBut
  refine wpAny_bind (wpAny_letGo (wpAny_pure (wpAny_pure ?_)))
  refine wpAny_bind (wpAny_seqItems pe rfl (wpAny_bind (wpAny_newTuple ?_)))
  have sz : he.objs.size = s.heap.objs.size := by rw [be.1, bd.1, bc.1, bb.1, ba.1]
  have ze : IsZip he z TI TO .ellipsis := ke _ _ D.TOz.symm (kd _ _ D.i2z.symm (kc _ _ D.TOz.symm (kb _ _ D.i1z.symm za)))
  have oth : Oth z TO i1 i2 s.heap he := fun c o c1 c2 c3 c4 e => ke _ _ c2 (kd _ _ c4 (kc _ _ c2 (kb _ _ c3 (ka _ _ c1 e))))
  have u1 : S1 (k + 1) he := P1.stay tb (fun o e => ke _ o D.TOi1.symm (kd _ o D.i12 (kc _ o D.TOi1.symm e))) fun o e => ke _ o D.l1TO (kd _ o D.l1i2 (kc _ o D.l1TO e))
  have u2 : S2 (k + 1) he := P2.stay td (fun o e => ke _ o D.TOi2.symm e) fun o e => ke _ o D.l2TO e
  have zlt : z < he.objs.size := Heap.lt_size ze
  show wpAny _ _ (Builtin.SmallTypes.ownedTupleHandOut (.ref z) (.ref he.objs.size) >>= _) _ _ _
  unfold Builtin.SmallTypes.ownedTupleHandOut
  have zf : IsZip (he.push { cls := .type "tuple", data := .seq #[v1 k, v2 k] }) z TI TO .ellipsis := Heap.get?_push_of_some _ ze
  refine wpAny_bind (wpAny_bind (wpAny_setField_rec zf (by simp) fun hg zg bg => ?_))
  replace zg : IsZip hg z TI TO (rawInt he.objs.size) := zg
  refine wpAny_setField_rec zg (by simp) fun hi zi bi => ?_
  replace zi : IsZip hi z TI TO (rawInt he.objs.size) := zi
  have up : ∀ c o, c ≠ z → he.get? c = some o → hi.get? c = some o := fun c o c1 e => bi.extBut _ _ c1 (bg.extBut _ _ c1 (Heap.get?_push_of_some _ e))
  have pT : IsPair hi he.objs.size (v1 k) (v2 k) := bi.extBut _ _ (Nat.ne_of_gt zlt) (bg.extBut _ _ (Nat.ne_of_gt zlt) (Heap.get?_push_size _ rfl))
  rw [sz] at zi pT
  refine wpAny_pure ⟨_, rfl, ?_⟩
  show Q (.ref he.objs.size) _
  rw [sz]
  exact hQ hi zi (up _ _ D.TOz pe) (P1.stay u1 (fun o => up _ o D.i1z) fun o => up _ o D.l1z) (P2.stay u2 (fun o => up _ o D.i2z) fun o => up _ o D.l2z) pT fun c o c1 c2 c3 c4 e => up c o c1 (oth c o c1 c2 c3 c4 e)
theorem zipG_end (P1 : SqS prog w i1 l1 n v1 S1) (P2 : SqS prog w i2 l2 m v2 S2) (D : ZipApart z TI TO i1 i2 l1 l2) {a b : Value} {Q : Fin → Shared → Prop} (hh : A.handled = none) (hk : k = n ∨ k < n ∧ k = m)
    (hz : IsZip s.heap z TI TO .none) (hTI : IsPair s.heap TI (.ref i1) (.ref i2)) (hTO : IsPair s.heap TO a b) (s1 : S1 k s.heap) (s2 : S2 k s.heap)
    (hE : ∀ h' e, Oth z TO i1 i2 s.heap h' → (∃ o, h'.get? e = some o ∧ o.cls = .type "StopIteration") → E (.ref e) { s with heap := h' }) :
    wpAny (model prog w) A (Builtin.«zip.__next__» ⟨[.ref z], []⟩) Q E s := by
  show wpAny _ _ (field (.ref z) 2 >>= _) _ _ _
  refine wpAny_bind (wpAny_field hz rfl (x := .bool false) rfl ?_)
  show wpAny _ _ (field (.ref z) 3 >>= _) _ _ _
  refine wpAny_bind (wpAny_field hz rfl (x := .ref TI) rfl (wpAny_bind (wpAny_seqItems hTI rfl ?_)))
  show wpAny _ _ (Builtin.SmallTypes.ownedTupleIsFree (.ref z) >>= _) _ _ _
  unfold Builtin.SmallTypes.ownedTupleIsFree
  refine wpAny_bind (wpAny_bind (wpAny_field hz rfl (x := .none) rfl (wpAny_pure ?_)))
  simp only [if_true]
  refine wpAny_bind (wpAny_rule (wpAny_bind (wpAny_field hz rfl (x := .ref TO) rfl (wpAny_bind (wpAny_setField_rec hz (by simp) fun ha za ba => ?_)))))
  replace za : IsZip ha z TI TO .ellipsis := za
  simp only [List.zipIdx_cons, List.zipIdx_nil, List.forIn_cons, List.forIn_nil]
  refine wpAny_bind (wpAny_bind (wpAny_bind (wpAny_onRaise ?_)))
  show wpAny _ _ (Builtin.SmallTypes.nextOf (.ref i1) >>= _) _ _ _
  have ka := ba.extBut
  have t1 : S1 k ha := P1.stay s1 (fun o => ka _ o D.i1z) fun o => ka _ o D.l1z
  -- the zip's mark is taken away, the end goes on
  have out : ∀ {hx : Heap} {e : Addr}, IsZip hx z TI TO .ellipsis → Oth z TO i1 i2 s.heap hx → (∃ o, hx.get? e = some o ∧ o.cls = .type "StopIteration") → ∀ {V : Value → Shared → Prop},
      (V = E) → wpAny (model prog w) A (setField (.ref z) 0 .none) (fun _ s' => V (.ref e) s') E { s with heap := hx } := fun {hx e} zx ox ⟨o, ho, hc⟩ V hV => by
    subst hV
    have ez : e ≠ z := fun q => by
      rw [q, zx] at ho
      cases ho
      simp at hc
    exact wpAny_setField_rec zx (by simp) fun hy _ by' => hE hy e (fun c o c1 c2 c3 c4 q => by'.extBut _ _ c1 (ox c o c1 c2 c3 c4 q)) ⟨o, by'.extBut _ _ ez ho, hc⟩
  rcases hk with rfl | ⟨h1n, rfl⟩
  · refine wpAny_bind (P1.fin (s := { s with heap := ha }) hh t1 fun hb e bb he => ?_)
    exact out (bb _ _ D.i1z.symm za) (fun c o c1 _ c3 _ q => bb _ _ c3 (ka _ _ c1 q)) he rfl
  · refine wpAny_bind (P1.item (s := { s with heap := ha }) h1n t1 fun hb tb bb => wpAny_pure ?_)
    have kb := bb.extBut
    have pb : IsPair hb TO a b := kb _ _ D.TOi1 (ka _ _ D.TOz hTO)
    refine wpAny_bind (wpAny_seqItems pb rfl (wpAny_bind (slot_fill pb (.inl rfl) fun hc pc bc => ?_)))
    have kc := bc.extBut
    refine wpAny_bind (wpAny_letGo (wpAny_pure ?_))
    refine wpAny_bind (wpAny_bind (wpAny_onRaise ?_))
    show wpAny _ _ (Builtin.SmallTypes.nextOf (.ref i2) >>= _) _ _ _
    have t2 : S2 k hc := P2.stay s2 (fun o e => kc _ o D.TOi2.symm (kb _ o D.i12.symm (ka _ o D.i2z e))) fun o e => kc _ o D.l2TO (kb _ o D.l2i1 (ka _ o D.l2z e))
    refine wpAny_bind (P2.fin (s := { s with heap := hc }) hh t2 fun hd e bd he => ?_)
    exact out (bd _ _ D.i2z.symm (kc _ _ D.TOz.symm (kb _ _ D.i1z.symm za))) (fun c o c1 c2 c3 c4 q => bd _ _ c4 (kc _ _ c2 (kb _ _ c3 (ka _ _ c1 q)))) he rfl
theorem nextG_item (P1 : SqS prog w i1 l1 n v1 S1) (P2 : SqS prog w i2 l2 m v2 S2) (D : ZipApart z TI TO i1 i2 l1 l2) {a b : Value} {Q : Option Value → Shared → Prop} (h1n : k < n) (h2m : k < m)
    (hz : IsZip s.heap z TI TO .none) (hTI : IsPair s.heap TI (.ref i1) (.ref i2)) (hTO : IsPair s.heap TO a b) (s1 : S1 k s.heap) (s2 : S2 k s.heap)
    (hQ : ∀ h', IsZip h' z TI TO (rawInt s.heap.objs.size) → IsPair h' TO (v1 k) (v2 k) → S1 (k + 1) h' → S2 (k + 1) h' → IsPair h' s.heap.objs.size (v1 k) (v2 k) → Oth z TO i1 i2 s.heap h' → Q (some (.ref s.heap.objs.size)) { s with heap := h' }) :
    wpAny (model prog w) A (pyNext (.ref z)) Q E s := by
  have ty : s.TypeIs (.ref z) "zip" := ⟨_, hz, rfl⟩
  unfold pyNext
  refine wpAny_bind (wpAny_attempt (wpAny_callSpecial?_slot (name := Str.ofString "__next__") ty F.slot_zip_next (wpAny_call_entry F.slot_zip_next ty F.entry_zip_next ?_ (F.args_zip_next_1 _))))
  exact zipG_item P1 P2 D h1n h2m hz hTI hTO s1 s2 fun h' q1 q2 q3 q4 q5 q6 => wpAny_pure (hQ h' q1 q2 q3 q4 q5 q6)
theorem nextG_end (P1 : SqS prog w i1 l1 n v1 S1) (P2 : SqS prog w i2 l2 m v2 S2) (D : ZipApart z TI TO i1 i2 l1 l2) {a b : Value} {Q : Option Value → Shared → Prop} (hh : A.handled = none) (hk : k = n ∨ k < n ∧ k = m)
    (hz : IsZip s.heap z TI TO .none) (hTI : IsPair s.heap TI (.ref i1) (.ref i2)) (hTO : IsPair s.heap TO a b) (s1 : S1 k s.heap) (s2 : S2 k s.heap)
    (hQ : ∀ h', Oth z TO i1 i2 s.heap h' → Q none { s with heap := h' }) : wpAny (model prog w) A (pyNext (.ref z)) Q E s := by
  have ty : s.TypeIs (.ref z) "zip" := ⟨_, hz, rfl⟩
  unfold pyNext
  refine wpAny_bind (wpAny_attempt (wpAny_callSpecial?_slot (name := Str.ofString "__next__") ty F.slot_zip_next (wpAny_call_entry F.slot_zip_next ty F.entry_zip_next ?_ (F.args_zip_next_1 _))))
  refine zipG_end P1 P2 D hh hk hz hTI hTO s1 s2 fun h' e ho ⟨o, eo, ec⟩ => ?_
  exact wpAny_bind (wpAny_isInstance (T := "StopIteration") (b := true) ⟨o, eo, ec⟩ isSubtype_stop (wpAny_pure (hQ _ ho)))
end
end Z

end
section
set_option Elab.async false
set_option linter.all false
set_option maxRecDepth 100000
set_option maxHeartbeats 1000000
/-! Z28: a zip of a list and a tuple is made; as the argument of dict(). -/
namespace Z
open PySem PySem.Spec
/-! ### made -/
abbrev mz1 (h : Heap) (l : Addr) : Heap := h.push { cls := .type "list_iterator", data := .fields #[.ref l, .int 0 0] }
abbrev mz2 (h : Heap) (l t : Addr) : Heap := (mz1 h l).push { cls := .type "tuple_iterator", data := .fields #[.ref t, .int 0 0] }
abbrev mz3 (h : Heap) (l t : Addr) : Heap := (mz2 h l t).push { cls := .type "tuple", data := .seq #[.ref h.objs.size, .ref (mz1 h l).objs.size] }
abbrev mz4 (h : Heap) (l t : Addr) : Heap := (mz3 h l t).push { cls := .type "tuple", data := .seq #[.none, .none] }
abbrev mz5 (h : Heap) (l t : Addr) : Heap := (mz4 h l t).push { cls := .type "zip", data := .fields #[.none, .bool false, .bool false, .ref (mz2 h l t).objs.size, .ref (mz3 h l t).objs.size] }
theorem meets_zipLT (l t : Addr) (xs ys : Array Value) : Meets (Builtin.«zip.__new__» ⟨[.type "zip", .ref l, .ref t], []⟩) (fun _ R s => s.heap.IsList l xs ∧ s.heap.IsTuple t ys ∧ R (.ok (.ret (.ref (mz4 s.heap l t).objs.size))) { s with heap := mz5 s.heap l t }) :=
  .of_wp fun prog w A R s h => by
    obtain ⟨hp, g, d, tk, os⟩ := s
    obtain ⟨a, b, h⟩ := h
    have sb := sub_zip
    have ha : Heap.IsList (Shared.heap ⟨hp, g, d, tk, os⟩) l xs := a
    have hb : Heap.IsTuple (Shared.heap ⟨hp.push { cls := .type "list_iterator", data := .fields #[.ref l, .int 0 0] }, g, d, tk, os⟩) t ys := Heap.IsTuple.push b _
    wp_walk using wpAny_pyIter_list ha, wpAny_pyIter_tuple hb
    exact ⟨_, rfl, h⟩
section
variable {prog : Program} {w : World} {A : Around} {E : Value → Shared → Prop} {s : Shared}
theorem call_zipLT {l t : Addr} {xs ys : Array Value} {Q : Value → Shared → Prop} (a : s.heap.IsList l xs) (b : s.heap.IsTuple t ys)
    (h : ∀ h', IsZip h' (s.heap.objs.size + 4) (s.heap.objs.size + 2) (s.heap.objs.size + 3) .none → IsPair h' (s.heap.objs.size + 2) (.ref s.heap.objs.size) (.ref (s.heap.objs.size + 1)) →
      IsPair h' (s.heap.objs.size + 3) .none .none → h'.IsListIter s.heap.objs.size l 0 → h'.IsTupleIter (s.heap.objs.size + 1) t 0 → (∀ c o, s.heap.get? c = some o → h'.get? c = some o) → Q (.ref (s.heap.objs.size + 4)) { s with heap := h' }) :
    wpAny (model prog w) A (call (.type "zip") [.ref l, .ref t]) Q E s := by
  refine callType_new F.called_zip (by decide) (F.typeCall_zip_2 _ _) (F.newCall_zip_2 _ _) (fun obj => F.args_object_init_3 obj _ _) F.entry_zip_new (meets_zipLT l t xs ys) ⟨a, b, ?_⟩
  generalize hN : s.heap.objs.size = N at h
  have e1 : (mz1 s.heap l).objs.size = N + 1 := by rw [Heap.size_push, hN]
  have e2 : (mz2 s.heap l t).objs.size = N + 2 := by rw [Heap.size_push, e1]
  have e3 : (mz3 s.heap l t).objs.size = N + 3 := by rw [Heap.size_push, e2]
  have e4 : (mz4 s.heap l t).objs.size = N + 4 := by rw [Heap.size_push, e3]
  have p1 : ∀ c o, (mz1 s.heap l).get? c = some o → (mz5 s.heap l t).get? c = some o := fun c o q => Heap.get?_push_of_some _ (Heap.get?_push_of_some _ (Heap.get?_push_of_some _ (Heap.get?_push_of_some _ q)))
  have p2 : ∀ c o, (mz2 s.heap l t).get? c = some o → (mz5 s.heap l t).get? c = some o := fun c o q => Heap.get?_push_of_some _ (Heap.get?_push_of_some _ (Heap.get?_push_of_some _ q))
  have p3 : ∀ c o, (mz3 s.heap l t).get? c = some o → (mz5 s.heap l t).get? c = some o := fun c o q => Heap.get?_push_of_some _ (Heap.get?_push_of_some _ q)
  have g1 : (mz5 s.heap l t).get? s.heap.objs.size = some _ := p1 _ _ (Heap.get?_push_size _ rfl)
  have g2 : (mz5 s.heap l t).get? (mz1 s.heap l).objs.size = some _ := p2 _ _ (Heap.get?_push_size _ rfl)
  have g3 : (mz5 s.heap l t).get? (mz2 s.heap l t).objs.size = some _ := p3 _ _ (Heap.get?_push_size _ rfl)
  have g4 : (mz5 s.heap l t).get? (mz3 s.heap l t).objs.size = some _ := Heap.get?_push_of_some _ (Heap.get?_push_size _ rfl)
  have g5 : (mz5 s.heap l t).get? (mz4 s.heap l t).objs.size = some _ := Heap.get?_push_size _ rfl
  show _ ∧ _
  rw [hN] at g1
  rw [e1] at g2
  rw [e2, hN, e1] at g3
  rw [e3] at g4
  rw [e4, e2, e3] at g5
  rw [e4]
  exact ⟨⟨_, g5, rfl⟩, h _ g5 g3 g4 ⟨_, g1, rfl, rfl⟩ ⟨_, g2, rfl, rfl⟩ fun c o q => p1 c o (Heap.get?_push_of_some _ q)⟩
/-! ### the pair handed out before is still there -/
variable {z TI TO T i1 i2 l1 l2 : Addr} {n m k : Nat} {v1 v2 : Nat → Value} {S1 S2 : Nat → Heap → Prop} {f : Bool} {oT : Obj}
abbrev Oth3 (z i1 i2 : Addr) (h h' : Heap) : Prop := ∀ c o, c ≠ z → c ≠ i1 → c ≠ i2 → h.get? c = some o → h'.get? c = some o
/-- up to the walk over the two iterators -/
theorem heldG_start {Q : Fin → Shared → Prop} (hz : IsZipHeld s.heap z TI TO T f) (hT : s.heap.get? T = some oT) (hTI : IsPair s.heap TI (.ref i1) (.ref i2)) (D : ZipApart z TI TO i1 i2 l1 l2) (P1 : SqS prog w i1 l1 n v1 S1) (P2 : SqS prog w i2 l2 m v2 S2) (s1 : S1 k s.heap) (s2 : S2 k s.heap)
    (hd : ∀ ha, IsZipHeld ha z TI TO T true → Heap.SameBut z s.heap ha → S1 k ha → S2 k ha →
      (k = n ∧ A.handled = none ∧ ∀ h' e, Heap.ExtBut i1 ha h' → (∃ o, h'.get? e = some o ∧ o.cls = .type "StopIteration") → E (.ref e) { s with heap := h' }) ∨
      (k < n ∧ ∀ hb, S1 (k + 1) hb → Heap.SameBut i1 ha hb → S2 k hb →
        (k = m ∧ A.handled = none ∧ ∀ h' e, Heap.ExtBut i2 hb h' → (∃ o, h'.get? e = some o ∧ o.cls = .type "StopIteration") → E (.ref e) { s with heap := h' }) ∨
        (k < m ∧ ∀ hc, S2 (k + 1) hc → Heap.SameBut i2 hb hc → ∀ r, r = Value.ref hc.objs.size → Q (.done (.ret r)) { s with heap := hc.push { cls := .type "tuple", data := .seq #[v1 k, v2 k] } }))) :
    wpAny (model prog w) A (Builtin.«zip.__next__» ⟨[.ref z], []⟩) Q E s := by
  show wpAny _ _ (field (.ref z) 2 >>= _) _ _ _
  refine wpAny_bind (wpAny_field hz rfl (x := .bool false) rfl ?_)
  show wpAny _ _ (field (.ref z) 3 >>= _) _ _ _
  refine wpAny_bind (wpAny_field hz rfl (x := .ref TI) rfl (wpAny_bind (wpAny_seqItems hTI rfl ?_)))
  show wpAny _ _ (Builtin.SmallTypes.ownedTupleIsFree (.ref z) >>= _) _ _ _
  refine wpAny_bind (wpAny_tupleHeld_zip hz hT fun ha za ba => ?_)
  simp only [Bool.false_eq_true, if_false]
  rw [← Array.forIn_toList]
  simp only [List.forIn_cons, List.forIn_nil]
  refine wpAny_bind (wpAny_bind (wpAny_bind (wpAny_holding ?_)))
  show wpAny _ _ (Builtin.SmallTypes.nextOf (.ref i1) >>= _) _ _ _
  have ka := ba.extBut
  have t1 : S1 k ha := P1.stay s1 (fun o => ka _ o D.i1z) fun o => ka _ o D.l1z
  have t2 : S2 k ha := P2.stay s2 (fun o => ka _ o D.i2z) fun o => ka _ o D.l2z
  rcases hd ha za ba t1 t2 with ⟨rfl, hh, q⟩ | ⟨h1n, q⟩
  · exact wpAny_bind (P1.fin (s := { s with heap := ha }) hh t1 fun hb e bb he => q hb e bb he)
  refine wpAny_bind (P1.item (s := { s with heap := ha }) h1n t1 fun hb tb bb => wpAny_pure (wpAny_pure ?_))
  have kb := bb.extBut
  have t2b : S2 k hb := P2.stay t2 (fun o => kb _ o D.i12.symm) fun o => kb _ o D.l2i1
  refine wpAny_bind (wpAny_bind (wpAny_holding ?_))
  show wpAny _ _ (Builtin.SmallTypes.nextOf (.ref i2) >>= _) _ _ _
  rcases q hb tb bb t2b with ⟨rfl, hh, q⟩ | ⟨h2m, q⟩
  · exact wpAny_bind (P2.fin (s := { s with heap := hb }) hh t2b fun hc e bc he => q hc e bc he)
  refine wpAny_bind (P2.item (s := { s with heap := hb }) h2m t2b fun hc tc bc => wpAny_pure (wpAny_pure (wpAny_pure ?_)))
  show wpAny _ _ (newTuple [v1 k, v2 k] >>= _) _ _ _
  exact wpAny_bind (wpAny_newTuple (wpAny_pure (q hc tc bc _ rfl)))
theorem nextH_item {Q : Option Value → Shared → Prop} (P1 : SqS prog w i1 l1 n v1 S1) (P2 : SqS prog w i2 l2 m v2 S2) (D : ZipApart z TI TO i1 i2 l1 l2) (h1n : k < n) (h2m : k < m) (hz : IsZipHeld s.heap z TI TO T f) (hT : s.heap.get? T = some oT) (hTI : IsPair s.heap TI (.ref i1) (.ref i2)) (s1 : S1 k s.heap) (s2 : S2 k s.heap)
    (hQ : ∀ h', IsZipHeld h' z TI TO T true → S1 (k + 1) h' → S2 (k + 1) h' → IsPair h' s.heap.objs.size (v1 k) (v2 k) → Oth3 z i1 i2 s.heap h' → Q (some (.ref s.heap.objs.size)) { s with heap := h' }) : wpAny (model prog w) A (pyNext (.ref z)) Q E s := by
  have ty : s.TypeIs (.ref z) "zip" := ⟨_, hz, rfl⟩
  unfold pyNext
  refine wpAny_bind (wpAny_attempt (wpAny_callSpecial?_slot (name := Str.ofString "__next__") ty F.slot_zip_next (wpAny_call_entry F.slot_zip_next ty F.entry_zip_next ?_ (F.args_zip_next_1 _))))
  refine heldG_start hz hT hTI D P1 P2 s1 s2 fun ha za ba t1 t2 => .inr ⟨h1n, fun hb tb bb t2b => .inr ⟨h2m, fun hc tc bc r er => ⟨r, rfl, wpAny_pure ?_⟩⟩⟩
  have sz : hc.objs.size = s.heap.objs.size := by rw [bc.1, bb.1, ba.1]
  subst er
  have up : ∀ c o, hc.get? c = some o → (hc.push { cls := .type "tuple", data := .seq #[v1 k, v2 k] }).get? c = some o := fun c o q => Heap.get?_push_of_some _ q
  have pT : IsPair (hc.push { cls := .type "tuple", data := .seq #[v1 k, v2 k] }) hc.objs.size (v1 k) (v2 k) := Heap.get?_push_size _ rfl
  rw [sz] at pT ⊢
  exact hQ _ (up _ _ (bc.extBut _ _ D.i2z.symm (bb.extBut _ _ D.i1z.symm za))) (P1.stay tb (fun o e => up _ o (bc.extBut _ o D.i12 e)) fun o e => up _ o (bc.extBut _ o D.l1i2 e)) (P2.stay tc (fun o => up _ o) fun o => up _ o) pT
    fun c o c1 c2 c3 e => up c o (bc.extBut _ _ c3 (bb.extBut _ _ c2 (ba.extBut _ _ c1 e)))
theorem nextH_end {Q : Option Value → Shared → Prop} (P1 : SqS prog w i1 l1 n v1 S1) (P2 : SqS prog w i2 l2 m v2 S2) (D : ZipApart z TI TO i1 i2 l1 l2) (hh : A.handled = none) (hk : k = n ∨ k < n ∧ k = m) (hz : IsZipHeld s.heap z TI TO T f) (hT : s.heap.get? T = some oT) (hTI : IsPair s.heap TI (.ref i1) (.ref i2)) (s1 : S1 k s.heap) (s2 : S2 k s.heap)
    (hQ : ∀ h', Oth3 z i1 i2 s.heap h' → Q none { s with heap := h' }) : wpAny (model prog w) A (pyNext (.ref z)) Q E s := by
  have ty : s.TypeIs (.ref z) "zip" := ⟨_, hz, rfl⟩
  unfold pyNext
  refine wpAny_bind (wpAny_attempt (wpAny_callSpecial?_slot (name := Str.ofString "__next__") ty F.slot_zip_next (wpAny_call_entry F.slot_zip_next ty F.entry_zip_next ?_ (F.args_zip_next_1 _))))
  refine heldG_start hz hT hTI D P1 P2 s1 s2 fun ha za ba t1 t2 => ?_
  rcases hk with rfl | ⟨h1n, rfl⟩
  · refine .inl ⟨rfl, hh, fun h' e bb ⟨o, eo, ec⟩ => ?_⟩
    exact wpAny_bind (wpAny_isInstance (T := "StopIteration") (b := true) ⟨o, eo, ec⟩ isSubtype_stop (wpAny_pure (hQ _ fun c o c1 c2 _ q => bb _ _ c2 (ba.extBut _ _ c1 q))))
  · refine .inr ⟨h1n, fun hb tb bb t2b => .inl ⟨rfl, hh, fun h' e bc ⟨o, eo, ec⟩ => ?_⟩⟩
    exact wpAny_bind (wpAny_isInstance (T := "StopIteration") (b := true) ⟨o, eo, ec⟩ isSubtype_stop (wpAny_pure (hQ _ fun c o c1 c2 c3 q => bc _ _ c3 (bb.extBut _ _ c2 (ba.extBut _ _ c1 q)))))
end
/-! ### as the argument of dict() -/
theorem argG {prog : Program} {w : World} {z TI TO i1 i2 l1 l2 : Addr} {n m : Nat} {v1 v2 : Nat → Value} {S1 S2 : Nat → Heap → Prop} (D : ZipApart z TI TO i1 i2 l1 l2) (P1 : SqS prog w i1 l1 n v1 S1) (P2 : SqS prog w i2 l2 m v2 S2) (L1 : ∀ {k h}, S1 k h → ∃ o, h.get? l1 = some o) (L2 : ∀ {k h}, S2 k h → ∃ o, h.get? l2 = some o) :
    PairArg prog w "zip" z [z, TI, TO, i1, i2, l1, l2] [z, TO, i1, i2] (min n m) (fun i k v => i < n ∧ i < m ∧ k = v1 i ∧ v = v2 i) (fun h => IsZip h z TI TO .none ∧ IsPair h TI (.ref i1) (.ref i2) ∧ (∃ a b, IsPair h TO a b) ∧ S1 0 h ∧ S2 0 h) where
  type := fun s ok => ⟨_, ok.1, rfl⟩
  notDict := by decide
  keep := fun h h' ⟨a, b, ⟨x, y, c⟩, d, e⟩ k => ⟨k _ _ a, k _ _ b, ⟨x, y, k _ _ c⟩, P1.stay d (fun o => k _ o) fun o => k _ o, P2.stay e (fun o => k _ o) fun o => k _ o⟩
  there := fun h ⟨a, b, ⟨x, y, c⟩, d, e⟩ q hq => by
    obtain ⟨o1, h1, _⟩ := P1.obj d
    obtain ⟨o2, h2, _⟩ := P2.obj e
    obtain ⟨o3, h3⟩ := L1 d
    obtain ⟨o4, h4⟩ := L2 e
    simp only [List.mem_cons, List.not_mem_nil, or_false] at hq
    rcases hq with rfl | rfl | rfl | rfl | rfl | rfl | rfl
    all_goals first | exact ⟨_, a⟩ | exact ⟨_, b⟩ | exact ⟨_, c⟩ | exact ⟨_, h1⟩ | exact ⟨_, h2⟩ | exact ⟨_, h3⟩ | exact ⟨_, h4⟩
  sub := fun q hq => by
    simp only [List.mem_cons, List.not_mem_nil, or_false] at hq ⊢
    rcases hq with h | h | h | h <;> simp [h]
  noKeys := fun A s Q E hA ok h => getAttrOr_miss_zip ok.1 rfl rfl rfl zip_no_keys (by decide +kernel) hA h
  iter := fun A s d Q E hA ⟨a, b, ⟨x, y, c⟩, e1, e2⟩ hd hdf h => by
    simp only [List.mem_cons, List.not_mem_nil, or_false, not_or] at hdf
    obtain ⟨dz, dTI, dTO, di1, di2, dl1, dl2⟩ := hdf
    refine wpAny_pyIter_zip a (h z [z, TO, i1, i2] (fun i h => IsPair h TI (.ref i1) (.ref i2) ∧ S1 i h ∧ S2 i h ∧
      ((IsZip h z TI TO .none ∧ ∃ a b, IsPair h TO a b) ∨ ∃ T f oT, IsZipHeld h z TI TO T f ∧ h.get? T = some oT ∧ T ≠ z ∧ T ≠ i1 ∧ T ≠ i2 ∧ T ≠ d)) s.heap s.toks ?_ ⟨b, e1, e2, .inl ⟨a, x, y, c⟩⟩ (fun _ _ e => e) fun q hq => .inl hq)
    refine ⟨?_, ?_, ?_, ?_⟩
    · simp only [List.mem_cons, List.not_mem_nil, or_false, not_or]
      exact ⟨dz, dTO, di1, di2⟩
    · rintro i ha hb ⟨q1, q2, q3, q4⟩ k
      refine ⟨k _ _ (Ne.symm dTI) q1, P1.stay q2 (fun o => k _ o (Ne.symm di1)) fun o => k _ o (Ne.symm dl1), P2.stay q3 (fun o => k _ o (Ne.symm di2)) fun o => k _ o (Ne.symm dl2), ?_⟩
      rcases q4 with ⟨r, x, y, r'⟩ | ⟨T, f, oT, r1, r2, r3, r4, r5, r6⟩
      · exact .inl ⟨k _ _ (Ne.symm dz) r, x, y, k _ _ (Ne.symm dTO) r'⟩
      · exact .inr ⟨T, f, oT, k _ _ (Ne.symm dz) r1, k _ _ r6 r2, r3, r4, r5, r6⟩
    · rintro i sa Qa Ea hi ⟨q1, q2, q3, q4⟩ hds hQ
      have hn : i < n := Nat.lt_of_lt_of_le hi (Nat.min_le_left ..)
      have hm : i < m := Nat.lt_of_lt_of_le hi (Nat.min_le_right ..)
      have far : ∀ {c o}, sa.heap.get? c = some o → sa.heap.objs.size ≠ c := fun e => Nat.ne_of_gt (Heap.lt_size e)
      have f1 : sa.heap.objs.size ≠ i1 := let ⟨_, e, _⟩ := P1.obj q2; far e
      have f2 : sa.heap.objs.size ≠ i2 := let ⟨_, e, _⟩ := P2.obj q3; far e
      rcases q4 with ⟨r, x, y, r'⟩ | ⟨T, f, oT, r1, r2, r3, r4, r5, r6⟩
      · refine nextG_item P1 P2 D hn hm r q1 r' q2 q3 fun h' w1 _ w3 w4 w5 w6 => ?_
        refine hQ sa.heap.objs.size _ _ h' sa.toks ⟨hn, hm, rfl, rfl⟩ (.inl ⟨_, w5, rfl, _, rfl⟩) ⟨w6 _ _ D.TIz D.TITO D.TIi1 D.TIi2 q1, w3, w4, .inr ⟨_, false, _, w1, w5, far r, f1, f2, Nat.ne_of_gt hds⟩⟩ fun c o hc e => ?_
        simp only [List.mem_cons, List.not_mem_nil, or_false, not_or] at hc
        exact w6 c o hc.1 hc.2.1 hc.2.2.1 hc.2.2.2 e
      · refine nextH_item P1 P2 D hn hm r1 r2 q1 q2 q3 fun h' w1 w3 w4 w5 w6 => ?_
        refine hQ sa.heap.objs.size _ _ h' sa.toks ⟨hn, hm, rfl, rfl⟩ (.inl ⟨_, w5, rfl, _, rfl⟩) ⟨w6 _ _ D.TIz D.TIi1 D.TIi2 q1, w3, w4, .inr ⟨T, true, oT, w1, w6 _ _ r3 r4 r5 r2, r3, r4, r5, r6⟩⟩ fun c o hc e => ?_
        simp only [List.mem_cons, List.not_mem_nil, or_false, not_or] at hc
        exact w6 c o hc.1 hc.2.2.1 hc.2.2.2 e
    · rintro sa Qa Ea ⟨q1, q2, q3, q4⟩ hQ
      have hk : min n m = n ∨ min n m < n ∧ min n m = m := by omega
      rcases q4 with ⟨r, x, y, r'⟩ | ⟨T, f, oT, r1, r2, r3, r4, r5, r6⟩
      · refine nextG_end P1 P2 D hA hk r q1 r' q2 q3 fun h' w => hQ h' sa.toks fun c o hc e => ?_
        simp only [List.mem_cons, List.not_mem_nil, or_false, not_or] at hc
        exact w c o hc.1 hc.2.1 hc.2.2.1 hc.2.2.2 e
      · refine nextH_end P1 P2 D hA hk r1 r2 q1 q2 q3 fun h' w => hQ h' sa.toks fun c o hc e => ?_
        simp only [List.mem_cons, List.not_mem_nil, or_false, not_or] at hc
        exact w c o hc.1 hc.2.2.1 hc.2.2.2 e
end Z

end
section
set_option Elab.async false
set_option linter.all false
set_option maxRecDepth 100000
/-! Z29: loops over zip of a list and a tuple. -/
namespace Z
open PySem PySem.Spec PyProof.Rows L2
open PySem.W (Datum Tup)
/-- turn i: a new pair of the list's and the tuple's item i -/
def Itm (K : PySem.W.Frag) (a b : Addr) : It :=
  ⟨fun i H => ∃ xs ys : List V, SqL K H a xs ∧ SqT K H b ys ∧ i < xs.length ∧ i < ys.length,
    fun i H v H' => ∃ T x y, v = .ref T ∧ H T = none ∧ H' = upd H T (.tup [x, y]) ∧ (∀ xs, SqL K H a xs → xs[i]? = some x) ∧ ∀ ys, SqT K H b ys → ys[i]? = some y,
    fun i H => ∃ xs ys : List V, SqL K H a xs ∧ SqT K H b ys ∧ i = min xs.length ys.length⟩
theorem turn_zm {P : Program} {w : World} {K : PySem.W.Frag} {elts : List Expr} {kk : Nat} {tpos : Pos} {a b z TI TO i1 i2 : Addr} (D : ZipApart z TI TO i1 i2 a b) :
    Turn P w K (.Tuple elts kk tpos) (Itm K a b) [z, TI, TO, i1, i2] z (fun i h => IsZip h z TI TO .none ∧ IsPair h TI (.ref i1) (.ref i2) ∧ (∃ x y, IsPair h TO x y) ∧ h.IsListIter i1 a i ∧ h.IsTupleIter i2 b i) where
  mem := List.mem_cons_self
  obj := fun i h ⟨hz, hI, ⟨x, y, hO⟩, ⟨o1, e1, _, d1⟩, ⟨o2, e2, _, d2⟩⟩ c hc => by
    simp only [List.mem_cons, List.not_mem_nil, or_false] at hc
    rcases hc with rfl | rfl | rfl | rfl | rfl
    · exact ⟨_, hz, fun v q => nomatch q⟩
    · exact ⟨_, hI, fun v q => nomatch q⟩
    · exact ⟨_, hO, fun v q => nomatch q⟩
    · exact ⟨o1, e1, fun v q => by rw [d1] at q; cases q⟩
    · exact ⟨o2, e2, fun v q => by rw [d2] at q; cases q⟩
  keep := fun i h h' ⟨hz, hI, ⟨x, y, hO⟩, p1, p2⟩ k =>
    ⟨k z (by simp) _ hz, k TI (by simp) _ hI, ⟨x, y, k TO (by simp) _ hO⟩, p1.at fun o q => k i1 (by simp) o q, p2.at fun o q => k i2 (by simp) o q⟩
  item := by
    intro X hP hw hK hc i pins s σ H E I hf ⟨hz, hI, ⟨x0, y0, hO⟩, p1, p2⟩ ⟨xs, ys, qx, qy, lx, ly⟩
    subst hP hw hK
    obtain ⟨its, rv, pl, _⟩ := I.list qx
    obtain ⟨jts, rw_, pt, _⟩ := I.tuple qy
    have n1 : i < its.toArray.size := by rw [List.size_toArray, ← rv.length]; exact lx
    have n2 : i < jts.toArray.size := by rw [List.size_toArray, ← rw_.length]; exact ly
    obtain ⟨u, hu, ru⟩ := rv.get (List.getElem?_eq_getElem lx)
    obtain ⟨u2, hu2, ru2⟩ := rw_.get (List.getElem?_eq_getElem ly)
    have eu : its.toArray[i]?.getD .none = u := by rw [List.getElem?_toArray, hu]; rfl
    have eu2 : jts.toArray[i]?.getD .none = u2 := by rw [List.getElem?_toArray, hu2]; rfl
    have zl : z < s.heap.objs.size := Heap.lt_size hz
    refine nextG_item (SqS.list D.l1i1 its.toArray) (SqS.tuple D.l2i2 jts.toArray) D n1 n2 hz hI hO ⟨p1, pl.isList⟩ ⟨p2, pt⟩ fun h' w1 w2 w3 w4 w5 w6 => ?_
    rw [eu, eu2] at w2 w5
    refine ⟨_, rfl, wpAny_letOwnedTupleGo_zip (s := { s with heap := h' }) w1 fun h'' z'' sb => ?_⟩
    have hT : h''.get? s.heap.objs.size = some { cls := .type "tuple", data := .seq #[u, u2] } := (sb.2 _ (Nat.ne_of_gt zl)).trans w5
    have nw : ObjOk X.prog X.w (upd H s.heap.objs.size (.tup [xs[i], ys[i]])) h'' s.heap.objs.size (.tup [xs[i], ys[i]]) := ⟨by show 2 ≤ sizeLine; decide, [u, u2], .cons ru (.cons ru2 .nil), ⟨_, hT, rfl, _, rfl⟩⟩
    have I1 := I.turnedNew (t' := s.toks) (h' := h'') (ch := [z, TI, TO, i1, i2]) (fun c o hb q => by
      simp only [List.mem_cons, List.not_mem_nil, or_false, not_or] at hb
      exact (sb.2 c hb.1).trans (w6 c o hb.1 hb.2.2.1 hb.2.2.2.1 hb.2.2.2.2 q)) hf (Nat.le_refl _) nw
    refine ⟨.ref s.heap.objs.size, _, I1, rfl, ⟨_, xs[i], ys[i], rfl, I.hok.fresh (Nat.le_refl _), rfl, fun l hl => ?_, fun l hl => ?_⟩, ⟨z'', (sb.2 _ D.TIz).trans (w6 _ _ D.TIz D.TITO D.TIi1 D.TIi2 hI), ⟨u, u2, (sb.2 _ D.TOz).trans w2⟩, w3.1.at fun o q => (sb.2 _ D.i1z).trans q, w4.1.at fun o q => (sb.2 _ D.i2z).trans q⟩, fun c hcm => ?_⟩
    · rw [I.list_inj hl qx, List.getElem?_eq_getElem lx]
    · rw [I.tuple_inj hl qy, List.getElem?_eq_getElem ly]
    · have lt : c < s.heap.objs.size := by
        obtain ⟨_, e1, _⟩ := p1
        obtain ⟨_, e2, _⟩ := p2
        have hm := hcm
        simp only [List.mem_cons, List.not_mem_nil, or_false] at hm
        rcases hm with rfl | rfl | rfl | rfl | rfl
        · exact zl
        · exact Heap.lt_size hI
        · exact Heap.lt_size hO
        · exact Heap.lt_size e1
        · exact Heap.lt_size e2
      rw [upd_ne (Nat.ne_of_lt lt)]
      exact (hf c hcm).1
  done := by
    intro X hP hw hK hc i pins s σ H E I hf ⟨hz, hI, ⟨x0, y0, hO⟩, p1, p2⟩ ⟨xs, ys, qx, qy, ei⟩
    subst hP hw hK
    obtain ⟨its, rv, pl, _⟩ := I.list qx
    obtain ⟨jts, rw_, pt, _⟩ := I.tuple qy
    have hk : i = its.toArray.size ∨ i < its.toArray.size ∧ i = jts.toArray.size := by
      rw [List.size_toArray, List.size_toArray, ← rv.length, ← rw_.length]
      omega
    refine nextG_end (SqS.list D.l1i1 its.toArray) (SqS.tuple D.l2i2 jts.toArray) D (I.ok.hd hc) hk hz hI hO ⟨p1, pl.isList⟩ ⟨p2, pt⟩ fun h' w => ⟨rfl, ?_⟩
    refine I.turnedL (t' := s.toks) (ch := [z, TI, TO, i1, i2]) (fun c o hb q => ?_) hf
    simp only [List.mem_cons, List.not_mem_nil, or_false, not_or] at hb
    exact w c o hb.1 hb.2.2.1 hb.2.2.2.1 hb.2.2.2.2 q
  self := fun A i s Q E st h => wpAny_pyIter_zip st.1 h
def iZm (K : PySem.W.Frag) (ta : TA) : TI := fun σ H R => ta σ H fun vs H1 => ∃ a b xs ys, vs = [.ref a, .ref b] ∧ SqL K H1 a xs ∧ SqT K H1 b ys ∧ R (Itm K a b) H1
theorem pi_zm {X : Cx} {e e2 : Expr} {ta : TA} {p pos tpos : Pos} {elts : List Expr} {kk : Nat} (hg : Gl X "zip") (hm : X.mg "zip" = none) (ha : PA X [e, e2] ta)
    (hs : starEach [e, e2] X.env = (false, eval e X.env) :: starEach [e2] X.env := by rfl) (hpl : (backTo pos (starEach [e2] X.env)).any (·.1) = false := by rfl) : PI X (.Tuple elts kk tpos) (.Call (.Name "zip" p) [e, e2] [] pos) (iZm X.K ta) := by
  refine ⟨fun pins s σ H R I h => Call_ (ld_blt I hg hm boot_zip (callWith_type1 (thn (ha.run pos pins s σ H _ I h) fun us s1 ⟨vs, H1, I1, r, a, b, xs, ys, ev, qx, qy, q⟩ => ?_) hs hpl))⟩
  subst ev
  obtain ⟨v1, v2, eu, r1, r2⟩ := vals2 r
  subst eu
  cases r1
  cases r2
  obtain ⟨its, rv, pl, _⟩ := I1.list qx
  obtain ⟨jts, rw_, pt, _⟩ := I1.tuple qy
  obtain ⟨ob, eb, _⟩ := id pt
  refine call_zipLT pl.isList (show s1.heap.IsTuple b jts.toArray from pt) fun h' hz hI hO p1 p2 hk => wpAny_pyIter_zip hz ?_
  have I2 : Inv X pins σ H1 { s1 with heap := h' } := I1.kept (t' := s1.toks) hk
  refine ⟨_, [s1.heap.objs.size + 4, s1.heap.objs.size + 2, s1.heap.objs.size + 3, s1.heap.objs.size, s1.heap.objs.size + 1], _, _, H1, rfl, I2, turn_zm (PySem.W.ktu_apart s1.heap.objs.size a b pl.lt (Heap.lt_size eb)), ⟨hz, hI, ⟨_, _, hO⟩, p1, p2⟩, fun c hc => ?_, q⟩
  have le : s1.heap.objs.size ≤ c := by
    simp only [List.mem_cons, List.not_mem_nil, or_false] at hc
    rcases hc with h | h | h | h | h <;> rw [h] <;> first | exact Nat.le_refl _ | exact Nat.le_add_right _ _
  exact I1.fpOk le (I1.hok.fresh le)
theorem walk_zm {K : PySem.W.Frag} {a b : Addr} {xs ys : List V} : Walk (Itm K a b) (min xs.length ys.length) (fun H => SqL K H a xs ∧ SqT K H b ys) (YPair (fun i => xs[i]?) fun i => ys[i]?) :=
  ⟨fun i H hi ⟨q1, q2⟩ => ⟨xs, ys, q1, q2, by omega, by omega⟩, fun H ⟨q1, q2⟩ => ⟨xs, ys, q1, q2, rfl⟩, fun i H x H' hi ⟨q1, q2⟩ ⟨T, u, v, e1, e2, e3, e4, e5⟩ => ⟨T, u, v, e1, e2, e3, e4 xs q1, e5 ys q2⟩⟩
section
variable {j : J} {Γ : Gm} {C : List Cell} {P : Po} {rest body : List Stmt} {pos pz pp pt : Pos} {ea eb : Expr} {elts : List Expr} {kk : Nat}
/-- for x, y in zip(e, f): e a frozen list, f a tuple -/
theorem tr_forZm (I : Nat → Gm → List Cell → Prop) (N : Gm → List Cell → Prop)
    (k : Ea j Γ C [ea, eb] fun C1 zs => ∃ ps qs, zs = [rL ps, rT j.X.K qs] ∧ I 0 Γ C1 ∧
      (∀ i p q Γ' C', ps[i]? = some p → qs[i]? = some q → I i Γ' C' → Eg j Γ' C' (.Tuple elts kk pt) (rT j.X.K [p, q]) fun Γ2 C2 => Tr j Γ2 C2 body { nx := I (i + 1), ct := I (i + 1), bk := N, rt := P.rt }) ∧ (∀ Γ' C', I (min ps.length qs.length) Γ' C' → N Γ' C'))
    (kr : ∀ Γ' C', N Γ' C' → Tr j Γ' C' rest P) (hp : PassesOwn (model j.X.prog j.X.w) j.X.A j.X.env j.X.xe) (hc : j.X.calm = true) (hm : j.X.mg "zip" = none) (hg : Gl j.X "zip" := by rfl) (hs : ∀ x, foldedSetIterable (.Call (.Name "zip" pz) [ea, eb] [] pp) j.X.env x = pure x := by intro _; rfl)
    (hst : starEach [ea, eb] j.X.env = (false, eval ea j.X.env) :: starEach [eb] j.X.env := by rfl) (hpl : (backTo pp (starEach [eb] j.X.env)).any (·.1) = false := by rfl) :
    Tr j Γ C (.For (.Tuple elts kk pt) (.Call (.Name "zip" pz) [ea, eb] [] pp) body [] pos :: rest) P :=
  tr_lift (ps_for hp hc (pi_zm hg hm pa_wa hst hpl) pg_wg pss_wb hs) fun Φ σ F H x S => k Φ σ F H _ x S fun vs F1 H1 C1 zs ⟨ps, qs, ez, i0, hs, hd⟩ S1 s1 o1 => by
    subst ez
    obtain ⟨v1, v2, ev, oa, ob⟩ := all2 o1
    subst ev
    obtain ⟨al, us, e1, hl, ho⟩ := oa
    obtain ⟨bt, ws, e2, ht, ht'⟩ := ob
    refine ⟨al, bt, us, ws, by rw [e1, e2], .inl (S1.sub _ _ hl), S1.seqT ht, for_it (walk_zm (K := j.X.K) (a := al) (b := bt) (xs := us) (ys := ws)) (fun i σ H => ∃ Γ C F, I i Γ C ∧ Sta j.tb Φ Γ C σ F H ∧ F al = some (.lst us) ∧ SqT j.X.K F bt ws ∧ AllOn ps F us ∧ AllOn qs F ws)
      ⟨Γ, C1, F1, i0, S1, hl, ht, ho, ht'⟩ (fun i σ H _ ⟨Γ', C', F', _, S', hl', ht', _⟩ => ⟨.inl (S'.sub _ _ hl'), S'.seqT ht'⟩) ?_ ?_⟩
    · rintro i y σ2 H2 H2' hi ⟨Γ2, C2, F2, i2, S2, hl2, ht2, ho2, hq2⟩ ⟨T, y1, y2, ey, hT, eH, hy1, hy2⟩
      subst eH
      subst ey
      have hp : i < ps.length := by rw [ho2.length]; omega
      have hq : i < qs.length := by rw [hq2.length]; omega
      obtain ⟨y', f1, f2⟩ := ho2.get (List.getElem?_eq_getElem hp)
      rw [show us[i]? = some y1 from hy1] at f1
      cases f1
      obtain ⟨y', f1, f3⟩ := hq2.get (List.getElem?_eq_getElem hq)
      rw [show ws[i]? = some y2 from hy2] at f1
      cases f1
      obtain ⟨S3, s3⟩ := S2.newF (o := .tup [y1, y2]) hT ⟨fun _ z => (nomatch z), fun _ _ z => (nomatch z)⟩
      refine hs i ps[i] qs[i] Γ2 C2 (List.getElem?_eq_getElem hp) (List.getElem?_eq_getElem hq) i2 Φ σ2 _ _ _ _ x S3 ⟨T, _, rfl, SqT.of upd_same, .cons (ps[i].mono s3 f2) (.cons (qs[i].mono s3 f3) .nil)⟩ fun Γ3 C3 σ3 F3 H3 t3 S4 s4 => ?_
      refine Wb.mono (Tr.at t3 x S4) (fun σ5 H5 ⟨Γ5, C5, F5, n5, S5, s5⟩ => ?_) (fun v5 H5 ⟨Γ5, C5, F5, σ5, ρ5, r5, S5, o5, _⟩ => ⟨Γ5, C5, F5, σ5, ρ5, r5, S5, o5⟩) (fun σ5 H5 ⟨Γ5, C5, F5, n5, S5, s5⟩ => ?_) fun σ5 H5 ⟨Γ5, C5, F5, n5, S5, s5⟩ => ?_
      · exact ⟨Γ5, C5, F5, n5, S5, ((s3.trans s4).trans s5) _ _ hl2, seqT_mono ((s3.trans s4).trans s5) ht2, ho2.mono ((s3.trans s4).trans s5), hq2.mono ((s3.trans s4).trans s5)⟩
      · exact kr Γ5 C5 n5 Φ σ5 F5 H5 x S5
      · exact ⟨Γ5, C5, F5, n5, S5, ((s3.trans s4).trans s5) _ _ hl2, seqT_mono ((s3.trans s4).trans s5) ht2, ho2.mono ((s3.trans s4).trans s5), hq2.mono ((s3.trans s4).trans s5)⟩
    · rintro σ2 H2 ⟨Γ2, C2, F2, i2, S2, _, _⟩
      rw [← ho.length, ← ht'.length] at i2
      exact kr Γ2 C2 (hd Γ2 C2 i2) Φ σ2 F2 H2 x S2
end
end Z

end
section
set_option Elab.async false
set_option linter.all false
set_option maxRecDepth 100000
/-! Z30: a dict comprehension whose keys are of any kind (ints, texts, tuples of them). -/
namespace Z
open PySem PySem.Spec PyProof.Rows L2
section
variable {X : L2.Cx} {pins : List (Addr × Obj)} {σ : L2.St} {H : Hp} {s : Shared}
/-- d[y] = v by a comprehension, whatever the keys -/
theorem dset_any {E : Value → Shared → Prop} {D : Addr} {y v : V} {u r : Value} {H' : Hp} {Q : Unit → Shared → Prop} (hu : X.A.units < cLine) (I : Inv X pins σ H s) (g : DPut H D y v H') (ry : RelV y u) (rv : RelV v r) (h : ∀ s', Inv X pins σ H' s' → Q () s') : wpAny (model X.prog X.w) X.A (dictSet D u r) Q E s := by
  rcases g with ⟨kvs, k, e, ey, l, eH⟩ | ⟨kvs, k, b, e, ey, eb, l, eH⟩
  · subst ey eH
    exact d_dictSet I e l ry rv h
  · subst ey eH
    cases (show u = Value.ref b from ry)
    obtain ⟨z, hd, xs, rel, dd⟩ := dt_of I.hok e
    have hz : xs.length ≤ sizeLine := by rw [← Paired.length rel]; exact z
    have hl : (putK kvs k v).length ≤ sizeLine := by have := length_putK kvs k v; omega
    refine wpAny_dictSet_heap (hsz := hz) (show (tupleKind (mixKind X.prog X.w)).room X.A from hu) (key_of I.hok eb) dd fun h' dd' hs => h _ ?_
    obtain ⟨q, es, ep, hq, h2, h3, h4, _, h5⟩ := dd'
    refine d_write I (by rw [e]; exact True.intro) hs ⟨q, hq⟩ ⟨hl, hd, _, (rel.put k eb rv).keeps fun c ys ec => ?_, q, es, ep, hq, h2, h3, h4, h5⟩
    rw [upd_ne (ne_of ec e (fun z => nomatch z))]
    exact ec
/-- {k: v for tg in iter}; ob: the empty dict it begins with -/
def tDcA (ob : HO) (wi : TI) (g : TG) (tk tv : TE) (vs : List Nat) : TE := fun σ H Q => wi σ H fun J H1 => ∀ D, H1 D = none → ∃ W : Nat → Nat → Hp → Prop, (∃ m, W 0 m (upd H1 D ob)) ∧ ∀ i m H, W i m H →
  (J.stop i H ∧ Q (.ref D) H) ∨ (J.go i H ∧ ∃ Nx : Hp → Prop, (∀ H', Nx H' → ∃ m', m' < m ∧ W (i + 1) m' H') ∧ ∀ x H', J.yld i H x H' → g x (wipe σ vs) H' fun σ2 H2 => wipe σ2 vs = wipe σ vs ∧
    tk σ2 H2 fun y H4 => tv σ2 H4 fun z H5 => ∃ H6, DPut H5 D y z H6 ∧ Nx H6)
theorem core_dcA {Q : VK} {ob : HO} {kx vx tg iter : Expr} {scope : Scope} {own : List (Str × Nat)} {pos pos' : Pos} {wi : TI} {g : TG} {tk tv : TE} {use : Option (Value → Sem Unit)} {Qf : Value → Shared → Prop} (hob : ob = .dK [] ∨ ob = .dT []) (hu : X.A.units < cLine)
    (hc : X.calm = true) (hN : X.N.Nodup) (I : Inv X pins σ H s) (hi : PI X tg iter wi) (ok : BlkOk X.N X.env.scope scope own)
    (hg : ∀ (s : Shared) (H : Hp) (C : Addr) (cl : List (Str × Addr)) (fp : List Addr), PG (X.blk s H scope (compEnvC scope cl C X.env) fp) tg g)
    (hk : ∀ (s : Shared) (H : Hp) (C : Addr) (cl : List (Str × Addr)) (fp : List Addr), PE (X.blk s H scope (compEnvC scope cl C X.env) fp) kx tk)
    (he : ∀ (s : Shared) (H : Hp) (C : Addr) (cl : List (Str × Addr)) (fp : List Addr), PE (X.blk s H scope (compEnvC scope cl C X.env) fp) vx tv) (hs : ∀ x, foldedSetIterable iter X.env x = pure x) (h : tDcA ob wi g tk tv (own.map (·.2)) σ H Q)
    (out : ∀ D C s' m H', Inv X pins σ H' s' → Q (.ref D) H' → s'.heap.Ns C m → FpOk X pins H' C → compPost (model X.prog X.w) X.A X.xe use Qf (.ref D) C (.ok .next) s') :
    wpAny (model X.prog X.w) X.A (comprehension (.DictComp kx vx [⟨tg, iter, [], 0⟩] scope pos) scope X.env pos' newDict false (eval iter X.env) use) Qf X.xe s := by
  have hfree : ∀ y ∈ scope.names, y.2 = .free → ∃ c, X.env.cells.lookup y.1 = some c := fun y hy e => by
    rcases ok.free y hy e with z | z
    · exact I.ok.has _ (.inl z)
    · exact I.ok.has _ (.inr z)
  refine wpAny_comprehension_free (use := use) rfl hs (closure_ok hfree) ok.kind (fun y hy e => by rw [ok.uniq y hy, e]) (thn (hi.run pins s σ H _ I h) fun xv s1 hx => thn hx fun itv s2 ⟨it, fp, tn, J, H2, e, I2, T, st2, f2, q⟩ => ?_)
  subst e
  refine wpAny_newObj_type (newEnv_comp ?_)
  obtain ⟨D, hD⟩ : ∃ D : Addr, D = s2.heap.objs.size := ⟨_, rfl⟩
  obtain ⟨s3, hs3⟩ : ∃ s3 : Shared, s3 = ({ s2 with heap := s2.heap.push { cls := .type "dict", data := .dict #[] } } : Shared) := ⟨_, rfl⟩
  have h3 : s3.heap = s2.heap.push { cls := .type "dict", data := .dict #[] } := by rw [hs3]
  have hDn : H2 D = none := I2.hok.fresh (Nat.le_of_eq hD.symm)
  obtain ⟨W, ⟨m0, w0⟩, turn⟩ := q D hDn
  have keepD : ∀ b o, s2.heap.get? b = some o → s3.heap.get? b = some o := fun b o e => by
    rw [h3]
    exact Heap.get?_push_of_some _ e
  have I3 : Inv X pins σ (upd H2 D ob) s3 := by
    rw [hs3, hD]
    refine I2.laid (t' := s2.toks) (fun b o e => Heap.get?_push_of_some _ e) (Nat.le_refl _) ?_
    rcases hob with rfl | rfl
    · exact dk_empty s2.heap I2.big
    · exact dt_empty s2.heap I2.big
  have szf : ∀ b ∈ fp, b < s2.heap.objs.size := fun b hb => let ⟨_, e, _⟩ := T.obj _ _ st2 b hb; Heap.lt_size e
  have f3 : ∀ b ∈ fp, FpOk X pins (upd H2 D ob) b ∧ b < s3.heap.objs.size := fun b hb => by
    refine ⟨⟨?_, (f2 b hb).2⟩, by rw [h3, Heap.size_push]; exact Nat.lt_succ_of_lt (szf b hb)⟩
    rw [upd_ne (by rw [hD]; exact Nat.ne_of_lt (szf b hb))]
    exact (f2 b hb).1
  have st3 : tn 0 s3.heap := T.keep _ _ _ st2 fun b _ o e => keepD b o e
  rw [← hD, ← hs3]
  have I4 := block_start I3 ok hN f3
  obtain ⟨Hs, hHs⟩ : ∃ Hs : Hp, Hs = upd H2 D ob := ⟨_, rfl⟩
  rw [← hHs] at I3 I4 w0
  have pg := hg s3 Hs s3.heap.objs.size (cellsFrom (s3.heap.objs.size + 1) scope.names (cloFrom X.env.cells scope.names [])) fp
  have pk := hk s3 Hs s3.heap.objs.size (cellsFrom (s3.heap.objs.size + 1) scope.names (cloFrom X.env.cells scope.names [])) fp
  have pv := he s3 Hs s3.heap.objs.size (cellsFrom (s3.heap.objs.size + 1) scope.names (cloFrom X.env.cells scope.names [])) fp
  show codeAny _ _ (.compStart (.DictComp kx vx [⟨tg, iter, [], 0⟩] scope pos) 0 (.ref it) (.ref D) (compEnvC scope (cellsFrom (s3.heap.objs.size + 1) scope.names (cloFrom X.env.cells scope.names [])) s3.heap.objs.size X.env)) (compPost (model X.prog X.w) X.A X.xe use Qf (.ref D) s3.heap.objs.size) { s3 with heap := pushCells (s3.heap.push { cls := .type "dict", data := .dict #[] }) scope.names }
  have cL : (compEnvC scope (cellsFrom (s3.heap.objs.size + 1) scope.names (cloFrom X.env.cells scope.names [])) s3.heap.objs.size X.env).locals = s3.heap.objs.size := rfl
  generalize compEnvC scope (cellsFrom (s3.heap.objs.size + 1) scope.names (cloFrom X.env.cells scope.names [])) s3.heap.objs.size X.env = ce at I4 pg pk pv cL ⊢
  obtain ⟨s4, hs4⟩ : ∃ s4 : Shared, s4 = ({ s3 with heap := pushCells (s3.heap.push { cls := .type "dict", data := .dict #[] }) scope.names } : Shared) := ⟨_, rfl⟩
  rw [← hs4] at I4 ⊢
  have st4 : tn 0 s4.heap := T.keep _ _ _ st3 fun b _ o e => by rw [hs4]; exact pushCells_keeps _ _ _ _ (Heap.get?_push_of_some _ e)
  have nfp : ∀ b ∈ fp, Hs b = none := fun b hb => by rw [hHs]; exact (f3 b hb).1.1
  have stat : ∀ {σ' : L2.St} {H' : Hp} {s' : Shared}, Inv (X.blk s3 Hs scope ce fp) [] σ' H' s' → (∀ b ∈ fp, H' b = none) → ∀ b ∈ fp, FpOk (X.blk s3 Hs scope ce fp) [] H' b := fun {σ' H' s'} I' hn b hb =>
    ⟨hn b hb, (I'.ok.exf b hb).1, I'.ok.exfs b hb, .inl hb, fun x c e => (I'.ok.exf b hb).2 x c e, fun p hp => absurd (show p ∈ ([] : List (Addr × Obj)) ++ [] from hp) (by simp)⟩
  have loop : codeAny (model X.prog X.w) X.A (.compLoop (.DictComp kx vx [⟨tg, iter, [], 0⟩] scope pos) 0 (.ref it) (.ref D) ce) (compPost (model X.prog X.w) X.A X.xe use Qf (.ref D) s3.heap.objs.size) s4 := by
    refine compLoop_anyD (fun n s' => ∃ i H', Inv (X.blk s3 Hs scope ce fp) [] (wipe σ (own.map (·.2))) H' s' ∧ tn i s'.heap ∧ (∀ b ∈ fp, H' b = none) ∧ W i n H') ?_ m0 ⟨0, Hs, I4, st4, nfp, w0⟩
    rintro n s5 ⟨i, H5, I5, st5, n5, w5⟩
    rcases turn i n H5 w5 with ⟨stop, qq⟩ | ⟨go, Nx, hNx, step⟩
    · refine thnF (T.done (X.blk s3 Hs scope ce fp) rfl rfl rfl hc i [] s5 _ H5 (fun _ _ => False) I5 (stat I5 n5) st5 stop) fun r s6 ⟨hr, I6⟩ => ?_
      subst hr
      have I7 : Inv X pins σ H5 s6 := I3.call' (ch := fp) I6.os I6.base I6.hok I6.bare fun b hb => ⟨(f3 b hb).1.2.2.2.1, (f3 b hb).1.2.1, (f3 b hb).1.2.2.2.2.1, (f3 b hb).1.2.2.2.2.2⟩
      have nC : H5 s3.heap.objs.size = none := by
        have z : H5 ce.locals = none := I6.free
        rw [cL] at z
        exact z
      obtain ⟨m, hn, _⟩ := I6.loc
      have hn : s6.heap.Ns ce.locals m := hn
      rw [cL] at hn
      exact out D s3.heap.objs.size s6 m H5 I7 qq hn (I3.fpOk (Nat.le_refl _) nC)
    · refine thnF (T.item (X.blk s3 Hs scope ce fp) rfl rfl rfl hc i [] s5 _ H5 (fun _ _ => False) I5 (stat I5 n5) st5 go) fun r s6 ⟨u, hr, h6⟩ => ?_
      subst hr
      refine thnF h6 fun _ s7 ⟨x, H7, I7, r7, y7, st7, n7⟩ => ?_
      refine thnF (pg.run _ s7 _ H7 x u _ (I7.pinned (stat I7 n7) (T.obj _ _ st7)) r7 (step x H7 y7)) fun _ s8 ⟨σ8, H8, I8, hw8, q8⟩ => ?_
      refine thnF ((pts_nil (X := X.blk s3 Hs scope ce fp)).run _ s8 σ8 H8 (fun b H' => b = true ∧ H' = H8) I8 ⟨rfl, rfl⟩) fun bb s9 ⟨H9, I9, eb, eH⟩ => ?_
      subst eb eH
      simp only [if_true]
      refine thnF (pk.run _ s9 σ8 _ _ I9 q8) fun ky s10 ⟨yk, H10, I10, r10, q10⟩ => ?_
      refine thnF (pv.run _ s10 σ8 H10 _ I10 q10) fun vy s11 ⟨yv, H11, I11, r11, H12, put, nx⟩ => ?_
      refine dset_any (X := X.blk s3 Hs scope ce fp) hu I11 put r10 r11 fun s12 I12 => ?_
      obtain ⟨m', hm, w'⟩ := hNx H12 nx
      have still : ∀ b ∈ fp, ∀ o, s7.heap.get? b = some o → s12.heap.get? b = some o ∧ H12 b = none := fun b hb o e =>
        let z := I12.pin (b, o) (List.mem_append_right _ (List.mem_append_right _ (mem_pinsAt hb e)))
        ⟨z.1, z.2.1⟩
      refine ⟨m', hm, i + 1, H12, (I12.unpinned (pins := [])).weak (by rw [← hw8, wipe_length]) (fun j v e => ?_), T.keep _ _ _ st7 fun b hb o e => (still b hb o e).1, fun b hb => ?_, w'⟩
      · rw [← hw8] at e
        exact (wipe_some e).1
      · obtain ⟨o, e, _⟩ := T.obj _ _ st7 b hb
        exact (still b hb o e).2
  exact codeAny_compStart_dict loop (T.self X.A 0 _ _ _ st4 loop)
/-- y = {k: v for tg in iter} on one line -/
theorem ps_setDcA {ob : HO} {i : Nat} {y : Str} {py : Pos} {kx vx tg iter : Expr} {scope : Scope} {own : List (Str × Nat)} {pos spos : Pos} {wi : TI} {g : TG} {tk tv : TE} (hob : ob = .dK [] ∨ ob = .dT []) (hu : X.A.units < cLine) (hc : X.calm = true) (hN : X.N.Nodup) (hy : X.N[i]? = some y) (hyl : X.env.scope.names.lookup y = some .local)
    (hsw : swapsWith (.DictComp kx vx [⟨tg, iter, [], 0⟩] scope pos) (some (.Name y py)) spos.line X.env = pure true) (hi : PI X tg iter wi) (ok : BlkOk X.N X.env.scope scope own)
    (hg : ∀ (s : Shared) (H : Hp) (C : Addr) (cl : List (Str × Addr)) (fp : List Addr), PG (X.blk s H scope (compEnvC scope cl C X.env) fp) tg g)
    (hk : ∀ (s : Shared) (H : Hp) (C : Addr) (cl : List (Str × Addr)) (fp : List Addr), PE (X.blk s H scope (compEnvC scope cl C X.env) fp) kx tk)
    (he : ∀ (s : Shared) (H : Hp) (C : Addr) (cl : List (Str × Addr)) (fp : List Addr), PE (X.blk s H scope (compEnvC scope cl C X.env) fp) vx tv) (hs : ∀ x, foldedSetIterable iter X.env x = pure x := by intro _; rfl) :
    PS X (.Assign [.Name y py] (.DictComp kx vx [⟨tg, iter, [], 0⟩] scope pos) spos) (tAsg (tDcA ob wi g tk tv (own.map (·.2))) (gName i)) := by
  refine ⟨fun pins s σ H Dn I h => ?_⟩
  rw [exec_Assign_Name_used _ _ _ _ hsw]
  refine wpAny_bind (wpAny_standAt (wpAny_bind ?_))
  show wpAny _ X.A (do let _ ← comprehension (.DictComp kx vx [⟨tg, iter, [], 0⟩] scope pos) scope X.env (firstIterPos [⟨tg, iter, [], 0⟩] pos) newDict false (eval iter X.env) (some (assign (.Name y py) X.env))) _ _ s
  have h : tDcA ob wi g tk tv (own.map (·.2)) σ H (fun x H1 => gName i x σ H1 Dn.nx) := h
  refine wpAny_bind (thn (core_dcA (Qf := fun _ s' => SP X pins Dn .next s') hob hu hc hN I hi ok hg hk he hs h fun D C s' m H' I' q hn ⟨f0, f1, f2, f3, f4, f5⟩ => ?_) fun _ s' hq => wpAny_pure (wpAny_pure hq))
  show wpAny _ _ (assign (.Name y py) X.env (.ref D)) _ _ _
  refine wpAny_assign_Name (store_ok2 (v := V.ref D) I' hN hy (.inl hyl) rfl (fun s2 I2 ⟨a, sb, ha⟩ => ?_) (.inr hyl))
  have neC : C ≠ a := by
    rcases ha with z | z
    · rw [z]; exact f1
    · exact fun e => f4 y a z e.symm
  exact ⟨m, hn.sameBut sb neC, fun h3 sb3 => ⟨_, H', I2.turned (t' := s2.toks) (fun b o hb e => (sb3.2 b hb).trans e) f0 f1 f3 f4 f5, q⟩⟩
end
end Z

end
section
set_option Elab.async false
set_option linter.all false
set_option maxRecDepth 100000
/-! Z31: dicts whose keys are tuples of ints and texts, never changed once they are made. -/
namespace Z
open PySem PySem.Spec PyProof.Rows L2
open PySem.W (Datum Tup)
/-! ### tables by a key of any kind -/
section
variable {κ α β : Type} [DecidableEq κ]
def vG (l : List (κ × α)) (k : κ) : Option α := (l.find? fun p => decide (p.1 = k)).map (·.2)
def pG (l : List (κ × α)) (k : κ) (a : α) : List (κ × α) := if (l.any fun p => decide (p.1 = k)) = true then l.map (fun p => if p.1 = k then (p.1, a) else p) else l ++ [(k, a)]
def pGs (l m : List (κ × α)) : List (κ × α) := m.foldl (fun acc p => pG acc p.1 p.2) l
theorem vG_cons (p : κ × α) (l : List (κ × α)) (k : κ) : vG (p :: l) k = if p.1 = k then some p.2 else vG l k := by
  unfold vG
  rw [List.find?_cons]
  by_cases h : p.1 = k
  · simp [h]
  · simp [h]
theorem vG_map {lam : Type} [DecidableEq lam] {f : κ → lam} {g : α → β} (inj : ∀ a b, f a = f b → a = b) (l : List (κ × α)) (k : κ) : vG (l.map fun p => (f p.1, g p.2)) (f k) = (vG l k).map g := by
  induction l with
  | nil => rfl
  | cons p l ih =>
    rw [List.map_cons, vG_cons, vG_cons, ih]
    by_cases h : p.1 = k
    · rw [if_pos h, if_pos (show f p.1 = f k by rw [h])]; rfl
    · rw [if_neg h, if_neg fun z => h (inj _ _ z)]
theorem pG_map {lam : Type} [DecidableEq lam] {f : κ → lam} {g : α → β} (inj : ∀ a b, f a = f b → a = b) (l : List (κ × α)) (k : κ) (a : α) : pG (l.map fun p => (f p.1, g p.2)) (f k) (g a) = (pG l k a).map fun p => (f p.1, g p.2) := by
  have e : ((l.map fun p => (f p.1, g p.2)).any fun p => decide (p.1 = f k)) = l.any fun p => decide (p.1 = k) := by
    rw [List.any_map]
    congr 1
    funext p
    by_cases h : p.1 = k
    · simp [h]
    · simp [h, show ¬ f p.1 = f k from fun z => h (inj _ _ z)]
  unfold pG
  rw [e]
  by_cases h : (l.any fun p => decide (p.1 = k)) = true
  · rw [if_pos h, if_pos h, List.map_map, List.map_map]
    refine List.map_congr_left fun p _ => ?_
    show (if f p.1 = f k then (f p.1, g a) else (f p.1, g p.2)) = _
    by_cases h : p.1 = k
    · rw [if_pos (by rw [h])]
      show _ = ((fun p : κ × α => (f p.1, g p.2)) (if p.1 = k then (p.1, a) else p))
      rw [if_pos h]
    · rw [if_neg fun z => h (inj _ _ z)]
      show _ = ((fun p : κ × α => (f p.1, g p.2)) (if p.1 = k then (p.1, a) else p))
      rw [if_neg h]
  · rw [if_neg h, if_neg h, List.map_append]
    rfl
theorem pGs_map {lam : Type} [DecidableEq lam] {f : κ → lam} {g : α → β} (inj : ∀ a b, f a = f b → a = b) : ∀ (m l : List (κ × α)), pGs (l.map fun p => (f p.1, g p.2)) (m.map fun p => (f p.1, g p.2)) = (pGs l m).map fun p => (f p.1, g p.2)
  | [], l => rfl
  | p :: m, l => by
    show pGs (pG (l.map fun p => (f p.1, g p.2)) (f p.1) (g p.2)) (m.map fun p => (f p.1, g p.2)) = (pGs (pG l p.1 p.2) m).map _
    rw [pG_map inj, pGs_map inj m]
theorem pG_len (l : List (κ × α)) (k : κ) (a : α) : (pG l k a).length ≤ l.length + 1 := by
  unfold pG
  split
  · rw [List.length_map]; omega
  · rw [List.length_append]; exact Nat.le_refl _
theorem pGs_len : ∀ (m l : List (κ × α)), (pGs l m).length ≤ l.length + m.length
  | [], l => Nat.le_refl _
  | p :: m, l => by
    have a := pGs_len m (pG l p.1 p.2)
    have b := pG_len l p.1 p.2
    show (pGs (pG l p.1 p.2) m).length ≤ _
    rw [List.length_cons]
    omega
theorem pG_snoc (l : List (κ × α)) {k : κ} (a : α) (h : ∀ p ∈ l, p.1 ≠ k) : pG l k a = l ++ [(k, a)] := by
  unfold pG
  rw [if_neg]
  intro z
  obtain ⟨p, hp, e⟩ := List.any_eq_true.mp z
  exact h p hp (of_decide_eq_true e)
theorem pGs_nodup : ∀ (m l : List (κ × α)), ((l ++ m).map Prod.fst).Nodup → pGs l m = l ++ m
  | [], l, _ => by rw [List.append_nil]; rfl
  | p :: m, l, nd => by
    have e : pG l p.1 p.2 = l ++ [p] := pG_snoc l p.2 fun q hq e => by
      rw [List.map_append, List.nodup_append] at nd
      exact nd.2.2 q.1 (List.mem_map.mpr ⟨q, hq, rfl⟩) p.1 (by simp) e
    show pGs (pG l p.1 p.2) m = _
    rw [e, pGs_nodup m (l ++ [p]) (by simpa using nd)]
    simp
theorem valV_vG (l : List (κ × V)) (k : κ) : valV l k = vG l k := rfl
theorem putK_pG (l : List (κ × V)) (k : κ) (v : V) : putK l k v = pG l k v := rfl
/-- entry by entry -/
def KgOn (kps : List (κ × Pr)) (F : Hp) (kvs : List (κ × V)) : Prop := PySem.Paired (fun (p : κ × Pr) (q : κ × V) => p.1 = q.1 ∧ p.2.on F q.2) kps kvs
theorem KgOn.mono {F F' : Hp} (s : L2.Same F F') : ∀ {kps : List (κ × Pr)} {kvs : List (κ × V)}, KgOn kps F kvs → KgOn kps F' kvs
  | _, _, .nil => .nil
  | p :: _, _, .cons a b => .cons ⟨a.1, p.2.mono s a.2⟩ (KgOn.mono s b)
theorem KgOn.len {F : Hp} {kps : List (κ × Pr)} {kvs : List (κ × V)} (h : KgOn kps F kvs) : kps.length = kvs.length := Paired.length h
theorem KgOn.at_ {F : Hp} : ∀ {kps : List (κ × Pr)} {kvs : List (κ × V)}, KgOn kps F kvs → ∀ k, (∀ p, vG kps k = some p → ∃ v, vG kvs k = some v ∧ p.on F v) ∧ (vG kps k = none → vG kvs k = none)
  | _, _, .nil, k => ⟨fun p h => (nomatch h), fun _ => rfl⟩
  | (a, p) :: kps, (b, v) :: kvs, .cons h t, k => by
    obtain ⟨e, o⟩ := h
    have e : a = b := e
    subst e
    obtain ⟨i1, i2⟩ := KgOn.at_ t k
    rw [vG_cons, vG_cons]
    by_cases hk : a = k
    · rw [if_pos hk, if_pos hk]
      exact ⟨fun q h => by cases h; exact ⟨v, rfl, o⟩, fun h => nomatch h⟩
    · rw [if_neg hk, if_neg hk]
      exact ⟨i1, i2⟩
theorem KgOn.put {F : Hp} {q : Pr} {w : V} (r : q.on F w) (k : κ) : ∀ {kps : List (κ × Pr)} {kvs : List (κ × V)}, KgOn kps F kvs → KgOn (pG kps k q) F (pG kvs k w) := fun {kps kvs} h => by
  have e : (kps.any fun p => decide (p.1 = k)) = kvs.any fun p => decide (p.1 = k) := by
    induction h with
    | nil => rfl
    | cons a t ih => rw [List.any_cons, List.any_cons, ih, a.1]
  unfold pG
  rw [e]
  split
  · clear e
    rename_i z
    clear z
    induction h with
    | nil => exact .nil
    | @cons a b ps vs x t ih =>
      rw [List.map_cons, List.map_cons]
      refine .cons ?_ ih
      obtain ⟨e1, e2⟩ := x
      by_cases hk : a.1 = k
      · rw [if_pos hk, if_pos (e1.symm.trans hk)]; exact ⟨e1, r⟩
      · rw [if_neg hk, if_neg fun z => hk (e1.trans z)]; exact ⟨e1, e2⟩
  · exact Paired.snoc h ⟨rfl, r⟩
theorem KgOn.puts {F : Hp} : ∀ {kps : List (κ × Pr)} {kvs : List (κ × V)}, KgOn kps F kvs → ∀ {ls : List (κ × Pr)} {ws : List (κ × V)}, KgOn ls F ws → KgOn (pGs ls kps) F (pGs ws kvs)
  | _, _, .nil, _, _, h => h
  | (a, p) :: kps, (b, v) :: kvs, .cons x t, ls, ws, h => by
    obtain ⟨e1, e2⟩ := x
    have e1 : a = b := e1
    subst e1
    exact KgOn.puts t (h.put e2 a)
end
/-! ### words -/
/-- a tuple that is a key -/
def rKt (k : List Key) : Pr := ⟨fun F v => ∃ a, v = .ref a ∧ F a = some (.tup (k.map kV)), fun s ⟨a, e, h⟩ => ⟨a, e, s _ _ h⟩⟩
/-- a dict with such keys that stays -/
def rM (kps : List (List Key × Pr)) : Pr := ⟨fun F v => ∃ a kvs, v = .ref a ∧ F a = some (.dT kvs) ∧ KgOn kps F kvs, fun s ⟨a, kvs, e, h, o⟩ => ⟨a, kvs, e, s _ _ h, o.mono s⟩⟩
theorem allOn_keys {F : Hp} : ∀ {k : List Key}, AllOn (k.map fun x => isV (kV x)) F (k.map kV)
  | [] => .nil
  | _ :: _ => .cons rfl allOn_keys
theorem vals_keys {F : Hp} : ∀ {k : List Key} {vs : List V}, AllOn (k.map fun x => isV (kV x)) F vs → vs = k.map kV
  | [], _, h => by cases h; rfl
  | x :: k, _, h => by
    rw [List.map_cons] at h
    cases h with
    | cons a b =>
      rw [vals_keys b]
      have a : _ = kV x := a
      rw [a]
      rfl
theorem rKt_rT {K : PySem.W.Frag} {k : List Key} {F : Hp} {v : V} (h : (rKt k).on F v) : (rT K (k.map fun x => isV (kV x))).on F v := by
  obtain ⟨a, e, h⟩ := h
  exact ⟨a, _, e, SqT.of h, allOn_keys⟩
section
variable {j : J} {Γ : Gm} {C : List Cell} {R R' : Ps} {P : Po} {rest : List Stmt} {pos pos' pos2 : Pos} {o e ke a b : Expr}
/-- a value seen as less -/
theorem ev_as (h : Ev j Γ C e R) (k : ∀ C' p, R C' p → ∃ q, R' C' q ∧ ∀ F v, p.on F v → q.on F v) : Ev j Γ C e R' := fun Φ σ F H Q x S K => h Φ σ F H Q x S fun v F' H' C' p r S' s' o' => by
  obtain ⟨q, hq, w⟩ := k C' p r
  exact K v F' H' C' q hq S' s' (w _ _ o')
theorem ev_tupK {es : List Expr} {n : Nat} (h : Ea j Γ C es fun C1 ps => ∃ k : List Key, ps = k.map (fun x => isV (kV x)) ∧ k.length ≤ sizeLine ∧ R C1 (rKt k)) : Ev j Γ C (.Tuple es n pos) R :=
  ev_lift (pe_tup pa_wa) fun Φ σ F H Q x S K => h Φ σ F H _ x S fun vs F1 H1 C1 ps ⟨k, ek, hz, r1⟩ S1 s1 o1 => by
    subst ek
    have ev := vals_keys o1
    subst ev
    refine ⟨by rw [List.length_map]; exact hz, fun p hp => ?_⟩
    obtain ⟨S2, s2⟩ := S1.newF (o := .tup (k.map kV)) hp ⟨fun _ z => (nomatch z), fun _ _ z => (nomatch z)⟩
    exact K _ _ _ _ _ r1 S2 (s1.trans s2) ⟨p, rfl, upd_same⟩
/-- the empty dict -/
theorem ev_dnewM (r : R C (rM [])) : Ev j Γ C (.Dict [] [] pos) R :=
  ev_lift pe_dnewT fun Φ σ F H Q x S K p hp => by
    obtain ⟨S2, s2⟩ := S.newF (o := .dT []) hp ⟨fun _ z => (nomatch z), fun _ _ z => (nomatch z)⟩
    exact K _ _ _ _ _ r S2 s2 ⟨p, [], rfl, upd_same, .nil⟩
/-- the entry of a key -/
theorem dget_m {tb : Tb} {Φ : Fx} {σ : L2.St} {F H : Hp} {kps : List (List Key × Pr)} {k : List Key} {v w : V} (S : Sta tb Φ Γ C σ F H) (o1 : (rM kps).on F v) (o2 : (rKt k).on F w) :
    ∃ m kvs, v = .ref m ∧ H m = some (.dT kvs) ∧ DGet H m w (vG kvs k) ∧ KgOn kps F kvs := by
  obtain ⟨m, kvs, e1, h1, hk⟩ := o1
  obtain ⟨c, e2, h2⟩ := o2
  subst e2
  have h3 : H m = some (.dT kvs) := by
    rcases S.subx m _ h1 with q | ⟨_, _, xs, q⟩
    · exact q
    · cases q
  exact ⟨m, kvs, e1, h3, DGet.t h3 (S.tupx h2), hk⟩
theorem ev_mget (hu : j.X.A.units + 1 < cLine) (h : Ev j Γ C o fun C1 p => Ev j Γ C1 ke fun C2 kp => ∃ kps k q, p = rM kps ∧ kp = rKt k ∧ vG kps k = some q ∧ R C2 q) (hs : NoSl ke := by exact fun _ _ => rfl) : Ev j Γ C (.Subscript o ke pos) R :=
  ev_lift (pe_dget hu pe_we pe_we hs) fun Φ σ F H Q x S K => h Φ σ F H _ x S fun v F1 H1 C1 p r1 S1 s1 o1 => r1 Φ σ F1 H1 _ x S1 fun w F2 H2 C2 kp ⟨kps, k, q, ep, ek, hv, r⟩ S2 s2 o2 => by
    subst ep ek
    obtain ⟨m, kvs, e1, _, g, hk⟩ := dget_m S2 ((rM kps).mono s2 o1) o2
    obtain ⟨z, z1, z2⟩ := (hk.at_ k).1 q hv
    rw [z1] at g
    exact ⟨m, z, e1, g, K _ _ _ _ _ r S2 (s1.trans s2) z2⟩
theorem isSome_at {κ : Type} [DecidableEq κ] {F : Hp} {kps : List (κ × Pr)} {kvs : List (κ × V)} (h : KgOn kps F kvs) (k : κ) : (vG kvs k).isSome = (vG kps k).isSome := by
  cases q : vG kps k with
  | none => rw [(h.at_ k).2 q]; rfl
  | some p => obtain ⟨z, z1, _⟩ := (h.at_ k).1 p q; rw [z1]; rfl
theorem et_min (hu : j.X.A.units + 1 < cLine) {R' : List Cell → Bool → Prop} (h : Ev j Γ C ke fun C1 kp => Ev j Γ C1 o fun C2 p => ∃ kps k, p = rM kps ∧ kp = rKt k ∧ R' C2 (vG kps k).isSome) (hmk : behindInMarks .In o = false := by rfl) : Et j Γ C (.Compare ke [.In] [o] pos) R' :=
  et_lift (pt_cmp (pc_din hu pe_we pe_we) hmk) fun Φ σ F H Q x S K => h Φ σ F H _ x S fun v F1 H1 C1 kp r1 S1 s1 o1 => r1 Φ σ F1 H1 _ x S1 fun w F2 H2 C2 p ⟨kps, k, ep, ek, r⟩ S2 s2 o2 => by
    subst ep ek
    obtain ⟨m, kvs, e1, _, g, hk⟩ := dget_m S2 o2 ((rKt k).mono s2 o1)
    exact ⟨m, _, e1, g, (vG kps k).isSome, by rw [isSome_at hk k], K _ _ _ _ r S2 (s1.trans s2)⟩
theorem ev_mget2 (hu : j.X.A.units + 1 < cLine) {apos : Pos} {f : Expr} (h : Ev j Γ C o fun C0 p => ∃ kps, p = rM kps ∧ Ev j Γ C0 ke fun C1 kp => Ev j Γ C1 f fun C2 d => ∃ k, kp = rKt k ∧ R C2 ((vG kps k).getD d)) (m : M2 j.X o "get" apos ke f pos) : Ev j Γ C (.Call (.Attribute o "get" apos) [ke, f] [] pos) R :=
  ev_lift (pe_dget2 hu pe_we pe_we pe_we m) fun Φ σ F H Q x S K => h Φ σ F H _ x S fun v F1 H1 C1 p ⟨kps, ep, r1⟩ S1 s1 o1 => by
    subst ep
    obtain ⟨m0, kvs0, e0, h0, _⟩ := id o1
    have hm : H1 m0 = some (.dT kvs0) := by
      rcases S1.subx m0 _ h0 with q | ⟨_, _, xs, q⟩
      · exact q
      · cases q
    refine ⟨m0, e0, .inr ⟨kvs0, .inl hm⟩, r1 Φ σ F1 H1 _ x S1 fun w F2 H2 C2 kp r2 S2 s2 o2 => r2 Φ σ F2 H2 _ x S2 fun u F3 H3 C3 d ⟨k, ek, r⟩ S3 s3 o3 => ?_⟩
    subst ek
    obtain ⟨m, kvs, e1, _, g, hk⟩ := dget_m S3 ((rM kps).mono (s2.trans s3) o1) ((rKt k).mono s3 o2)
    rw [e0] at e1
    cases e1
    refine ⟨_, g, K _ _ _ _ _ r S3 ((s1.trans s2).trans s3) ?_⟩
    cases q : vG kps k with
    | none => rw [(hk.at_ k).2 q]; exact o3
    | some z => obtain ⟨y, y1, y2⟩ := (hk.at_ k).1 z q; rw [y1]; exact y2
end
end Z

end
section
set_option Elab.async false
set_option linter.all false
set_option maxRecDepth 100000
/-! Z32: {a: b for a, b in zip(xs, ys)}, dict(zip(xs, ys)): xs a list of key tuples, ys a tuple. -/
namespace Z
open PySem PySem.Spec PyProof.Rows L2
open PySem.W (Datum Tup)
section
variable {j : J} {Γ : Gm} {C : List Cell} {R R' : Ps} {P : Po} {rest : List Stmt} {pos pos2 pp pz py pa pb pt pc pd : Pos} {ea eb : Expr}
theorem take_zip_succ {α β : Type} {xs : List α} {ys : List β} {i : Nat} {x : α} {y : β} (h1 : xs[i]? = some x) (h2 : ys[i]? = some y) : (xs.zip ys).take (i + 1) = (xs.zip ys).take i ++ [(x, y)] := by
  rw [List.take_add_one, (List.getElem?_zip_eq_some (z := (x, y))).mpr ⟨h1, h2⟩]
  rfl
theorem pGs_snoc {κ α : Type} [DecidableEq κ] (l m : List (κ × α)) (p : κ × α) : pGs l (m ++ [p]) = pG (pGs l m) p.1 p.2 := by
  unfold pGs
  rw [List.foldl_append]
  rfl
theorem tr_setDcZm (t i1 i2 : Nat) {y x1 x2 : Str} {scope : Scope} {kk : Nat} (hik : i1 ≠ i2) (l1 : i1 < Γ.length) (l2 : i2 < Γ.length)
    (k : Ea j Γ C [ea, eb] fun C1 zs => ∃ (ks : List (List Key)) (qs : List Pr), zs = [rL (ks.map rKt), rT j.X.K qs] ∧ ks.length ≤ sizeLine ∧ Tr j (Γ.set t (some (rM (pGs [] (ks.zip qs))))) C1 rest P)
    (hu : j.X.A.units < cLine) (hN : j.X.N.Nodup) (hc : j.X.calm = true) (hm : j.X.mg "zip" = none) (ok : BlkOk j.X.N j.X.env.scope scope [(x1, i1), (x2, i2)]) (v1 : ∀ (s : Shared) (H : Hp) (Cc : Addr) (cl : List (Str × Addr)) (fp : List Addr), Vis (j.X.blk s H scope (compEnvC scope cl Cc j.X.env) fp).env.scope x1) (v2 : ∀ (s : Shared) (H : Hp) (Cc : Addr) (cl : List (Str × Addr)) (fp : List Addr), Vis (j.X.blk s H scope (compEnvC scope cl Cc j.X.env) fp).env.scope x2)
    (hg : ∀ (s : Shared) (H : Hp) (Cc : Addr) (cl : List (Str × Addr)) (fp : List Addr), PG (j.X.blk s H scope (compEnvC scope cl Cc j.X.env) fp) (.Tuple [.Name x1 pa, .Name x2 pb] kk pt) (gPair j.X.K i1 i2))
    (hsw : swapsWith (.DictComp (.Name x1 pc) (.Name x2 pd) [⟨.Tuple [.Name x1 pa, .Name x2 pb] kk pt, .Call (.Name "zip" pz) [ea, eb] [] pp, [], 0⟩] scope pos) (some (.Name y py)) pos2.line j.X.env = pure true)
    (hn1 : j.X.N[i1]? = some x1 := by rfl) (hn2 : j.X.N[i2]? = some x2 := by rfl) (hy : j.X.N[t]? = some y := by rfl) (hyl : j.X.env.scope.names.lookup y = some .local := by rfl) (hgl : Gl j.X "zip" := by rfl)
    (d1 : (x1 == ("__debug__" : Str)) = false := by decide) (d2 : (x2 == ("__debug__" : Str)) = false := by decide) (c1 : (x1 == ("__classdict__" : Str)) = false := by decide) (c2 : (x2 == ("__classdict__" : Str)) = false := by decide)
    (hs : ∀ x, foldedSetIterable (.Call (.Name "zip" pz) [ea, eb] [] pp) j.X.env x = pure x := by intro _; rfl) (hst : starEach [ea, eb] j.X.env = (false, eval ea j.X.env) :: starEach [eb] j.X.env := by rfl) (hpl : (backTo pp (starEach [eb] j.X.env)).any (·.1) = false := by rfl) :
    Tr j Γ C (.Assign [.Name y py] (.DictComp (.Name x1 pc) (.Name x2 pd) [⟨.Tuple [.Name x1 pa, .Name x2 pb] kk pt, .Call (.Name "zip" pz) [ea, eb] [] pp, [], 0⟩] scope pos) pos2 :: rest) P :=
  tr_lift (ps_setDcA (ob := .dT []) (own := [(x1, i1), (x2, i2)]) (.inr rfl) hu hc hN hy hyl hsw (pi_zm hgl hm pa_wa hst hpl) ok hg (fun s H Cc cl fp => pe_var (i := i1) hn1 (v1 s H Cc cl fp) d1 c1) (fun s H Cc cl fp => pe_var (i := i2) hn2 (v2 s H Cc cl fp) d2 c2) hs) fun Φ σ F H xw S => by
    refine k Φ σ F H _ xw S fun vs F1 H1 C1 zs ⟨ks, qs, ez, hz, tr⟩ S1 s1 o1 => ?_
    subst ez
    obtain ⟨va, vb, ev, oa, ob⟩ := all2 o1
    subst ev
    obtain ⟨al, us, e1, hl, ho⟩ := oa
    obtain ⟨bl, ws, e2, ht, hw⟩ := ob
    refine ⟨al, bl, us, ws, by rw [e1, e2], .inl (S1.sub _ _ hl), S1.seqT ht, fun D hD => ?_⟩
    have h0 : Φ.H0 D = none := S1.there D hD
    have dC : D ∉ C1.map (·.a) := fun z => by
      obtain ⟨c, hc, ec⟩ := List.mem_map.mp z
      obtain ⟨w, q1, _, _⟩ := S1.cells.at_ c hc
      rw [ec, hD] at q1
      cases q1
    have l3 : ks.length = us.length := by rw [← ho.length, List.length_map]
    have l4 : qs.length = ws.length := hw.length
    have wk := walk_zm (K := j.X.K) (a := al) (b := bl) (xs := us) (ys := ws)
    refine ⟨fun i m H => m = min us.length ws.length - i ∧ i ≤ min us.length ws.length ∧ ∃ F' kvs, Sta j.tb Φ (wG Γ [i1, i2]) C1 (wipe σ [i1, i2]) F' H ∧ L2.Same F1 F' ∧ H D = some (.dT kvs) ∧ F' D = none ∧ KgOn (pGs [] ((ks.zip qs).take i)) F' kvs,
      ⟨min us.length ws.length, by simp, Nat.zero_le _, F1, [], (S1.beside hD).envTo (S1.env.wipeL _), L2.Same.refl _, upd_same, S1.notF hD, .nil⟩, ?_⟩
    rintro i m H2 ⟨rfl, hi, F2, kvs, S2, s2, q1, q2, q3⟩
    have both : SqL j.X.K H2 al us ∧ SqT j.X.K H2 bl ws := ⟨.inl (S2.sub _ _ (s2 _ _ hl)), S2.seqT (seqT_mono s2 ht)⟩
    by_cases hlt : i < min us.length ws.length
    · refine .inr ⟨wk.goes i H2 hlt both, fun H' => ∃ F' kvs, Sta j.tb Φ (wG Γ [i1, i2]) C1 (wipe σ [i1, i2]) F' H' ∧ L2.Same F1 F' ∧ H' D = some (.dT kvs) ∧ F' D = none ∧ KgOn (pGs [] ((ks.zip qs).take (i + 1))) F' kvs, fun H' q => ⟨min us.length ws.length - (i + 1), by omega, rfl, hlt, q⟩, fun x H' yl => ?_⟩
      obtain ⟨T, u, w, ex, hT, eH, hu1, hw1⟩ := wk.yields i H2 x H' hlt both yl
      subst eH
      subst ex
      have hu1 : us[i]? = some u := hu1
      have hw1 : ws[i]? = some w := hw1
      have hk : i < ks.length := by omega
      have hq : i < qs.length := by omega
      have hp' : i < (ks.map rKt).length := by rw [List.length_map]; exact hk
      obtain ⟨u', f1, f2⟩ := ho.get (List.getElem?_eq_getElem hp')
      rw [hu1] at f1
      cases f1
      obtain ⟨w', f1, f3⟩ := hw.get (List.getElem?_eq_getElem hq)
      rw [hw1] at f1
      cases f1
      have f2 : (rKt ks[i]).on F1 u := by
        have e : (ks.map rKt)[i] = rKt ks[i] := List.getElem_map _
        rw [← e]
        exact f2
      have TD : D ≠ T := fun z => by rw [← z, q1] at hT; cases hT
      obtain ⟨S3, s3⟩ := S2.newF (o := .tup [u, w]) hT ⟨fun _ z => (nomatch z), fun _ _ z => (nomatch z)⟩
      have g2 := (rKt ks[i]).mono (s2.trans s3) f2
      have g3 := qs[i].mono (s2.trans s3) f3
      refine (tgt_pair (K := j.X.K) (i := i1) (k := i2) (Γ := Γ) (p := rKt ks[i]) (q := qs[i]) hik).run j.tb Φ C1 σ (upd F2 T (.tup [u, w])) (upd H2 T (.tup [u, w])) (.ref T) _ S3 ⟨T, _, rfl, SqT.of upd_same, .cons g2 (.cons g3 .nil)⟩ fun σ1 env1 hw1' => ⟨hw1', ?_⟩
      have wl : (wG Γ [i1, i2]).length = Γ.length := by simp [wG]
      obtain ⟨a1, b1, b2⟩ := env1.at_ i1 (rKt ks[i]) (by rw [List.getElem?_set_ne (Ne.symm hik), List.getElem?_set_self (by rw [wl]; exact l1)])
      obtain ⟨a2, b3, b4⟩ := env1.at_ i2 qs[i] (by rw [List.getElem?_set_self (by rw [List.length_set, wl]; exact l2)])
      refine ⟨a1, b1, a2, b3, ?_⟩
      obtain ⟨c, ec, hc'⟩ := b2
      subst ec
      have hDk : (upd H2 T (.tup [u, w])) D = some (.dT kvs) := by rw [upd_ne TD]; exact q1
      have hDF : (upd F2 T (.tup [u, w])) D = none := by rw [upd_ne TD]; exact q2
      have kl : kvs.length ≤ i := by
        rw [← q3.len]
        have := pGs_len ((ks.zip qs).take i) []
        rw [List.length_take] at this
        simp only [List.length_nil] at this
        omega
      refine ⟨_, DPut.t hDk (S3.tupx hc') (by omega), upd F2 T (.tup [u, w]), putK kvs ks[i] a2, S3.besideUpd hDk hDF h0 dC (fun _ z => nomatch z) (fun _ z => nomatch z), s2.trans s3, upd_same, hDF, ?_⟩
      rw [take_zip_succ (List.getElem?_eq_getElem hk) (List.getElem?_eq_getElem hq), pGs_snoc]
      exact (q3.mono s3).put b4 _
    · have en : i = min us.length ws.length := by omega
      refine .inl ⟨by rw [en]; exact wk.stops H2 both, ?_⟩
      have S3 : Sta j.tb Φ Γ C1 σ F2 H2 := S2.envTo (S1.env.mono s2)
      obtain ⟨S4, s4⟩ := S3.adopt q1 q2 h0 dC ⟨fun _ z => (nomatch z), fun _ _ z => (nomatch z)⟩
      have et : (ks.zip qs).take i = ks.zip qs := List.take_of_length_le (by rw [List.length_zip, en, l3, l4]; exact Nat.le_refl _)
      rw [et] at q3
      exact tr Φ _ _ H2 xw (S4.setv t (p := rM (pGs [] (ks.zip qs))) (v := .ref D) ⟨D, kvs, rfl, upd_same, q3.mono s4⟩)
/-! ### dict(zip(xs, ys)) -/
def tDictZ (K : PySem.W.Frag) (ta : TA) : TE := fun σ H Q => ta σ H fun vs H1 => ∃ (a b : Addr) (ks : List (Addr × List Key)) (ys : List V), vs = [.ref a, .ref b] ∧ SqL K H1 a (ks.map fun p => V.ref p.1) ∧ (∀ p ∈ ks, H1 p.1 = some (.tup (p.2.map kV))) ∧ SqT K H1 b ys ∧ ks.length = ys.length ∧
  ∀ p, H1 p = none → Q (.ref p) (upd H1 p (.dT (pGs [] ((ks.map Prod.snd).zip ys))))
theorem kt_all {H : Hp} : ∀ {ps : List (List Key × V)} {qs : List (List Key × Addr × Value)}, PySem.Paired (fun (p : List Key × V) (q : List Key × Addr × Value) => p.1 = q.1 ∧ H q.2.1 = some (.tup (q.1.map kV)) ∧ RelV p.2 q.2.2) ps qs → ∀ {kvs : List (List Key × V)} {xs : List (List Key × Addr × Value)}, KT H kvs xs → KT H (pGs kvs ps) (storedAllH xs qs)
  | _, _, .nil, _, _, h => h
  | (k, v) :: ps, (k', b, u) :: qs, .cons ⟨e, hb, r⟩ t, kvs, xs, h => by
    have e : k = k' := e
    subst e
    exact kt_all t (h.put k hb r)
theorem pairs_at {H : Hp} {h : Heap} : ∀ {ks : List (Addr × List Key)} {ys : List V} {us : List Value}, Vals ys us → ks.length = ys.length → (∀ p ∈ ks, H p.1 = some (.tup (p.2.map kV))) →
    PySem.Paired (fun (p : List Key × V) (q : List Key × Addr × Value) => p.1 = q.1 ∧ H q.2.1 = some (.tup (q.1.map kV)) ∧ RelV p.2 q.2.2) ((ks.map Prod.snd).zip ys) ((ks.zip us).map fun p => (p.1.2, p.1.1, p.2))
  | [], _, _, _, _, _ => .nil
  | p :: ks, [], _, _, e, _ => by simp at e
  | p :: ks, y :: ys, _, .cons r t, e, hk => .cons ⟨rfl, hk p (by simp), r⟩ (pairs_at (h := h) t (by simpa using e) fun q hq => hk q (by simp [hq]))
theorem pe_dictZ {X : L2.Cx} {ta : TA} (hgd : Gl X "dict") (hmd : X.mg "dict" = none) (hgz : Gl X "zip") (hmz : X.mg "zip" = none) (hu : X.A.units + 1 + 1 < cLine) (hc : X.calm = true) (ha : PA X [ea, eb] ta)
    (hst : starEach [ea, eb] X.env = (false, eval ea X.env) :: starEach [eb] X.env := by rfl) (hpl : (backTo pp (starEach [eb] X.env)).any (·.1) = false := by rfl)
    (hs1 : starEach [.Call (.Name "zip" pz) [ea, eb] [] pp] X.env = (false, eval (.Call (.Name "zip" pz) [ea, eb] [] pp) X.env) :: starEach [] X.env := by rfl) :
    PE X (.Call (.Name "dict" py) [.Call (.Name "zip" pz) [ea, eb] [] pp] [] pos) (tDictZ X.K ta) := by
  refine ⟨fun pins s σ H Q I h => Call_ (ld_blt I hgd hmd boot_dict (callWith_type1 ?_ hs1 rfl))⟩
  rw [hs1]
  refine Calls.spliced_cons ?_
  refine Call_ (ld_blt I hgz hmz boot_zip (callWith_type1 (thn (ha.run pp pins s σ H _ I h) fun us s1 ⟨vs, H1, I1, r, a, b, ks, ys, ev, qx, hk, qy, hlen, q⟩ => ?_) hst hpl))
  subst ev
  obtain ⟨v1, v2, eu, r1, r2⟩ := vals2 r
  subst eu
  cases r1
  cases r2
  obtain ⟨its, rv, pl, hsz⟩ := I1.list qx
  obtain ⟨jts, rw_, ptt, _⟩ := I1.tuple qy
  obtain ⟨ob, eb', _⟩ := id ptt
  refine call_zipLT pl.isList (show s1.heap.IsTuple b jts.toArray from ptt) fun h' hz hI hO p1 p2 hk' => ?_
  have I2 : Inv X pins σ H1 { s1 with heap := h' } := I1.kept (t' := s1.toks) hk'
  refine Calls.spliced_nil ?_
  generalize hNn : s1.heap.objs.size = N at hz hI hO p1 p2 ⊢
  have D := PySem.W.ktu_apart N a b (by rw [← hNn]; exact pl.lt) (by rw [← hNn]; exact Heap.lt_size eb')
  have PA' := argG (prog := X.prog) (w := X.w) D (SqS.list D.l1i1 its.toArray) (SqS.tuple D.l2i2 jts.toArray) (fun ⟨_, o, e, _⟩ => ⟨o, e⟩) fun ⟨_, o, e, _⟩ => ⟨o, e⟩
  have l5 : its.length = ks.length := by rw [← rv.length, List.length_map]
  have l6 : jts.length = ks.length := by rw [← rw_.length, hlen]
  have eits : its = ks.map fun p => Value.ref p.1 := by
    have : ∀ {zs : List (Addr × List Key)} {us : List Value}, Vals (zs.map fun p => V.ref p.1) us → us = zs.map fun p => Value.ref p.1 := fun {zs} => by
      induction zs with
      | nil => intro us z; cases z; rfl
      | cons p zs ih =>
        intro us z
        rw [List.map_cons] at z
        cases z with
        | cons a b =>
          cases a
          rw [ih b]
          rfl
    exact this rv
  have mn : min its.toArray.size jts.toArray.size = ks.length := by rw [List.size_toArray, List.size_toArray, l5, l6]; exact Nat.min_self _
  have old : ∀ p ∈ ks, p.1 < s1.heap.objs.size := fun p hp => by
    obtain ⟨_, _, _, o, e, _⟩ := (show ObjOk X.prog X.w H1 s1.heap p.1 (.tup (p.2.map kV)) from I1.hok p.1 _ (hk p hp))
    exact Heap.lt_size e
  refine call_dict_pairsH (knd := tupleKind (mixKind X.prog X.w)) (ps := (ks.zip jts).map fun p => (p.1.2, p.1.1, p.2)) PA' (I.ok.hd hc) (show X.A.in1.in1.units < cLine from hu) ⟨hz, hI, ⟨_, _, hO⟩, ⟨p1, pl.isList.at fun o e => hk' _ o e⟩, p2, Heap.IsTuple.at (show s1.heap.IsTuple b jts.toArray from ptt) fun o e => hk' _ o e⟩ ⟨?_, ?_⟩ ?_ (by rw [mn]; rw [List.length_map] at hsz; exact hsz) ?_
  · rw [List.length_map, List.length_zip, mn, l6, Nat.min_self]
  · rintro i key v ⟨h1, h2, rfl, rfl⟩
    have i1' : i < ks.length := by rw [List.size_toArray, l5] at h1; exact h1
    have i2' : i < jts.length := by rw [List.size_toArray] at h2; exact h2
    refine ⟨ks[i].2, ks[i].1, ?_, ?_⟩
    · rw [List.getElem?_map, (List.getElem?_zip_eq_some (z := (ks[i], jts[i]))).mpr ⟨List.getElem?_eq_getElem i1', List.getElem?_eq_getElem i2'⟩]
      show some (ks[i].2, ks[i].1, jts[i]) = some (ks[i].2, ks[i].1, jts.toArray[i]?.getD .none)
      rw [List.getElem?_toArray, List.getElem?_eq_getElem i2']
      rfl
    · show its.toArray[i]?.getD .none = _
      rw [List.getElem?_toArray, eits, List.getElem?_map, List.getElem?_eq_getElem i1']
      rfl
  · intro h2 hk2 x hx
    obtain ⟨p, hp, ep⟩ := List.mem_map.mp hx
    subst ep
    have hm : p.1 ∈ ks := (List.of_mem_zip hp).1
    obtain ⟨o, its', n, g1, g2, g3, g4⟩ := (show IsTupleKey (mixKind X.prog X.w) h' p.1.2 p.1.1 from key_of I2.hok (hk p.1 hm))
    have lt := old p.1 hm
    refine ⟨o, its', n, hk2 _ _ ?_ ?_ g1, g2, g3, g4⟩
    · rw [hNn] at lt
      exact Nat.ne_of_lt (Nat.lt_trans lt (Nat.lt_of_le_of_lt (Nat.le_add_right N 4) (Heap.lt_size hz)))
    · rw [hNn] at lt
      simp only [List.mem_cons, List.not_mem_nil, or_false, not_or]
      exact ⟨Nat.ne_of_lt (Nat.lt_of_lt_of_le lt (Nat.le_add_right _ _)), Nat.ne_of_lt (Nat.lt_of_lt_of_le lt (Nat.le_add_right _ _)), Nat.ne_of_lt lt, Nat.ne_of_lt (Nat.lt_of_lt_of_le lt (Nat.le_add_right _ _))⟩
  · intro h2 tk dd kk
    have kt := kt_all (pairs_at (h := h') rw_ hlen hk) (kvs := []) (xs := []) .nil
    have big : (h'.objs.size == sysModules) = false := beq_eq_false_iff_ne.mpr (Nat.ne_of_gt I2.big)
    have zl : (pGs [] ((ks.map Prod.snd).zip ys)).length ≤ sizeLine := by
      refine Nat.le_trans (pGs_len _ _) ?_
      rw [List.length_zip, List.length_map, List.length_nil]
      rw [List.length_map] at hsz
      omega
    obtain ⟨o, es, ep, g1, g2, g3, g4, _, g5⟩ := dd
    have nh : H1 h'.objs.size = none := I2.hok.fresh (Nat.le_refl _)
    have new : ObjOk X.prog X.w (upd H1 h'.objs.size (.dT (pGs [] ((ks.map Prod.snd).zip ys)))) h2 h'.objs.size (.dT (pGs [] ((ks.map Prod.snd).zip ys))) :=
      ⟨zl, big, _, kt.keeps fun c ys ec => by rw [upd_ne (ne_of_none ec nh)]; exact ec, o, es, ep, g1, g2, g3, g4, g5⟩
    have I3 := I2.turnedNew (t' := tk) (h' := h2) (ch := [N + 4, N + 3, N, N + 1]) (fun c o hb e => kk c o hb e) (fun c hm => ?_) (Nat.le_refl _) new
    · exact ⟨.ref h'.objs.size, _, I3, rfl, q _ nh⟩
    · have le : s1.heap.objs.size ≤ c := by
        rw [hNn]
        simp only [List.mem_cons, List.not_mem_nil, or_false] at hm
        rcases hm with z | z | z | z <;> rw [z] <;> first | exact Nat.le_refl _ | exact Nat.le_add_right _ _
      have f := I1.fpOk le (I1.hok.fresh le)
      exact f
/-- by words -/
theorem ev_dictZ (h : Ea j Γ C [ea, eb] fun C1 zs => ∃ (ks : List (List Key)) (qs : List Pr), zs = [rL (ks.map rKt), rT j.X.K qs] ∧ ks.length = qs.length ∧ R C1 (rM (pGs [] (ks.zip qs)))) (hmd : j.X.mg "dict" = none) (hmz : j.X.mg "zip" = none) (hu : j.X.A.units + 1 + 1 < cLine) (hc : j.X.calm = true) (hgd : Gl j.X "dict" := by rfl) (hgz : Gl j.X "zip" := by rfl)
    (hst : starEach [ea, eb] j.X.env = (false, eval ea j.X.env) :: starEach [eb] j.X.env := by rfl) (hpl : (backTo pp (starEach [eb] j.X.env)).any (·.1) = false := by rfl)
    (hs1 : starEach [.Call (.Name "zip" pz) [ea, eb] [] pp] j.X.env = (false, eval (.Call (.Name "zip" pz) [ea, eb] [] pp) j.X.env) :: starEach [] j.X.env := by rfl) :
    Ev j Γ C (.Call (.Name "dict" py) [.Call (.Name "zip" pz) [ea, eb] [] pp] [] pos) R :=
  ev_lift (pe_dictZ hgd hmd hgz hmz hu hc pa_wa hst hpl hs1) fun Φ σ F H Q xw S K => by
    refine h Φ σ F H _ xw S fun vs F1 H1 C1 zs ⟨ks, qs, ez, hl, r⟩ S1 s1 o1 => ?_
    subst ez
    obtain ⟨va, vb, ev, oa, ob⟩ := all2 o1
    subst ev
    obtain ⟨al, us, e1, h1, ho⟩ := oa
    obtain ⟨bl, ws, e2, ht, hw⟩ := ob
    -- the addresses of the keys
    have adr : ∀ {ks : List (List Key)} {us : List V}, AllOn (ks.map rKt) F1 us → ∃ as : List (Addr × List Key), as.map Prod.snd = ks ∧ us = (as.map fun p => V.ref p.1) ∧ ∀ p ∈ as, F1 p.1 = some (.tup (p.2.map kV)) := fun {ks} => by
      induction ks with
      | nil => intro us z; cases z; exact ⟨[], rfl, rfl, fun p hp => by simp at hp⟩
      | cons k ks ih =>
        intro us z
        rw [List.map_cons] at z
        cases z with
        | cons a b =>
          obtain ⟨as, g1, g2, g3⟩ := ih b
          obtain ⟨c, ec, hc⟩ := a
          refine ⟨(c, k) :: as, by rw [List.map_cons, g1], by rw [ec, g2, List.map_cons], fun p hp => ?_⟩
          rcases List.mem_cons.mp hp with e | hp
          · rw [e]; exact hc
          · exact g3 p hp
    obtain ⟨as, g1, g2, g3⟩ := adr ho
    have la : as.length = ks.length := by rw [← g1, List.length_map]
    refine ⟨al, bl, as, ws, by rw [e1, e2], by rw [← g2]; exact .inl (S1.sub _ _ h1), fun p hp => S1.tupx (g3 p hp), S1.seqT ht, by rw [la, hl]; exact hw.length, fun p hp => ?_⟩
    rw [g1]
    obtain ⟨S2, s2⟩ := S1.newF (o := .dT (pGs [] (ks.zip ws))) hp ⟨fun _ z => (nomatch z), fun _ _ z => (nomatch z)⟩
    refine K _ _ _ _ _ r S2 (s1.trans s2) ⟨p, _, rfl, upd_same, ?_⟩
    have kz : ∀ {ks : List (List Key)} {qs : List Pr} {ws : List V}, AllOn qs F1 ws → KgOn (ks.zip qs) F1 (ks.zip ws) := fun {ks} => by
      induction ks with
      | nil => intro qs ws _; exact .nil
      | cons k ks ih =>
        intro qs ws z
        cases z with
        | nil => exact .nil
        | cons a b => exact .cons ⟨rfl, a⟩ (ih b)
    exact (KgOn.puts (kz hw) .nil).mono s2
end
end Z

end
section
set_option Elab.async false
set_option linter.all false
set_option maxRecDepth 100000
/-! Z33: t + u, t[a:b], t[::-1], xs[::-1]; data that are key tuples; a comprehension over a tuple. -/
namespace Z
open PySem PySem.Spec PyProof.Rows L2
open PySem.W (Datum Tup)
open Rep (pr)
section
variable {prog : Program} {w : World} {A : Around} {E : Value → Shared → Prop} {s : Shared}
theorem back_places (n : Nat) : Builtin.Slice.sliceAdjust none none (-1) (n : Int) = ((n : Int) - 1, -1) := rfl
theorem back_many (n : Nat) : Builtin.Slice.slicePlaces ((n : Int) - 1) (-1) (-1) = n := by
  unfold Builtin.Slice.slicePlaces
  rw [if_neg (by decide)]
  by_cases h : n = 0
  · subst h
    rfl
  · rw [if_pos (by omega), show (- -1 : Int) = 1 by decide, Int.ediv_one]
    omega
theorem back_pick (xs : Array Value) : ((List.range xs.size).filterMap fun (k : Nat) => xs[(((xs.size : Int) - 1) + (k : Int) * (-1)).toNat]?).toArray = xs.toList.reverse.toArray := by
  congr 1
  have h : ∀ (l : List Nat), (∀ k ∈ l, k < xs.size) → (l.filterMap fun (k : Nat) => xs[(((xs.size : Int) - 1) + (k : Int) * (-1)).toNat]?) = (l.map fun k => xs.size - 1 - k).filterMap (xs[·]?) := by
    intro l
    induction l with
    | nil => intro _; rfl
    | cons k l ih =>
      intro hl
      have hk := hl k (by simp)
      have e : (((xs.size : Int) - 1) + (k : Int) * (-1)).toNat = xs.size - 1 - k := by omega
      rw [List.filterMap_cons, List.map_cons, List.filterMap_cons, e, ih fun m hm => hl m (by simp [hm])]
  rw [h _ fun k hk => List.mem_range.mp hk, PySem.W.krv_range, List.filterMap_reverse, PySem.W.krv_all]
theorem tuple_back {t sl : Addr} {items : Array Value} {vs : Value} {Q : Value → Shared → Prop} (ht : IsTup s.heap t items) (hs : s.heap.IsSliceOf sl .none .none vs) (ps : IsPart vs (some (-1)))
    (h : Q (.ref s.heap.objs.size) { s with heap := s.heap.push { cls := .type "tuple", data := .seq items.toList.reverse.toArray } }) (hsz : items.size ≤ sizeLine) : wpAny (model prog w) A (getItem (.ref t) (.ref sl)) Q E s := by
  have room : sizeOk (.seq items.toList.reverse.toArray) := by
    show items.toList.reverse.toArray.size ≤ sizeLine
    rw [List.size_toArray, List.length_reverse, Array.length_toList]
    exact hsz
  obtain ⟨os, hos, hcs, hds⟩ := id hs
  have ty : s.TypeIs (.ref sl) "slice" := ⟨os, hos, hcs⟩
  unfold getItem
  try with_reducible refine wpAny_holding ?_
  first | refine wpAny_bind (wpAny_pure ?_) | skip
  refine wpAny_bind (wpAny_sequenceKey ht.typeIs (by decide) ?_)
  refine wpAny_bind (wpAny_callSpecial?_slot (name := Str.ofString "__getitem__") ht.typeIs PyProof.Rows.slot_tuple_getitem (wpAny_call_entry PyProof.Rows.slot_tuple_getitem ht.typeIs entry_tuple_getitem ?_ (args_tuple_getitem _ _)))
  show wpAny _ _ (Builtin.Tuple.tupleItemsOf (.ref t) >>= _) _ _ s
  refine wpAny_bind (tupleItemsOf_ ht (wpAny_bind (wpAny_typeOf ty ?_)))
  rw [if_pos (by decide)]
  refine wpAny_bind ?_
  unfold Builtin.Slice.sliceApplied Builtin.Slice.sliceFields
  refine wpAny_bind (wpAny_bind (wpAny_field hos hds (x := .none) rfl (wpAny_bind (wpAny_field hos hds (x := .none) rfl (wpAny_bind (wpAny_field hos hds (x := vs) rfl (wpAny_pure ?_)))))))
  refine wpAny_bind (HT.slicePart_ ps ?_)
  show wpAny _ _ (if ((-1 : Int) == 0) = true then _ else _) _ _ s
  rw [if_neg (by decide)]
  refine wpAny_bind (HT.slicePart_ .none (wpAny_bind (HT.slicePart_ .none (wpAny_bind (wpAny_pure ?_)))))
  show wpAny _ _ (match Builtin.Slice.sliceAdjust none none (-1) (items.size : Int) with | (lo, hi) => pure (lo, (-1 : Int), Builtin.Slice.slicePlaces lo hi (-1))) _ _ s
  rw [back_places]
  show wpAny _ _ (pure ((items.size : Int) - 1, (-1 : Int), Builtin.Slice.slicePlaces ((items.size : Int) - 1) (-1) (-1))) _ _ s
  rw [back_many]
  refine wpAny_pure ?_
  show wpAny _ _ (if (((items.size : Int) - 1) == 0 && (-1 : Int) == 1 && items.size == items.size) = true then _ else _) _ _ s
  rw [if_neg (by simp), back_pick]
  first
    | exact wpAny_bind (m := Builtin.Tuple.tupleExact _) (wpAny_newObj_type (wpAny_pure ⟨_, rfl, wpAny_pure h⟩) room)
    | exact wpAny_bind (m := Builtin.Tuple.tupleExact _) (wpAny_newObj_type (wpAny_bind (wpAny_pure (wpAny_pure ⟨_, rfl, wpAny_pure h⟩))) room)
    | exact wpAny_bind (wpAny_bind (m := Builtin.Tuple.tupleExact _) (wpAny_newObj_type (wpAny_pure (wpAny_pure ⟨_, rfl, wpAny_pure h⟩)) room))
    | exact wpAny_bind (wpAny_bind (m := Builtin.Tuple.tupleExact _) (wpAny_newObj_type (wpAny_pure ⟨_, rfl, wpAny_pure h⟩) room))
end
end Z

end
section
set_option Elab.async false
set_option linter.all false
set_option maxRecDepth 100000
/-! Z34: t + u, t[a:b], t[::-1], xs[::-1] by words; list comprehensions with any target, over a list or a tuple. -/
namespace Z
open PySem PySem.Spec PyProof.Rows L2
open PySem.W (Datum Tup)
open Rep (pr)
section
variable {X : L2.Cx}
def tRevT (K : PySem.W.Frag) (te : TE) : TE := fun σ H Q => te σ H fun x H1 => ∃ a xs, x = .ref a ∧ SqT K H1 a xs ∧ ∀ p, H1 p = none → Q (.ref p) (upd H1 p (.tup xs.reverse))
theorem pe_revT {e : Expr} {te : TE} {k : Nat} {p1 p2 p3 pos : Pos} (he : PE X e te) : PE X (.Subscript e (.Slice none none (some (.UnaryOp .USub (.Constant (.int 1) k p1) p2)) p3) pos) (tRevT X.K te) := by
  refine ⟨fun pins s σ H Q I h => Subscript_ (thn (he.run pins s σ H _ I h) fun v s1 ⟨x, H1, I1, r1, a, xs, ex, hx, q⟩ => ?_)⟩
  subst ex
  cases r1
  have hst : PO X (some (.UnaryOp .USub (.Constant (.int 1) k p1) p2)) (tPart (tUn (rU fun i => .int (-i)) (tC (.int 1)))) := po_some (pe_un un_neg pe_int)
  refine wpAny_Slice (thn (po_none.run pins s1 σ H1 (fun o H2 => o = none ∧ H2 = H1) I1 ⟨rfl, rfl⟩) fun vl s2 ⟨l, H2, I2, pl, el, e2⟩ => ?_)
  subst el e2
  refine thn (po_none.run pins s2 σ H2 (fun o H3 => o = none ∧ H3 = H2) I2 ⟨rfl, rfl⟩) fun vu s3 ⟨u, H3, I3, pu, eu, e3⟩ => ?_
  subst eu e3
  refine thn (hst.run pins s3 σ H3 (fun o H4 => o = some (-1) ∧ H4 = H3) I3 ⟨1, rfl, -1, rfl, rfl, rfl⟩) fun vs s4 ⟨o, H4, I4, ps, eo, e4⟩ => ?_
  subst eo e4
  have I5 : Inv X pins σ H4 { s4 with heap := s4.heap.push { cls := .type "slice", data := .fields #[vl, vu, vs] } } := I4.kept (t' := s4.toks) fun b ob q => Heap.get?_push_of_some _ q
  obtain ⟨its, r, ht, hz⟩ := I5.tuple hx
  have hlen := r.length
  cases pl
  cases pu
  show wpAny (model X.prog X.w) X.A (subscriptTail e (.Slice none none (some (.UnaryOp .USub (.Constant (.int 1) k p1) p2)) p3) (.ref a) (.ref s4.heap.objs.size)) (EP X pins σ Q) X.xe { s4 with heap := s4.heap.push { cls := .type "slice", data := .fields #[.none, .none, vs] } }
  refine tail_any (ops := [.ref a, .ref s4.heap.objs.size]) ht.typeIs PyProof.Rows.slot_tuple_getitem.lookup ?_ (by with_unfolding_all rfl)
  refine tuple_back ht (Heap.IsSliceOf.new _ .none .none vs) ps ?_ (by rw [List.size_toArray]; omega)
  refine ⟨.ref _, _, I5.laid (t' := s4.toks) (o := .tup xs.reverse) (fun b ob q => Heap.get?_push_of_some _ q) (Nat.le_refl _) ?_, rfl, q _ (I5.hok.fresh (Nat.le_refl _))⟩
  exact ⟨by rw [List.length_reverse]; exact hz, _, r.reverse, IsTup.new _ _⟩
end
theorem AllOn.rev {F : Hp} : ∀ {ps : List Pr} {vs : List V}, AllOn ps F vs → AllOn ps.reverse F vs.reverse
  | _, _, .nil => .nil
  | _, _, .cons a b => by rw [List.reverse_cons, List.reverse_cons]; exact (AllOn.rev b).snoc a
section
variable {j : J} {Γ : Gm} {C : List Cell} {R R' : Ps} {p q : Pr} {ps qs : List Pr} {P : Po} {rest : List Stmt} {pos p1 p2 p3 : Pos} {o e : Expr} {k : Nat}
theorem ev_revL (h : Ev j Γ C e fun C1 p => ∃ ps, LstOk j C1 p ps ∧ R C1 (rL ps.reverse)) : Ev j Γ C (.Subscript e (.Slice none none (some (.UnaryOp .USub (.Constant (.int 1) k p1) p2)) p3) pos) R :=
  ev_lift (pe_revL pe_we) fun Φ σ F H Q x S K => h Φ σ F H _ x S fun v F1 H1 C1 p ⟨ps, hl, r⟩ S1 s1 o1 => by
    obtain ⟨a, vs, e1, h1, h2⟩ := hl _ _ _ _ _ _ _ S1 o1
    exact ⟨a, vs, e1, h1, fun l hlz => (K.same s1).newL S1 r h2.rev hlz⟩
theorem ev_revT (h : Ev j Γ C e fun C1 p => ∃ ps, TupOk j p ps ∧ R C1 (rT j.X.K ps.reverse)) : Ev j Γ C (.Subscript e (.Slice none none (some (.UnaryOp .USub (.Constant (.int 1) k p1) p2)) p3) pos) R :=
  ev_lift (pe_revT pe_we) fun Φ σ F H Q x S K => h Φ σ F H _ x S fun v F1 H1 C1 p ⟨ps, hl, r⟩ S1 s1 o1 => by
    obtain ⟨a, vs, e1, h1, h2⟩ := hl _ _ _ _ _ _ _ _ S1 o1
    exact ⟨a, vs, e1, h1, fun l hlz => (K.same s1).newT S1 r h2.rev hlz⟩
/-- t + u, t and u tuples that stay -/
theorem ok_catTu (hz : ps.length + qs.length ≤ sizeLine) (r : R C (rT j.X.K (ps ++ qs))) : OpOk j Γ (rCatA j.X.K) (rT j.X.K ps) (rT j.X.K qs) C R := fun Φ σ F H v w Q x S ⟨a, xs, e1, h1, o1⟩ ⟨b, ys, e2, h2, o2⟩ K => by
  refine ⟨a, b, xs, ys, e1, e2, S.seqT h1, S.seqT h2, by rw [← o1.length, ← o2.length]; exact hz, fun e => ?_, fun _ e => ?_, fun _ _ p hp => K.newT S r (o1.append o2) hp⟩
  · subst e
    cases o1
    exact K.now S r ⟨b, ys, rfl, h2, o2⟩
  · subst e
    cases o2
    rw [List.append_nil] at r
    exact K.now S r ⟨a, xs, rfl, h1, o1⟩
theorem cut_whole {α : Type} {xs : List α} {lo hi : Option Int} (h : HT.sIx xs.length 0 lo = 0 ∧ HT.sIx xs.length xs.length hi = xs.length) : (xs.drop (HT.sIx xs.length 0 lo)).take (HT.sIx xs.length xs.length hi - HT.sIx xs.length 0 lo) = xs := by
  rw [h.1, h.2, List.drop_zero, Nat.sub_zero]
  exact List.take_of_length_le (Nat.le_refl _)
theorem ok_slTu {lo hi : Option Int} (r : R C (rT j.X.K (cutP ps lo hi))) : SlOk j Γ (rSlA j.X.K) (rT j.X.K ps) lo hi C R := fun Φ σ F H v Q x S ⟨a, xs, e1, h1, o1⟩ K => by
  refine ⟨a, xs, e1, S.seqT h1, fun e => ?_, fun _ p hp => K.newT S r (o1.cut lo hi) hp⟩
  have ec : cutP ps lo hi = ps := by
    unfold cutP
    rw [← o1.length] at e
    exact cut_whole e
  rw [ec] at r
  exact K.now S r ⟨a, xs, rfl, h1, o1⟩
/-- data seen as more -/
theorem DatOk.as {α : Type} [DecidableEq α] [Datum α] {a : α} (h : DatOk j C q a) (w : ∀ F v, p.on F v → q.on F v) : DatOk j C p a := fun tb Φ Γ σ F H v S o => h tb Φ Γ σ F H v S (w F v o)
theorem all_as {α : Type} {f g : α → Pr} (w : ∀ x F v, (f x).on F v → (g x).on F v) {F : Hp} : ∀ {xs : List α} {vs : List V}, AllOn (xs.map f) F vs → AllOn (xs.map g) F vs
  | [], _, o => by cases o; exact .nil
  | x :: xs, _, o => by
    rw [List.map_cons] at o
    cases o with
    | cons a b => exact .cons (w x _ _ a) (all_as w b)
theorem rL_as {α : Type} {f g : α → Pr} {xs : List α} (w : ∀ x F v, (f x).on F v → (g x).on F v) : ∀ F v, (rL (xs.map f)).on F v → (rL (xs.map g)).on F v := fun F v ⟨a, vs, e, h, o⟩ => ⟨a, vs, e, h, all_as w o⟩
/-! ### comprehensions with any target -/
def TurnG (j : J) (scope : Scope) (Γ : Gm) (vs : List Nat) (g : TG) (q : Pr) (C : List Cell) (acc : List Pr) (elt : Expr) (ifs : List Expr) (N : List Cell → List Pr → Prop) : Prop :=
  ∃ Γ1, Tgt vs g Γ q Γ1 ∧ ∀ (s : Shared) (H : Hp) (Cc : Addr) (cl : List (Str × Addr)) (fp : List Addr), Eif (j.blk s H scope Cc cl fp) Γ1 C ifs fun C2 b =>
    (b = true → ∀ (s : Shared) (H : Hp) (Cc : Addr) (cl : List (Str × Addr)) (fp : List Addr), Ev (j.blk s H scope Cc cl fp) Γ1 C2 elt fun C3 z => acc.length < sizeLine ∧ N C3 (acc ++ [z])) ∧ (b = false → N C2 acc)
/-- what is walked: a list, a tuple -/
structure SrcG (j : J) (rP : List Pr → Pr) (sq : Hp → Addr → List V → Prop) (it : Addr → It) : Prop where
  wk : ∀ a xs, Walk (it a) xs.length (fun H => sq H a xs) (YAt xs)
  rd : ∀ {tb : Tb} {Φ : Fx} {Γ : Gm} {C : List Cell} {σ : L2.St} {F H : Hp} {v : V} {ps : List Pr}, Sta tb Φ Γ C σ F H → (rP ps).on F v → ∃ a xs, v = .ref a ∧ AllOn ps F xs ∧ ∀ {Γ' : Gm} {C' : List Cell} {σ' : L2.St} {F' H' : Hp}, Sta tb Φ Γ' C' σ' F' H' → L2.Same F F' → sq H' a xs
theorem src_L : SrcG j rL (SqL j.X.K) (Itl j.X.K) := ⟨fun a xs => walk_list, fun S ⟨a, xs, e, h, o⟩ => ⟨a, xs, e, o, fun S' s => .inl (S'.sub _ _ (s _ _ h))⟩⟩
theorem src_T : SrcG j (rT j.X.K) (SqT j.X.K) (Itt j.X.K) := ⟨fun a xs => walk_tup, fun S ⟨a, xs, e, h, o⟩ => ⟨a, xs, e, o, fun S' s => S'.seqT (seqT_mono s h)⟩⟩
def LcG (j : J) (scope : Scope) (Γ : Gm) (C : List Cell) (rP : List Pr → Pr) (vs : List Nat) (g : TG) (iter elt : Expr) (ifs : List Expr) (R : Ps) : Prop :=
  Ev j Γ C iter fun C1 p => ∃ ps, p = rP ps ∧ ∃ I : Nat → List Cell → List Pr → Prop, I 0 C1 [] ∧ (∀ n q Ci acc, ps[n]? = some q → I n Ci acc → TurnG j scope Γ vs g q Ci acc elt ifs fun C' acc' => I (n + 1) C' acc') ∧ ∀ Cn acc, I ps.length Cn acc → R Cn (rL acc)
theorem lc_readG {scope : Scope} {rP : List Pr → Pr} {sq : Hp → Addr → List V → Prop} {it : Addr → It} {vs : List Nat} {g : TG} {iter elt : Expr} {ifs : List Expr} {Φ : Fx} {σ : L2.St} {F H : Hp} {Q : VK} (sr : SrcG j rP sq it) (h : LcG j scope Γ C rP vs g iter elt ifs R) (xw : XW j Φ) (S : Sta j.tb Φ Γ C σ F H) (K : Kv j Φ Γ σ F R Q) :
    tLc (fun σ H R => We j.X iter σ H fun x H1 => ∃ a, x = .ref a ∧ (∃ xs, sq H1 a xs) ∧ R (it a) H1) g (WifB j scope ifs) (WeB j scope elt) vs σ H Q := by
  refine h Φ σ F H _ xw S fun v F1 H1 C1 p ⟨ps, ep, I, i0, turn, fin⟩ S1 s1 o1 => ?_
  subst ep
  obtain ⟨al, ys, ev, hy, still⟩ := sr.rd S1 o1
  refine ⟨al, ev, ⟨ys, still S1 (L2.Same.refl _)⟩, fun D hD => ?_⟩
  have h0 : Φ.H0 D = none := S1.there D hD
  have xb : ∀ s0 H0 Cc cl fp Φ, XW (j.blk s0 H0 scope Cc cl fp) Φ := fun s0 H0 Cc cl fp Φ => xw_none fun _ _ z => z
  have dC : D ∉ C1.map (·.a) := fun z => by
    obtain ⟨c, hc, ec⟩ := List.mem_map.mp z
    obtain ⟨w, q1, _, _⟩ := S1.cells.at_ c hc
    rw [ec, hD] at q1
    cases q1
  have wl := sr.wk al ys
  have hlen : ps.length = ys.length := hy.length
  refine ⟨fun n m H => m = ys.length - n ∧ n ≤ ys.length ∧ ∃ C' acc F' ws, I n C' acc ∧ Sta j.tb Φ (wG Γ vs) C' (wipe σ vs) F' H ∧ L2.Same F1 F' ∧ H D = some (.lst ws) ∧ F' D = none ∧ D ∉ C'.map (·.a) ∧ AllOn acc F' ws,
    ⟨ys.length, by simp, Nat.zero_le _, C1, [], F1, [], i0, (S1.beside hD).envTo (S1.env.wipeL vs), L2.Same.refl _, upd_same, S1.notF hD, dC, .nil⟩, ?_⟩
  rintro n m H2 ⟨rfl, hn, C2, acc, F2, ws, i2, S2, s2, q1, q2, q3, ha⟩
  by_cases hlt : n < ys.length
  · refine .inr ⟨wl.goes n H2 hlt (still S2 s2), fun H' => ∃ C' acc F' ws, I (n + 1) C' acc ∧ Sta j.tb Φ (wG Γ vs) C' (wipe σ vs) F' H' ∧ L2.Same F1 F' ∧ H' D = some (.lst ws) ∧ F' D = none ∧ D ∉ C'.map (·.a) ∧ AllOn acc F' ws, fun H' q => ⟨ys.length - (n + 1), by omega, rfl, hlt, q⟩, fun x H' yl => ?_⟩
    obtain ⟨eH, hyn⟩ := wl.yields n H2 x H' hlt (still S2 s2) yl
    subst eH
    have hp : n < ps.length := by omega
    obtain ⟨y', e1, e2⟩ := hy.get (List.getElem?_eq_getElem hp)
    rw [hyn] at e1
    cases e1
    obtain ⟨Γ1, tgt, tn⟩ := turn n ps[n] C2 acc (List.getElem?_eq_getElem hp) i2
    refine tgt.run _ Φ C2 σ F2 H' x _ S2 (ps[n].mono s2 e2) fun σ1 env1 hw => ⟨hw, ?_⟩
    have S3 := S2.envTo env1
    intro s0 H0 Cc cl fp
    refine tn s0 H0 Cc cl fp (Fx.of F2 H' C2) σ1 F2 H' _ (xb _ _ _ _ _ _) S3.rebase fun b F4 H4 C4 ⟨k1, k2⟩ S4 s4 => ?_
    obtain ⟨d1, d2, d3⟩ := S4.besideKeep q1 (fun _ z => nomatch z) (fun _ z => nomatch z) q2 q3
    have S4' := S3.trans S4
    cases b with
    | false => exact iteF ⟨C4, acc, F4, ws, k2 rfl, S4'.envTo (S2.env.mono s4), s2.trans s4, d1, d2, d3, ha.mono s4⟩
    | true =>
      refine iteT fun s1' H1' Cc1 cl1 fp1 => k1 rfl s1' H1' Cc1 cl1 fp1 (Fx.of F4 H4 C4) σ1 F4 H4 _ (xb _ _ _ _ _ _) S4'.rebase fun y F5 H5 C5 z ⟨hz, n5⟩ S5 s5 o5 => ?_
      obtain ⟨f1, f2, f3⟩ := S5.besideKeep d1 (fun _ z => nomatch z) (fun _ z => nomatch z) d2 d3
      have S5' := S4'.trans S5
      have sF : L2.Same F2 F5 := s4.trans s5
      exact ⟨ws, f1, by rw [← ha.length]; exact hz, C5, _, F5, ws ++ [y], n5, (S5'.besideUpd f1 f2 h0 f3 (fun _ z => nomatch z) (fun _ z => nomatch z)).envTo (S2.env.mono sF), s2.trans sF, upd_same, f2, f3, (ha.mono sF).snoc o5⟩
  · have en : n = ys.length := by omega
    subst en
    rw [← hlen] at i2
    refine .inl ⟨wl.stops H2 (still S2 s2), ?_⟩
    have S3 : Sta j.tb Φ Γ C2 σ F2 H2 := S2.envTo (S1.env.mono s2)
    obtain ⟨S4, s4⟩ := S3.adopt q1 q2 h0 q3 ⟨fun _ z => (nomatch z), fun _ _ z => (nomatch z)⟩
    exact K _ _ _ _ _ (fin C2 acc i2) S4 ((s1.trans s2).trans s4) ⟨D, ws, rfl, upd_same, ha.mono s4⟩
/-- [elt for tg in e if ..], e a frozen list -/
theorem ev_lcGL {scope : Scope} {own : List (Str × Nat)} {g : TG} {tg iter elt : Expr} {ifs : List Expr} (h : LcG j scope Γ C rL (own.map (·.2)) g iter elt ifs R) (hN : j.X.N.Nodup) (ok : BlkOk j.X.N j.X.env.scope scope own) (hc : j.X.calm = true)
    (hg : ∀ (s : Shared) (H : Hp) (Cc : Addr) (cl : List (Str × Addr)) (fp : List Addr), PG (j.X.blk s H scope (compEnvC scope cl Cc j.X.env) fp) tg g) (hs : ∀ x, foldedSetIterable iter j.X.env x = pure x := by intro _; rfl) : Ev j Γ C (.ListComp elt [⟨tg, iter, ifs, 0⟩] scope pos) R :=
  ev_lift (pe_lc hc hN (pi_list pe_we) ok hg pts_wifB pe_weB hs) fun Φ σ F H Q xw S K => lc_readG src_L h xw S K
/-- .. e a tuple -/
theorem ev_lcGT {scope : Scope} {own : List (Str × Nat)} {g : TG} {tg iter elt : Expr} {ifs : List Expr} (h : LcG j scope Γ C (rT j.X.K) (own.map (·.2)) g iter elt ifs R) (hN : j.X.N.Nodup) (ok : BlkOk j.X.N j.X.env.scope scope own) (hc : j.X.calm = true)
    (hg : ∀ (s : Shared) (H : Hp) (Cc : Addr) (cl : List (Str × Addr)) (fp : List Addr), PG (j.X.blk s H scope (compEnvC scope cl Cc j.X.env) fp) tg g) (hs : ∀ x, foldedSetIterable iter j.X.env x = pure x := by intro _; rfl) : Ev j Γ C (.ListComp elt [⟨tg, iter, ifs, 0⟩] scope pos) R :=
  ev_lift (pe_lc hc hN (pi_tup pe_we) ok hg pts_wifB pe_weB hs) fun Φ σ F H Q xw S K => lc_readG src_T h xw S K
end
end Z

end
section
set_option Elab.async false
set_option linter.all false
set_option maxRecDepth 100000
/-! Z35: a op b op c op d, x, y, z = a, b, c. -/
namespace Z
open PySem PySem.Spec PyProof.Rows L2
section
variable {X : L2.Cx} {a b c d : Expr} {pos : Pos} {ta tb tc td : TE} {r1 r2 r3 : R2} {o1 o2 o3 : CmpOp}
def tCh3 (r1 r2 r3 : R2) (ta tb tc td : TE) : TT := fun σ H Q => ta σ H fun x H1 => tb σ H1 fun y H2 => r1 x y H2 fun u H3 => ∃ k : Bool, u = .bl k ∧
  if k = true then tc σ H3 fun z H4 => r2 y z H4 fun u' H5 => ∃ k' : Bool, u' = .bl k' ∧ if k' = true then td σ H5 fun w H6 => r3 z w H6 fun u2 H7 => ∃ k2 : Bool, u2 = .bl k2 ∧ Q k2 H7 else Q false H5
  else Q false H3
theorem pt_ch3 (h1 : OpR X (compareOp o1) r1) (h2 : OpR X (compareOp o2) r2) (h3 : OpR X (compareOp o3) r3) (ha : PE X a ta) (hb : PE X b tb) (hc : PE X c tc) (hd : PE X d td) (hm : lastMarks [o1, o2, o3] [b, c, d] = false) : PT X (.Compare a [o1, o2, o3] [b, c, d] pos) (tCh3 r1 r2 r3 ta tb tc td) := by
  refine ⟨fun pins s σ H Q I h => ?_⟩
  refine isTrue_chain (thn (ha.run pins s σ H _ I h) fun v s1 ⟨x, H1, I1, q1, g1⟩ => test_link (thn (hb.run pins s1 σ H1 _ I1 g1) fun u s2 ⟨y, H2, I2, q2, g2⟩ => thn (h1 pins s2 σ H2 x y v u _ I2 q1 q2 g2) fun e s3 ⟨z, H3, I3, q3, k, ez, g3⟩ => ?_)) hm
  subst ez
  cases q3
  refine wpAny_truthy_bool ?_
  cases k with
  | false => exact ite_ff ⟨H3, I3, g3⟩
  | true =>
    refine ite_tt (test_link (thn (hc.run pins s3 σ H3 _ I3 g3) fun v4 s4 ⟨z, H4, I4, q4, g4⟩ => thn (h2 pins s4 σ H4 y z u v4 _ I4 q2 q4 g4) fun e s5 ⟨z5, H5, I5, q5, k, ez, g5⟩ => ?_))
    subst ez
    cases q5
    refine wpAny_truthy_bool ?_
    cases k with
    | false => exact ite_ff ⟨H5, I5, g5⟩
    | true =>
      refine ite_tt (test_last (thn (hd.run pins s5 σ H5 _ I5 g5) fun v6 s6 ⟨z6, H6, I6, q6, g6⟩ => thn (h3 pins s6 σ H6 z z6 v4 v6 _ I6 q4 q6 g6) fun e s7 ⟨z7, H7, I7, q7, k, ez, g7⟩ => ?_))
      subst ez
      cases q7
      exact wpAny_truthy_bool ⟨H7, I7, g7⟩
end
section
variable {j : J} {Γ : Gm} {C : List Cell} {P : Po} {rest : List Stmt} {pos : Pos} {a b c d : Expr} {r1 r2 r3 : R2} {o1 o2 o3 : CmpOp} {R : List Cell → Bool → Prop}
theorem et_ch3 (h1 : OpR j.X (compareOp o1) r1) (h2 : OpR j.X (compareOp o2) r2) (h3 : OpR j.X (compareOp o3) r3) (hm : lastMarks [o1, o2, o3] [b, c, d] = false)
    (k : Ev j Γ C a fun C1 p => Ev j Γ C1 b fun C2 q => OpOk j Γ r1 p q C2 fun C3 z => ∃ x, z = isB x ∧ (x = true → Ev j Γ C3 c fun C4 q2 => OpOk j Γ r2 q q2 C4 fun C5 z' => ∃ y, z' = isB y ∧ (y = true → Ev j Γ C5 d fun C6 q3 => OpOk j Γ r3 q2 q3 C6 fun C7 z2 => ∃ t, z2 = isB t ∧ R C7 t) ∧ (y = false → R C5 false)) ∧ (x = false → R C3 false)) :
    Et j Γ C (.Compare a [o1, o2, o3] [b, c, d] pos) R :=
  et_lift (pt_ch3 h1 h2 h3 pe_we pe_we pe_we pe_we hm) fun Φ σ F H Q x S K => by
    refine k Φ σ F H _ x S fun v1 F1 H1 C1 p1 g1 S1 s1 w1 => g1 Φ σ F1 H1 _ x S1 fun v2 F2 H2 C2 p2 g2 S2 s2 w2 => g2 Φ σ F2 H2 v1 v2 _ x S2 (p1.mono s2 w1) w2 fun v3 F3 H3 C3 p3 ⟨k1, e3, t3, f3⟩ S3 s3 w3 => ?_
    subst e3
    have s13 := (s1.trans s2).trans s3
    refine ⟨k1, w3, ?_⟩
    cases k1 with
    | false => exact iteF (K _ _ _ _ (f3 rfl) S3 s13)
    | true =>
      refine iteT (t3 rfl Φ σ F3 H3 _ x S3 fun v4 F4 H4 C4 p4 g4 S4 s4 w4 => g4 Φ σ F4 H4 v2 v4 _ x S4 (p2.mono (s3.trans s4) w2) w4 fun v5 F5 H5 C5 p5 ⟨k2, e5, t5, f5⟩ S5 s5 w5 => ?_)
      subst e5
      have s15 := (s13.trans s4).trans s5
      refine ⟨k2, w5, ?_⟩
      cases k2 with
      | false => exact iteF (K _ _ _ _ (f5 rfl) S5 s15)
      | true =>
        refine iteT (t5 rfl Φ σ F5 H5 _ x S5 fun v6 F6 H6 C6 p6 g6 S6 s6 w6 => g6 Φ σ F6 H6 v4 v6 _ x S6 (p4.mono (s5.trans s6) w4) w6 fun v7 F7 H7 C7 p7 ⟨k3, e7, r7⟩ S7 s7 w7 => ?_)
        subst e7
        exact ⟨k3, w7, K _ _ _ _ r7 S7 ((s15.trans s6).trans s7)⟩
theorem all3 {F : Hp} {p q r : Pr} {vs : List V} (h : AllOn [p, q, r] F vs) : ∃ u v w, vs = [u, v, w] ∧ p.on F u ∧ q.on F v ∧ r.on F w := by
  cases h with
  | cons a h =>
    obtain ⟨v, w, e, b, c⟩ := all2 h
    subst e
    exact ⟨_, _, _, rfl, a, b, c⟩
/-- x, y, z = a, b, c: plain names -/
theorem tr_par3 (i k l : Nat) {x y z : Str} {px py pz pt pt2 : Pos} {kt k2 : Nat} (h : Ea j Γ C [a, b, c] fun C1 qs => ∃ p q r, qs = [p, q, r] ∧ Tr j (((Γ.set i (some p)).set k (some q)).set l (some r)) C1 rest P) (hc : j.X.calm = true) (hN : j.X.N.Nodup) (hik : i ≠ k) (hil : i ≠ l) (hkl : k ≠ l)
    (hw : swappedStores [.Tuple [.Name x px, .Name y py, .Name z pz] kt pt] (.Tuple [a, b, c] k2 pt2) j.X.env = pure (some [x, y, z]) := by rfl) (hi : j.X.N[i]? = some x := by rfl) (hk : j.X.N[k]? = some y := by rfl) (hl : j.X.N[l]? = some z := by rfl)
    (hx : j.X.env.scope.names.lookup x = some .local := by rfl) (hy : j.X.env.scope.names.lookup y = some .local := by rfl) (hz : j.X.env.scope.names.lookup z = some .local := by rfl) (hs : swapsWithSole [.Tuple [.Name x px, .Name y py, .Name z pz] kt pt] (.Tuple [a, b, c] k2 pt2) pos.line j.X.env = pure false := by rfl) :
    Tr j Γ C (.Assign [.Tuple [.Name x px, .Name y py, .Name z pz] kt pt] (.Tuple [a, b, c] k2 pt2) pos :: rest) P :=
  tr_lift (ps_par3 hc hN hi hk hl hik hil hkl hx hy hz pa_wa hw hs) fun Φ σ F H xw S => h Φ σ F H _ xw S fun vs F1 H1 C1 qs ⟨p, q, r, eq, t⟩ S1 s1 o1 => by
    subst eq
    obtain ⟨u, v, w, ev, w1, w2, w3⟩ := all3 o1
    exact ⟨u, v, w, ev, t Φ _ F1 H1 xw (((S1.setv i w1).setv k w2).setv l w3)⟩
end
end Z

end
section
set_option Elab.async false
set_option linter.all false
set_option maxRecDepth 100000
/-! Z36: cells that are needed no more are left out. -/
namespace Z
open PySem PySem.Spec PyProof.Rows L2
theorem Sta.less {tb : Tb} {Φ : Fx} {Γ : Gm} {C C' : List Cell} {σ : L2.St} {F H : Hp} (S : Sta tb Φ Γ C σ F H) (h : C'.Sublist C) : Sta tb Φ Γ C' σ F H :=
  ⟨S.env, ⟨fun c hc => S.cells.at_ c (h.subset hc), (h.map _).nodup S.cells.nd⟩, S.subx, S.fine, S.tab, S.base, S.fresh, S.keep, fun c hc => S.own c (h.subset hc), S.there⟩
section
variable {j : J} {Γ : Gm} {C C' : List Cell} {P : Po} {sts : List Stmt} {R : Ps} {e : Expr}
theorem tr_less (h : C'.Sublist C) (t : Tr j Γ C' sts P) : Tr j Γ C sts P := fun Φ σ F H x S => t Φ σ F H x (S.less h)
theorem ev_less (h : C'.Sublist C) (t : Ev j Γ C' e R) : Ev j Γ C e R := fun Φ σ F H Q x S K => t Φ σ F H Q x (S.less h) K
/-- .. behind the value -/
theorem ev_lessR (h : Ev j Γ C e fun C1 p => ∃ C2, C2.Sublist C1 ∧ R C2 p) : Ev j Γ C e R := fun Φ σ F H Q x S K => h Φ σ F H Q x S fun v F' H' C' p ⟨C2, hs, r⟩ S' s' o' => K v F' H' C2 p r (S'.less hs) s' o'
end
end Z

end
section
set_option Elab.async false
set_option linter.all false
set_option maxRecDepth 100000
/-! Z37: calls that leave the cells as they were: the order stays. -/
namespace Z
open PySem PySem.Spec PyProof.Rows L2 LamX NdefX
theorem ev_permB {j : J} {Γ : Gm} {C C' : List Cell} {R : Ps} {e : Expr} (h : C'.Perm C) (t : Ev j Γ C e R) : Ev j Γ C' e R := fun Φ σ F H Q x S K => t Φ σ F H Q x (S.perm h) K
/-- .. behind the value -/
theorem ev_permR {j : J} {Γ : Gm} {C : List Cell} {R : Ps} {e : Expr} (h : Ev j Γ C e fun C1 p => ∃ C2, C1.Perm C2 ∧ R C2 p) : Ev j Γ C e R := fun Φ σ F H Q x S K => h Φ σ F H Q x S fun v F' H' C' p ⟨C2, hs, r⟩ S' s' o' => K v F' H' C2 p r (S'.perm hs) s' o'
section
variable {ω : Type} {p : Prom ω} {j : J} {Γ : Gm} {C : List Cell} {R : Ps} {pos ppos apos : Pos} {e ob : Expr} {es : List Expr} {x : Str} {k : Nat} {f : Addr} {fd : FuncData} {ps : List Str} {is : List (Nat × Str)}
/-- what is asked of a call that changes no cell, and raises nothing here -/
def Calm (p : Prom ω) (o : ω) (C1 : List Cell) (R : Ps) : Prop := (∀ C' ρ, p.R o C' ρ → C' = p.C o ∧ R C1 ρ) ∧ ∀ cls C', ¬ p.XP o cls C'
theorem ev_callS (Fn : FnOk j.X.prog j.X.w j.X.K j.X.mg j.X.base (L2.CX j.X.prog j.X.w) k f fd ps (p.sp j.tb)) (hr : Room k j.X.A) (hm : j.X.mg x = some (.ref f)) (hk : PySem.W.keepIn j.X.K (.ref f) = true) (hb : Binds j.X.K fd ps [])
    (h : Ea j Γ C (e :: es) fun C1 qs => ∃ o Cr, p.pre o ∧ qs = p.ps o ∧ C1.Perm (p.C o ++ Cr) ∧ Calm p o C1 R)
    (hg : Gl j.X x := by rfl) (hdb : (x == ("__debug__" : Str)) = false := by decide) (he : starEach (e :: es) j.X.env = (false, eval e j.X.env) :: starEach es j.X.env := by rfl) (hpl : (backTo pos (starEach es j.X.env)).any (·.1) = false := by rfl) :
    Ev j Γ C (.Call (.Name x ppos) (e :: es) [] pos) R :=
  ev_permR (ev_call Fn hr hm hk hb (fun Φ σ F H Q xw S K => h Φ σ F H Q xw S fun vs F' H' C1 qs ⟨o, Cr, h1, h2, h3, h4, h5⟩ S' s' o' => K vs F' H' C1 qs ⟨o, Cr, h1, h2, h3, fun C' ρ r => by
    obtain ⟨e1, e2⟩ := h4 C' ρ r
    subst e1
    exact ⟨C1, h3.symm, e2⟩, fun cls C' r => (h5 cls C' r).elim⟩ S' s' o') hg hdb he hpl)
theorem ev_methS {Cl : Addr} {m : Str} (Fn : FnOk j.X.prog j.X.w j.X.K j.X.mg j.X.base (L2.CX j.X.prog j.X.w) k f fd ps (p.sp j.tb)) (hr : Room k j.X.A) (cl : Cls j.X.K Cl) (hm : Meth j.X.K Cl m f) (hb : Binds j.X.K fd ps [])
    (h : Ev j Γ C ob fun C0 q0 => InsOk j C0 q0 Cl m ∧ Ea j Γ C0 (e :: es) fun C1 qs => ∃ o Cr, p.pre o ∧ q0 :: qs = p.ps o ∧ C1.Perm (p.C o ++ Cr) ∧ Calm p o C1 R) {pl : Sem Bool}
    (hst : starEach (e :: es) j.X.env = (false, eval e j.X.env) :: starEach es j.X.env := by rfl) (hpl : (backTo pos (starEach es j.X.env)).any (·.1) = false := by rfl)
    (ht : eval (.Call (.Attribute ob m apos) (e :: es) [] pos) j.X.env = (do
      let ov ← eval ob j.X.env
      standAt apos.atName
      let (f, first) ← holding [ov] (getMethod ov m pl)
      callWith pos f first (backTo pos (starEach (e :: es) j.X.env)) (backToKw pos (keywordEach [] j.X.env))) := by rfl) :
    Ev j Γ C (.Call (.Attribute ob m apos) (e :: es) [] pos) R :=
  ev_permR (ev_meth Fn hr cl hm hb (h.imp fun C0 q0 ⟨io, ha⟩ => ⟨io, fun Φ σ F H Q xw S K => ha Φ σ F H Q xw S fun vs F' H' C1 qs ⟨o, Cr, h1, h2, h3, h4, h5⟩ S' s' o' => K vs F' H' C1 qs ⟨o, Cr, h1, h2, h3, fun C' ρ r => by
    obtain ⟨e1, e2⟩ := h4 C' ρ r
    subst e1
    exact ⟨C1, h3.symm, e2⟩, fun cls C' r => (h5 cls C' r).elim⟩ S' s' o'⟩) (pl := pl) hst hpl ht)
/-- f(lambda ..): captured names shown meanwhile -/
theorem ev_callXS (is : List (Nat × Str)) (Fn : FnOk j.X.prog j.X.w j.X.K j.X.mg j.X.base (L2.CX j.X.prog j.X.w) k f fd ps (p.sp j.tb)) (hr : Room k j.X.A) (hm : j.X.mg x = some (.ref f)) (hk : PySem.W.keepIn j.X.K (.ref f) = true) (hb : Binds j.X.K fd ps []) (O : Owns j.X is)
    (h : Ea j Γ C (e :: es) fun C1 qs => ∃ o Cr cs, Paired (CapR j.X Γ) is cs ∧ p.pre o ∧ qs = p.ps o ∧ (capsC cs ++ C1).Perm (p.C o ++ Cr) ∧ Calm p o C1 R)
    (hg : Gl j.X x := by rfl) (hdb : (x == ("__debug__" : Str)) = false := by decide) (he : starEach (e :: es) j.X.env = (false, eval e j.X.env) :: starEach es j.X.env := by rfl) (hpl : (backTo pos (starEach es j.X.env)).any (·.1) = false := by rfl) :
    Ev j Γ C (.Call (.Name x ppos) (e :: es) [] pos) R :=
  ev_callX is Fn hr hm hk hb O (fun Φ σ F H Q xw S K => h Φ σ F H Q xw S fun vs F' H' C1 qs ⟨o, Cr, cs, hcs, h1, h2, h3, h4, h5⟩ S' s' o' => K vs F' H' C1 qs ⟨o, Cr, cs, hcs, h1, h2, h3, fun C' ρ r => by
    obtain ⟨e1, e2⟩ := h4 C' ρ r
    subst e1
    exact ⟨C1, h3.symm, e2⟩, fun cls C' r => (h5 cls C' r).elim⟩ S' s' o') hg hdb he hpl
end
/-- the addresses of captured names -/
def freeOf (names : List (Str × NameKind)) : List Str := (names.filter fun p => p.2 == .free).map Prod.fst
theorem clo_from (cells : List (Str × Addr)) : ∀ (names : List (Str × NameKind)) (acc : List (Str × Addr)), cloFrom cells names acc = ((freeOf names).map fun n => (n, (cells.lookup n).getD 0)).reverse ++ acc
  | [], acc => rfl
  | (n, k) :: r, acc => by
    show (if k == .free then cloFrom cells r ((n, (cells.lookup n).getD 0) :: acc) else cloFrom cells r acc) = _
    unfold freeOf
    rw [List.filter_cons]
    by_cases h : (k == NameKind.free) = true
    · rw [if_pos h, if_pos h, clo_from cells r, List.map_cons, List.map_cons, List.reverse_cons, List.append_assoc]
      rfl
    · rw [if_neg h, if_neg h, clo_from cells r]
      rfl
theorem look_map (g : Str → Addr) : ∀ (ns : List Str) (y : Str), (ns.map fun n => (n, g n)).lookup y = if y ∈ ns then some (g y) else none
  | [], y => rfl
  | n :: ns, y => by
    rw [List.map_cons, List.lookup_cons]
    by_cases h : y = n
    · subst h
      simp
    · rw [show (y == n) = false from beq_eq_false_iff_ne.mpr h, look_map g ns y]
      by_cases hm : y ∈ ns
      · rw [if_pos hm]
        simp [hm]
      · rw [if_neg hm, if_neg (by simp [h, hm])]
/-- captured names fr, whatever their order in the text -/
theorem clo_of {X : L2.Cx} {scope : Scope} {ns fr : List Str} (hs : freeOf scope.names = ns) (hp : ∀ y, y ∈ ns ↔ y ∈ fr) (nd : (fr.map (cellAt X)).Nodup) : CloAt (cloFrom X.env.cells scope.names []) fr (fr.map (cellAt X)) := by
  have ec : cloFrom X.env.cells scope.names [] = ns.reverse.map fun n => (n, cellAt X n) := by
    rw [clo_from, hs, List.append_nil, ← List.map_reverse]
    rfl
  rw [ec]
  have lk : ∀ y, (ns.reverse.map fun n => (n, cellAt X n)).lookup y = if y ∈ fr then some (cellAt X y) else none := fun y => by
    rw [look_map (cellAt X)]
    by_cases h : y ∈ fr
    · rw [if_pos h, if_pos (List.mem_reverse.mpr ((hp y).mpr h))]
    · rw [if_neg h, if_neg fun z => h ((hp y).mp (List.mem_reverse.mp z))]
  refine ⟨by rw [List.length_map], nd, fun i y e => ⟨cellAt X y, by rw [List.getElem?_map, e]; rfl, by rw [lk, if_pos (List.mem_of_getElem? e)]⟩, fun y c e => ?_⟩
  rw [lk] at e
  by_cases h : y ∈ fr
  · rw [if_pos h] at e
    cases e
    obtain ⟨i, hi, ei⟩ := List.getElem_of_mem h
    exact ⟨i, by rw [List.getElem?_eq_getElem hi, ei], by rw [List.getElem?_map, List.getElem?_eq_getElem hi, ei]; rfl⟩
  · rw [if_neg h] at e
    cases e
theorem nd_off {N : Nat} {off : List Nat} (h : off.Nodup) : (off.map fun k => N + k).Nodup := List.Pairwise.map _ (fun a b ne e => ne (Nat.add_left_cancel e)) h
end Z

end
section
set_option Elab.async false
set_option linter.all false
set_option maxRecDepth 100000
/-! Z38: list(xs) as a new cell; for over a cell's list. -/
namespace Z
open PySem PySem.Spec PyProof.Rows L2
section
variable {j : J} {Γ : Gm} {C : List Cell} {R : Ps} {p : Pr} {ps : List Pr} {P : Po} {rest body : List Stmt} {pos : Pos} {e : Expr}
theorem ok_listLC (h : LstOk j C p ps) (r : ∀ m, R (cL m ps :: C) (isR m)) : CallOk j Γ (fun xs H Q => ∃ p ys, xs = [.ref p] ∧ (SqL j.X.K H p ys ∨ SqT j.X.K H p ys) ∧ ∀ l, H l = none → Q (.ref l) (upd H l (.lst ys))) [p] C R := fun Φ σ F H vs Q x S o K => by
  obtain ⟨v, e, o⟩ := all1 o
  obtain ⟨a, ys, ev, h1, h2⟩ := h _ _ _ _ _ _ _ S o
  exact ⟨a, ys, by rw [e, ev], .inl h1, fun l hl => K.newCL S (r l) h2 hl⟩
/-- for over the list of a cell that the body leaves as it is -/
theorem tr_forLc {tg : Expr} (m : Addr) (I : Nat → Gm → List Cell → Prop) (N : Gm → List Cell → Prop)
    (k : Ev j Γ C e fun C1 p => p = isR m ∧ I 0 Γ C1 ∧ (∀ i Γ' C', I i Γ' C' → cL m ps ∈ C') ∧
      (∀ i q Γ' C', ps[i]? = some q → I i Γ' C' → Eg j Γ' C' tg q fun Γ2 C2 => Tr j Γ2 C2 body { nx := I (i + 1), ct := I (i + 1), bk := N, rt := P.rt }) ∧ (∀ Γ' C', I ps.length Γ' C' → N Γ' C'))
    (kr : ∀ Γ' C', N Γ' C' → Tr j Γ' C' rest P) (hp : PassesOwn (model j.X.prog j.X.w) j.X.A j.X.env j.X.xe) (hc : j.X.calm = true) (hs : ∀ x, foldedSetIterable e j.X.env x = pure x := by intro _; rfl) : Tr j Γ C (.For tg e body [] pos :: rest) P :=
  tr_lift (ps_for hp hc (pi_list pe_we) pg_wg pss_wb hs) fun Φ σ F H x S => k Φ σ F H _ x S fun v F1 H1 C1 p ⟨ep, i0, hm, hs, hd⟩ S1 s1 o1 => by
    subst ep
    have ev : v = .ref m := o1
    subst ev
    obtain ⟨w0, h1, ho⟩ := S1.lst (hm 0 _ _ i0)
    have hlen : ps.length = w0.length := ho.length
    -- the items stay, though the list is read anew at each turn
    refine ⟨m, rfl, ⟨w0, SqL.of h1⟩, ?_⟩
    refine ⟨fun i k σ H => k = ps.length - i ∧ i ≤ ps.length ∧ ∃ Γ C F, I i Γ C ∧ Sta j.tb Φ Γ C σ F H, ⟨ps.length, by simp, Nat.zero_le _, Γ, C1, F1, i0, S1⟩, ?_⟩
    rintro i k σ2 H2 ⟨rfl, hi, Γ2, C2, F2, i2, S2⟩
    obtain ⟨ws, h2, ho2⟩ := S2.lst (hm i _ _ i2)
    have hl2 : ps.length = ws.length := ho2.length
    have wl := walk_list (K := j.X.K) (a := m) (xs := ws)
    by_cases hlt : i < ps.length
    · refine .inr ⟨wl.goes i H2 (by omega) (SqL.of h2), fun σ' H' => ∃ Γ C F, I (i + 1) Γ C ∧ Sta j.tb Φ Γ C σ' F H', fun σ' H' q => ⟨ps.length - (i + 1), by omega, rfl, hlt, q⟩, fun y H' yl => ?_⟩
      obtain ⟨eH, hy⟩ := wl.yields i H2 y H' (by omega) (SqL.of h2) yl
      subst eH
      obtain ⟨y', e1, e2⟩ := ho2.get (List.getElem?_eq_getElem hlt)
      rw [hy] at e1
      cases e1
      refine hs i ps[i] Γ2 C2 (List.getElem?_eq_getElem hlt) i2 Φ σ2 F2 H' y _ x S2 e2 fun Γ3 C3 σ3 F3 H3 t3 S3 s3 => ?_
      exact Wb.mono (t3 Φ σ3 F3 H3 x S3) (fun σ4 H4 h => h) (fun v4 H4 h => h) (fun σ4 H4 ⟨Γ4, C4, F4, n4, S4⟩ => kr Γ4 C4 n4 Φ σ4 F4 H4 x S4) fun σ4 H4 h => h
    · have en : i = ps.length := by omega
      subst en
      refine .inl ⟨?_, kr Γ2 C2 (hd Γ2 C2 i2) Φ σ2 F2 H2 x S2⟩
      rw [hl2]
      exact wl.stops H2 (SqL.of h2)
end
end Z

end
section
set_option Elab.async false
set_option linter.all false
set_option maxRecDepth 100000
set_option maxHeartbeats 1000000
/-! Z39: what is walked, in general (frozen lists, cells' lists, locked dicts' keys and values): list comprehensions and generator expressions over it; a dict locked while an expression runs. -/
namespace Z
open PySem PySem.Spec PyProof.Rows L2
open PySem.W (Datum Tup)
open Rep (pr)
section
variable {j : J} {Γ : Gm} {C : List Cell} {R : Ps} {p : Pr} {ps : List Pr} {e : Expr}
/-- an expression whose value is found while the dict of a cell is locked -/
theorem ev_lockD (c : Nat) {d : Addr} {kps : List (Key × Pr)} (hc : C[c]? = some (cK d kps))
    (h : ∀ od kvs, kps.map Prod.fst = kvs.map Prod.fst → Ev (jq j) Γ (C.set c (cZ d od kvs kps)) e fun C' ρ => ∃ i, C'[i]? = some (cZ d od kvs kps) ∧ R (C'.set i (cK d kps)) ρ) : Ev j Γ C e R :=
  ev_lift (pe_lock pe_we) fun Φ σ F H Q x S K => by
    obtain ⟨kvs, h1, h2, h3⟩ := S.lockD hc
    have xq : XW (jq j) Φ := xw_none fun _ _ z => z
    refine ⟨d, .dK kvs, h1, True.intro, fun od => ?_⟩
    refine h od kvs h2.keys Φ σ F _ _ xq (h3 od) fun v F' H' C' ρ ⟨i, z, r⟩ S' s' o => ?_
    obtain ⟨u, q1, ⟨q2, q3⟩, _⟩ := S'.cells.at_ _ (List.mem_of_getElem? z)
    subst q2
    exact ⟨q1, K _ _ _ _ _ r (S'.puti (c := cZ d od kvs kps) (c' := cK d kps) z rfl q1 (fun _ z => nomatch z) ⟨kvs, rfl, q3⟩) s' o⟩
/-- a source of items: ps, as long as Kp holds of the cells -/
def SrcAt (j : J) (F1 : Hp) (Kp : List Cell → Prop) (it : It) (ps : List Pr) : Prop := ∀ (Φ : Fx) (Γ : Gm) (C : List Cell) (σ : L2.St) (F H : Hp), L2.Same F1 F → Sta j.tb Φ Γ C σ F H → Kp C →
  (∀ i, i < ps.length → it.go i H) ∧ it.stop ps.length H ∧ ∀ i x H' q, ps[i]? = some q → it.yld i H x H' → H' = H ∧ q.on F x
def SrcOk (j : J) (rd : V → Hp → It → Prop) (C1 : List Cell) (p : Pr) (ps : List Pr) (Kp : List Cell → Prop) : Prop := ∀ {Φ : Fx} {Γ : Gm} {σ : L2.St} {F H : Hp} {v : V}, Sta j.tb Φ Γ C1 σ F H → p.on F v → ∃ it, rd v H it ∧ SrcAt j F Kp it ps
def rdL (K : PySem.W.Frag) : V → Hp → It → Prop := fun x H it => ∃ a, x = .ref a ∧ (∃ xs, SqL K H a xs) ∧ it = Itl K a
def rdK : V → Hp → It → Prop := fun x H it => ∃ d o kvs, x = .ref d ∧ H d = some (.frz o (.dK kvs)) ∧ it = Itk d o kvs
def rdV : V → Hp → It → Prop := fun x H it => ∃ d o kvs, x = .ref d ∧ H d = some (.frz o (.dK kvs)) ∧ it = Itd d o kvs
theorem src_at {F1 : Hp} {Kp : List Cell → Prop} {it : It} {xs : List V} {G : Hp → Prop} (w : Walk it xs.length G (YAt xs)) (hG : ∀ (Φ : Fx) (Γ : Gm) (C : List Cell) (σ : L2.St) (F H : Hp), L2.Same F1 F → Sta j.tb Φ Γ C σ F H → Kp C → G H ∧ AllOn ps F xs) : SrcAt j F1 Kp it ps := fun Φ Γ C σ F H s S k => by
  obtain ⟨g, o⟩ := hG Φ Γ C σ F H s S k
  have hl : ps.length = xs.length := o.length
  refine ⟨fun i hi => w.goes i _ (by omega) g, by rw [hl]; exact w.stops _ g, fun i x H' q hq y => ?_⟩
  obtain ⟨x', e1, e2⟩ := o.get hq
  have hi := (List.getElem?_eq_some_iff.mp hq).1
  obtain ⟨eH, ex⟩ := w.yields i _ x H' (by omega) g y
  rw [e1] at ex
  cases ex
  exact ⟨eH, e2⟩
/-- a frozen list -/
theorem so_rL {C1 : List Cell} : SrcOk j (rdL j.X.K) C1 (rL ps) ps fun _ => True := fun {Φ Γ σ F H v} S ⟨a, xs, ev, h, o⟩ =>
  ⟨Itl j.X.K a, ⟨a, ev, ⟨xs, .inl (S.sub _ _ h)⟩, rfl⟩, src_at walk_list fun _ _ _ _ _ _ s S' _ => ⟨.inl (S'.sub _ _ (s _ _ h)), o.mono s⟩⟩
/-- a cell's list that stays -/
theorem so_cL {C1 : List Cell} {m : Addr} (hm : cL m ps ∈ C1) : SrcOk j (rdL j.X.K) C1 (isR m) ps fun C' => cL m ps ∈ C' := fun {Φ Γ σ F H v} S ev => by
  have ev : v = .ref m := ev
  subst ev
  obtain ⟨w0, h1, ho⟩ := S.lst hm
  refine ⟨Itl j.X.K m, ⟨m, rfl, ⟨w0, SqL.of h1⟩, rfl⟩, fun Φ' Γ' C' σ' F' H' s S' k => ?_⟩
  obtain ⟨ws, h2, ho2⟩ := S'.lst k
  have hl : ps.length = ws.length := ho2.length
  have wl := walk_list (K := j.X.K) (a := m) (xs := ws)
  refine ⟨fun i hi => wl.goes i _ (by omega) (SqL.of h2), by rw [hl]; exact wl.stops _ (SqL.of h2), fun i x H'' q hq y => ?_⟩
  obtain ⟨x', e1, e2⟩ := ho2.get hq
  have hi := (List.getElem?_eq_some_iff.mp hq).1
  obtain ⟨eH, ex⟩ := wl.yields i _ x H'' (by omega) (SqL.of h2) y
  rw [e1] at ex
  cases ex
  exact ⟨eH, e2⟩
theorem Sta.dicZ {tb : Tb} {Φ : Fx} {σ : L2.St} {F H : Hp} {d : Addr} {od : Obj} {kvs : List (Key × V)} {kps : List (Key × Pr)} (S : Sta tb Φ Γ C σ F H) (h : cZ d od kvs kps ∈ C) : H d = some (.frz od (.dK kvs)) ∧ KvOn kps F kvs := by
  obtain ⟨u, q1, ⟨q2, q3⟩, _⟩ := S.cells.at_ _ h
  subst q2
  exact ⟨q1, q3⟩
theorem kv_keys {F : Hp} : ∀ {kps : List (Key × Pr)} {kvs : List (Key × V)}, KvOn kps F kvs → AllOn (kps.map fun kp => isV (kV kp.1)) F (kvs.map fun kv => kV kv.1)
  | _, _, .nil => .nil
  | _, _, .cons ⟨e, _⟩ r => .cons (by show _ = _; rw [e]) (kv_keys r)
theorem kv_vals {F : Hp} : ∀ {kps : List (Key × Pr)} {kvs : List (Key × V)}, KvOn kps F kvs → AllOn (kps.map Prod.snd) F (kvs.map Prod.snd)
  | _, _, .nil => .nil
  | _, _, .cons ⟨_, o⟩ r => .cons o (kv_vals r)
/-- the keys of a locked dict -/
theorem so_K {C1 : List Cell} {d : Addr} {od : Obj} {kvs : List (Key × V)} {kps : List (Key × Pr)} (hm : cZ d od kvs kps ∈ C1) : SrcOk j rdK C1 (isR d) (kps.map fun kp => isV (kV kp.1)) fun C' => cZ d od kvs kps ∈ C' := fun {Φ Γ σ F H v} S ev => by
  have ev : v = .ref d := ev
  subst ev
  have h1 := (S.dicZ hm).1
  have w : Walk (Itk d od kvs) (kvs.map fun kv => kV kv.1).length (fun H => H d = some (.frz od (.dK kvs))) (YAt (kvs.map fun kv => kV kv.1)) := by
    rw [List.length_map]
    refine (walk_keys (d := d) (o := od) (kvs := kvs)).mono (fun _ h => h) fun i H x H' _ _ ⟨e, k, v, h, ex⟩ => ⟨e, ?_⟩
    rw [List.getElem?_map, h, ex]
    rfl
  refine ⟨Itk d od kvs, ⟨d, od, kvs, rfl, h1, rfl⟩, src_at w fun _ _ _ _ _ _ s S' k => ?_⟩
  obtain ⟨h2, o⟩ := S'.dicZ k
  exact ⟨h2, kv_keys o⟩
/-- its values -/
theorem so_V {C1 : List Cell} {d : Addr} {od : Obj} {kvs : List (Key × V)} {kps : List (Key × Pr)} (hm : cZ d od kvs kps ∈ C1) : SrcOk j rdV C1 (isR d) (kps.map Prod.snd) fun C' => cZ d od kvs kps ∈ C' := fun {Φ Γ σ F H v} S ev => by
  have ev : v = .ref d := ev
  subst ev
  have h1 := (S.dicZ hm).1
  have w : Walk (Itd d od kvs) (kvs.map Prod.snd).length (fun H => H d = some (.frz od (.dK kvs))) (YAt (kvs.map Prod.snd)) := by
    rw [List.length_map]
    refine (walk_values (d := d) (o := od) (kvs := kvs)).mono (fun _ h => h) fun i H x H' _ _ ⟨e, k, h⟩ => ⟨e, ?_⟩
    rw [List.getElem?_map, h]
    rfl
  refine ⟨Itd d od kvs, ⟨d, od, kvs, rfl, h1, rfl⟩, src_at w fun _ _ _ _ _ _ s S' k => ?_⟩
  obtain ⟨h2, o⟩ := S'.dicZ k
  exact ⟨h2, kv_vals o⟩
end
/-! ### list comprehensions -/
section
variable {j : J} {Γ : Gm} {C : List Cell} {R : Ps} {pos : Pos} {scope : Scope} {own : List (Str × Nat)} {g : TG} {tg iter elt src : Expr} {ifs : List Expr}
def LcS (j : J) (scope : Scope) (Γ : Gm) (C : List Cell) (rd : V → Hp → It → Prop) (vs : List Nat) (g : TG) (src elt : Expr) (ifs : List Expr) (R : Ps) : Prop :=
  Ev j Γ C src fun C1 p => ∃ ps Kp, SrcOk j rd C1 p ps Kp ∧ ∃ I : Nat → List Cell → List Pr → Prop, I 0 C1 [] ∧ (∀ n C' acc, I n C' acc → Kp C') ∧ (∀ n q Ci acc, ps[n]? = some q → I n Ci acc → TurnG j scope Γ vs g q Ci acc elt ifs fun C' acc' => I (n + 1) C' acc') ∧ ∀ Cn acc, I ps.length Cn acc → R Cn (rL acc)
theorem lc_readS {rd : V → Hp → It → Prop} {wi : TI} {vs : List Nat} {Φ : Fx} {σ : L2.St} {F H : Hp} {Q : VK} (hw : ∀ σ H R, We j.X src σ H (fun x H1 => ∃ it, rd x H1 it ∧ R it H1) → wi σ H R) (h : LcS j scope Γ C rd vs g src elt ifs R) (xw : XW j Φ) (S : Sta j.tb Φ Γ C σ F H) (K : Kv j Φ Γ σ F R Q) :
    tLc wi g (WifB j scope ifs) (WeB j scope elt) vs σ H Q := by
  refine hw σ H _ (h Φ σ F H _ xw S fun v F1 H1 C1 p ⟨ps, Kp, sr, I, i0, ik, turn, fin⟩ S1 s1 o1 => ?_)
  obtain ⟨it, hrd, at_⟩ := sr S1 o1
  refine ⟨it, hrd, fun D hD => ?_⟩
  have h0 : Φ.H0 D = none := S1.there D hD
  have xb : ∀ s0 H0 Cc cl fp Φ, XW (j.blk s0 H0 scope Cc cl fp) Φ := fun s0 H0 Cc cl fp Φ => xw_none fun _ _ z => z
  have dC : D ∉ C1.map (·.a) := fun z => by
    obtain ⟨c, hc, ec⟩ := List.mem_map.mp z
    obtain ⟨w, q1, _, _⟩ := S1.cells.at_ c hc
    rw [ec, hD] at q1
    cases q1
  refine ⟨fun n m H => m = ps.length - n ∧ n ≤ ps.length ∧ ∃ C' acc F' ws, I n C' acc ∧ Sta j.tb Φ (wG Γ vs) C' (wipe σ vs) F' H ∧ L2.Same F1 F' ∧ H D = some (.lst ws) ∧ F' D = none ∧ D ∉ C'.map (·.a) ∧ AllOn acc F' ws,
    ⟨ps.length, by simp, Nat.zero_le _, C1, [], F1, [], i0, (S1.beside hD).envTo (S1.env.wipeL vs), L2.Same.refl _, upd_same, S1.notF hD, dC, .nil⟩, ?_⟩
  rintro n m H2 ⟨rfl, hn, C2, acc, F2, ws, i2, S2, s2, q1, q2, q3, ha⟩
  obtain ⟨hgo, hst, hyl⟩ := at_ _ _ _ _ _ _ s2 S2 (ik _ _ _ i2)
  by_cases hlt : n < ps.length
  · refine .inr ⟨hgo n hlt, fun H' => ∃ C' acc F' ws, I (n + 1) C' acc ∧ Sta j.tb Φ (wG Γ vs) C' (wipe σ vs) F' H' ∧ L2.Same F1 F' ∧ H' D = some (.lst ws) ∧ F' D = none ∧ D ∉ C'.map (·.a) ∧ AllOn acc F' ws, fun H' q => ⟨ps.length - (n + 1), by omega, rfl, hlt, q⟩, fun x H' yl => ?_⟩
    obtain ⟨eH, e2⟩ := hyl n x H' _ (List.getElem?_eq_getElem hlt) yl
    subst eH
    obtain ⟨Γ1, tgt, tn⟩ := turn n ps[n] C2 acc (List.getElem?_eq_getElem hlt) i2
    refine tgt.run _ Φ C2 σ F2 H' x _ S2 e2 fun σ1 env1 hw => ⟨hw, ?_⟩
    have S3 := S2.envTo env1
    intro s0 H0 Cc cl fp
    refine tn s0 H0 Cc cl fp (Fx.of F2 H' C2) σ1 F2 H' _ (xb _ _ _ _ _ _) S3.rebase fun b F4 H4 C4 ⟨k1, k2⟩ S4 s4 => ?_
    obtain ⟨d1, d2, d3⟩ := S4.besideKeep q1 (fun _ z => nomatch z) (fun _ z => nomatch z) q2 q3
    have S4' := S3.trans S4
    cases b with
    | false => exact iteF ⟨C4, acc, F4, ws, k2 rfl, S4'.envTo (S2.env.mono s4), s2.trans s4, d1, d2, d3, ha.mono s4⟩
    | true =>
      refine iteT fun s1' H1' Cc1 cl1 fp1 => k1 rfl s1' H1' Cc1 cl1 fp1 (Fx.of F4 H4 C4) σ1 F4 H4 _ (xb _ _ _ _ _ _) S4'.rebase fun y F5 H5 C5 z ⟨hz, n5⟩ S5 s5 o5 => ?_
      obtain ⟨f1, f2, f3⟩ := S5.besideKeep d1 (fun _ z => nomatch z) (fun _ z => nomatch z) d2 d3
      have S5' := S4'.trans S5
      have sF : L2.Same F2 F5 := s4.trans s5
      exact ⟨ws, f1, by rw [← ha.length]; exact hz, C5, _, F5, ws ++ [y], n5, (S5'.besideUpd f1 f2 h0 f3 (fun _ z => nomatch z) (fun _ z => nomatch z)).envTo (S2.env.mono sF), s2.trans sF, upd_same, f2, f3, (ha.mono sF).snoc o5⟩
  · have en : n = ps.length := by omega
    subst en
    refine .inl ⟨hst, ?_⟩
    have S3 : Sta j.tb Φ Γ C2 σ F2 H2 := S2.envTo (S1.env.mono s2)
    obtain ⟨S4, s4⟩ := S3.adopt q1 q2 h0 q3 ⟨fun _ z => (nomatch z), fun _ _ z => (nomatch z)⟩
    exact K _ _ _ _ _ (fin C2 acc i2) S4 ((s1.trans s2).trans s4) ⟨D, ws, rfl, upd_same, ha.mono s4⟩
theorem rd_list {X : L2.Cx} {e : Expr} {σ : L2.St} {H : Hp} {R : It → Hp → Prop} (h : We X e σ H fun x H1 => ∃ it, rdL X.K x H1 it ∧ R it H1) : iList X.K (We X e) σ H R := by
  refine We.mono h fun x H1 ⟨it, ⟨a, ex, hs, ei⟩, r⟩ => ?_
  subst ei
  exact ⟨a, ex, hs, r⟩
theorem rd_keys {X : L2.Cx} {e : Expr} {σ : L2.St} {H : Hp} {R : It → Hp → Prop} (h : We X e σ H fun x H1 => ∃ it, rdK x H1 it ∧ R it H1) : iKeys (We X e) σ H R := by
  refine We.mono h fun x H1 ⟨it, ⟨d, o, kvs, ex, hs, ei⟩, r⟩ => ?_
  subst ei
  exact ⟨d, o, ex, .inl ⟨kvs, hs, r⟩⟩
theorem rd_vals {X : L2.Cx} {e : Expr} {σ : L2.St} {H : Hp} {R : It → Hp → Prop} (h : We X e σ H fun x H1 => ∃ it, rdV x H1 it ∧ R it H1) : iVals (We X e) σ H R := by
  refine We.mono h fun x H1 ⟨it, ⟨d, o, kvs, ex, hs, ei⟩, r⟩ => ?_
  subst ei
  exact ⟨d, o, kvs, ex, hs, r⟩
/-- [elt for tg in d if ..], d a locked dict -/
theorem ev_lcK (h : LcS j scope Γ C rdK (own.map (·.2)) g iter elt ifs R) (hN : j.X.N.Nodup) (ok : BlkOk j.X.N j.X.env.scope scope own) (hc : j.X.calm = true)
    (hg : ∀ (s : Shared) (H : Hp) (Cc : Addr) (cl : List (Str × Addr)) (fp : List Addr), PG (j.X.blk s H scope (compEnvC scope cl Cc j.X.env) fp) tg g) (hs : ∀ x, foldedSetIterable iter j.X.env x = pure x := by intro _; rfl) : Ev j Γ C (.ListComp elt [⟨tg, iter, ifs, 0⟩] scope pos) R :=
  ev_lift (pe_lc hc hN (pi_keys pe_we) ok hg pts_wifB pe_weB hs) fun Φ σ F H Q xw S K => lc_readS (fun _ _ _ h => rd_keys h) h xw S K
/-- .. a list, of a cell or frozen -/
theorem ev_lcS (h : LcS j scope Γ C (rdL j.X.K) (own.map (·.2)) g iter elt ifs R) (hN : j.X.N.Nodup) (ok : BlkOk j.X.N j.X.env.scope scope own) (hc : j.X.calm = true)
    (hg : ∀ (s : Shared) (H : Hp) (Cc : Addr) (cl : List (Str × Addr)) (fp : List Addr), PG (j.X.blk s H scope (compEnvC scope cl Cc j.X.env) fp) tg g) (hs : ∀ x, foldedSetIterable iter j.X.env x = pure x := by intro _; rfl) : Ev j Γ C (.ListComp elt [⟨tg, iter, ifs, 0⟩] scope pos) R :=
  ev_lift (pe_lc hc hN (pi_list pe_we) ok hg pts_wifB pe_weB hs) fun Φ σ F H Q xw S K => lc_readS (fun _ _ _ h => rd_list h) h xw S K
end
end Z

end
section
set_option Elab.async false
set_option linter.all false
set_option maxRecDepth 100000
set_option maxHeartbeats 1000000
/-! Z40: generator expressions over any source. -/
namespace Z
open PySem PySem.Spec PyProof.Rows L2
section
variable {j : J} {Γ : Gm} {C : List Cell} {R : Ps} {scope : Scope} {k : Nat} {P c : Addr} {nm : Nat → Nat → Str} {gpos pos pp : Pos} {src iter tg elt : Expr} {g : TG} {ifs : List Expr} {vs : List Nat}
def GLS (j : J) (scope : Scope) (k : Nat) (Γ : Gm) (C : List Cell) (rd : V → Hp → It → Prop) (vs : List Nat) (g : TG) (src elt : Expr) (ifs : List Expr) (SZ : List Cell → List Pr → Pr → (List Cell → List Pr → Prop) → Prop) (Rf : List Cell → List Pr → Prop) : Prop :=
  Ev j Γ C src fun C1 p => ∃ ps Kp, SrcOk j rd C1 p ps Kp ∧ ∃ I : Nat → List Cell → List Pr → Prop, I 0 C1 [] ∧ (∀ n C' acc, I n C' acc → Kp C') ∧ (∀ n q Ci acc, ps[n]? = some q → I n Ci acc → GTurn j scope k Γ vs g q Ci acc elt ifs SZ fun C' acc' => I (n + 1) C' acc') ∧ ∀ Cn acc, I ps.length Cn acc → Rf Cn acc
theorem gl_readS {SZ : List Cell → List Pr → Pr → (List Cell → List Pr → Prop) → Prop} {Rf : List Cell → List Pr → Prop} {step : List V → V → Hp → (Hp → Prop) → Prop} {fin : List V → Hp → Prop} {Φ : Fx} {σ : L2.St} {F H : Hp} {rd : V → Hp → It → Prop} {wi : TI} (hw : ∀ σ H R, We j.X src σ H (fun x H1 => ∃ it, rd x H1 it ∧ R it H1) → wi σ H R) (h : GLS j scope k Γ C rd vs g src elt ifs SZ Rf) (xw : XW j Φ) (S : Sta j.tb Φ Γ C σ F H)
    (hm : (P, nm) ∈ j.tb.nt) (hn : nm gpos.line gpos.col = j.X.env.qual ++ "<genexpr>") (hu : ∀ p ∈ j.tb.nt, p.1 = P → p.2 = nm)
    (hstep : ∀ C3 acc z (N : List Cell → List Pr → Prop) ys y F' H' (Nx : Hp → Prop), L2.Same F F' → SZ C3 acc z N → Sta j.tb Φ Γ C3 σ F' H' → AllOn acc F' ys → z.on F' y → (∀ acc', N C3 acc' → AllOn acc' F' (ys ++ [y]) → Nx H') → step ys y H' Nx)
    (hfin : ∀ Cn acc ys F' H', L2.Same F F' → Rf Cn acc → Sta j.tb Φ Γ Cn σ F' H' → AllOn acc F' ys → fin ys H') :
    tGx j.X P gpos wi g (WifG j scope k ifs) (WeG j scope k elt) vs step fin σ H := by
  refine hw σ H _ (h Φ σ F H _ xw S fun v F1 H1 C1 p ⟨ps, Kp, sr, I, i0, ik, turn, fi⟩ S1 s1 o1 => ?_)
  obtain ⟨it, hrd, at_⟩ := sr S1 o1
  refine ⟨it, hrd, ?_⟩
  obtain ⟨pst, t1, t2, t3⟩ := S1.tab.nt _ hm
  have t1 : H1 P = some (.tbl pst) := t1
  have xq : ∀ A s H C code fp pn Φ, XW (j.gx A s H scope C code fp pn) Φ := fun A s H C code fp pn Φ => xw_none fun _ _ z => z
  have main : ∀ F3 H3, Sta j.tb Φ Γ C1 σ F3 H3 → L2.Same F1 F3 → ∃ W : Nat → Nat → List V → Hp → Prop, (∃ m, W 0 m [] H3) ∧ GWalk it g (WifG j scope k ifs) (WeG j scope k elt) vs σ step fin W := by
    intro F3 H3 S3 s3
    refine ⟨fun i m ys H' => m = ps.length - i ∧ i ≤ ps.length ∧ ∃ C' acc F', I i C' acc ∧ Sta j.tb Φ (wG Γ vs) C' (wipe σ vs) F' H' ∧ L2.Same F3 F' ∧ AllOn acc F' ys, ⟨ps.length, by simp, Nat.zero_le _, C1, [], F3, i0, S3.envTo (S3.env.wipeL vs), L2.Same.refl _, .nil⟩, ?_⟩
    rintro i m ys H' ⟨rfl, hi, C', acc, F', hI, S', s', ha⟩
    obtain ⟨hgo, hst, hyl⟩ := at_ _ _ _ _ _ _ (s3.trans s') S' (ik _ _ _ hI)
    by_cases hlt : i < ps.length
    · refine .inr ⟨hgo i hlt, fun ys' H'' => ∃ C' acc F', I (i + 1) C' acc ∧ Sta j.tb Φ (wG Γ vs) C' (wipe σ vs) F' H'' ∧ L2.Same F3 F' ∧ AllOn acc F' ys', fun ys' H'' q => ⟨ps.length - (i + 1), by omega, rfl, hlt, q⟩, fun x H'' yl => ?_⟩
      obtain ⟨eH, e2⟩ := hyl i x H'' _ (List.getElem?_eq_getElem hlt) yl
      subst eH
      obtain ⟨Γ1, tgt, tn⟩ := turn i ps[i] C' acc (List.getElem?_eq_getElem hlt) hI
      refine tgt.run _ Φ C' σ F' H'' x _ S' e2 fun σ1 env1 hw => ⟨hw, ?_⟩
      have S1' := S'.envTo env1
      intro A s0 H0 Cc code fp pn hrA
      refine tn A s0 H0 Cc code fp pn hrA Φ σ1 F' H'' _ (xq _ _ _ _ _ _ _ _) S1' fun b F2 H2 C2 ⟨k1, k2⟩ S2 s2 => ?_
      cases b with
      | false => exact iteF ⟨C2, acc, F2, k2 rfl, S2.envTo (S'.env.mono s2), s'.trans s2, ha.mono s2⟩
      | true =>
        refine iteT fun A s0 H0 Cc code fp pn hrA => k1 rfl A s0 H0 Cc code fp pn hrA Φ σ1 F2 H2 _ (xq _ _ _ _ _ _ _ _) S2 fun y F4 H4 C4 z sz S4 s4 o4 => ?_
        have sF : L2.Same F' F4 := s2.trans s4
        refine hstep C4 acc z _ ys y F4 H4 _ (((s1.trans s3).trans s').trans sF) sz (S4.envTo (S3.env.mono (s'.trans sF))) (ha.mono sF) o4 fun acc' n' ha' => ?_
        exact ⟨C4, acc', F4, n', S4.envTo (S'.env.mono sF), s'.trans sF, ha'⟩
    · have en : i = ps.length := by omega
      subst en
      exact .inl ⟨hst, hfin C' acc ys F' H' ((s1.trans s3).trans s') (fi C' acc hI) (S'.envTo (S3.env.mono s')) ha⟩
  refine ⟨pst, t1, t2, fun c' n1 => ?_, fun cv hc => main F1 H1 S1 (L2.Same.refl _)⟩
  obtain ⟨S2, s2⟩ := S1.code (pos := gpos) t1 hm hu n1
  rw [hn] at S2 s2
  exact main _ _ S2 s2
variable {own : List (Str × Nat)}
theorem ev_anyS (G : GOk j scope own k src tg g P c nm gpos) (hr : Room (k + 3) j.X.A) (hmg : j.X.mg "any" = none) (h : GLS j scope k Γ C (rdL j.X.K) (own.map (·.2)) g src elt ifs (szAny R) fun C' acc => R C' (isB false)) (hG : Gl j.X "any" := by rfl)
    (hst : starEach [.GeneratorExp elt [⟨tg, src, ifs, 0⟩] scope gpos] j.X.env = (false, eval (.GeneratorExp elt [⟨tg, src, ifs, 0⟩] scope gpos) j.X.env) :: starEach [] j.X.env := by rfl) :
    Ev j Γ C (.Call (.Name "any" pp) [.GeneratorExp elt [⟨tg, src, ifs, 0⟩] scope gpos] [] pos) R :=
  ev_lift (pe_anyG hr hG hmg G.TB G.code G.ok G.nd G.cell G.dot G.co (pi_list pe_we) G.tg pts_wifG pe_weG G.fold hst) fun Φ σ F H Q xw S K => gl_readS (fun _ _ _ h => rd_list h) h xw S G.tb G.at_ G.un
    (fun C3 acc z N ys y F' H' Nx s' ⟨b, ez, h1, h2⟩ S' ha o k => ⟨b, by subst ez; exact o, fun hb => K _ F' H' C3 _ (h1 hb) S' s' rfl, fun hb => k _ (h2 hb) (ha.snoc o)⟩)
    fun Cn acc ys F' H' s' r S' ha => K _ F' H' Cn _ r S' s' rfl
theorem ev_anyV (G : GOk j scope own k (.Call (.Attribute src "values" apos) [] [] cpos) tg g P c nm gpos) {apos cpos : Pos} (hbase : attributeBase src "values" j.X.env (eval src j.X.env) = eval src j.X.env) (hline : (apos.endLine == cpos.line) = true) (hr : Room (k + 3) j.X.A) (hmg : j.X.mg "any" = none) (h : GLS j scope k Γ C (rdV) (own.map (·.2)) g src elt ifs (szAny R) fun C' acc => R C' (isB false)) (hG : Gl j.X "any" := by rfl)
    (hst : starEach [.GeneratorExp elt [⟨tg, .Call (.Attribute src "values" apos) [] [] cpos, ifs, 0⟩] scope gpos] j.X.env = (false, eval (.GeneratorExp elt [⟨tg, .Call (.Attribute src "values" apos) [] [] cpos, ifs, 0⟩] scope gpos) j.X.env) :: starEach [] j.X.env := by rfl) :
    Ev j Γ C (.Call (.Name "any" pp) [.GeneratorExp elt [⟨tg, .Call (.Attribute src "values" apos) [] [] cpos, ifs, 0⟩] scope gpos] [] pos) R :=
  ev_lift (pe_anyG hr hG hmg G.TB G.code G.ok G.nd G.cell G.dot G.co (pi_values pe_we hbase hline) G.tg pts_wifG pe_weG G.fold hst) fun Φ σ F H Q xw S K => gl_readS (fun _ _ _ h => rd_vals h) h xw S G.tb G.at_ G.un
    (fun C3 acc z N ys y F' H' Nx s' ⟨b, ez, h1, h2⟩ S' ha o k => ⟨b, by subst ez; exact o, fun hb => K _ F' H' C3 _ (h1 hb) S' s' rfl, fun hb => k _ (h2 hb) (ha.snoc o)⟩)
    fun Cn acc ys F' H' s' r S' ha => K _ F' H' Cn _ r S' s' rfl
end
end Z

end
section
set_option Elab.async false
set_option linter.all false
set_option maxRecDepth 100000
set_option maxHeartbeats 1000000
/-! Z41: a dict comprehension over the items of a locked dict; dict(d); dict(pairs); d.pop(k, x). -/
namespace Z
open PySem PySem.Spec PyProof.Rows L2
open PySem.W (Datum Tup)
open Rep (pr)
section
variable {j : J} {Γ : Gm} {C : List Cell} {R : Ps} {pos : Pos} {scope : Scope} {own : List (Str × Nat)} {g : TG} {tg iter elt src kx vx : Expr} {ifs : List Expr} {i1 i2 : Nat}
def TurnI (j : J) (scope : Scope) (Γ : Gm) (i1 i2 : Nat) (kp : Key × Pr) (C : List Cell) (acc : List (Key × Pr)) (kx vx : Expr) (ifs : List Expr) (N : List Cell → List (Key × Pr) → Prop) : Prop :=
  ∀ Γ1, Γ1 = ((wG Γ [i1, i2]).set i1 (some (isV (kV kp.1)))).set i2 (some kp.2) → ∀ (s : Shared) (H : Hp) (Cc : Addr) (cl : List (Str × Addr)) (fp : List Addr), Eif (j.blk s H scope Cc cl fp) Γ1 C ifs fun C2 b =>
    (b = true → ∀ (s : Shared) (H : Hp) (Cc : Addr) (cl : List (Str × Addr)) (fp : List Addr), Ev (j.blk s H scope Cc cl fp) Γ1 C2 kx fun C3 pk => ∀ (s : Shared) (H : Hp) (Cc : Addr) (cl : List (Str × Addr)) (fp : List Addr), Ev (j.blk s H scope Cc cl fp) Γ1 C3 vx fun C4 q =>
      ∃ k, pk = isV (kV k) ∧ acc.length < sizeLine ∧ N C4 (pP acc k q)) ∧ (b = false → N C2 acc)
def DcZ (j : J) (scope : Scope) (Γ : Gm) (C : List Cell) (i1 i2 : Nat) (src kx vx : Expr) (ifs : List Expr) (R : Ps) : Prop :=
  Ev j Γ C src fun C1 p => ∃ d od kvs kps, p = isR d ∧ ∃ I : Nat → List Cell → List (Key × Pr) → Prop, I 0 C1 [] ∧ (∀ n C' acc, I n C' acc → cZ d od kvs kps ∈ C') ∧
    (∀ n kp Ci acc, kps[n]? = some kp → I n Ci acc → TurnI j scope Γ i1 i2 kp Ci acc kx vx ifs fun C' acc' => I (n + 1) C' acc') ∧ ∀ Cn acc, I kps.length Cn acc → ∀ D, R (cK D acc :: Cn) (isR D)
theorem dc_readZ (hik : i1 ≠ i2) {Φ : Fx} {σ : L2.St} {F H : Hp} {Q : VK} (h : DcZ j scope Γ C i1 i2 src kx vx ifs R) (xw : XW j Φ) (S : Sta j.tb Φ Γ C σ F H) (K : Kv j Φ Γ σ F R Q) :
    tDc (iItems (We j.X src)) (gPair j.X.K i1 i2) (WifB j scope ifs) (WeB j scope kx) (WeB j scope vx) [i1, i2] σ H Q := by
  refine h Φ σ F H _ xw S fun v F1 H1 C1 p ⟨d, od, kvs, kps, ep, I, i0, ik, turn, fin⟩ S1 s1 o1 => ?_
  subst ep
  have ev : v = .ref d := o1
  subst ev
  have z1 := (S1.dicZ (ik _ _ _ i0)).1
  refine ⟨d, od, kvs, rfl, z1, fun D hD => ?_⟩
  have h0 : Φ.H0 D = none := S1.there D hD
  have xb : ∀ s0 H0 Cc cl fp Φ, XW (j.blk s0 H0 scope Cc cl fp) Φ := fun s0 H0 Cc cl fp Φ => xw_none fun _ _ z => z
  have dC : D ∉ C1.map (·.a) := fun z => by
    obtain ⟨c, hc, ec⟩ := List.mem_map.mp z
    obtain ⟨w, q1, _, _⟩ := S1.cells.at_ c hc
    rw [ec, hD] at q1
    cases q1
  have wl := walk_items (d := d) (o := od) (kvs := kvs)
  have hlen : kps.length = kvs.length := (S1.dicZ (ik _ _ _ i0)).2.len
  refine ⟨fun n m H => m = kps.length - n ∧ n ≤ kps.length ∧ ∃ C' acc F' ws, I n C' acc ∧ Sta j.tb Φ (wG Γ [i1, i2]) C' (wipe σ [i1, i2]) F' H ∧ L2.Same F1 F' ∧ H D = some (.dK ws) ∧ F' D = none ∧ D ∉ C'.map (·.a) ∧ KvOn acc F' ws,
    ⟨kps.length, by simp, Nat.zero_le _, C1, [], F1, [], i0, (S1.beside hD).envTo (S1.env.wipeL [i1, i2]), L2.Same.refl _, upd_same, S1.notF hD, dC, .nil⟩, ?_⟩
  rintro n m H2 ⟨rfl, hn, C2, acc, F2, ws, i2', S2, s2, q1, q2, q3, ha⟩
  obtain ⟨z2, ho⟩ := S2.dicZ (ik _ _ _ i2')
  by_cases hlt : n < kps.length
  · refine .inr ⟨wl.goes n H2 (by omega) z2, fun H' => ∃ C' acc F' ws, I (n + 1) C' acc ∧ Sta j.tb Φ (wG Γ [i1, i2]) C' (wipe σ [i1, i2]) F' H' ∧ L2.Same F1 F' ∧ H' D = some (.dK ws) ∧ F' D = none ∧ D ∉ C'.map (·.a) ∧ KvOn acc F' ws, fun H' q => ⟨kps.length - (n + 1), by omega, rfl, hlt, q⟩, fun x H' yl => ?_⟩
    obtain ⟨T, u, w, ex, hT, eH, hu, hw⟩ := wl.yields n H2 x H' (by omega) z2 yl
    subst eH
    subst ex
    have hn' : n < kvs.length := by omega
    have hu : u = kV kvs[n].1 := by
      have hu : (kvs[n]?.map fun kv => kV kv.1) = some u := hu
      rw [List.getElem?_eq_getElem hn'] at hu
      exact (Option.some.inj hu).symm
    have hw : w = kvs[n].2 := by
      have hw : kvs[n]?.map Prod.snd = some w := hw
      rw [List.getElem?_eq_getElem hn'] at hw
      exact (Option.some.inj hw).symm
    have TD : D ≠ T := fun z => by rw [← z, q1] at hT; cases hT
    obtain ⟨S3, s3⟩ := S2.newF (o := .tup [u, w]) hT ⟨fun _ z => (nomatch z), fun _ _ z => (nomatch z)⟩
    obtain ⟨u', f1, f2⟩ := (kv_keys ho).get (p := isV (kV kps[n].1)) (i := n) (by rw [List.getElem?_map, List.getElem?_eq_getElem hlt]; rfl)
    obtain ⟨w', f3, f4⟩ := (kv_vals ho).get (p := kps[n].2) (i := n) (by rw [List.getElem?_map, List.getElem?_eq_getElem hlt]; rfl)
    rw [List.getElem?_map, List.getElem?_eq_getElem hn'] at f1 f3
    have f1 : kV kvs[n].1 = u' := Option.some.inj f1
    have f3 : kvs[n].2 = w' := Option.some.inj f3
    rw [← hu] at f1
    rw [← hw] at f3
    subst f1
    subst f3
    have g2 := (isV (kV kps[n].1)).mono s3 f2
    have g3 := kps[n].2.mono s3 f4
    refine (tgt_pair (K := j.X.K) (i := i1) (k := i2) (Γ := Γ) (p := isV (kV kps[n].1)) (q := kps[n].2) hik).run j.tb Φ C2 σ (upd F2 T (.tup [u, w])) (upd H2 T (.tup [u, w])) (.ref T) _ S3 ⟨T, _, rfl, SqT.of upd_same, .cons g2 (.cons g3 .nil)⟩ fun σ1 env1 hw1' => ⟨hw1', ?_⟩
    have hDk : (upd H2 T (.tup [u, w])) D = some (.dK ws) := by rw [upd_ne TD]; exact q1
    have hDF : (upd F2 T (.tup [u, w])) D = none := by rw [upd_ne TD]; exact q2
    have S3' := S3.envTo env1
    intro s0 H0 Cc cl fp
    refine turn n kps[n] C2 acc (List.getElem?_eq_getElem hlt) i2' _ rfl s0 H0 Cc cl fp (Fx.of _ _ C2) σ1 _ _ _ (xb _ _ _ _ _ _) S3'.rebase fun b F4 H4 C4 ⟨k1, k2⟩ S4 s4 => ?_
    obtain ⟨d1, d2, d3⟩ := S4.besideKeep hDk (fun _ z => nomatch z) (fun _ z => nomatch z) hDF q3
    have S4' := S3'.trans S4
    cases b with
    | false => exact iteF ⟨C4, acc, F4, ws, k2 rfl, S4'.envTo (S2.env.mono (s3.trans s4)), (s2.trans s3).trans s4, d1, d2, d3, ha.mono (s3.trans s4)⟩
    | true =>
      refine iteT fun s1' H1' Cc1 cl1 fp1 => k1 rfl s1' H1' Cc1 cl1 fp1 (Fx.of F4 H4 C4) σ1 F4 H4 _ (xb _ _ _ _ _ _) S4'.rebase fun y F5 H5 C5 pk kk S5 s5 o5 => ?_
      obtain ⟨f1, f2, f3⟩ := S5.besideKeep d1 (fun _ z => nomatch z) (fun _ z => nomatch z) d2 d3
      have S5' := S4'.trans S5
      intro s2' H2' Cc2 cl2 fp2
      refine kk s2' H2' Cc2 cl2 fp2 (Fx.of F5 H5 C5) σ1 F5 H5 _ (xb _ _ _ _ _ _) S5'.rebase fun z F6 H6 C6 q ⟨ky, ek, hz, n6⟩ S6 s6 o6 => ?_
      subst ek
      obtain ⟨e1, e2, e3⟩ := S6.besideKeep f1 (fun _ z => nomatch z) (fun _ z => nomatch z) f2 f3
      have S6' := S5'.trans S6
      have sF := (s4.trans s5).trans s6
      exact ⟨ws, ky, o5, e1, by rw [← ha.len]; exact hz, C6, _, F6, _, n6, (S6'.besideUpd e1 e2 h0 e3 (fun _ z => nomatch z) (fun _ z => nomatch z)).envTo (S2.env.mono (s3.trans sF)), (s2.trans s3).trans sF, upd_same, e2, e3, (ha.mono (s3.trans sF)).put o6 ky⟩
  · have en : n = kps.length := by omega
    subst en
    refine .inl ⟨by rw [hlen]; exact wl.stops H2 z2, ?_⟩
    have S3 : Sta j.tb Φ Γ C2 σ F2 H2 := S2.envTo (S1.env.mono s2)
    exact K _ _ _ _ _ (fin C2 acc i2' D) (S3.besideC (c := cK D acc) q1 q2 h0 q3 ⟨ws, rfl, ha⟩) (s1.trans s2) rfl
/-- {kx: vx for a, b in src.items() if ..}, src a locked dict -/
theorem ev_dcZ {x1 x2 : Str} {kk : Nat} {pa pb pt apos cpos : Pos} (hik : i1 ≠ i2) (h : DcZ j scope Γ C i1 i2 src kx vx ifs R) (hN : j.X.N.Nodup) (ok : BlkOk j.X.N j.X.env.scope scope [(x1, i1), (x2, i2)]) (hc : j.X.calm = true)
    (hg : ∀ (s : Shared) (H : Hp) (Cc : Addr) (cl : List (Str × Addr)) (fp : List Addr), PG (j.X.blk s H scope (compEnvC scope cl Cc j.X.env) fp) (.Tuple [.Name x1 pa, .Name x2 pb] kk pt) (gPair j.X.K i1 i2))
    (hbase : attributeBase src "items" j.X.env (eval src j.X.env) = eval src j.X.env := by rfl) (hline : (apos.endLine == cpos.line) = true := by rfl)
    (hs : ∀ x, foldedSetIterable (.Call (.Attribute src "items" apos) [] [] cpos) j.X.env x = pure x := by intro _; rfl) : Ev j Γ C (.DictComp kx vx [⟨.Tuple [.Name x1 pa, .Name x2 pb] kk pt, .Call (.Attribute src "items" apos) [] [] cpos, ifs, 0⟩] scope pos) R :=
  ev_lift (pe_dc (own := [(x1, i1), (x2, i2)]) hc hN (pi_items pe_we hbase hline) ok hg pts_wifB pe_weB pe_weB hs) fun Φ σ F H Q xw S K => dc_readZ hik h xw S K
end
end Z

end
section
set_option Elab.async false
set_option linter.all false
set_option maxRecDepth 100000
set_option maxHeartbeats 1000000
/-! Z42: dict(d), dict(pairs), d.pop(k, x), dicts compared, s.startswith(t), f'..'. -/
namespace Z
open PySem PySem.Spec PyProof.Rows L2
open PySem.W (Datum Tup)
open Rep (pr)
section
variable {j : J} {Γ : Gm} {C : List Cell} {R : Ps} {p q : Pr} {kps : List (Key × Pr)} {pos apos : Pos} {o e f : Expr}
theorem Kv.newCK {Φ : Fx} {σ : L2.St} {F H : Hp} {Q : VK} {a : Addr} {kvs : List (Key × V)} (K : Kv j Φ Γ σ F R Q) (S : Sta j.tb Φ Γ C σ F H) (r : R (cK a kps :: C) (isR a)) (o : KvOn kps F kvs) (h : H a = none) : Q (.ref a) (upd H a (.dK kvs)) :=
  K _ _ _ _ _ r (S.newC (c := cK a kps) h ⟨kvs, rfl, o⟩) (L2.Same.refl F) rfl
theorem Kv.newCZ {Φ : Fx} {σ : L2.St} {F H : Hp} {Q : VK} {a : Addr} {od : Obj} {kvs : List (Key × V)} (K : Kv j Φ Γ σ F R Q) (S : Sta j.tb Φ Γ C σ F H) (r : R (cZ a od kvs kps :: C) (isR a)) (o : KvOn kps F kvs) (h : H a = none) : Q (.ref a) (upd H a (.frz od (.dK kvs))) :=
  K _ _ _ _ _ r (S.newC (c := cZ a od kvs kps) h ⟨rfl, o⟩) (L2.Same.refl F) rfl
def rDictD : List V → Hp → VK → Prop := fun xs H Q => ∃ (a : Addr) (kvs : List (Key × V)), xs = [.ref a] ∧ L2.Rd H a (.dK kvs) ∧ ∀ p, H p = none → Q (.ref p) (upd H p (.dK kvs))
def rDictDZ : List V → Hp → VK → Prop := fun xs H Q => ∃ (a : Addr) (kvs : List (Key × V)), xs = [.ref a] ∧ L2.Rd H a (.dK kvs) ∧ ∀ p od, H p = none → Q (.ref p) (upd H p (.frz od (.dK kvs)))
/-- a copy that is locked as it comes -/
theorem call_dictDZ {X : L2.Cx} : CallR X (.type "dict") rDictDZ := by
  intro pins s σ H xs us Q I r q
  obtain ⟨a, kvs, ex, hd, q⟩ := q
  refine thn (call_dictD pins s σ H xs us (fun v H' => ∃ p, v = .ref p ∧ H p = none ∧ H' = upd H p (.dK kvs)) I r ⟨a, kvs, ex, hd, fun p hp => ⟨p, rfl, hp, rfl⟩⟩) fun u s1 ⟨v, H1, I1, rv, p, ev, hp, eH⟩ => ?_
  subst ev
  subst eH
  obtain ⟨od, I2⟩ := I1.lock (d := p) upd_same True.intro
  rw [upd_upd] at I2
  exact ⟨.ref p, _, I2, rv, q p od hp⟩
theorem ok_dictD (h : DicOk j C p kps) (r : ∀ d, R (cK d kps :: C) (isR d)) : CallOk j Γ rDictD [p] C R := fun Φ σ F H vs Q x S o K => by
  obtain ⟨v, e, o⟩ := all1 o
  obtain ⟨a, kvs, ev, h1, h2⟩ := h _ _ _ _ _ _ _ S o
  exact ⟨a, kvs, by rw [e, ev], h1, fun d hd => K.newCK S (r d) h2 hd⟩
theorem ok_dictDZ (h : DicOk j C p kps) (r : ∀ d od kvs, R (cZ d od kvs kps :: C) (isR d)) : CallOk j Γ rDictDZ [p] C R := fun Φ σ F H vs Q x S o K => by
  obtain ⟨v, e, o⟩ := all1 o
  obtain ⟨a, kvs, ev, h1, h2⟩ := h _ _ _ _ _ _ _ S o
  exact ⟨a, kvs, by rw [e, ev], h1, fun d od hd => K.newCZ S (r d od kvs) h2 hd⟩
/-! dict(pairs) -/
def rDictP (K : PySem.W.Frag) : List V → Hp → VK → Prop := fun xs H Q => ∃ (a : Addr) (ps : List Addr) (kvs : List (Key × V)), xs = [.ref a] ∧ SqL K H a (ps.map V.ref) ∧ Paired (fun p kv => SqT K H p [kV kv.1, kv.2]) ps kvs ∧
    ∀ p, H p = none → Q (.ref p) (upd H p (.dK (mergeK [] kvs)))
/-- the dict that pairs make: later ones win -/
def mP (kps more : List (Key × Pr)) : List (Key × Pr) := more.foldl (fun acc kq => pP acc kq.1 kq.2) kps
theorem KvOn.merge {F : Hp} : ∀ {more : List (Key × Pr)} {ws : List (Key × V)}, KvOn more F ws → ∀ {kps : List (Key × Pr)} {kvs : List (Key × V)}, KvOn kps F kvs → KvOn (mP kps more) F (mergeK kvs ws)
  | _, _, .nil, _, _, h => h
  | (k, q) :: more, (k', v) :: ws, .cons ⟨e1, e2⟩ r, kps, kvs, h => by
    have e1 : k = k' := e1
    subst e1
    exact KvOn.merge r (h.put e2 k)
/-- a list of pairs (key, value) -/
def rPairs (K : PySem.W.Frag) (kps : List (Key × Pr)) : List Pr := kps.map fun kq => rT K [isV (kV kq.1), kq.2]
theorem pairs_on {K : PySem.W.Frag} {F : Hp} : ∀ {kps : List (Key × Pr)} {vs : List V}, AllOn (rPairs K kps) F vs → ∃ (ps : List Addr) (kvs : List (Key × V)), vs = ps.map V.ref ∧ Paired (fun p kv => SqT K F p [kV kv.1, kv.2]) ps kvs ∧ KvOn kps F kvs
  | [], _, .nil => ⟨[], [], rfl, .nil, .nil⟩
  | (k, q) :: kps, v :: vs, .cons ⟨a, ws, e1, e2, e3⟩ r => by
    obtain ⟨ps, kvs, f1, f2, f3⟩ := pairs_on r
    obtain ⟨x, y, ew, ox, oy⟩ := all2 e3
    have ox : x = kV k := ox
    subst ox
    subst ew
    exact ⟨a :: ps, (k, y) :: kvs, by rw [e1, f1]; rfl, .cons e2 f2, .cons ⟨rfl, oy⟩ f3⟩
theorem ok_dictP (h : LstOk j C p (rPairs j.X.K kps)) (r : ∀ d, R (cK d (mP [] kps) :: C) (isR d)) : CallOk j Γ (rDictP j.X.K) [p] C R := fun Φ σ F H vs Q x S o K => by
  obtain ⟨v, e, o⟩ := all1 o
  obtain ⟨a, ws, ev, h1, h2⟩ := h _ _ _ _ _ _ _ S o
  obtain ⟨ps, kvs, e1, e2, e3⟩ := pairs_on h2
  subst e1
  exact ⟨a, ps, kvs, by rw [e, ev], h1, L2.Paired.mapP e2 fun p kv z => S.seqT z, fun d hd => K.newCK S (r d) (KvOn.merge e3 .nil) hd⟩
/-! d.pop(k, x) -/
theorem ev_dpop2 {ke xe : Expr} {cpos : Pos} (h : Ev j Γ C o fun C0 p => ∃ (m : Addr) (kps0 : List (Key × Pr)), p = isR m ∧ cK m kps0 ∈ C0 ∧ Ev j Γ C0 ke fun C1 kp => Ev j Γ C1 xe fun C2 z => ∃ (kps : List (Key × Pr)) (k : Key) (i : Nat), kp = isV (kV k) ∧ C2[i]? = some (cK m kps) ∧ (∀ q, vP kps k = some q → R (C2.set i (cK m (dP kps k))) q) ∧ (vP kps k = none → R C2 z))
    (m : M2 j.X o "pop" apos ke xe cpos) : Ev j Γ C (.Call (.Attribute o "pop" apos) [ke, xe] [] cpos) R :=
  ev_lift (pe_dpop2 pe_we pe_we pe_we m) fun Φ σ F H Q x S K => h Φ σ F H _ x S fun v F1 H1 C0 p ⟨m, kps0, ep, hm, k1⟩ S1 s1 o1 => by
    subst ep
    obtain ⟨kv0, h1, _⟩ := S1.dic hm
    refine ⟨m, o1, .inl ⟨kv0, .inl h1⟩, ?_⟩
    refine k1 Φ σ F1 H1 _ x S1 fun y F2 H2 C1 kp k2 S2 s2 o2 => ?_
    refine k2 Φ σ F2 H2 _ x S2 fun z F3 H3 C2 zp ⟨kps, k, i, ek, hc, r1, r2⟩ S3 s3 o3 => ?_
    subst ek
    obtain ⟨kvs, h3, g3⟩ := S3.dic (List.mem_of_getElem? hc)
    have ss := (s1.trans s2).trans s3
    refine ⟨kvs, k, h3, o2, fun w hw => ?_, fun hn => ?_⟩
    · cases q : vP kps k with
      | none =>
        rw [(g3.val k).2 q] at hw
        cases hw
      | some pq =>
        obtain ⟨w', e1, e2⟩ := (g3.val k).1 pq q
        rw [hw] at e1
        cases e1
        exact K _ _ _ _ _ (r1 pq q) (S3.puti hc rfl h3 (fun _ z => nomatch z) ⟨_, rfl, g3.drop k⟩) ss e2
    · cases q : vP kps k with
      | none => exact K _ _ _ _ _ (r2 q) S3 ss o3
      | some pq =>
        obtain ⟨w', e1, e2⟩ := (g3.val k).1 pq q
        rw [hn] at e1
        cases e1
/-! dicts compared -/
theorem KvOn.valsOf {F : Hp} {kps : List (Key × Pr)} {kvs : List (Key × V)} (h : KvOn kps F kvs) (k : Key) : (∀ p, vP kps k = some p → ∃ v, valV kvs k = some v ∧ p.on F v) ∧ (vP kps k = none → valV kvs k = none) := h.val k
/-- tables of plain values -/
def flatK (tab : List (Key × V)) : List (Key × Pr) := tab.map fun kv => (kv.1, isV kv.2)
theorem flatK_on {F : Hp} : ∀ {tab kvs : List (Key × V)}, KvOn (flatK tab) F kvs → kvs = tab
  | [], _, .nil => rfl
  | (k, v) :: tab, (k', v') :: kvs, .cons ⟨e1, e2⟩ r => by
    have e1 : k = k' := e1
    have e2 : v' = v := e2
    rw [flatK_on r, e1, e2]
theorem valV_self : ∀ {tab : List (Key × V)}, (tab.map Prod.fst).Nodup → ∀ p ∈ tab, valV tab p.1 = some p.2 := fun {tab} nd p hp => by
  obtain ⟨i, hi, e⟩ := List.mem_iff_getElem.mp hp
  exact vP_at (α := V) nd (i := i) (by rw [List.getElem?_eq_getElem hi, e])
theorem ok_neDs {m1 m2 : Addr} {tab : List (Key × V)} (h1 : cK m1 (flatK tab) ∈ C) (h2 : cK m2 (flatK tab) ∈ C) (nd : (tab.map Prod.fst).Nodup) (fl : ∀ p ∈ tab, flatB p.2 = true) (r : R C (isB false)) : OpOk j Γ rNeDA (isR m1) (isR m2) C R := fun Φ σ F H v w Q x S o1 o2 K => by
  obtain ⟨k1, e1, g1⟩ := S.dic h1
  obtain ⟨k2, e2, g2⟩ := S.dic h2
  have z1 := flatK_on g1
  have z2 := flatK_on g2
  subst z1
  rw [z2] at e2
  exact ⟨m1, m2, k1, k1, o1, o2, e1, e2, rfl, fun p hp => ⟨valV_self nd p hp, fl p hp⟩, K.now S r rfl⟩
/-! texts -/
theorem ok_startswith {s t : Str} (r : R C (isB (Txt.startswith s t))) : MtOk j Γ (fun x xs H Q => ∃ a b, x = .str a ∧ xs = [.str b] ∧ Q (.bl (Txt.startswith a b)) H) (isS s) [isS t] C R := fun Φ σ F H v vs Q x S e o K => by
  obtain ⟨w, ew, ow⟩ := all1 o
  have ow : w = .str t := ow
  exact ⟨s, t, e, by rw [ew, ow], K.now S r rfl⟩
/-- f'..{e}' -/
theorem emp_app (x : Str) : Str.empty ++ x = x := by
  show (⟨#[] ++ x.cps⟩ : Str) = x
  rw [Array.empty_append]
theorem ev_fs2 {x : Str} {k : Nat} {p1 p2 : Pos} (hx : x.length ≤ sizeLine) (h : Ev j Γ C e fun C1 p => ∃ y : Str, p = isS y ∧ y.length ≤ sizeLine ∧ (x ++ y).length ≤ sizeLine ∧ R C1 (isS (x ++ y))) : Ev j Γ C (.JoinedStr [.Constant (.str x) k p1, .FormattedValue e (-1) none p2] pos) R :=
  ev_lift (pe_joined (.cons pe_str (.cons (pe_fmt pe_we) .nil))) fun Φ σ F H Q xw S K => by
    refine ⟨x, rfl, ?_, ?_⟩
    · rw [emp_app]
      exact hx
    refine h Φ σ F H _ xw S fun v F1 H1 C1 p ⟨y, ep, h1, h2, r⟩ S1 s1 o1 => ?_
    subst ep
    refine .inl ⟨y, o1, h1, y, rfl, ?_, ?_⟩
    · rw [emp_app]
      exact h2
    · show Q (.str (Str.empty ++ x ++ y)) H1
      rw [emp_app]
      exact K.same s1 |>.now S1 r rfl
end
end Z

end
section
set_option Elab.async false
set_option linter.all false
set_option maxRecDepth 100000
set_option maxHeartbeats 1000000
/-! Z43: x in d.values(). -/
namespace PySem
theorem Zv.entry : entryFor table "proto.contains_iter" = some Builtin.«proto.contains_iter» := entryFor_of_tree (by kernel_rfl)
theorem Zv.plain : plainId "proto.contains_iter" = true := by decide +kernel
theorem Zv.noIn : typeLookup (.type "dict_values") "__contains__" = pure none := by rw [typeLookup_type, builtinLookup_eq_fast]; kernel_rfl
end PySem
namespace Z
open PySem PySem.Spec PyProof.Rows L2
section
variable {prog : Program} {w : World} {K : Type} [DecidableEq K] {knd : KeyKind prog w K} {it d : Addr} {x : Value} {kvs : List (K × Value)} {ep : Nat} {R : Result → Shared → Prop}
theorem dictAt_keep {h h' : Heap} (hm : h.DictAt knd d kvs ep) (k : h'.get? d = h.get? d) : h'.DictAt knd d kvs ep := by
  obtain ⟨o, es, ho, hx, hdt, r⟩ := hm
  exact ⟨o, es, k.trans ho, hx, hdt, r⟩
theorem in_vals (e : Value → Bool) {A : Around} (hh : A.handled = none) (ne : d ≠ it) (he : ∀ kv ∈ kvs, ∀ (A : Around) (s : Shared), SeqAt.EqAt A s kv.2 x (e kv.2)) : ∀ (m i : Nat) (s : Shared), m = kvs.length - i → s.heap.IsValIter it d i kvs.length ep → s.heap.DictAt knd d kvs ep →
    (∀ h', Heap.ExtBut it s.heap h' → R (.ok (.ret (.bool ((kvs.drop i).any fun kv => e kv.2)))) { s with heap := h' }) →
    codeAny (model prog w) A (.builtin "proto.contains_iter" ⟨[.ref it, x], []⟩) R s := by
  intro m
  induction m with
  | zero =>
    intro i s hm st hd h
    have hl : kvs.length ≤ i := by omega
    refine codeAny_builtin Zv.entry ?_
    rw [Around.under_plainId Zv.plain _]
    unfold Builtin.«proto.contains_iter»
    refine wpAny_bind (wpAny_pyNext_values_end hh st hd (List.getElem?_eq_none hl) fun h' eb => ?_)
    refine wpAny_bind (wpAny_rule ?_)
    have q := h h' eb
    rw [List.drop_eq_nil_of_le hl] at q
    exact wpAny_pure q
  | succ m ih =>
    intro i s hm st hd h
    have hl : i < kvs.length := by omega
    refine codeAny_builtin Zv.entry ?_
    rw [Around.under_plainId Zv.plain _]
    unfold Builtin.«proto.contains_iter»
    refine wpAny_bind (wpAny_pyNext_values_item (k := kvs[i].1) (v := kvs[i].2) st hd (List.getElem?_eq_getElem hl) fun h' st' sb => ?_)
    refine wpAny_bind (he kvs[i] (List.getElem_mem hl) _ _ prog w _ _ ?_)
    rw [List.drop_eq_getElem_cons hl, List.any_cons] at h
    cases hb : e kvs[i].2 with
    | true =>
      rw [hb] at h
      simp only [if_true]
      refine wpAny_bind (wpAny_rule ?_)
      exact wpAny_pure (h h' sb.extBut)
    | false =>
      rw [hb] at h
      simp only [Bool.false_eq_true, if_false]
      exact wpAny_pure ⟨plainId_quiet Zv.plain _, ih (i + 1) { s with heap := h' } (by omega) st' (dictAt_keep hd (sb.2 d ne)) fun h2 eb => by simpa using h h2 (sb.extBut.trans eb)⟩
end
section
variable {X : L2.Cx}
def rVals : V → List V → Hp → VK → Prop := fun x xs H Q => ∃ (a : Addr) (kvs : List (Key × V)), x = .ref a ∧ xs = [] ∧ L2.Rd H a (.dK kvs) ∧ ∀ p, H p = none → Q (.ref p) (upd H p (viewO "dict_values" p a))
theorem mt_vals : MtR X "dict.values" rVals := by
  intro pins s σ H x xs v us Q I rx rxs h
  obtain ⟨a, kvs, rfl, rfl, ha, q⟩ := h
  cases rx
  cases rxs
  obtain ⟨z, lo, vs, rel, dd⟩ := dk_rd I.hok ha
  have hf : H s.heap.objs.size = none := I.hok.fresh (Nat.le_refl _)
  refine call_meetsIn PySem.F.slot_dict_values dd.typeIs PySem.F.entry_dict_values (PySem.F.args_dict_values_1 _) (meets_dict_values (mixKind X.prog X.w) a lo) ⟨⟨vs, dd⟩, ?_⟩
  exact ⟨.ref s.heap.objs.size, upd H s.heap.objs.size (viewO "dict_values" s.heap.objs.size a), I.laid (t' := s.toks) (fun b u e => Heap.get?_push_of_some _ e) (Nat.le_refl _) (viewO_ok (Heap.get?_push_size _ rfl)), rfl, q _ hf⟩
def unV : Value → V
  | .bool b => .bl b
  | .int i _ => .int i
  | .str x _ => .str x
  | _ => .non
theorem unV_of {v : V} {u : Value} (r : RelV v u) (f : flatV v = true) : unV u = v := by
  cases v with
  | non => cases (show u = Value.none from r); rfl
  | bl b => cases (show u = Value.bool b from r); rfl
  | int i => obtain ⟨t, rfl⟩ := r; rfl
  | str x => obtain ⟨t, rfl⟩ := r; rfl
  | _ => exact absurd (show false = true from f) Bool.false_ne_true
theorem kv_any {kvs : List (Key × V)} {vs : List (Key × Value)} (h : KV kvs vs) (f : V → Bool) (fl : ∀ kv ∈ kvs, flatV kv.2 = true) : (vs.any fun kv => f (unV kv.2)) = kvs.any fun kv => f kv.2 := by
  unfold KV at h
  induction h with
  | nil => rfl
  | cons h _ ih =>
    rw [List.any_cons, List.any_cons, ih fun kv hm => fl kv (List.mem_cons_of_mem _ hm), unV_of h.2 (fl _ List.mem_cons_self)]
theorem kv_back {kvs : List (Key × V)} {vs : List (Key × Value)} (h : KV kvs vs) : ∀ kv ∈ vs, ∃ kw ∈ kvs, RelV kw.2 kv.2 := by
  unfold KV at h
  induction h with
  | nil => intro kv hm; cases hm
  | cons h _ ih =>
    intro kv hm
    rcases List.mem_cons.mp hm with e | hm
    · subst e
      exact ⟨_, List.mem_cons_self, h.2⟩
    · obtain ⟨kw, h1, h2⟩ := ih kv hm
      exact ⟨kw, List.mem_cons_of_mem _ h1, h2⟩
def rInV : R2 := fun y x H Q => ∃ (p a : Addr) (kvs : List (Key × V)), x = .ref p ∧ H p = some (viewO "dict_values" p a) ∧ L2.Rd H a (.dK kvs) ∧ flatV y = true ∧ (∀ kv ∈ kvs, flatV kv.2 = true) ∧ Q (.bl (kvs.any fun kv => eqV kv.2 y)) H
theorem op_inV (hc : X.calm = true) : OpR X (compareOp .In) rInV := by
  intro pins s σ H y x v u Q I ry rx h
  obtain ⟨p, a, kvs, rfl, hp, ha, fy, fk, q⟩ := h
  obtain rfl : u = Value.ref p := rx
  obtain ⟨z, lo, vs, rel, dd⟩ := dk_rd I.hok ha
  have vw : s.heap.get? p = some (DSub.viewOb "dict_values" a) := (show ObjOk X.prog X.w H s.heap p (viewO "dict_values" p a) from I.hok p _ hp).1
  have hT : s.TypeIs (.ref p) "dict_values" := ⟨_, vw, rfl⟩
  obtain ⟨o, es, ep, ho, hx, hdt, r⟩ := id dd
  have da : s.heap.DictAt (mixKind X.prog X.w) a vs ep := ⟨o, es, ho, hx, hdt, r⟩
  show wpAny _ _ (contains (.ref p) v >>= fun b => pure (Value.bool b)) _ X.xe s
  refine wpAny_bind ?_
  unfold contains
  refine wpAny_holding ?_
  rw [stdlibNamesSay?_of_typeIs hT]
  refine wpAny_bind (wpAny_specialOf hT Zv.noIn ?_)
  show wpAny _ _ (if (none == some Value.none) = true then _ else _) _ X.xe s
  rw [if_neg (by simp)]
  refine wpAny_bind (wpAny_callSpecialUnlessNone?_none hT Zv.noIn ?_)
  refine wpAny_bind (wpAny_rule ?_)
  have ne : a ≠ s.heap.objs.size := Nat.ne_of_lt (Heap.lt_size ho)
  have old : ∀ {b : Addr} {ob : Obj} {o' : Obj}, s.heap.get? b = some ob → (s.heap.push o').get? b = some ob := fun e => Heap.get?_push_of_some _ e
  refine wpAny_bind (wpAny_tryCatch (wpAny_pyIter_values (d := a) (knd := mixKind X.prog X.w) ⟨_, vw, rfl, rfl⟩ da ?_))
  refine wpAny_bind (wpAny_runValue (in_vals (knd := mixKind X.prog X.w) (d := a) (kvs := vs) (ep := ep) (fun u => eqV (unV u) y) (I.ok.hd hc) ne ?_ vs.length 0 _ (by simp) ?_ ?_ ?_))
  · intro kv hm A0 s0
    obtain ⟨kw, h1, h2⟩ := kv_back rel kv hm
    rw [unV_of h2 (fk kw h1)]
    exact eqAt_V h2 ry (fk kw h1) fy
  · refine ⟨_, Heap.get?_push_size _ rfl, rfl, ?_⟩
    rfl
  · exact dictAt_keep da (by rw [ho]; exact old ho)
  · intro h' eb
    have I2 : Inv X pins σ H { s with heap := h' } := I.kept (t' := s.toks) fun b ob e => eb b ob (Nat.ne_of_lt (Heap.lt_size e)) (old e)
    refine wpAny_pure ?_
    rw [List.drop_zero, kv_any rel (fun u => eqV u y) fk]
    exact wpAny_pure ⟨.bl (kvs.any fun kv => eqV kv.2 y), H, I2, rfl, q⟩
end
section
variable {j : J} {Γ : Gm} {C : List Cell} {R : Ps} {p q : Pr} {pos apos cpos : Pos} {o ke : Expr}
/-- the view of a dict's values -/
def rVw (a : Addr) : Pr := ⟨fun F v => ∃ p, v = .ref p ∧ F p = some (viewO "dict_values" p a), fun s ⟨p, e, h⟩ => ⟨p, e, s _ _ h⟩⟩
theorem ok_vals {m : Addr} {kps : List (Key × Pr)} (hm : cK m kps ∈ C) (r : R C (rVw m)) : MtOk j Γ rVals (isR m) [] C R := fun Φ σ F H v vs Q x S e o K => by
  have e : v = .ref m := e
  subst e
  obtain ⟨kvs, h1, h2⟩ := S.dic hm
  cases o
  refine ⟨m, kvs, rfl, rfl, .inl h1, fun p hp => ?_⟩
  obtain ⟨S1, s1⟩ := S.newF (o := viewO "dict_values" p m) hp fine_ext
  exact K _ _ _ _ _ r S1 s1 ⟨p, rfl, upd_same⟩
theorem ty_D {m : Addr} {kps : List (Key × Pr)} (hm : cK m kps ∈ C) : TyOk j C (isR m) "dict" := fun tb Φ Γ σ F H v S e => by
  have e : v = .ref m := e
  subst e
  obtain ⟨kvs, h1, h2⟩ := S.dic hm
  exact .inr (.inr (.inl ⟨rfl, .inl ⟨kvs, h1⟩⟩))
/-- y in d.values(), plain values -/
theorem ok_inV {m : Addr} {tab : List (Key × V)} {y : V} (hm : cK m (flatK tab) ∈ C) (fy : flatV y = true) (fk : ∀ kv ∈ tab, flatV kv.2 = true) (r : R C (isB (tab.any fun kv => eqV kv.2 y))) : OpOk j Γ rInV (isV y) (rVw m) C R := fun Φ σ F H v w Q x S o1 o2 K => by
  have o1 : v = y := o1
  subst o1
  obtain ⟨p, e, h⟩ := o2
  obtain ⟨kvs, h1, h2⟩ := S.dic hm
  have z := flatK_on h2
  subst z
  have hH : H p = some (viewO "dict_values" p m) := by
    have z := S.subx p _ h
    rcases z with z | ⟨ob, z1, xs, z2⟩
    · exact z
    · cases z2
  exact ⟨p, m, kvs, e, hH, .inl h1, fy, fk, K.now S r rfl⟩
end
end Z

end
section
set_option Elab.async false
set_option linter.all false
set_option maxRecDepth 100000
set_option maxHeartbeats 1000000
/-! Z44: sorted of pairs (int, text). -/
namespace Z
open PySem PySem.Spec PyProof.Rows L2 SrtO Srt
/-- by the int, then by the text -/
def lexS (p q : Int × Str) : Bool := if p.1 = q.1 then decide (p.2.cps.toList < q.2.cps.toList) else decide (p.1 < q.1)
theorem swo_lexS {α : Type} (k : α → Int × Str) : Swo fun v u => lexS (k v) (k u) := by
  refine ⟨fun x y h => ?_, fun x y z h1 h2 => ?_⟩
  · unfold lexS at h ⊢
    by_cases e : (k x).1 = (k y).1
    · rw [if_pos e] at h
      rw [if_pos e.symm]
      exact decide_eq_false (List.lt_asymm (of_decide_eq_true h))
    · rw [if_neg e] at h
      rw [if_neg (Ne.symm e)]
      have := of_decide_eq_true h
      exact decide_eq_false (by omega)
  · unfold lexS at h1 h2 ⊢
    by_cases e1 : (k y).1 = (k x).1
    · rw [if_pos e1] at h1
      have n1 := of_decide_eq_false h1
      by_cases e2 : (k z).1 = (k y).1
      · rw [if_pos e2] at h2
        have n2 := of_decide_eq_false h2
        rw [if_pos (e2.trans e1)]
        refine decide_eq_false fun h => ?_
        exact absurd h (List.not_lt.mpr (List.le_trans (List.not_lt.mp n1) (List.not_lt.mp n2)))
      · rw [if_neg e2] at h2
        have n2 := of_decide_eq_false h2
        rw [if_neg (by omega)]
        exact decide_eq_false (by omega)
    · rw [if_neg e1] at h1
      have n1 := of_decide_eq_false h1
      by_cases e2 : (k z).1 = (k y).1
      · rw [if_neg (by omega)]
        exact decide_eq_false (by omega)
      · rw [if_neg e2] at h2
        have n2 := of_decide_eq_false h2
        rw [if_neg (by omega)]
        exact decide_eq_false (by omega)
section
variable {prog : Program} {w : World} {A : Around} {s : Shared} {E : Value → Shared → Prop}
def IsPS (h : Heap) (v : Value) (x : Int) (y : Str) : Prop := ∃ a o t u n, v = .ref a ∧ h.get? a = some o ∧ o.cls = .type "tuple" ∧ o.data = .seq #[.int x t, .str y u] n
theorem IsPS.keeps {h h' : Heap} {v : Value} {x : Int} {y : Str} (p : IsPS h v x y) (k : ∀ b o, h.get? b = some o → o.cls = .type "tuple" → h'.get? b = some o) : IsPS h' v x y := by
  obtain ⟨a, o, t, u, n, e, ho, hc, hd⟩ := p
  exact ⟨a, o, t, u, n, e, k _ _ ho hc, hc, hd⟩
theorem ps_cmp {vs : List Value} {k : Value → Int × Str} (hp : ∀ v ∈ vs, IsPS s.heap v (k v).1 (k v).2) : Cmp prog w A s (tuples' true) (fun p => p.1 ∈ vs) (lt2 fun v u => lexS (k v) (k u)) := by
  intro p q hm hm'
  have h1 := hp _ hm
  have h2 := hp _ hm'
  show wpAny (model prog w) A (keyLt' (tuples' true) p.1 q.1) (fun r s' => s' = s ∧ r = lexS (k p.1) (k q.1)) (fun _ _ => False) s
  unfold lexS
  generalize (k p.1).1 = x at h1 ⊢
  generalize (k p.1).2 = y at h1 ⊢
  generalize (k q.1).1 = x' at h2 ⊢
  generalize (k q.1).2 = y' at h2 ⊢
  obtain ⟨a, o, t, u, n, e, ho, hc, hd⟩ := h1
  obtain ⟨a', o', t', u', n', e', ho', hc', hd'⟩ := h2
  rw [e, e']
  refine PySem.W.kat_lt ho hd ho' hd' ?_
  show PySem.W.KatLex prog w A true (decide (2 < 2)) _ [(.int x t, .int x' t'), (.str y u, .str y' u')] 0 s
  refine PySem.W.kat_cons (SeqAt.EqAt.int_int x t x' t' prog w _ _ ?_)
  refine PySem.W.kat_go (fun e1 => ?_) (fun e1 => ?_)
  · have ex : x = x' := by simpa using e1
    refine PySem.W.kat_yes (PySem.W.kat_cons (SeqAt.EqAt.str_str y u y' u' prog w _ _ ?_))
    refine PySem.W.kat_go (fun e2 => ?_) (fun e2 => ?_)
    · have ey : y = y' := by simpa using e2
      have e3 : (if x = x' then decide (y.cps.toList < y'.cps.toList) else decide (x < x')) = false := by
        rw [if_pos ex, ey]
        exact decide_eq_false (List.lt_irrefl _)
      exact PySem.W.kat_yes (PySem.W.kat_nil ⟨rfl, e3.symm⟩)
    · have e3 : (if x = x' then decide (y.cps.toList < y'.cps.toList) else decide (x < x')) = decide (y.cps.toList < y'.cps.toList) := if_pos ex
      refine PySem.W.kat_no (PySem.W.kat_one _ _ (P.lt_str ?_))
      exact (show s = s ∧ decide (y.cps.toList < y'.cps.toList) = (if x = x' then decide (y.cps.toList < y'.cps.toList) else decide (x < x')) from ⟨rfl, e3.symm⟩)
  · have ex : ¬ x = x' := by simpa using e1
    have e3 : (if x = x' then decide (y.cps.toList < y'.cps.toList) else decide (x < x')) = decide (x < x') := if_neg ex
    exact PySem.W.kat_no (oneLt_int ⟨rfl, e3.symm⟩)
theorem ps_firsts {h : Heap} : ∀ {vs : List Value}, (∀ v ∈ vs, ∃ x y, IsPS h v x y) → ∃ fs : List Value, PySem.W.KatTups h vs fs ∧ fs.length = vs.length ∧ ∀ f ∈ fs, ∃ x t, f = Value.int x t
  | [], _ => ⟨[], PySem.W.KatTups.nil, rfl, fun _ hm => by simp at hm⟩
  | v :: vs, hp => by
    obtain ⟨fs, h1, h2, h3⟩ := ps_firsts (vs := vs) fun v' hm => hp v' (List.mem_cons_of_mem _ hm)
    obtain ⟨x, y, a, o, t, u, n, e, ho, hc, hd⟩ := hp v (List.mem_cons_self ..)
    subst e
    refine ⟨.int x t :: fs, PySem.W.KatTups.cons ho hc hd rfl h1, by rw [List.length_cons, List.length_cons, h2], fun f hm => ?_⟩
    rcases List.mem_cons.mp hm with rfl | hm
    · exact ⟨x, t, rfl⟩
    · exact h3 f hm
theorem ps_sortable {a : Addr} {vs : List Value} {k : Value → Int × Str} (h0 : 0 < vs.length) (hp : ∀ v ∈ vs, IsPS s.heap v (k v).1 (k v).2) (ha : ∀ o, s.heap.get? a = some o → o.cls ≠ .type "tuple") : SortableO prog w A s a vs fun v u => lexS (k v) (k u) := by
  intro h' keep
  have hp' : ∀ v ∈ vs, IsPS h' v (k v).1 (k v).2 := fun v hm => (hp v hm).keeps fun b o e c => keep b o (fun z => by subst z; exact ha o e c) e
  obtain ⟨fs, h1, h2, h3⟩ := ps_firsts fun v hm => ⟨_, _, hp' v hm⟩
  refine ⟨tuples' true, fun Q E hq => ?_, ps_cmp hp'⟩
  refine PySem.W.kat_kind (T := .type "int") h1 (by omega) (fun f hm => ?_) (by rfl) ?_
  · obtain ⟨x, t, rfl⟩ := h3 f hm
    exact PySem.W.Looks.now
  · have e : (Value.type "int" != Value.type "tuple") = true := by first | decide +kernel | rfl | decide
    rw [e]
    exact hq
theorem sorted_ps {l : Addr} {vs : List Value} {k : Value → Int × Str} {Q : Value → Shared → Prop} (hl : s.heap.IsList l vs.toArray) (hz : vs.length ≤ sizeLine) (hp : ∀ v ∈ vs, IsPS s.heap v (k v).1 (k v).2)
    (h : ∀ (h' : Heap) (d : Addr) (out : List Value), Srtd (fun v u => lexS (k v) (k u)) out → Stb (fun v u => lexS (k v) (k u)) out vs → (∀ b o, s.heap.get? b = some o → h'.get? b = some o) → s.heap.objs.size ≤ d → (∃ n, h'.get? d = some (seqObj "list" out.toArray n)) → Q (.ref d) { s with heap := h' }) :
    wpAny (model prog w) A (call (.builtin "sorted") [.ref l]) Q E s := by
  refine sorted_ord (swo_lexS k) hl hz (fun h2 h₁ a ha kk => ?_) fun out hs hb => ?_
  · refine ps_sortable (s := { s with heap := h₁ }) (by omega) (fun v hm => (hp v hm).keeps fun b o e _ => (kk b o e).2) fun o e => ?_
    have e' : some o = some (seqObj "list" vs.toArray 0) := e.symm.trans ha
    cases e'
    intro c
    exact absurd (Value.type.inj c) (by decide)
  · exact h _ _ out hs hb (fun b o e => sortedAll_old e) (Nat.le_succ _) (sortedAll_at s.heap vs out.toArray)
end
section
variable {X : L2.Cx}
def rSortPS (K : PySem.W.Frag) : List V → Hp → VK → Prop := fun vs H Q => ∃ (a : Addr) (xs : List V) (k : V → Int × Str), vs = [V.ref a] ∧ SqL K H a xs ∧ (∀ x ∈ xs, ∃ t, x = V.ref t ∧ H t = some (.tup [.int (k x).1, .str (k x).2])) ∧
  ∀ ys p, Srtd (fun x y => lexS (k x) (k y)) ys → ys.Perm xs → H p = none → Q (.ref p) (upd H p (.lst ys))
theorem cr_sortPS : CallR X (.builtin "sorted") (rSortPS X.K) := by
  intro pins s σ H vs us Q I r h
  obtain ⟨a, xs, k, rfl, hs, hx, q⟩ := h
  obtain ⟨its, rv, hl, hz⟩ := I.list hs
  obtain ⟨u, rfl, ru⟩ := vals1 r
  obtain rfl : u = Value.ref a := ru
  obtain ⟨e1, e2⟩ := refs_back rv fun x m => by
    obtain ⟨t, e, _⟩ := hx x m
    exact ⟨t, e⟩
  refine sorted_ps (k := fun u => k (backV u)) hl.isList (by rw [← rv.length]; exact hz) (fun v hv => ?_) fun h' d out h1 h2 kp hd hn => ?_
  · obtain ⟨t, rfl⟩ := e2 v hv
    have hm : V.ref t ∈ xs := by rw [e1]; exact List.mem_map.mpr ⟨_, hv, rfl⟩
    obtain ⟨t', e, ht⟩ := hx _ hm
    cases e
    obtain ⟨_, its2, r2, o, ho, hc, n, hd⟩ := I.hok _ _ ht
    obtain ⟨u1, u2, rfl, ri, rj⟩ := vals2 r2
    obtain ⟨t1, rfl⟩ := ri
    obtain ⟨t2, rfl⟩ := rj
    exact ⟨t, o, t1, t2, n, rfl, ho, hc, hd⟩
  · have h3 : ∀ u ∈ out, ∃ a, u = Value.ref a := fun u hu => e2 u (h2.perm.mem_iff.mp hu)
    obtain ⟨n, hn⟩ := hn
    have hb : (out.map backV).Perm xs := by
      rw [e1]
      exact h2.perm.map backV
    refine ⟨.ref d, upd H d (.lst (out.map backV)), I.laid (t' := s.toks) kp hd ⟨?_, out, n, vals_back h3, hn⟩, rfl, q _ d (srtd_map h1) hb (I.hok.fresh hd)⟩
    rw [hb.length_eq]
    exact hz
end
section
variable {j : J} {Γ : Gm} {C : List Cell} {R : Ps}
/-- a pair (int, text) -/
abbrev rPS (x : Int × Str) : Pr := rKt [.inl x.1, .inr x.2]
def keyF (F : Hp) (v : V) : Int × Str := match v with
  | .ref t => match F t with
    | some (.tup [.int i, .str s]) => (i, s)
    | _ => (0, Str.empty)
  | _ => (0, Str.empty)
theorem keyF_of {F : Hp} {v : V} {x : Int × Str} (h : (rPS x).on F v) : keyF F v = x ∧ ∃ t, v = .ref t ∧ F t = some (.tup [.int x.1, .str x.2]) := by
  obtain ⟨a, e, h⟩ := h
  subst e
  have h : F a = some (.tup [.int x.1, .str x.2]) := h
  refine ⟨?_, a, rfl, h⟩
  unfold keyF
  simp only [h]
theorem keyF_all {F : Hp} : ∀ {xs : List (Int × Str)} {vs : List V}, AllOn (xs.map rPS) F vs → vs.map (keyF F) = xs ∧ ∀ v ∈ vs, (rPS (keyF F v)).on F v
  | [], _, .nil => ⟨rfl, fun _ h => nomatch h⟩
  | x :: xs, v :: vs, .cons h r => by
    obtain ⟨h1, h2⟩ := keyF_all r
    have e := (keyF_of h).1
    refine ⟨by rw [List.map_cons, h1, e], fun w hw => ?_⟩
    rcases List.mem_cons.mp hw with z | z
    · subst z
      rw [e]
      exact h
    · exact h2 w z
theorem keyF_on {F : Hp} : ∀ {vs : List V}, (∀ v ∈ vs, (rPS (keyF F v)).on F v) → AllOn ((vs.map (keyF F)).map rPS) F vs
  | [], _ => .nil
  | v :: vs, h => .cons (h v List.mem_cons_self) (keyF_on fun w hw => h w (List.mem_cons_of_mem _ hw))
/-- sorted(xs): the pairs ys, rising -/
theorem ok_sortPS {xs : List (Int × Str)} (r : ∀ ys : List (Int × Str), ys.Perm xs → Srtd lexS ys → R C (rL (ys.map rPS))) : CallOk j Γ (rSortPS j.X.K) [rL (xs.map rPS)] C R := fun Φ σ F H vs Q x S o K => by
  obtain ⟨v, e, o⟩ := all1 o
  obtain ⟨a, us, ev, hl, ho⟩ := o
  obtain ⟨k1, k2⟩ := keyF_all ho
  refine ⟨a, us, keyF F, by rw [e, ev], .inl (S.sub _ _ hl), fun u hu => ?_, fun ys p hs hp hn => ?_⟩
  · obtain ⟨_, t, et, ht⟩ := keyF_of (k2 u hu)
    exact ⟨t, et, S.tupx ht⟩
  · refine K.newL S (r (ys.map (keyF F)) (by rw [← k1]; exact hp.map _) (srtd_map hs)) ?_ hn
    exact keyF_on fun v hv => k2 v (hp.mem_iff.mp hv)
end
end Z

end
section
set_option Elab.async false
set_option linter.all false
set_option maxRecDepth 100000
/-! Z45: texts sorted: there is just one such list. -/
namespace Z
open PySem PySem.Spec PyProof.Rows L2
theorem ltCps_dec : ∀ a b : List Nat, ltCps a b = decide (a < b)
  | [], [] => by simp [ltCps]
  | [], _ :: _ => by simp [ltCps]
  | _ :: _, [] => by simp [ltCps]
  | x :: a, y :: b => by
    rw [ltCps, ltCps_dec a b]
    simp only [List.cons_lt_cons_iff]
    by_cases h1 : x < y
    · simp [h1]
    · by_cases h2 : x = y
      · simp [h2]
      · simp [h1, h2]
def leT (a b : Str) : Prop := a.cps.toList ≤ b.cps.toList
theorem leT_anti {a b : Str} (h : leT a b) (k : leT b a) : a = b := by
  have e : a.cps.toList = b.cps.toList := List.le_antisymm h k
  obtain ⟨x⟩ := a
  obtain ⟨y⟩ := b
  have e : x = y := Array.toList_inj.mp e
  rw [e]
theorem risingS_all : ∀ {ys : List Str} {p : Str}, risingS p ys = true → ys.Pairwise leT ∧ ∀ y ∈ ys, leT p y
  | [], _, _ => ⟨.nil, fun _ h => nomatch h⟩
  | x :: r, p, h => by
    unfold risingS at h
    rw [Bool.and_eq_true, ltCps_dec] at h
    obtain ⟨h1, h2⟩ := h
    obtain ⟨k1, k2⟩ := risingS_all h2
    have hp : leT p x := List.not_lt.mp (by simpa using h1)
    refine ⟨List.pairwise_cons.mpr ⟨k2, k1⟩, fun y hy => ?_⟩
    rcases List.mem_cons.mp hy with e | hy
    · rw [e]; exact hp
    · exact List.le_trans hp (k2 y hy)
theorem sortedS_all {ys : List Str} (h : sortedS ys = true) : ys.Pairwise leT := by
  cases ys with
  | nil => exact .nil
  | cons x r =>
    obtain ⟨k1, k2⟩ := risingS_all (p := x) h
    exact List.pairwise_cons.mpr ⟨k2, k1⟩
theorem sort_uniq : ∀ {ys zs : List Str}, ys.Perm zs → ys.Pairwise leT → zs.Pairwise leT → ys = zs
  | [], zs, p, _, _ => (List.Perm.eq_nil p.symm).symm
  | x :: ys, [], p, _, _ => absurd p.length_eq (by simp)
  | x :: ys, z :: zs, p, h1, h2 => by
    obtain ⟨a1, a2⟩ := List.pairwise_cons.mp h1
    obtain ⟨b1, b2⟩ := List.pairwise_cons.mp h2
    have xz : leT x z := by
      rcases List.mem_cons.mp (p.mem_iff.mpr (List.mem_cons_self (a := z) (l := zs))) with e | e
      · rw [e]; exact List.le_refl _
      · exact a1 z e
    have zx : leT z x := by
      rcases List.mem_cons.mp (p.mem_iff.mp (List.mem_cons_self (a := x) (l := ys))) with e | e
      · rw [e]; exact List.le_refl _
      · exact b1 x e
    have e := leT_anti xz zx
    subst e
    rw [sort_uniq p.cons_inv a2 b2]
open Classical in
/-- the sorted list -/
noncomputable def srtT (ks : List Str) : List Str := if h : ∃ ys : List Str, ys.Perm ks ∧ sortedS ys = true then Classical.choose h else ks
theorem srtT_of {ys ks : List Str} (p : ys.Perm ks) (s : sortedS ys = true) : ys = srtT ks := by
  unfold srtT
  have h : ∃ ys : List Str, ys.Perm ks ∧ sortedS ys = true := ⟨ys, p, s⟩
  rw [dif_pos h]
  obtain ⟨q, t⟩ := Classical.choose_spec h
  exact sort_uniq (p.trans q.symm) (sortedS_all s) (sortedS_all t)
end Z

end
section
set_option Elab.async false
set_option linter.all false
set_option maxRecDepth 100000
/-! Z46: defs with defaults, instances made by fewer arguments. -/
namespace Z
open PySem PySem.Spec PyProof.Rows L2
section
variable {ω : Type} {tb : Tb} {p : Prom ω}
variable {j : J} {Γ : Gm} {C : List Cell} {R : Ps} {pos ppos apos : Pos} {e ob : Expr} {es : List Expr} {x : Str} {k : Nat} {f : Addr} {fd : FuncData} {ps : List Str}
/-- C(e, ..), the rest by defaults -/
theorem ev_makeD {Cl : Addr} {ds : List Value} {dvs : List V} {pds : List Pr} (M : Mk j.X.K Cl f) (Fn : FnOk j.X.prog j.X.w j.X.K j.X.mg j.X.base (L2.CX j.X.prog j.X.w) k f fd ps (p.sp j.tb)) (hr : Room (k + 1) j.X.A) (hm : j.X.mg x = some (.ref Cl)) (hb : Binds j.X.K fd ps ds) (hd : Vals dvs ds) (hv : ∀ F, AllOn pds F dvs)
    (h : Ea j Γ C (e :: es) fun C1 qs => ∀ a, ∃ o Cr, p.pre o ∧ isR a :: (qs ++ pds) = p.ps o ∧ (cI a Cl [] [] :: C1).Perm (p.C o ++ Cr) ∧ Made j p o Cr a R)
    (hg : Gl j.X x := by rfl) (hdb : (x == ("__debug__" : Str)) = false := by decide) (he : starEach (e :: es) j.X.env = (false, eval e j.X.env) :: starEach es j.X.env := by rfl) (hpl : (backTo pos (starEach es j.X.env)).any (·.1) = false := by rfl) :
    Ev j Γ C (.Call (.Name x ppos) (e :: es) [] pos) R := fun Φ σ F H Q xw S K =>
  we_of (pe_make M Fn hr hg hm hb hd (takes_w xw) pa_wa hdb he hpl) (h Φ σ F H _ xw S fun vs F1 H1 C1 qs hh S1 s1 o1 x dx nx nd ne => by
    exact sp_make S1 (K.same s1) (o1.append (hv F1)) nx nd ne hh)
variable {Pg : Program} {w : World} {K : PySem.W.Frag} {mg : Str → Option Value} {base : Heap} {st : Stmt} {qual : Str} {N : List Str}
theorem def_okD {x : Str} {dvs0 : List V} {kws0 : List (Str × V)} (Fn : FunD K x qual (defArgs st) (defBody st) (defScope st) dvs0 kws0 f fd) (Sc : FnScope N ps (defScope st)) (len : ∀ o, (p.ps o).length = ps.length)
    (body : ∀ (o : ω) (cdv : Value) (A : Around) (outer : List Env) (s : Shared) (H : Hp) (E : XK), p.pre o → Room k (A.deeper (envOfC qual (defScope st) s.heap.objs.size f cdv)) →
      PassesOwn (model Pg w) (cxOf (L2.CX Pg w) Pg w K mg base N qual (defScope st) f cdv A outer s H E).A (cxOf (L2.CX Pg w) Pg w K mg base N qual (defScope st) f cdv A outer s H E).env (cxOf (L2.CX Pg w) Pg w K mg base N qual (defScope st) f cdv A outer s H E).xe →
      Tr ⟨cxOf (L2.CX Pg w) Pg w K mg base N qual (defScope st) f cdv A outer s H E, tb, p.XP o⟩ ((p.ps o).map some ++ List.replicate (N.length - ps.length) none) (p.C o) (defBody st) { rt := p.R o, nx := fun _ C => p.R o C isN }) :
    FnOk Pg w K mg base (L2.CX Pg w) (k + 1) f fd ps (p.sp tb) := by
  refine FunD.ok Fn Sc (fun vs H Q E h => ?_) (fun cdv A outer s H vs Q E hr h => ?_)
  · obtain ⟨o, F, _, ha, _⟩ := h
    rw [← ha.length]
    exact len o
  · obtain ⟨o, F, hp, ha, S, kR, kX⟩ := h
    have tk : Takes (cxOf (L2.CX Pg w) Pg w K mg base N qual (defScope st) f cdv A outer s H E) (fun cls d _ H => E cls d H) := takes_of rfl rfl rfl rfl
    have t := body o cdv A outer s H E hp hr (passes_of (K := fun e s'' => L2.CX Pg w outer H s E e s'') rfl)
    refine ⟨Wb _ (defBody st), pss_wb, ?_⟩
    have xw : XW ⟨cxOf (L2.CX Pg w) Pg w K mg base N qual (defScope st) f cdv A outer s H E, tb, p.XP o⟩ (Fx.of F H (p.C o)) := tk.imp fun cls d σ H' ⟨C', F', h1, S'⟩ => kX cls d F' H' C' h1 S'
    have hl : vs.length = ps.length := by rw [← ha.length]; exact len o
    have env : EnvOk ((p.ps o).map some ++ List.replicate (N.length - ps.length) none) F (L2.start N vs) := by
      refine ⟨by unfold L2.start; simp [hl, len o], fun i q e => ?_⟩
      by_cases hi : i < (p.ps o).length
      · rw [List.getElem?_append_left (by simpa using hi), List.getElem?_map] at e
        cases q' : (p.ps o)[i]? with
        | none => rw [q'] at e; cases e
        | some q2 =>
          rw [q'] at e
          cases e
          obtain ⟨v, h1, h2⟩ := ha.get q'
          refine ⟨v, ?_, h2⟩
          unfold L2.start
          rw [List.getElem?_append_left (by rw [List.length_map, ← ha.length]; exact hi), List.getElem?_map, h1]
          rfl
      · rw [List.getElem?_append_right (by simpa using hi), List.getElem?_replicate] at e
        split at e <;> cases e
    refine (t _ _ F H xw (S.env' env)).mono (fun σ' H' ⟨Γ', C', F', n, S'⟩ => ?_) (fun v H' ⟨Γ', C', F', σ', ρ, r, S', o'⟩ => kR v F' H' C' ρ r S'.noenv o') (fun σ' H' ⟨Γ', C', F', n, S'⟩ => n.elim) fun σ' H' ⟨Γ', C', F', n, S'⟩ => n.elim
    exact kR .non F' H' C' isN n S'.noenv rfl
end
end Z

end
section
set_option Elab.async false
set_option linter.all false
set_option maxRecDepth 100000
/-! Z47: a method without arguments that leaves all as it was; perms of the first few. -/
namespace Z
open PySem PySem.Spec PyProof.Rows L2
section
variable {ω : Type} {p : Prom ω} {j : J} {Γ : Gm} {C : List Cell} {R : Ps} {pos apos : Pos} {ob : Expr} {k : Nat} {f : Addr} {fd : FuncData} {ps : List Str}
theorem ev_methS0 {Cl : Addr} {m : Str} (Fn : FnOk j.X.prog j.X.w j.X.K j.X.mg j.X.base (L2.CX j.X.prog j.X.w) k f fd ps (p.sp j.tb)) (hr : Room k j.X.A) (cl : Cls j.X.K Cl) (hm : Meth j.X.K Cl m f) (hb : Binds j.X.K fd ps [])
    (h : Ev j Γ C ob fun C0 q0 => InsOk j C0 q0 Cl m ∧ ∃ o Cr, p.pre o ∧ [q0] = p.ps o ∧ C0.Perm (p.C o ++ Cr) ∧ Calm p o C0 R) {pl : Sem Bool}
    (ht : eval (.Call (.Attribute ob m apos) [] [] pos) j.X.env = (do
      let ov ← eval ob j.X.env
      standAt apos.atName
      let (f, first) ← holding [ov] (getMethod ov m pl)
      callWith pos f first (backTo pos (starEach [] j.X.env)) (backToKw pos (keywordEach [] j.X.env))) := by rfl) :
    Ev j Γ C (.Call (.Attribute ob m apos) [] [] pos) R :=
  ev_permR (ev_meth0 Fn hr cl hm hb (h.imp fun C0 q0 ⟨io, o, Cr, h1, h2, h3, h4, h5⟩ => ⟨io, o, Cr, h1, h2, h3, fun C' ρ r => by
    obtain ⟨e1, e2⟩ := h4 C' ρ r
    subst e1
    exact ⟨C0, h3.symm, e2⟩, fun cls C' r => (h5 cls C' r).elim⟩) (pl := pl) ht)
theorem perm_b {α : Type} (a b : α) (l : List α) : (a :: b :: l).Perm (b :: a :: l) := .swap _ _ _
theorem perm_bc {α : Type} (a b c : α) (l : List α) : (a :: b :: c :: l).Perm (b :: c :: a :: l) := (List.Perm.swap _ _ _).trans (.cons _ (.swap _ _ _))
theorem perm_de {α : Type} (a b c d e : α) (l : List α) : (a :: b :: c :: d :: e :: l).Perm (d :: e :: a :: b :: c :: l) := by
  have h : (a :: b :: c :: d :: e :: l) = [a, b, c] ++ ([d, e] ++ l) := rfl
  rw [h]
  exact (List.perm_append_comm_assoc _ _ _)
end
section
variable {j : J} {Γ : Gm} {C : List Cell} {R : Ps} {scope : Scope} {k : Nat} {P c : Addr} {nm : Nat → Nat → Str} {gpos pos pp apos cpos : Pos} {src iter tg elt : Expr} {g : TG} {ifs : List Expr} {own : List (Str × Nat)}
theorem ev_anyV2 (hi : iter = .Call (.Attribute src "values" apos) [] [] cpos) (G : GOk j scope own k iter tg g P c nm gpos) (hbase : attributeBase src "values" j.X.env (eval src j.X.env) = eval src j.X.env) (hline : (apos.endLine == cpos.line) = true) (hr : Room (k + 3) j.X.A) (hmg : j.X.mg "any" = none)
    (h : GLS j scope k Γ C rdV (own.map (·.2)) g src elt ifs (szAny R) fun C' acc => R C' (isB false)) (hG : Gl j.X "any" := by rfl)
    (hst : starEach [.GeneratorExp elt [⟨tg, iter, ifs, 0⟩] scope gpos] j.X.env = (false, eval (.GeneratorExp elt [⟨tg, iter, ifs, 0⟩] scope gpos) j.X.env) :: starEach [] j.X.env := by rfl) :
    Ev j Γ C (.Call (.Name "any" pp) [.GeneratorExp elt [⟨tg, iter, ifs, 0⟩] scope gpos] [] pos) R := by
  subst hi
  exact ev_anyV G hbase hline hr hmg h hG hst
end
end Z

end
section
set_option Elab.async false
set_option linter.all false
set_option maxRecDepth 100000
/-! Z48: xs + ys as a new cell. -/
namespace Z
open PySem PySem.Spec PyProof.Rows L2
section
variable {j : J} {Γ : Gm} {C : List Cell} {R : Ps} {p q : Pr} {ps : List Pr}
theorem okA_addLC {qs : List Pr} (hp : LstOk j C p ps) (hq : LstOk j C q qs) (hz : ps.length + qs.length ≤ sizeLine) (r : ∀ m, R (cL m (ps ++ qs) :: C) (isR m)) : OpOk j Γ (rAddA j.X.K) p q C R := .inr (.inr (.inl fun Φ σ F H v w Q x S o1 o2 K => by
  obtain ⟨a, xs, e1, h1, k1⟩ := hp _ _ _ _ _ _ _ S o1
  obtain ⟨b, ys, e2, h2, k2⟩ := hq _ _ _ _ _ _ _ S o2
  exact ⟨a, b, xs, ys, e1, e2, h1, h2, by rw [← k1.length, ← k2.length]; exact hz, fun l hl => K.newCL S (r l) (k1.append k2) hl⟩))
end
end Z

end
section
set_option Elab.async false
set_option linter.all false
set_option maxRecDepth 100000
set_option maxHeartbeats 1000000
/-! Z49: a name set to a comprehension over a dict's keys (locked) or any list; small things of use for the laws. -/
namespace Z
open PySem PySem.Spec PyProof.Rows L2
section
variable {j : J} {Γ : Gm} {C : List Cell} {R : Ps} {P : Po} {rest : List Stmt} {pos pos2 : Pos} {scope : Scope} {own : List (Str × Nat)} {g : TG} {tg iter elt : Expr} {ifs : List Expr}
theorem tr_setLcK (k : Nat) (c : Nat) {d : Addr} {kps : List (Key × Pr)} {y : Str} {py : Pos} (hc0 : C[c]? = some (cK d kps))
    (h : ∀ od kvs, kps.map Prod.fst = kvs.map Prod.fst → LcS (jq j) scope Γ (C.set c (cZ d od kvs kps)) rdK (own.map (·.2)) g iter elt ifs fun C' z => ∃ i, C'[i]? = some (cZ d od kvs kps) ∧ Tr j (Γ.set k (some z)) (C'.set i (cK d kps)) rest P)
    (hN : j.X.N.Nodup) (ok : BlkOk j.X.N j.X.env.scope scope own) (hc : j.X.calm = true)
    (hg : ∀ (s : Shared) (H : Hp) (Cc : Addr) (cl : List (Str × Addr)) (fp : List Addr), PG (j.X.blk s H scope (compEnvC scope cl Cc j.X.env) fp) tg g)
    (hsw : swapsWith (.ListComp elt [⟨tg, iter, ifs, 0⟩] scope pos) (some (.Name y py)) pos2.line j.X.env = pure true) (hy : j.X.N[k]? = some y := by rfl) (hyl : j.X.env.scope.names.lookup y = some .local := by rfl) (hs : ∀ x, foldedSetIterable iter j.X.env x = pure x := by intro _; rfl) :
    Tr j Γ C (.Assign [.Name y py] (.ListComp elt [⟨tg, iter, ifs, 0⟩] scope pos) pos2 :: rest) P :=
  tr_lift (ps_lock (ps_setLc (own := own) hc hN hy hyl hsw (pi_keys pe_we) ok hg (pts_wifB (j := jq j)) (pe_weB (j := jq j)) hs)) fun Φ σ F H xw S => by
    obtain ⟨kvs, h1, h2, h3⟩ := S.lockD hc0
    have xq : XW (jq j) Φ := xw_none fun _ _ z => z
    refine ⟨d, .dK kvs, h1, True.intro, fun od => ?_⟩
    refine lc_readS (j := jq j) (fun _ _ _ h => rd_keys h) (h od kvs h2.keys) xq (h3 od) fun v F1 H1 C1 z ⟨i, hz, t⟩ S1 s1 o1 => ?_
    obtain ⟨u, q1, ⟨q2, q3⟩, _⟩ := S1.cells.at_ _ (List.mem_of_getElem? hz)
    subst q2
    exact ⟨q1, t Φ _ F1 _ xw ((S1.puti (c := cZ d od kvs kps) (c' := cK d kps) hz rfl q1 (fun _ z => nomatch z) ⟨kvs, rfl, q3⟩).setv k o1)⟩
theorem tr_setLcS (k : Nat) {y : Str} {py : Pos} (h : LcS j scope Γ C (rdL j.X.K) (own.map (·.2)) g iter elt ifs fun C1 z => Tr j (Γ.set k (some z)) C1 rest P) (hN : j.X.N.Nodup) (ok : BlkOk j.X.N j.X.env.scope scope own) (hc : j.X.calm = true)
    (hg : ∀ (s : Shared) (H : Hp) (Cc : Addr) (cl : List (Str × Addr)) (fp : List Addr), PG (j.X.blk s H scope (compEnvC scope cl Cc j.X.env) fp) tg g)
    (hsw : swapsWith (.ListComp elt [⟨tg, iter, ifs, 0⟩] scope pos) (some (.Name y py)) pos2.line j.X.env = pure true) (hy : j.X.N[k]? = some y := by rfl) (hyl : j.X.env.scope.names.lookup y = some .local := by rfl) (hs : ∀ x, foldedSetIterable iter j.X.env x = pure x := by intro _; rfl) :
    Tr j Γ C (.Assign [.Name y py] (.ListComp elt [⟨tg, iter, ifs, 0⟩] scope pos) pos2 :: rest) P :=
  tr_lift (ps_setLc (own := own) hc hN hy hyl hsw (pi_list pe_we) ok hg pts_wifB pe_weB hs) fun Φ σ F H xw S =>
    lc_readS (fun _ _ _ h => rd_list h) h xw S fun v F1 H1 C1 z t S1 s1 o1 => t Φ _ F1 H1 xw (S1.setv k o1)
end
theorem cutP_take (ps : List Pr) (h : Nat) : cutP ps none (some (h : Int)) = ps.take h := by
  unfold cutP
  have e1 : HT.sIx ps.length ps.length (some (h : Int)) = min h ps.length := HT.sIx_nat _ _ h
  have e2 : HT.sIx ps.length 0 none = 0 := rfl
  rw [e1, e2, List.drop_zero, Nat.sub_zero]
  by_cases q : h ≤ ps.length
  · rw [Nat.min_eq_left q]
  · rw [Nat.min_eq_right (by omega), List.take_of_length_le (Nat.le_refl _), List.take_of_length_le (by omega)]
theorem cutP_drop (ps : List Pr) (h : Nat) : cutP ps (some (h : Int)) none = ps.drop h := by
  unfold cutP
  have e1 : HT.sIx ps.length 0 (some (h : Int)) = min h ps.length := HT.sIx_nat _ _ h
  have e2 : HT.sIx ps.length ps.length none = ps.length := rfl
  rw [e1, e2]
  by_cases q : h ≤ ps.length
  · rw [Nat.min_eq_left q]
    exact List.take_of_length_le (by rw [List.length_drop]; omega)
  · rw [Nat.min_eq_right (by omega), Nat.sub_self, List.take_zero, List.drop_of_length_le (by omega)]
theorem cutP_mid (ps : List Pr) (a b : Nat) : cutP ps (some (a : Int)) (some (b : Int)) = (ps.drop a).take (b - a) := by
  unfold cutP
  have e1 : HT.sIx ps.length 0 (some (a : Int)) = min a ps.length := HT.sIx_nat _ _ a
  have e2 : HT.sIx ps.length ps.length (some (b : Int)) = min b ps.length := HT.sIx_nat _ _ b
  rw [e1, e2]
  by_cases q : a ≤ ps.length
  · rw [Nat.min_eq_left q]
    by_cases q2 : b ≤ ps.length
    · rw [Nat.min_eq_left q2]
    · have h1 : (ps.drop a).take (ps.length - a) = ps.drop a := List.take_of_length_le (by rw [List.length_drop]; omega)
      have h2 : (ps.drop a).take (b - a) = ps.drop a := List.take_of_length_le (by rw [List.length_drop]; omega)
      rw [Nat.min_eq_right (by omega), h1, h2]
  · have h1 : ps.drop ps.length = [] := List.drop_of_length_le (Nat.le_refl _)
    have h2 : ps.drop a = [] := List.drop_of_length_le (by omega)
    have h3 : min a ps.length = ps.length := Nat.min_eq_right (by omega)
    rw [h3, h1, h2, List.take_nil, List.take_nil]
theorem perm_of {l l' : List Cell} (h : ∀ (_ : DecidableEq Cell) (c : Cell), l.count c = l'.count c) : l.Perm l' := by
  classical
  exact List.perm_iff_count.mpr fun c => h _ c
theorem ne_no {v : V} : (!decide (v = v)) = false := by simp
theorem perm0 {C : List Cell} : C.Perm (C ++ []) := by rw [List.append_nil]
theorem away0 {ω : Type} {j : J} {p : Prom ω} {o : ω} {R : Ps} (hR : ∀ C' ρ, p.R o C' ρ → R C' ρ) (hX : ∀ cls C', p.XP o cls C' → j.XP cls C') : Away j p o [] R := ⟨fun C' ρ h => by rw [List.append_nil]; exact hR _ _ h, fun cls C' h => by rw [List.append_nil]; exact hX _ _ h⟩
/-- a place within a list of values -/
theorem pick {α : Type} (f : α → Pr) {l : List α} {r : Int} (h0 : 0 ≤ r) (h1 : r < l.length) : ∃ x ∈ l, atI (l.map f) r = some (f x) := by
  obtain ⟨n, rfl⟩ : ∃ n : Nat, r = n := ⟨r.toNat, by omega⟩
  have hn : n < l.length := by omega
  exact ⟨l[n], List.getElem_mem hn, atI_nat (by rw [List.getElem?_map, List.getElem?_eq_getElem hn]; rfl)⟩
section
variable {j : J} {Γ : Gm} {C : List Cell} {R : Ps}
theorem ok_slS {z : Str} {lo hi : Option Int} (hz : z.length ≤ sizeLine) (r : R C (isS (cutS z lo hi))) : SlOk j Γ rSlS (isS z) lo hi C R := fun Φ σ F H v Q x S o K => by
  have ev : v = .str z := o
  subst ev
  exact ⟨z, rfl, hz, K.now S r rfl⟩
theorem tup_K {k : List Key} : TupOk j (rKt k) (k.map fun x => isV (kV x)) := fun tb Φ Γ C σ F H v S o => tup_F tb Φ Γ C σ F H v S (rKt_rT o)
theorem okA_ixK {ks : List Key} {i : Nat} {k : Key} (e : ks[i]? = some k) (r : R C (isV (kV k))) : OpOk j Γ (rIxA j.X.K) (rKt ks) (isI (i : Int)) C R := okA_ixT tup_K (atI_nat (by rw [List.getElem?_map, e]; rfl)) r
end
end Z

end
section
set_option Elab.async false
set_option linter.all false
set_option maxRecDepth 100000
set_option maxHeartbeats 1000000
/-! Z50: what is walked, of any kind, and all that walks over it: for, list and dict comprehensions, generator expressions. -/
namespace Z
open PySem PySem.Spec PyProof.Rows L2
section
variable {tb : Tb} {Φ : Fx} {Γ : Gm} {C : List Cell} {σ : L2.St} {F H : Hp}
/-- a tuple that stands in the heap may be frozen -/
theorem Sta.adoptT (S : Sta tb Φ Γ C σ F H) {q : Addr} {xs : List V} (e : H q = some (.tup xs)) : ∃ F', L2.Same F F' ∧ F' q = some (.tup xs) ∧ (∀ b, b ≠ q → F' b = F b) ∧ Sta tb Φ Γ C σ F' H := by
  cases hF : F q with
  | some o =>
    have eo : o = .tup xs := by
      rcases S.subx q o hF with h | ⟨ob, h, _⟩
      · rw [e] at h; exact (Option.some.inj h).symm
      · rw [e] at h; cases h
    subst eo
    exact ⟨F, L2.Same.refl F, hF, fun _ _ => rfl, S⟩
  | none =>
    have s := same_new (u := .tup xs) hF
    have nc : ∀ c ∈ C, c.a ≠ q := fun c hc z => by
      obtain ⟨w, q1, q2, _⟩ := S.cells.at_ c hc
      rw [z, e] at q1
      exact c.ntu q2 xs (Option.some.inj q1).symm
    refine ⟨upd F q (.tup xs), s, upd_same, fun b hb => upd_ne hb, S.env.mono s, ⟨fun c hc => ?_, S.cells.nd⟩, fun b o h => ?_, fun b o h => ?_, S.tab.grow s, fun b o h => s _ _ (S.base _ _ h), ⟨fun b o h n => ?_, S.fresh.tu⟩, S.keep, S.own, S.there⟩
    · obtain ⟨w, q1, q2, q3⟩ := S.cells.at_ c hc
      exact ⟨w, q1, c.mono s q2, by rw [upd_ne (nc c hc)]; exact q3⟩
    · by_cases hb : b = q
      · subst hb
        rw [upd_same] at h
        cases h
        exact .inl e
      · rw [upd_ne hb] at h
        exact S.subx b o h
    · by_cases hb : b = q
      · subst hb
        rw [upd_same] at h
        cases h
        exact ⟨fun _ z => (nomatch z), fun _ _ z => (nomatch z)⟩
      · rw [upd_ne hb] at h
        exact S.fine b o h
    · by_cases hb : b = q
      · subst hb
        rw [upd_same] at h
        cases h
        rcases S.fresh.tu b xs e with w | w
        · exact .inl w
        · exact .inr ⟨xs, rfl, w⟩
      · rw [upd_ne hb] at h
        exact S.fresh.fr b o h n
end
/-- ps are walked, as long as Kp holds of the cells -/
def It2 (j : J) (F1 : Hp) (Kp : List Cell → Prop) (it : It) (ps : List Pr) : Prop := ∀ (Φ : Fx) (Γ : Gm) (C : List Cell) (σ : L2.St) (F H : Hp), L2.Same F1 F → Sta j.tb Φ Γ C σ F H → Kp C →
  (∀ i, i < ps.length → it.go i H) ∧ it.stop ps.length H ∧ ∀ i x H' q, ps[i]? = some q → it.yld i H x H' → ∃ F', L2.Same F F' ∧ Sta j.tb Φ Γ C σ F' H' ∧ q.on F' x ∧ ∀ a o, H a = some o → H' a = some o ∧ (F a = none → (∀ xs, o ≠ .tup xs) → F' a = none)
/-- what stands behind «in», over the target tg -/
def Sr (j : J) (Γ : Gm) (C : List Cell) (tg iter : Expr) (K : List Cell → List Pr → (List Cell → Prop) → Prop) : Prop := ∃ wi : TI, PI j.X tg iter wi ∧
  ∀ Φ σ F H (R : It → Hp → Prop), XW j Φ → Sta j.tb Φ Γ C σ F H → (∀ it F' H' C' ps Kp, K C' ps Kp → Sta j.tb Φ Γ C' σ F' H' → L2.Same F F' → It2 j F' Kp it ps → R it H') → wi σ H R
theorem it2_of {j : J} {F1 : Hp} {Kp : List Cell → Prop} {it : It} {ps : List Pr} (h : SrcAt j F1 Kp it ps) : It2 j F1 Kp it ps := fun Φ Γ C σ F H s S k => by
  obtain ⟨a, b, c⟩ := h Φ Γ C σ F H s S k
  refine ⟨a, b, fun i x H' q hq y => ?_⟩
  obtain ⟨e, o⟩ := c i x H' q hq y
  subst e
  exact ⟨F, L2.Same.refl F, S, o, fun _ _ e => ⟨e, fun n _ => n⟩⟩
section
variable {j : J} {Γ : Gm} {C : List Cell} {tg iter src : Expr} {K : List Cell → List Pr → (List Cell → Prop) → Prop}
/-- by a reading of one value -/
theorem sr_of {rd : V → Hp → It → Prop} {wi : TI} (hi : PI j.X tg iter wi) (hw : ∀ σ H R, We j.X src σ H (fun x H1 => ∃ it, rd x H1 it ∧ R it H1) → wi σ H R)
    (h : Ev j Γ C src fun C1 p => ∃ ps Kp, SrcOk j rd C1 p ps Kp ∧ K C1 ps Kp) : Sr j Γ C tg iter K :=
  ⟨wi, hi, fun Φ σ F H R xw S k => hw σ H R (h Φ σ F H _ xw S fun v F1 H1 C1 p ⟨ps, Kp, sr, kk⟩ S1 s1 o1 => by
    obtain ⟨it, hrd, at_⟩ := sr S1 o1
    exact ⟨it, hrd, k it F1 H1 C1 ps Kp kk S1 s1 (it2_of at_)⟩)⟩
/-- a list, frozen or of a cell: so_rL, so_cL -/
theorem sr_list (h : Ev j Γ C src fun C1 p => ∃ ps Kp, SrcOk j (rdL j.X.K) C1 p ps Kp ∧ K C1 ps Kp) : Sr j Γ C tg src K := sr_of (pi_list pe_we) (fun _ _ _ => rd_list) h
/-- a frozen list -/
theorem sr_L (h : Ev j Γ C src fun C1 p => ∃ ps, p = rL ps ∧ K C1 ps fun _ => True) : Sr j Γ C tg src K := sr_list (h.imp fun C1 p ⟨ps, e, k⟩ => ⟨ps, _, by rw [e]; exact so_rL, k⟩)
/-- the keys of a dict (locked) -/
theorem sr_K (h : Ev j Γ C src fun C1 p => ∃ d od kvs kps, p = isR d ∧ cZ d od kvs kps ∈ C1 ∧ K C1 (kps.map fun kp => isV (kV kp.1)) fun C' => cZ d od kvs kps ∈ C') : Sr j Γ C tg src K :=
  sr_of (pi_keys pe_we) (fun _ _ _ => rd_keys) (h.imp fun C1 p ⟨d, od, kvs, kps, e, m, k⟩ => ⟨_, _, by rw [e]; exact so_K m, k⟩)
/-- a frozen tuple -/
theorem sr_T (h : Ev j Γ C src fun C1 p => ∃ ps, p = rT j.X.K ps ∧ K C1 ps fun _ => True) : Sr j Γ C tg src K :=
  ⟨_, pi_tup pe_we, fun Φ σ F H R xw S k => h Φ σ F H _ xw S fun v F1 H1 C1 p ⟨ps, e, kk⟩ S1 s1 o1 => by
    subst e
    obtain ⟨al, vs, ev, hl, ho⟩ := o1
    refine ⟨al, ev, ⟨vs, S1.seqT hl⟩, k _ F1 H1 C1 ps _ kk S1 s1 (it2_of (src_at walk_tup fun _ _ _ _ _ _ s S' _ => ⟨S'.seqT (seqT_mono s hl), ho.mono s⟩))⟩⟩
/-- a text's signs -/
theorem sr_S (h : Ev j Γ C src fun C1 p => ∃ z : Str, p = isS z ∧ K C1 (z.cps.toList.map fun c => isS ⟨#[c]⟩) fun _ => True) : Sr j Γ C tg src K :=
  ⟨_, pi_str pe_we, fun Φ σ F H R xw S k => h Φ σ F H _ xw S fun v F1 H1 C1 p ⟨z, e, kk⟩ S1 s1 o1 => by
    subst e
    have ev : v = .str z := o1
    subst ev
    refine ⟨z, rfl, k _ F1 H1 C1 _ _ kk S1 s1 fun Φ' Γ' C' σ' F' H' s S' _ => ?_⟩
    have hl : (z.cps.toList.map fun c => isS ⟨#[c]⟩).length = z.cps.size := by rw [List.length_map]; rfl
    refine ⟨fun i hi => by rw [hl] at hi; exact hi, by rw [hl]; exact Nat.le_refl _, fun i x H'' q hq y => ?_⟩
    obtain ⟨e1, c, e2, e3⟩ := y
    subst e1
    rw [List.getElem?_map] at hq
    have e2 : z.cps.toList[i]? = some c := by rw [← e2]; simp
    rw [e2] at hq
    have hq : isS ⟨#[c]⟩ = q := Option.some.inj hq
    subst hq
    exact ⟨F', L2.Same.refl _, S', e3, fun _ _ e => ⟨e, fun n _ => n⟩⟩⟩
/-- range(n) -/
theorem sr_R {p pos : Pos} {a : Expr} (hm : j.X.mg "range" = none) (h : Ev j Γ C a fun C1 q => ∃ m : Nat, q = isI m ∧ m < 2 ^ 62 ∧ K C1 ((List.range m).map fun i => isI (i : Nat)) fun _ => True) (hg : Gl j.X "range" := by rfl) (hs : starEach [a] j.X.env = [(false, eval a j.X.env)] := by rfl) : Sr j Γ C tg (.Call (.Name "range" p) [a] [] pos) K :=
  ⟨_, pi_range1 hg hm (pa_cons (e := a) (es := []) pe_we pa_nil hs) hs, fun Φ σ F H R xw S k => h Φ σ F H _ xw S fun v F1 H1 C1 q ⟨m, e, hm', kk⟩ S1 s1 o1 => by
    subst e
    have ev : v = .int (m : Nat) := o1
    subst ev
    refine ⟨(m : Nat), rfl, by omega, by omega, k _ F1 H1 C1 _ _ kk S1 s1 fun Φ' Γ' C' σ' F' H' s S' _ => ?_⟩
    have hl : ((List.range m).map fun i => isI (i : Nat)).length = m := by rw [List.length_map, List.length_range]
    have ht : ((m : Nat) : Int).toNat = m := Int.toNat_natCast m
    refine ⟨fun i hi => by rw [hl] at hi; show i < ((m : Nat) : Int).toNat; rw [ht]; exact hi, by rw [hl]; show ((m : Nat) : Int).toNat ≤ m; rw [ht]; exact Nat.le_refl _, fun i x H'' q hq y => ?_⟩
    obtain ⟨e1, e2⟩ := y
    subst e1
    have hi : i < m := by have := (List.getElem?_eq_some_iff.mp hq).1; rw [hl] at this; exact this
    rw [List.getElem?_map, List.getElem?_range hi] at hq
    have hq : isI ((i : Nat) : Int) = q := Option.some.inj hq
    subst hq
    exact ⟨F', L2.Same.refl _, S', by rw [e2]; show V.int (0 + ((i : Nat) : Int)) = _; rw [Int.zero_add], fun _ _ e => ⟨e, fun n _ => n⟩⟩⟩
end
/-! ### a thing beside, kept -/
theorem keepD {F H H' : Hp} {D : Addr} {o : HO} {F' : Hp} (h : ∀ a o, H a = some o → H' a = some o ∧ (F a = none → (∀ xs, o ≠ .tup xs) → F' a = none)) (e : H D = some o) (n : F D = none) (nt : ∀ xs, o ≠ .tup xs) : H' D = some o ∧ F' D = none := ⟨(h D o e).1, (h D o e).2 n nt⟩
end Z

end
section
set_option Elab.async false
set_option linter.all false
set_option maxRecDepth 100000
set_option maxHeartbeats 1000000
/-! Z51: for, list comprehensions and generator expressions over any source. -/
namespace Z
open PySem PySem.Spec PyProof.Rows L2
section
variable {j : J} {Γ : Gm} {C : List Cell} {P : Po} {rest body : List Stmt} {tg e : Expr} {pos : Pos}
theorem tr_forU (I : Nat → Gm → List Cell → Prop) (N : Gm → List Cell → Prop)
    (k : Sr j Γ C tg e fun C1 ps Kp => I 0 Γ C1 ∧ (∀ n Γ' C', I n Γ' C' → Kp C') ∧
      (∀ i q Γ' C', ps[i]? = some q → I i Γ' C' → Eg j Γ' C' tg q fun Γ2 C2 => Tr j Γ2 C2 body { nx := I (i + 1), ct := I (i + 1), bk := N, rt := P.rt }) ∧ (∀ Γ' C', I ps.length Γ' C' → N Γ' C'))
    (kr : ∀ Γ' C', N Γ' C' → Tr j Γ' C' rest P) (hp : PassesOwn (model j.X.prog j.X.w) j.X.A j.X.env j.X.xe) (hc : j.X.calm = true) (hs : ∀ x, foldedSetIterable e j.X.env x = pure x := by intro _; rfl) : Tr j Γ C (.For tg e body [] pos :: rest) P := by
  obtain ⟨wi, hi, h⟩ := k
  refine tr_lift (ps_for hp hc hi pg_wg pss_wb hs) fun Φ σ F H x S => h Φ σ F H _ x S fun it F1 H1 C1 ps Kp ⟨i0, ik, turn, fin⟩ S1 s1 at_ => ?_
  refine ⟨fun i m σ' H' => m = ps.length - i ∧ i ≤ ps.length ∧ ∃ Γ' C' F', I i Γ' C' ∧ Sta j.tb Φ Γ' C' σ' F' H' ∧ L2.Same F1 F', ⟨ps.length, by simp, Nat.zero_le _, Γ, C1, F1, i0, S1, L2.Same.refl _⟩, ?_⟩
  rintro i m σ' H' ⟨rfl, hn, Γ', C', F', i', S', s'⟩
  obtain ⟨hgo, hst, hyl⟩ := at_ _ _ _ _ _ _ s' S' (ik _ _ _ i')
  by_cases hlt : i < ps.length
  · refine .inr ⟨hgo i hlt, fun σ2 H2 => ∃ Γ2 C2 F2, I (i + 1) Γ2 C2 ∧ Sta j.tb Φ Γ2 C2 σ2 F2 H2 ∧ L2.Same F1 F2, fun σ2 H2 q => ⟨ps.length - (i + 1), by omega, rfl, hlt, q⟩, fun y H2 yl => ?_⟩
    obtain ⟨F2, s2, S2, o2, _⟩ := hyl i y H2 _ (List.getElem?_eq_getElem hlt) yl
    refine turn i ps[i] Γ' C' (List.getElem?_eq_getElem hlt) i' Φ σ' F2 H2 y _ x S2 o2 fun Γ3 C3 σ3 F3 H3 t3 S3 s3 => ?_
    refine Wb.mono (Tr.at t3 x S3) (fun σ4 H4 ⟨Γ4, C4, F4, n4, S4, s4⟩ => ⟨Γ4, C4, F4, n4, S4, ((s'.trans s2).trans s3).trans s4⟩) (fun v4 H4 ⟨Γ4, C4, F4, σ4, ρ4, r4, S4, o4, _⟩ => ⟨Γ4, C4, F4, σ4, ρ4, r4, S4, o4⟩) (fun σ4 H4 ⟨Γ4, C4, F4, n4, S4, s4⟩ => ?_) fun σ4 H4 ⟨Γ4, C4, F4, n4, S4, s4⟩ => ⟨Γ4, C4, F4, n4, S4, ((s'.trans s2).trans s3).trans s4⟩
    exact kr Γ4 C4 n4 Φ σ4 F4 H4 x S4
  · have en : i = ps.length := by omega
    subst en
    exact .inl ⟨hst, kr Γ' C' (fin Γ' C' i') Φ σ' F' H' x S'⟩
end
/-! ### list comprehensions -/
section
variable {j : J} {Γ : Gm} {C : List Cell} {R : Ps} {P : Po} {rest : List Stmt} {pos pos2 : Pos} {scope : Scope} {own : List (Str × Nat)} {g : TG} {tg iter elt : Expr} {ifs : List Expr}
def LcU (j : J) (scope : Scope) (Γ : Gm) (C : List Cell) (vs : List Nat) (g : TG) (tg iter elt : Expr) (ifs : List Expr) (R : Ps) : Prop :=
  Sr j Γ C tg iter fun C1 ps Kp => ∃ I : Nat → List Cell → List Pr → Prop, I 0 C1 [] ∧ (∀ n C' acc, I n C' acc → Kp C') ∧ (∀ n q Ci acc, ps[n]? = some q → I n Ci acc → TurnG j scope Γ vs g q Ci acc elt ifs fun C' acc' => I (n + 1) C' acc') ∧ ∀ Cn acc, I ps.length Cn acc → R Cn (rL acc)
theorem lc_readU {wi : TI} {vs : List Nat} (hr : ∀ Φ σ F H (R' : It → Hp → Prop), XW j Φ → Sta j.tb Φ Γ C σ F H → (∀ it F' H' C' ps Kp, (∃ I : Nat → List Cell → List Pr → Prop, I 0 C' [] ∧ (∀ n C' acc, I n C' acc → Kp C') ∧ (∀ n q Ci acc, ps[n]? = some q → I n Ci acc → TurnG j scope Γ vs g q Ci acc elt ifs fun C' acc' => I (n + 1) C' acc') ∧ ∀ Cn acc, I ps.length Cn acc → R Cn (rL acc)) → Sta j.tb Φ Γ C' σ F' H' → L2.Same F F' → It2 j F' Kp it ps → R' it H') → wi σ H R')
    {Φ : Fx} {σ : L2.St} {F H : Hp} {Q : VK} (xw : XW j Φ) (S : Sta j.tb Φ Γ C σ F H) (K : Kv j Φ Γ σ F R Q) : tLc wi g (WifB j scope ifs) (WeB j scope elt) vs σ H Q := by
  refine hr Φ σ F H _ xw S fun it F1 H1 C1 ps Kp ⟨I, i0, ik, turn, fin⟩ S1 s1 at_ => ?_
  intro D hD
  have h0 : Φ.H0 D = none := S1.there D hD
  have xb : ∀ s0 H0 Cc cl fp Φ, XW (j.blk s0 H0 scope Cc cl fp) Φ := fun s0 H0 Cc cl fp Φ => xw_none fun _ _ z => z
  have dC : D ∉ C1.map (·.a) := fun z => by
    obtain ⟨c, hc, ec⟩ := List.mem_map.mp z
    obtain ⟨w, q1, _, _⟩ := S1.cells.at_ c hc
    rw [ec, hD] at q1
    cases q1
  refine ⟨fun n m H => m = ps.length - n ∧ n ≤ ps.length ∧ ∃ C' acc F' ws, I n C' acc ∧ Sta j.tb Φ (wG Γ vs) C' (wipe σ vs) F' H ∧ L2.Same F1 F' ∧ H D = some (.lst ws) ∧ F' D = none ∧ D ∉ C'.map (·.a) ∧ AllOn acc F' ws,
    ⟨ps.length, by simp, Nat.zero_le _, C1, [], F1, [], i0, (S1.beside hD).envTo (S1.env.wipeL vs), L2.Same.refl _, upd_same, S1.notF hD, dC, .nil⟩, ?_⟩
  rintro n m H2 ⟨rfl, hn, C2, acc, F2, ws, i2, S2, s2, q1, q2, q3, ha⟩
  obtain ⟨hgo, hst, hyl⟩ := at_ _ _ _ _ _ _ s2 S2 (ik _ _ _ i2)
  by_cases hlt : n < ps.length
  · refine .inr ⟨hgo n hlt, fun H' => ∃ C' acc F' ws, I (n + 1) C' acc ∧ Sta j.tb Φ (wG Γ vs) C' (wipe σ vs) F' H' ∧ L2.Same F1 F' ∧ H' D = some (.lst ws) ∧ F' D = none ∧ D ∉ C'.map (·.a) ∧ AllOn acc F' ws, fun H' q => ⟨ps.length - (n + 1), by omega, rfl, hlt, q⟩, fun x H' yl => ?_⟩
    obtain ⟨F2', s2', S2', e2, keep⟩ := hyl n x H' _ (List.getElem?_eq_getElem hlt) yl
    obtain ⟨q1', q2'⟩ := keepD keep q1 q2 (fun _ z => nomatch z)
    obtain ⟨Γ1, tgt, tn⟩ := turn n ps[n] C2 acc (List.getElem?_eq_getElem hlt) i2
    refine tgt.run _ Φ C2 σ F2' H' x _ S2' e2 fun σ1 env1 hw => ⟨hw, ?_⟩
    have S3 := S2'.envTo env1
    intro s0 H0 Cc cl fp
    refine tn s0 H0 Cc cl fp (Fx.of F2' H' C2) σ1 F2' H' _ (xb _ _ _ _ _ _) S3.rebase fun b F4 H4 C4 ⟨k1, k2⟩ S4 s4 => ?_
    obtain ⟨d1, d2, d3⟩ := S4.besideKeep q1' (fun _ z => nomatch z) (fun _ z => nomatch z) q2' q3
    have S4' := S3.trans S4
    have t4 : L2.Same F2 F4 := s2'.trans s4
    cases b with
    | false => exact iteF ⟨C4, acc, F4, ws, k2 rfl, S4'.envTo (S2.env.mono t4), s2.trans t4, d1, d2, d3, ha.mono t4⟩
    | true =>
      refine iteT fun s1' H1' Cc1 cl1 fp1 => k1 rfl s1' H1' Cc1 cl1 fp1 (Fx.of F4 H4 C4) σ1 F4 H4 _ (xb _ _ _ _ _ _) S4'.rebase fun y F5 H5 C5 z ⟨hz, n5⟩ S5 s5 o5 => ?_
      obtain ⟨f1, f2, f3⟩ := S5.besideKeep d1 (fun _ z => nomatch z) (fun _ z => nomatch z) d2 d3
      have S5' := S4'.trans S5
      have sF : L2.Same F2 F5 := t4.trans s5
      exact ⟨ws, f1, by rw [← ha.length]; exact hz, C5, _, F5, ws ++ [y], n5, (S5'.besideUpd f1 f2 h0 f3 (fun _ z => nomatch z) (fun _ z => nomatch z)).envTo (S2.env.mono sF), s2.trans sF, upd_same, f2, f3, (ha.mono sF).snoc o5⟩
  · have en : n = ps.length := by omega
    subst en
    refine .inl ⟨hst, ?_⟩
    have S3 : Sta j.tb Φ Γ C2 σ F2 H2 := S2.envTo (S1.env.mono s2)
    obtain ⟨S4, s4⟩ := S3.adopt q1 q2 h0 q3 ⟨fun _ z => (nomatch z), fun _ _ z => (nomatch z)⟩
    exact K _ _ _ _ _ (fin C2 acc i2) S4 ((s1.trans s2).trans s4) ⟨D, ws, rfl, upd_same, ha.mono s4⟩
theorem ev_lcU (h : LcU j scope Γ C (own.map (·.2)) g tg iter elt ifs R) (hN : j.X.N.Nodup) (ok : BlkOk j.X.N j.X.env.scope scope own) (hc : j.X.calm = true)
    (hg : ∀ (s : Shared) (H : Hp) (Cc : Addr) (cl : List (Str × Addr)) (fp : List Addr), PG (j.X.blk s H scope (compEnvC scope cl Cc j.X.env) fp) tg g) (hs : ∀ x, foldedSetIterable iter j.X.env x = pure x := by intro _; rfl) : Ev j Γ C (.ListComp elt [⟨tg, iter, ifs, 0⟩] scope pos) R := by
  obtain ⟨wi, hi, h⟩ := h
  exact ev_lift (pe_lc hc hN hi ok hg pts_wifB pe_weB hs) fun Φ σ F H Q xw S K => lc_readU h xw S K
/-- x = [..], x a local name -/
theorem tr_setLcU (k : Nat) {y : Str} {py : Pos} (h : LcU j scope Γ C (own.map (·.2)) g tg iter elt ifs fun C1 z => Tr j (Γ.set k (some z)) C1 rest P) (hN : j.X.N.Nodup) (ok : BlkOk j.X.N j.X.env.scope scope own) (hc : j.X.calm = true)
    (hg : ∀ (s : Shared) (H : Hp) (Cc : Addr) (cl : List (Str × Addr)) (fp : List Addr), PG (j.X.blk s H scope (compEnvC scope cl Cc j.X.env) fp) tg g)
    (hsw : swapsWith (.ListComp elt [⟨tg, iter, ifs, 0⟩] scope pos) (some (.Name y py)) pos2.line j.X.env = pure true) (hy : j.X.N[k]? = some y := by rfl) (hyl : j.X.env.scope.names.lookup y = some .local := by rfl) (hs : ∀ x, foldedSetIterable iter j.X.env x = pure x := by intro _; rfl) :
    Tr j Γ C (.Assign [.Name y py] (.ListComp elt [⟨tg, iter, ifs, 0⟩] scope pos) pos2 :: rest) P := by
  obtain ⟨wi, hi, h⟩ := h
  exact tr_lift (ps_setLc (own := own) hc hN hy hyl hsw hi ok hg pts_wifB pe_weB hs) fun Φ σ F H xw S => lc_readU (R := fun C1 z => Tr j (Γ.set k (some z)) C1 rest P) h xw S fun v F1 H1 C1 z t S1 s1 o1 => t Φ _ F1 H1 xw (S1.setv k o1)
end
/-! ### generator expressions -/
section
variable {j : J} {Γ : Gm} {C : List Cell} {R : Ps} {scope : Scope} {k : Nat} {P c : Addr} {nm : Nat → Nat → Str} {gpos pos pp : Pos} {iter tg elt : Expr} {g : TG} {ifs : List Expr} {vs : List Nat} {own : List (Str × Nat)}
def GLU (j : J) (scope : Scope) (k : Nat) (Γ : Gm) (C : List Cell) (vs : List Nat) (g : TG) (tg iter elt : Expr) (ifs : List Expr) (SZ : List Cell → List Pr → Pr → (List Cell → List Pr → Prop) → Prop) (Rf : List Cell → List Pr → Prop) : Prop :=
  Sr j Γ C tg iter fun C1 ps Kp => ∃ I : Nat → List Cell → List Pr → Prop, I 0 C1 [] ∧ (∀ n C' acc, I n C' acc → Kp C') ∧ (∀ n q Ci acc, ps[n]? = some q → I n Ci acc → GTurn j scope k Γ vs g q Ci acc elt ifs SZ fun C' acc' => I (n + 1) C' acc') ∧ ∀ Cn acc, I ps.length Cn acc → Rf Cn acc
theorem gl_readU {SZ : List Cell → List Pr → Pr → (List Cell → List Pr → Prop) → Prop} {Rf : List Cell → List Pr → Prop} {step : List V → V → Hp → (Hp → Prop) → Prop} {fin : List V → Hp → Prop} {Φ : Fx} {σ : L2.St} {F H : Hp} {wi : TI}
    (hr : ∀ Φ σ F H (R' : It → Hp → Prop), XW j Φ → Sta j.tb Φ Γ C σ F H → (∀ it F' H' C' ps Kp, (∃ I : Nat → List Cell → List Pr → Prop, I 0 C' [] ∧ (∀ n C' acc, I n C' acc → Kp C') ∧ (∀ n q Ci acc, ps[n]? = some q → I n Ci acc → GTurn j scope k Γ vs g q Ci acc elt ifs SZ fun C' acc' => I (n + 1) C' acc') ∧ ∀ Cn acc, I ps.length Cn acc → Rf Cn acc) → Sta j.tb Φ Γ C' σ F' H' → L2.Same F F' → It2 j F' Kp it ps → R' it H') → wi σ H R') (xw : XW j Φ) (S : Sta j.tb Φ Γ C σ F H)
    (hm : (P, nm) ∈ j.tb.nt) (hn : nm gpos.line gpos.col = j.X.env.qual ++ "<genexpr>") (hu : ∀ p ∈ j.tb.nt, p.1 = P → p.2 = nm)
    (hstep : ∀ C3 acc z (N : List Cell → List Pr → Prop) ys y F' H' (Nx : Hp → Prop), L2.Same F F' → SZ C3 acc z N → Sta j.tb Φ Γ C3 σ F' H' → AllOn acc F' ys → z.on F' y → (∀ acc', N C3 acc' → AllOn acc' F' (ys ++ [y]) → Nx H') → step ys y H' Nx)
    (hfin : ∀ Cn acc ys F' H', L2.Same F F' → Rf Cn acc → Sta j.tb Φ Γ Cn σ F' H' → AllOn acc F' ys → fin ys H') :
    tGx j.X P gpos wi g (WifG j scope k ifs) (WeG j scope k elt) vs step fin σ H := by
  refine hr Φ σ F H _ xw S fun it F1 H1 C1 ps Kp ⟨I, i0, ik, turn, fi⟩ S1 s1 at_ => ?_
  obtain ⟨pst, t1, t2, t3⟩ := S1.tab.nt _ hm
  have t1 : H1 P = some (.tbl pst) := t1
  have xq : ∀ A s H C code fp pn Φ, XW (j.gx A s H scope C code fp pn) Φ := fun A s H C code fp pn Φ => xw_none fun _ _ z => z
  have main : ∀ F3 H3, Sta j.tb Φ Γ C1 σ F3 H3 → L2.Same F1 F3 → ∃ W : Nat → Nat → List V → Hp → Prop, (∃ m, W 0 m [] H3) ∧ GWalk it g (WifG j scope k ifs) (WeG j scope k elt) vs σ step fin W := by
    intro F3 H3 S3 s3
    refine ⟨fun i m ys H' => m = ps.length - i ∧ i ≤ ps.length ∧ ∃ C' acc F', I i C' acc ∧ Sta j.tb Φ (wG Γ vs) C' (wipe σ vs) F' H' ∧ L2.Same F3 F' ∧ AllOn acc F' ys, ⟨ps.length, by simp, Nat.zero_le _, C1, [], F3, i0, S3.envTo (S3.env.wipeL vs), L2.Same.refl _, .nil⟩, ?_⟩
    rintro i m ys H' ⟨rfl, hi, C', acc, F', hI, S', s', ha⟩
    obtain ⟨hgo, hst, hyl⟩ := at_ _ _ _ _ _ _ (s3.trans s') S' (ik _ _ _ hI)
    by_cases hlt : i < ps.length
    · refine .inr ⟨hgo i hlt, fun ys' H'' => ∃ C' acc F', I (i + 1) C' acc ∧ Sta j.tb Φ (wG Γ vs) C' (wipe σ vs) F' H'' ∧ L2.Same F3 F' ∧ AllOn acc F' ys', fun ys' H'' q => ⟨ps.length - (i + 1), by omega, rfl, hlt, q⟩, fun x H'' yl => ?_⟩
      obtain ⟨F'', s'', S'', e2, _⟩ := hyl i x H'' _ (List.getElem?_eq_getElem hlt) yl
      obtain ⟨Γ1, tgt, tn⟩ := turn i ps[i] C' acc (List.getElem?_eq_getElem hlt) hI
      refine tgt.run _ Φ C' σ F'' H'' x _ S'' e2 fun σ1 env1 hw => ⟨hw, ?_⟩
      have S1' := S''.envTo env1
      intro A s0 H0 Cc code fp pn hrA
      refine tn A s0 H0 Cc code fp pn hrA Φ σ1 F'' H'' _ (xq _ _ _ _ _ _ _ _) S1' fun b F2 H2 C2 ⟨k1, k2⟩ S2 s2 => ?_
      have t2' : L2.Same F' F2 := s''.trans s2
      cases b with
      | false => exact iteF ⟨C2, acc, F2, k2 rfl, S2.envTo (S'.env.mono t2'), s'.trans t2', ha.mono t2'⟩
      | true =>
        refine iteT fun A s0 H0 Cc code fp pn hrA => k1 rfl A s0 H0 Cc code fp pn hrA Φ σ1 F2 H2 _ (xq _ _ _ _ _ _ _ _) S2 fun y F4 H4 C4 z sz S4 s4 o4 => ?_
        have sF : L2.Same F' F4 := t2'.trans s4
        refine hstep C4 acc z _ ys y F4 H4 _ (((s1.trans s3).trans s').trans sF) sz (S4.envTo (S3.env.mono (s'.trans sF))) (ha.mono sF) o4 fun acc' n' ha' => ?_
        exact ⟨C4, acc', F4, n', S4.envTo (S'.env.mono sF), s'.trans sF, ha'⟩
    · have en : i = ps.length := by omega
      subst en
      exact .inl ⟨hst, hfin C' acc ys F' H' ((s1.trans s3).trans s') (fi C' acc hI) (S'.envTo (S3.env.mono s')) ha⟩
  refine ⟨pst, t1, t2, fun c' n1 => ?_, fun cv hc => main F1 H1 S1 (L2.Same.refl _)⟩
  obtain ⟨S2, s2⟩ := S1.code (pos := gpos) t1 hm hu n1
  rw [hn] at S2 s2
  exact main _ _ S2 s2
theorem ev_anyU (G : GOk j scope own k iter tg g P c nm gpos) (hr : Room (k + 3) j.X.A) (hmg : j.X.mg "any" = none) (h : GLU j scope k Γ C (own.map (·.2)) g tg iter elt ifs (szAny R) fun C' acc => R C' (isB false)) (hG : Gl j.X "any" := by rfl)
    (hst : starEach [.GeneratorExp elt [⟨tg, iter, ifs, 0⟩] scope gpos] j.X.env = (false, eval (.GeneratorExp elt [⟨tg, iter, ifs, 0⟩] scope gpos) j.X.env) :: starEach [] j.X.env := by rfl) :
    Ev j Γ C (.Call (.Name "any" pp) [.GeneratorExp elt [⟨tg, iter, ifs, 0⟩] scope gpos] [] pos) R := by
  obtain ⟨wi, hi, h⟩ := h
  exact ev_lift (pe_anyG hr hG hmg G.TB G.code G.ok G.nd G.cell G.dot G.co hi G.tg pts_wifG pe_weG G.fold hst) fun Φ σ F H Q xw S K => gl_readU h xw S G.tb G.at_ G.un
    (fun C3 acc z N ys y F' H' Nx s' ⟨b, ez, h1, h2⟩ S' ha o k => ⟨b, by subst ez; exact o, fun hb => K _ F' H' C3 _ (h1 hb) S' s' rfl, fun hb => k _ (h2 hb) (ha.snoc o)⟩)
    fun Cn acc ys F' H' s' r S' ha => K _ F' H' Cn _ r S' s' rfl
theorem ev_allU (G : GOk j scope own k iter tg g P c nm gpos) (hr : Room (k + 3) j.X.A) (hmg : j.X.mg "all" = none) (h : GLU j scope k Γ C (own.map (·.2)) g tg iter elt ifs (szAll R) fun C' acc => R C' (isB true)) (hG : Gl j.X "all" := by rfl)
    (hst : starEach [.GeneratorExp elt [⟨tg, iter, ifs, 0⟩] scope gpos] j.X.env = (false, eval (.GeneratorExp elt [⟨tg, iter, ifs, 0⟩] scope gpos) j.X.env) :: starEach [] j.X.env := by rfl) :
    Ev j Γ C (.Call (.Name "all" pp) [.GeneratorExp elt [⟨tg, iter, ifs, 0⟩] scope gpos] [] pos) R := by
  obtain ⟨wi, hi, h⟩ := h
  exact ev_lift (pe_allG hr hG hmg G.TB G.code G.ok G.nd G.cell G.dot G.co hi G.tg pts_wifG pe_weG G.fold hst) fun Φ σ F H Q xw S K => gl_readU h xw S G.tb G.at_ G.un
    (fun C3 acc z N ys y F' H' Nx s' ⟨b, ez, h1, h2⟩ S' ha o k => ⟨b, by subst ez; exact o, fun hb => k _ (h1 hb) (ha.snoc o), fun hb => K _ F' H' C3 _ (h2 hb) S' s' rfl⟩)
    fun Cn acc ys F' H' s' r S' ha => K _ F' H' Cn _ r S' s' rfl
theorem ev_tupU (G : GOk j scope own k iter tg g P c nm gpos) (hr : Room (k + 6) j.X.A) (hmg : j.X.mg "tuple" = none) (h : GLU j scope k Γ C (own.map (·.2)) g tg iter elt ifs szTup fun C' acc => R C' (rT j.X.K acc)) (hG : Gl j.X "tuple" := by rfl)
    (hst : starEach [.GeneratorExp elt [⟨tg, iter, ifs, 0⟩] scope gpos] j.X.env = (false, eval (.GeneratorExp elt [⟨tg, iter, ifs, 0⟩] scope gpos) j.X.env) :: starEach [] j.X.env := by rfl) :
    Ev j Γ C (.Call (.Name "tuple" pp) [.GeneratorExp elt [⟨tg, iter, ifs, 0⟩] scope gpos] [] pos) R := by
  obtain ⟨wi, hi, h⟩ := h
  exact ev_lift (pe_tupG hr hG hmg G.TB G.code G.ok G.nd G.cell G.dot G.co hi G.tg pts_wifG pe_weG G.fold hst) fun Φ σ F H Q xw S K => gl_readU h xw S G.tb G.at_ G.un
    (fun C3 acc z N ys y F' H' Nx s' ⟨hz, n⟩ S' ha o k => ⟨by rw [← ha.length]; exact hz, k _ n (ha.snoc o)⟩)
    fun Cn acc ys F' H' s' r S' ha q hq => Kv.newT (K.same s') S' r ha hq
end
end Z

end
section
set_option Elab.async false
set_option linter.all false
set_option maxRecDepth 100000
set_option maxHeartbeats 1000000
/-! Z52: dict comprehensions over any source; a statement or an expression run with a dict locked; dicts of tuple keys as cells. -/
namespace Z
open PySem PySem.Spec PyProof.Rows L2
section
variable {X : L2.Cx}
/-- x = {k: v for ..}, x a local name -/
theorem ps_setDc {i : Nat} {y : Str} {py : Pos} {kx vx tg iter : Expr} {ifs : List Expr} {scope : Scope} {own : List (Str × Nat)} {pos spos : Pos} {wi : TI} {g : TG} {tt : TT} {tk tv : TE} (hc : X.calm = true) (hN : X.N.Nodup) (hy : X.N[i]? = some y) (hyl : X.env.scope.names.lookup y = some .local)
    (hsw : swapsWith (.DictComp kx vx [⟨tg, iter, ifs, 0⟩] scope pos) (some (.Name y py)) spos.line X.env = pure true) (hi : PI X tg iter wi) (ok : BlkOk X.N X.env.scope scope own)
    (hg : ∀ (s : Shared) (H : Hp) (C : Addr) (cl : List (Str × Addr)) (fp : List Addr), PG (X.blk s H scope (compEnvC scope cl C X.env) fp) tg g) (ht : ∀ (s : Shared) (H : Hp) (C : Addr) (cl : List (Str × Addr)) (fp : List Addr), PTs (X.blk s H scope (compEnvC scope cl C X.env) fp) ifs tt)
    (hk : ∀ (s : Shared) (H : Hp) (C : Addr) (cl : List (Str × Addr)) (fp : List Addr), PE (X.blk s H scope (compEnvC scope cl C X.env) fp) kx tk)
    (he : ∀ (s : Shared) (H : Hp) (C : Addr) (cl : List (Str × Addr)) (fp : List Addr), PE (X.blk s H scope (compEnvC scope cl C X.env) fp) vx tv) (hs : ∀ x, foldedSetIterable iter X.env x = pure x := by intro _; rfl) :
    PS X (.Assign [.Name y py] (.DictComp kx vx [⟨tg, iter, ifs, 0⟩] scope pos) spos) (tAsg (tDc wi g tt tk tv (own.map (·.2))) (gName i)) := by
  refine ⟨fun pins s σ H Dn I h => ?_⟩
  rw [exec_Assign_Name_used _ _ _ _ hsw]
  refine wpAny_bind (wpAny_standAt (wpAny_bind ?_))
  show wpAny _ X.A (do let _ ← comprehension (.DictComp kx vx [⟨tg, iter, ifs, 0⟩] scope pos) scope X.env (firstIterPos [⟨tg, iter, ifs, 0⟩] pos) newDict false (eval iter X.env) (some (assign (.Name y py) X.env))) _ _ s
  have h : tDc wi g tt tk tv (own.map (·.2)) σ H (fun x H1 => gName i x σ H1 Dn.nx) := h
  refine wpAny_bind (thn (dc_core (Qf := fun _ s' => SP X pins Dn .next s') hc hN I hi ok hg ht hk he hs h fun D C s' m H' I' q hn ⟨f0, f1, f2, f3, f4, f5⟩ => ?_) fun _ s' hq => wpAny_pure (wpAny_pure hq))
  show wpAny _ _ (assign (.Name y py) X.env (.ref D)) _ _ _
  refine wpAny_assign_Name (store_ok2 (v := V.ref D) I' hN hy (.inl hyl) rfl (fun s2 I2 ⟨a, sb, ha⟩ => ?_) (.inr hyl))
  have neC : C ≠ a := by
    rcases ha with z | z
    · rw [z]; exact f1
    · exact fun e => f4 y a z e.symm
  exact ⟨m, hn.sameBut sb neC, fun h3 sb3 => ⟨_, H', I2.turned (t' := s2.toks) (fun b o hb e => (sb3.2 b hb).trans e) f0 f1 f3 f4 f5, q⟩⟩
end
section
variable {j : J} {Γ : Gm} {C : List Cell} {R : Ps} {P : Po} {rest : List Stmt} {pos pos2 : Pos} {scope : Scope} {own : List (Str × Nat)} {g : TG} {tg iter kx vx : Expr} {ifs : List Expr}
def TurnD (j : J) (scope : Scope) (Γ : Gm) (vs : List Nat) (g : TG) (q : Pr) (C : List Cell) (acc : List (Key × Pr)) (kx vx : Expr) (ifs : List Expr) (N : List Cell → List (Key × Pr) → Prop) : Prop :=
  ∃ Γ1, Tgt vs g Γ q Γ1 ∧ ∀ (s : Shared) (H : Hp) (Cc : Addr) (cl : List (Str × Addr)) (fp : List Addr), Eif (j.blk s H scope Cc cl fp) Γ1 C ifs fun C2 b =>
    (b = true → ∀ (s : Shared) (H : Hp) (Cc : Addr) (cl : List (Str × Addr)) (fp : List Addr), Ev (j.blk s H scope Cc cl fp) Γ1 C2 kx fun C3 pk => ∀ (s : Shared) (H : Hp) (Cc : Addr) (cl : List (Str × Addr)) (fp : List Addr), Ev (j.blk s H scope Cc cl fp) Γ1 C3 vx fun C4 z =>
      ∃ k, pk = isV (kV k) ∧ acc.length < sizeLine ∧ N C4 (pP acc k z)) ∧ (b = false → N C2 acc)
def DcU (j : J) (scope : Scope) (Γ : Gm) (C : List Cell) (vs : List Nat) (g : TG) (tg iter kx vx : Expr) (ifs : List Expr) (R : Ps) : Prop :=
  Sr j Γ C tg iter fun C1 ps Kp => ∃ I : Nat → List Cell → List (Key × Pr) → Prop, I 0 C1 [] ∧ (∀ n C' acc, I n C' acc → Kp C') ∧ (∀ n q Ci acc, ps[n]? = some q → I n Ci acc → TurnD j scope Γ vs g q Ci acc kx vx ifs fun C' acc' => I (n + 1) C' acc') ∧ ∀ Cn acc, I ps.length Cn acc → ∀ D, R (cK D acc :: Cn) (isR D)
theorem dc_readU {wi : TI} {vs : List Nat} (hr : ∀ Φ σ F H (R' : It → Hp → Prop), XW j Φ → Sta j.tb Φ Γ C σ F H → (∀ it F' H' C' ps Kp, (∃ I : Nat → List Cell → List (Key × Pr) → Prop, I 0 C' [] ∧ (∀ n C' acc, I n C' acc → Kp C') ∧ (∀ n q Ci acc, ps[n]? = some q → I n Ci acc → TurnD j scope Γ vs g q Ci acc kx vx ifs fun C' acc' => I (n + 1) C' acc') ∧ ∀ Cn acc, I ps.length Cn acc → ∀ D, R (cK D acc :: Cn) (isR D)) → Sta j.tb Φ Γ C' σ F' H' → L2.Same F F' → It2 j F' Kp it ps → R' it H') → wi σ H R')
    {Φ : Fx} {σ : L2.St} {F H : Hp} {Q : VK} (xw : XW j Φ) (S : Sta j.tb Φ Γ C σ F H) (K : Kv j Φ Γ σ F R Q) : tDc wi g (WifB j scope ifs) (WeB j scope kx) (WeB j scope vx) vs σ H Q := by
  refine hr Φ σ F H _ xw S fun it F1 H1 C1 ps Kp ⟨I, i0, ik, turn, fin⟩ S1 s1 at_ => ?_
  intro D hD
  have h0 : Φ.H0 D = none := S1.there D hD
  have xb : ∀ s0 H0 Cc cl fp Φ, XW (j.blk s0 H0 scope Cc cl fp) Φ := fun s0 H0 Cc cl fp Φ => xw_none fun _ _ z => z
  have dC : D ∉ C1.map (·.a) := fun z => by
    obtain ⟨c, hc, ec⟩ := List.mem_map.mp z
    obtain ⟨w, q1, _, _⟩ := S1.cells.at_ c hc
    rw [ec, hD] at q1
    cases q1
  refine ⟨fun n m H => m = ps.length - n ∧ n ≤ ps.length ∧ ∃ C' acc F' ws, I n C' acc ∧ Sta j.tb Φ (wG Γ vs) C' (wipe σ vs) F' H ∧ L2.Same F1 F' ∧ H D = some (.dK ws) ∧ F' D = none ∧ D ∉ C'.map (·.a) ∧ KvOn acc F' ws,
    ⟨ps.length, by simp, Nat.zero_le _, C1, [], F1, [], i0, (S1.beside hD).envTo (S1.env.wipeL vs), L2.Same.refl _, upd_same, S1.notF hD, dC, .nil⟩, ?_⟩
  rintro n m H2 ⟨rfl, hn, C2, acc, F2, ws, i2, S2, s2, q1, q2, q3, ha⟩
  obtain ⟨hgo, hst, hyl⟩ := at_ _ _ _ _ _ _ s2 S2 (ik _ _ _ i2)
  by_cases hlt : n < ps.length
  · refine .inr ⟨hgo n hlt, fun H' => ∃ C' acc F' ws, I (n + 1) C' acc ∧ Sta j.tb Φ (wG Γ vs) C' (wipe σ vs) F' H' ∧ L2.Same F1 F' ∧ H' D = some (.dK ws) ∧ F' D = none ∧ D ∉ C'.map (·.a) ∧ KvOn acc F' ws, fun H' q => ⟨ps.length - (n + 1), by omega, rfl, hlt, q⟩, fun x H' yl => ?_⟩
    obtain ⟨F2', s2', S2', e2, keep⟩ := hyl n x H' _ (List.getElem?_eq_getElem hlt) yl
    obtain ⟨q1', q2'⟩ := keepD keep q1 q2 (fun _ z => nomatch z)
    obtain ⟨Γ1, tgt, tn⟩ := turn n ps[n] C2 acc (List.getElem?_eq_getElem hlt) i2
    refine tgt.run _ Φ C2 σ F2' H' x _ S2' e2 fun σ1 env1 hw => ⟨hw, ?_⟩
    have S3 := S2'.envTo env1
    intro s0 H0 Cc cl fp
    refine tn s0 H0 Cc cl fp (Fx.of F2' H' C2) σ1 F2' H' _ (xb _ _ _ _ _ _) S3.rebase fun b F4 H4 C4 ⟨k1, k2⟩ S4 s4 => ?_
    obtain ⟨d1, d2, d3⟩ := S4.besideKeep q1' (fun _ z => nomatch z) (fun _ z => nomatch z) q2' q3
    have S4' := S3.trans S4
    have t4 : L2.Same F2 F4 := s2'.trans s4
    cases b with
    | false => exact iteF ⟨C4, acc, F4, ws, k2 rfl, S4'.envTo (S2.env.mono t4), s2.trans t4, d1, d2, d3, ha.mono t4⟩
    | true =>
      refine iteT fun s1' H1' Cc1 cl1 fp1 => k1 rfl s1' H1' Cc1 cl1 fp1 (Fx.of F4 H4 C4) σ1 F4 H4 _ (xb _ _ _ _ _ _) S4'.rebase fun y F5 H5 C5 pk kk S5 s5 o5 => ?_
      obtain ⟨f1, f2, f3⟩ := S5.besideKeep d1 (fun _ z => nomatch z) (fun _ z => nomatch z) d2 d3
      have S5' := S4'.trans S5
      intro s2'' H2' Cc2 cl2 fp2
      refine kk s2'' H2' Cc2 cl2 fp2 (Fx.of F5 H5 C5) σ1 F5 H5 _ (xb _ _ _ _ _ _) S5'.rebase fun z F6 H6 C6 q ⟨ky, ek, hz, n6⟩ S6 s6 o6 => ?_
      subst ek
      obtain ⟨e1, e2', e3⟩ := S6.besideKeep f1 (fun _ z => nomatch z) (fun _ z => nomatch z) f2 f3
      have S6' := S5'.trans S6
      have sF : L2.Same F2 F6 := (t4.trans s5).trans s6
      exact ⟨ws, ky, o5, e1, by rw [← ha.len]; exact hz, C6, _, F6, _, n6, (S6'.besideUpd e1 e2' h0 e3 (fun _ z => nomatch z) (fun _ z => nomatch z)).envTo (S2.env.mono sF), s2.trans sF, upd_same, e2', e3, (ha.mono sF).put o6 ky⟩
  · have en : n = ps.length := by omega
    subst en
    refine .inl ⟨hst, ?_⟩
    have S3 : Sta j.tb Φ Γ C2 σ F2 H2 := S2.envTo (S1.env.mono s2)
    exact K _ _ _ _ _ (fin C2 acc i2 D) (S3.besideC (c := cK D acc) q1 q2 h0 q3 ⟨ws, rfl, ha⟩) (s1.trans s2) rfl
theorem ev_dcU (h : DcU j scope Γ C (own.map (·.2)) g tg iter kx vx ifs R) (hN : j.X.N.Nodup) (ok : BlkOk j.X.N j.X.env.scope scope own) (hc : j.X.calm = true)
    (hg : ∀ (s : Shared) (H : Hp) (Cc : Addr) (cl : List (Str × Addr)) (fp : List Addr), PG (j.X.blk s H scope (compEnvC scope cl Cc j.X.env) fp) tg g) (hs : ∀ x, foldedSetIterable iter j.X.env x = pure x := by intro _; rfl) : Ev j Γ C (.DictComp kx vx [⟨tg, iter, ifs, 0⟩] scope pos) R := by
  obtain ⟨wi, hi, h⟩ := h
  exact ev_lift (pe_dc (own := own) hc hN hi ok hg pts_wifB pe_weB pe_weB hs) fun Φ σ F H Q xw S K => dc_readU h xw S K
theorem tr_setDcU (k : Nat) {y : Str} {py : Pos} (h : DcU j scope Γ C (own.map (·.2)) g tg iter kx vx ifs fun C1 z => Tr j (Γ.set k (some z)) C1 rest P) (hN : j.X.N.Nodup) (ok : BlkOk j.X.N j.X.env.scope scope own) (hc : j.X.calm = true)
    (hg : ∀ (s : Shared) (H : Hp) (Cc : Addr) (cl : List (Str × Addr)) (fp : List Addr), PG (j.X.blk s H scope (compEnvC scope cl Cc j.X.env) fp) tg g)
    (hsw : swapsWith (.DictComp kx vx [⟨tg, iter, ifs, 0⟩] scope pos) (some (.Name y py)) pos2.line j.X.env = pure true) (hy : j.X.N[k]? = some y := by rfl) (hyl : j.X.env.scope.names.lookup y = some .local := by rfl) (hs : ∀ x, foldedSetIterable iter j.X.env x = pure x := by intro _; rfl) :
    Tr j Γ C (.Assign [.Name y py] (.DictComp kx vx [⟨tg, iter, ifs, 0⟩] scope pos) pos2 :: rest) P := by
  obtain ⟨wi, hi, h⟩ := h
  exact tr_lift (ps_setDc (own := own) hc hN hy hyl hsw hi ok hg pts_wifB pe_weB pe_weB hs) fun Φ σ F H xw S => dc_readU (R := fun C1 z => Tr j (Γ.set k (some z)) C1 rest P) h xw S fun v F1 H1 C1 z t S1 s1 o1 => t Φ _ F1 H1 xw (S1.setv k o1)
end
/-! ### dicts of tuple keys, as cells -/
abbrev TKs := List (List Key × Pr)
def cT (a : Addr) (kps : TKs) : Cell := ⟨a, fun F o => ∃ kvs, o = .dT kvs ∧ KgOn kps F kvs, fun s ⟨vs, e, h⟩ => ⟨vs, e, h.mono s⟩, fun ⟨vs, e, _⟩ => by subst e; exact fun _ z => (nomatch z), fun ⟨vs, e, _⟩ => by subst e; exact fun _ z => (nomatch z)⟩
/-- .. locked -/
def cY (a : Addr) (od : Obj) (kvs : List (List Key × V)) (kps : TKs) : Cell := ⟨a, fun F o => o = .frz od (.dT kvs) ∧ KgOn kps F kvs, fun s ⟨e, h⟩ => ⟨e, h.mono s⟩, fun ⟨e, _⟩ => by subst e; exact fun _ z => (nomatch z), fun ⟨e, _⟩ => by subst e; exact fun _ z => (nomatch z)⟩
section
variable {j : J} {Γ : Gm} {C : List Cell} {R : Ps} {P : Po} {rest : List Stmt} {pos pos' : Pos} {o e ke : Expr} {m : Addr} {kps : TKs} {st : Stmt}
theorem Sta.dicT {tb : Tb} {Φ : Fx} {σ : L2.St} {F H : Hp} (S : Sta tb Φ Γ C σ F H) (hm : cT m kps ∈ C) : ∃ kvs, H m = some (.dT kvs) ∧ KgOn kps F kvs := by
  obtain ⟨u, q1, ⟨kvs, q2, q3⟩, _⟩ := S.cells.at_ _ hm
  subst q2
  exact ⟨kvs, q1, q3⟩
theorem Sta.dicY {tb : Tb} {Φ : Fx} {σ : L2.St} {F H : Hp} {od : Obj} {kvs : List (List Key × V)} (S : Sta tb Φ Γ C σ F H) (h : cY m od kvs kps ∈ C) : H m = some (.frz od (.dT kvs)) ∧ KgOn kps F kvs := by
  obtain ⟨u, q1, ⟨q2, q3⟩, _⟩ := S.cells.at_ _ h
  subst q2
  exact ⟨q1, q3⟩
/-- {} that will have tuple keys -/
theorem ev_dicT (r : ∀ p, R (cT p [] :: C) (isR p)) : Ev j Γ C (.Dict [] [] pos) R :=
  ev_lift pe_dnewT fun Φ σ F H Q x S K p hp => K _ _ _ _ _ (r p) (S.newC (c := cT p []) hp ⟨[], rfl, .nil⟩) (L2.Same.refl F) rfl
theorem so_T (i : Nat) {p kp q : Pr} {k : List Key} {T : List Cell → Prop} (hc : C[i]? = some (cT m kps)) (hl : kps.length < sizeLine) (t : T (C.set i (cT m (pG kps k q)))) : SetOk j (isR m) (rKt k) q C T := fun tb Φ Γ σ F H v w u Q S o1 o2 o3 kk => by
  have ev : v = .ref m := o1
  subst ev
  obtain ⟨b, ew, hb⟩ := o2
  subst ew
  obtain ⟨kvs, h1, h2⟩ := S.dicT (List.mem_of_getElem? hc)
  refine .inr ⟨m, _, rfl, DPut.t h1 (S.tupx hb) (by rw [← h2.len]; exact hl), kk _ _ t (S.puti (c := cT m kps) (c' := cT m (pG kps k q)) hc rfl h1 (fun _ z => nomatch z) ⟨_, rfl, ?_⟩)⟩
  rw [putK_pG]
  exact h2.put o3 k
end
end Z

end
section
set_option Elab.async false
set_option linter.all false
set_option maxRecDepth 100000
set_option maxHeartbeats 1000000
/-! Z53: walks over dicts that are cells: locked meanwhile. -/
namespace Z
open PySem PySem.Spec PyProof.Rows L2
/-- a cell that can be locked: y tells what stands there -/
structure Lk {κ : Type} (d : Addr) (c0 : Cell) (cl : Obj → κ → Cell) (ob : κ → HO) : Prop where
  lock : ∀ {tb : Tb} {Φ : Fx} {Γ : Gm} {C : List Cell} {σ : L2.St} {F H : Hp} {i : Nat}, Sta tb Φ Γ C σ F H → C[i]? = some c0 → ∃ y, H d = some (ob y) ∧ Mut (some (ob y)) ∧ ∀ od, Sta tb Φ Γ (C.set i (cl od y)) σ F (upd H d (.frz od (ob y)))
  unlock : ∀ {tb : Tb} {Φ : Fx} {Γ : Gm} {C : List Cell} {σ : L2.St} {F H : Hp} {i : Nat} {od : Obj} {y : κ}, Sta tb Φ Γ C σ F H → C[i]? = some (cl od y) → H d = some (.frz od (ob y)) ∧ Sta tb Φ Γ (C.set i c0) σ F (upd H d (ob y))
theorem lk_K {d : Addr} {kps : List (Key × Pr)} : Lk d (cK d kps) (fun od kvs => cZ d od kvs kps) (fun kvs => .dK kvs) := ⟨fun S hc => by
    obtain ⟨kvs, h1, h2, h3⟩ := S.lockD hc
    exact ⟨kvs, h1, True.intro, h3⟩, fun {tb Φ Γ C σ F H i od y} S hc => by
    obtain ⟨q1, q3⟩ := S.dicZ (List.mem_of_getElem? hc)
    exact ⟨q1, S.puti (c := cZ d od y kps) (c' := cK d kps) hc rfl q1 (fun _ z => nomatch z) ⟨y, rfl, q3⟩⟩⟩
theorem lk_T {d : Addr} {kps : TKs} : Lk d (cT d kps) (fun od kvs => cY d od kvs kps) (fun kvs => .dT kvs) := ⟨fun {tb Φ Γ C σ F H i} S hc => by
    obtain ⟨kvs, h1, h2⟩ := S.dicT (List.mem_of_getElem? hc)
    exact ⟨kvs, h1, True.intro, fun od => S.puti (c := cT d kps) (c' := cY d od kvs kps) hc rfl h1 (fun _ z => nomatch z) ⟨rfl, h2⟩⟩, fun {tb Φ Γ C σ F H i od y} S hc => by
    obtain ⟨q1, q3⟩ := S.dicY (List.mem_of_getElem? hc)
    exact ⟨q1, S.puti (c := cY d od y kps) (c' := cT d kps) hc rfl q1 (fun _ z => nomatch z) ⟨y, rfl, q3⟩⟩⟩
section
variable {j : J} {Γ : Gm} {C : List Cell} {R : Ps} {P : Po} {rest body : List Stmt} {pos pos2 : Pos} {tg e src iter elt kx vx : Expr} {scope : Scope} {own : List (Str × Nat)} {g : TG} {ifs : List Expr} {κ : Type} {d : Addr} {c0 : Cell} {cl : Obj → κ → Cell} {ob : κ → HO}
/-- an expression, run with a dict locked -/
theorem ev_lock (L : Lk d c0 cl ob) (c : Nat) (hc : C[c]? = some c0) (h : ∀ od y, Ev (jq j) Γ (C.set c (cl od y)) e fun C' ρ => ∃ i, C'[i]? = some (cl od y) ∧ R (C'.set i c0) ρ) : Ev j Γ C e R :=
  ev_lift (pe_lock pe_we) fun Φ σ F H Q x S K => by
    obtain ⟨y, h1, h2, h3⟩ := L.lock S hc
    have xq : XW (jq j) Φ := xw_none fun _ _ z => z
    refine ⟨d, ob y, h1, h2, fun od => ?_⟩
    refine h od y Φ σ F _ _ xq (h3 od) fun v F' H' C' ρ ⟨i, z, r⟩ S' s' o => ?_
    obtain ⟨q1, S2⟩ := L.unlock S' z
    exact ⟨q1, K _ _ _ _ _ r S2 s' o⟩
def ForK (j : J) (tg : Expr) (body : List Stmt) (I : Nat → Gm → List Cell → Prop) (P : Po) (Γ : Gm) : List Cell → List Pr → (List Cell → Prop) → Prop := fun C1 ps Kp => I 0 Γ C1 ∧ (∀ n Γ' C', I n Γ' C' → Kp C') ∧
  (∀ i q Γ' C', ps[i]? = some q → I i Γ' C' → Eg j Γ' C' tg q fun Γ2 C2 => Tr j Γ2 C2 body { nx := I (i + 1), ct := I (i + 1), bk := P.nx, rt := P.rt }) ∧ (∀ Γ' C', I ps.length Γ' C' → P.nx Γ' C')
theorem for_readU {I : Nat → Gm → List Cell → Prop} {wi : TI} {D : Ends} (hr : ∀ Φ σ F H (R' : It → Hp → Prop), XW j Φ → Sta j.tb Φ Γ C σ F H → (∀ it F' H' C' ps Kp, ForK j tg body I P Γ C' ps Kp → Sta j.tb Φ Γ C' σ F' H' → L2.Same F F' → It2 j F' Kp it ps → R' it H') → wi σ H R')
    {Φ : Fx} {σ : L2.St} {F H : Hp} (x : XW j Φ) (S : Sta j.tb Φ Γ C σ F H) (n1 : ∀ σ' H', NxOf j.tb Φ P.nx σ' H' → D.nx σ' H') (n2 : ∀ v H', RtOf j.tb Φ P.rt v H' → D.rt v H') : tFor wi (Wg j.X tg) (Wb j.X body) D σ H := by
  refine hr Φ σ F H _ x S fun it F1 H1 C1 ps Kp ⟨i0, ik, turn, fin⟩ S1 s1 at_ => ?_
  refine ⟨fun i m σ' H' => m = ps.length - i ∧ i ≤ ps.length ∧ ∃ Γ' C' F', I i Γ' C' ∧ Sta j.tb Φ Γ' C' σ' F' H' ∧ L2.Same F1 F', ⟨ps.length, by simp, Nat.zero_le _, Γ, C1, F1, i0, S1, L2.Same.refl _⟩, ?_⟩
  rintro i m σ' H' ⟨rfl, hn, Γ', C', F', i', S', s'⟩
  obtain ⟨hgo, hst, hyl⟩ := at_ _ _ _ _ _ _ s' S' (ik _ _ _ i')
  by_cases hlt : i < ps.length
  · refine .inr ⟨hgo i hlt, fun σ2 H2 => ∃ Γ2 C2 F2, I (i + 1) Γ2 C2 ∧ Sta j.tb Φ Γ2 C2 σ2 F2 H2 ∧ L2.Same F1 F2, fun σ2 H2 q => ⟨ps.length - (i + 1), by omega, rfl, hlt, q⟩, fun y H2 yl => ?_⟩
    obtain ⟨F2, s2, S2, o2, _⟩ := hyl i y H2 _ (List.getElem?_eq_getElem hlt) yl
    refine turn i ps[i] Γ' C' (List.getElem?_eq_getElem hlt) i' Φ σ' F2 H2 y _ x S2 o2 fun Γ3 C3 σ3 F3 H3 t3 S3 s3 => ?_
    exact Wb.mono (Tr.at t3 x S3) (fun σ4 H4 ⟨Γ4, C4, F4, n4, S4, s4⟩ => ⟨Γ4, C4, F4, n4, S4, ((s'.trans s2).trans s3).trans s4⟩) (fun v4 H4 ⟨Γ4, C4, F4, σ4, ρ4, r4, S4, o4, _⟩ => n2 _ _ ⟨Γ4, C4, F4, σ4, ρ4, r4, S4, o4⟩) (fun σ4 H4 ⟨Γ4, C4, F4, n4, S4, s4⟩ => n1 _ _ ⟨Γ4, C4, F4, n4, S4⟩) fun σ4 H4 ⟨Γ4, C4, F4, n4, S4, s4⟩ => ⟨Γ4, C4, F4, n4, S4, ((s'.trans s2).trans s3).trans s4⟩
  · have en : i = ps.length := by omega
    subst en
    exact .inl ⟨hst, n1 _ _ ⟨Γ', C', F', fin Γ' C' i', S'⟩⟩
/-- a source whose way of walking is told -/
def SrW (j : J) (Γ : Gm) (C : List Cell) (wi : TI) (K : List Cell → List Pr → (List Cell → Prop) → Prop) : Prop :=
  ∀ Φ σ F H (R : It → Hp → Prop), XW j Φ → Sta j.tb Φ Γ C σ F H → (∀ it F' H' C' ps Kp, K C' ps Kp → Sta j.tb Φ Γ C' σ F' H' → L2.Same F F' → It2 j F' Kp it ps → R it H') → wi σ H R
theorem sr_w {wi : TI} {K : List Cell → List Pr → (List Cell → Prop) → Prop} (hi : PI j.X tg e wi) (h : SrW j Γ C wi K) : Sr j Γ C tg e K := ⟨wi, hi, h⟩
theorem srw_of {rd : V → Hp → It → Prop} {wi : TI} {K : List Cell → List Pr → (List Cell → Prop) → Prop} (hw : ∀ σ H R, We j.X src σ H (fun x H1 => ∃ it, rd x H1 it ∧ R it H1) → wi σ H R)
    (h : Ev j Γ C src fun C1 p => ∃ ps Kp, SrcOk j rd C1 p ps Kp ∧ K C1 ps Kp) : SrW j Γ C wi K :=
  fun Φ σ F H R xw S k => hw σ H R (h Φ σ F H _ xw S fun v F1 H1 C1 p ⟨ps, Kp, sr, kk⟩ S1 s1 o1 => by
    obtain ⟨it, hrd, at_⟩ := sr S1 o1
    exact ⟨it, hrd, k it F1 H1 C1 ps Kp kk S1 s1 (it2_of at_)⟩)
/-- the keys of a dict -/
theorem srw_K {K : List Cell → List Pr → (List Cell → Prop) → Prop} (h : Ev j Γ C src fun C1 p => ∃ d od kvs kps, p = isR d ∧ cZ d od kvs kps ∈ C1 ∧ K C1 (kps.map fun kp => isV (kV kp.1)) fun C' => cZ d od kvs kps ∈ C') : SrW j Γ C (iKeys (We j.X src)) K :=
  srw_of (fun _ _ _ => rd_keys) (h.imp fun C1 p ⟨d, od, kvs, kps, e, m, k⟩ => ⟨_, _, by rw [e]; exact so_K m, k⟩)
/-- the values -/
theorem srw_V {K : List Cell → List Pr → (List Cell → Prop) → Prop} (h : Ev j Γ C src fun C1 p => ∃ d od kvs kps, p = isR d ∧ cZ d od kvs kps ∈ C1 ∧ K C1 (kps.map Prod.snd) fun C' => cZ d od kvs kps ∈ C') : SrW j Γ C (iVals (We j.X src)) K :=
  srw_of (fun _ _ _ => rd_vals) (h.imp fun C1 p ⟨d, od, kvs, kps, e, m, k⟩ => ⟨_, _, by rw [e]; exact so_V m, k⟩)
theorem kg_at {F : Hp} : ∀ {kps : TKs} {kvs : List (List Key × V)}, KgOn kps F kvs → ∀ {i : Nat} {k : List Key} {v : V}, kvs[i]? = some (k, v) → ∃ q, kps[i]? = some (k, q) ∧ q.on F v
  | _, _, .nil, i, k, v, h => by simp at h
  | (a, p) :: kps, (b, w) :: kvs, .cons ⟨e1, e2⟩ r, 0, k, v, h => by
    simp at h
    exact ⟨p, by simp; rw [show a = b from e1, h.1], by rw [← h.2]; exact e2⟩
  | (a, p) :: kps, (b, w) :: kvs, .cons _ r, i + 1, k, v, h => by
    obtain ⟨q, h1, h2⟩ := kg_at r (i := i) (k := k) (v := v) (by simpa using h)
    exact ⟨q, by simpa using h1, h2⟩
/-- the keys of a dict of tuple keys -/
theorem srw_T {K : List Cell → List Pr → (List Cell → Prop) → Prop} (h : Ev j Γ C src fun C1 p => ∃ d od kvs kps, p = isR d ∧ cY d od kvs kps ∈ C1 ∧ K C1 (kps.map fun kp => rKt kp.1) fun C' => cY d od kvs kps ∈ C') : SrW j Γ C (iKeys (We j.X src)) K :=
  fun Φ σ F H R xw S k => h Φ σ F H _ xw S fun v F1 H1 C1 p ⟨d, od, kvs, kps, e, m, kk⟩ S1 s1 o1 => by
    subst e
    have ev : v = .ref d := o1
    subst ev
    refine ⟨d, od, rfl, .inr ⟨kvs, (S1.dicY m).1, k _ F1 H1 C1 _ _ kk S1 s1 fun Φ' Γ' C' σ' F' H' s S' hm => ?_⟩⟩
    obtain ⟨z, kg⟩ := S'.dicY hm
    have hl : (kps.map fun kp => rKt kp.1).length = kvs.length := by rw [List.length_map]; exact kg.len
    refine ⟨fun i hi => ⟨z, by rw [← hl]; exact hi⟩, ⟨z, by rw [hl]; exact Nat.le_refl _⟩, fun i x H'' q hq y => ?_⟩
    obtain ⟨e1, k1, v1, a1, h1, h2, h3⟩ := y
    subst e1
    subst h2
    obtain ⟨F2, s2, f2, fb, S2⟩ := S'.adoptT h3
    obtain ⟨q', g1, _⟩ := kg_at kg h1
    rw [List.getElem?_map, g1] at hq
    have hq : rKt k1 = q := Option.some.inj hq
    subst hq
    refine ⟨F2, s2, S2, ⟨a1, rfl, f2⟩, fun a o ho => ⟨ho, fun hn nt => ?_⟩⟩
    rw [fb a fun z => by rw [z, h3] at ho; exact nt _ (Option.some.inj ho).symm]
    exact hn
/-- the pairs of a dict -/
theorem srw_I {K : List Cell → List Pr → (List Cell → Prop) → Prop} (h : Ev j Γ C src fun C1 p => ∃ d od kvs kps, p = isR d ∧ cZ d od kvs kps ∈ C1 ∧ K C1 (rPairs j.X.K kps) fun C' => cZ d od kvs kps ∈ C') : SrW j Γ C (iItems (We j.X src)) K :=
  fun Φ σ F H R xw S k => h Φ σ F H _ xw S fun v F1 H1 C1 p ⟨d, od, kvs, kps, e, m, kk⟩ S1 s1 o1 => by
    subst e
    have ev : v = .ref d := o1
    subst ev
    refine ⟨d, od, kvs, rfl, (S1.dicZ m).1, k _ F1 H1 C1 _ _ kk S1 s1 fun Φ' Γ' C' σ' F' H' s S' hm => ?_⟩
    obtain ⟨z, kg⟩ := S'.dicZ hm
    have hl : (rPairs j.X.K kps).length = kvs.length := by unfold rPairs; rw [List.length_map]; exact kg.len
    refine ⟨fun i hi => ⟨z, by rw [← hl]; exact hi⟩, ⟨z, by rw [hl]; exact Nat.le_refl _⟩, fun i x H'' q hq y => ?_⟩
    obtain ⟨T, k1, v1, h1, h2, h3, h4⟩ := y
    subst h4
    subst h2
    have hi : i < kps.length := by rw [kg.len]; exact (List.getElem?_eq_some_iff.mp h1).1
    obtain ⟨u', f1, f2⟩ := (kv_keys kg).get (p := isV (kV kps[i].1)) (i := i) (by rw [List.getElem?_map, List.getElem?_eq_getElem hi]; rfl)
    obtain ⟨w', f3, f4⟩ := (kv_vals kg).get (p := kps[i].2) (i := i) (by rw [List.getElem?_map, List.getElem?_eq_getElem hi]; rfl)
    rw [List.getElem?_map, h1] at f1 f3
    have f1 : kV k1 = u' := Option.some.inj f1
    have f3 : v1 = w' := Option.some.inj f3
    subst f1
    subst f3
    unfold rPairs at hq
    rw [List.getElem?_map, List.getElem?_eq_getElem hi] at hq
    have hq : rT j.X.K [isV (kV kps[i].1), kps[i].2] = q := Option.some.inj hq
    subst hq
    obtain ⟨S3, s3⟩ := S'.newF (o := .tup [kV k1, v1]) h3 ⟨fun _ z => (nomatch z), fun _ _ z => (nomatch z)⟩
    refine ⟨_, s3, S3, ⟨T, _, rfl, SqT.of upd_same, .cons ((isV (kV kps[i].1)).mono s3 f2) (.cons (kps[i].2.mono s3 f4) .nil)⟩, fun a o ho => ?_⟩
    have ne : a ≠ T := fun z => by rw [z, h3] at ho; cases ho
    rw [upd_ne ne, upd_ne ne]
    exact ⟨ho, fun hn _ => hn⟩
/-- for over a dict that is a cell -/
theorem tr_forLk (L : Lk d c0 cl ob) (c : Nat) (hc0 : C[c]? = some c0) {wi : TI} (hi : PI j.X tg e wi) (I : Obj → κ → Nat → Gm → List Cell → Prop) (N : Gm → List Cell → Prop)
    (k : ∀ od y, SrW (jq j) Γ (C.set c (cl od y)) wi (ForK (jq j) tg body (I od y) { nx := fun Γ' C' => ∃ i, C'[i]? = some (cl od y) ∧ N Γ' (C'.set i c0), rt := fun C' ρ => ∃ i, C'[i]? = some (cl od y) ∧ P.rt (C'.set i c0) ρ } Γ))
    (kr : ∀ Γ' C', N Γ' C' → Tr j Γ' C' rest P) (hp : PassesOwn (model j.X.prog j.X.w) j.X.A j.X.env j.X.xe) (hc : j.X.calm = true) (hs : ∀ x, foldedSetIterable e j.X.env x = pure x := by intro _; rfl) : Tr j Γ C (.For tg e body [] pos :: rest) P :=
  tr_lift (ps_lock (ps_for hp hc hi pg_wg pss_wb hs)) fun Φ σ F H x S => by
    obtain ⟨y, h1, h2, h3⟩ := L.lock S hc0
    have xq : XW (jq j) Φ := xw_none fun _ _ z => z
    refine ⟨d, ob y, h1, h2, fun od => ?_⟩
    refine for_readU (j := jq j) (k od y) xq (h3 od) (fun σ' H' h => ?_) fun v H' h => ?_
    · obtain ⟨Γ', C', F', ⟨i, hi', n⟩, S'⟩ := h
      obtain ⟨q1, S2⟩ := L.unlock S' hi'
      exact ⟨q1, kr Γ' _ n Φ σ' F' _ x S2⟩
    · obtain ⟨Γ', C', F', σ', ρ, ⟨i, hi', n⟩, S', o'⟩ := h
      obtain ⟨q1, S2⟩ := L.unlock S' hi'
      exact ⟨q1, Γ', _, F', σ', ρ, n, S2, o'⟩
/-- x = [.. for .. in d ..], d a cell -/
theorem tr_setLcLk (L : Lk d c0 cl ob) (c : Nat) (hc0 : C[c]? = some c0) {wi : TI} (hi : PI j.X tg iter wi) (k : Nat) {y : Str} {py : Pos}
    (h : ∀ od y', SrW (jq j) Γ (C.set c (cl od y')) wi fun C1 ps Kp => ∃ I : Nat → List Cell → List Pr → Prop, I 0 C1 [] ∧ (∀ n C' acc, I n C' acc → Kp C') ∧ (∀ n q Ci acc, ps[n]? = some q → I n Ci acc → TurnG (jq j) scope Γ (own.map (·.2)) g q Ci acc elt ifs fun C' acc' => I (n + 1) C' acc') ∧ ∀ Cn acc, I ps.length Cn acc → ∃ i, Cn[i]? = some (cl od y') ∧ Tr j (Γ.set k (some (rL acc))) (Cn.set i c0) rest P)
    (hN : j.X.N.Nodup) (ok : BlkOk j.X.N j.X.env.scope scope own) (hc : j.X.calm = true)
    (hg : ∀ (s : Shared) (H : Hp) (Cc : Addr) (cl : List (Str × Addr)) (fp : List Addr), PG (j.X.blk s H scope (compEnvC scope cl Cc j.X.env) fp) tg g)
    (hsw : swapsWith (.ListComp elt [⟨tg, iter, ifs, 0⟩] scope pos) (some (.Name y py)) pos2.line j.X.env = pure true) (hy : j.X.N[k]? = some y := by rfl) (hyl : j.X.env.scope.names.lookup y = some .local := by rfl) (hs : ∀ x, foldedSetIterable iter j.X.env x = pure x := by intro _; rfl) :
    Tr j Γ C (.Assign [.Name y py] (.ListComp elt [⟨tg, iter, ifs, 0⟩] scope pos) pos2 :: rest) P :=
  tr_lift (ps_lock (ps_setLc (own := own) hc hN hy hyl hsw hi ok hg (pts_wifB (j := jq j)) (pe_weB (j := jq j)) hs)) fun Φ σ F H xw S => by
    obtain ⟨y', h1, h2, h3⟩ := L.lock S hc0
    have xq : XW (jq j) Φ := xw_none fun _ _ z => z
    refine ⟨d, ob y', h1, h2, fun od => ?_⟩
    refine lc_readU (j := jq j) (R := fun C1 z => ∃ i, C1[i]? = some (cl od y') ∧ Tr j (Γ.set k (some z)) (C1.set i c0) rest P) (h od y') xq (h3 od) fun v F1 H1 C1 z ⟨i, hz, t⟩ S1 s1 o1 => ?_
    obtain ⟨q1, S2⟩ := L.unlock S1 hz
    exact ⟨q1, t Φ _ F1 _ xw (S2.setv k o1)⟩
/-- x = {.. for .. in d ..}, d a cell -/
theorem tr_setDcLk (L : Lk d c0 cl ob) (c : Nat) (hc0 : C[c]? = some c0) {wi : TI} (hi : PI j.X tg iter wi) (k : Nat) {y : Str} {py : Pos}
    (h : ∀ od y', SrW (jq j) Γ (C.set c (cl od y')) wi fun C1 ps Kp => ∃ I : Nat → List Cell → List (Key × Pr) → Prop, I 0 C1 [] ∧ (∀ n C' acc, I n C' acc → Kp C') ∧ (∀ n q Ci acc, ps[n]? = some q → I n Ci acc → TurnD (jq j) scope Γ (own.map (·.2)) g q Ci acc kx vx ifs fun C' acc' => I (n + 1) C' acc') ∧ ∀ Cn acc, I ps.length Cn acc → ∀ D, ∃ i, (cK D acc :: Cn)[i]? = some (cl od y') ∧ Tr j (Γ.set k (some (isR D))) ((cK D acc :: Cn).set i c0) rest P)
    (hN : j.X.N.Nodup) (ok : BlkOk j.X.N j.X.env.scope scope own) (hc : j.X.calm = true)
    (hg : ∀ (s : Shared) (H : Hp) (Cc : Addr) (cl : List (Str × Addr)) (fp : List Addr), PG (j.X.blk s H scope (compEnvC scope cl Cc j.X.env) fp) tg g)
    (hsw : swapsWith (.DictComp kx vx [⟨tg, iter, ifs, 0⟩] scope pos) (some (.Name y py)) pos2.line j.X.env = pure true) (hy : j.X.N[k]? = some y := by rfl) (hyl : j.X.env.scope.names.lookup y = some .local := by rfl) (hs : ∀ x, foldedSetIterable iter j.X.env x = pure x := by intro _; rfl) :
    Tr j Γ C (.Assign [.Name y py] (.DictComp kx vx [⟨tg, iter, ifs, 0⟩] scope pos) pos2 :: rest) P :=
  tr_lift (ps_lock (ps_setDc (own := own) hc hN hy hyl hsw hi ok hg (pts_wifB (j := jq j)) (pe_weB (j := jq j)) (pe_weB (j := jq j)) hs)) fun Φ σ F H xw S => by
    obtain ⟨y', h1, h2, h3⟩ := L.lock S hc0
    have xq : XW (jq j) Φ := xw_none fun _ _ z => z
    refine ⟨d, ob y', h1, h2, fun od => ?_⟩
    refine dc_readU (j := jq j) (R := fun C1 z => ∃ i, C1[i]? = some (cl od y') ∧ Tr j (Γ.set k (some z)) (C1.set i c0) rest P) (h od y') xq (h3 od) fun v F1 H1 C1 z ⟨i, hz, t⟩ S1 s1 o1 => ?_
    obtain ⟨q1, S2⟩ := L.unlock S1 hz
    exact ⟨q1, t Φ _ F1 _ xw (S2.setv k o1)⟩
end
end Z

end
section
set_option Elab.async false
set_option linter.all false
set_option maxRecDepth 100000
set_option maxHeartbeats 1000000
/-! Z54: what is done with dicts: == of data, update, get, pop, their lists. -/
namespace Z
open PySem PySem.Spec PyProof.Rows L2
open PySem.W (Datum Tup)
open Rep (pr)
/-! ### == -/
section
variable {X : L2.Cx} {α : Type} [DecidableEq α] [Datum α]
/-- two tables are equal -/
def eqTab (ta tb : List (Key × α)) : Bool := (ta.length == tb.length) && ta.all fun kv => decide (vG tb kv.1 = some kv.2)
def TabOn (K : PySem.W.Frag) (H : Hp) (kvs : List (Key × V)) (t : List (Key × α)) : Prop := PySem.Paired (fun (p : Key × V) (q : Key × α) => p.1 = q.1 ∧ Dp K H p.2 (Datum.toD q.2)) kvs t
theorem TabOn.len {K : PySem.W.Frag} {H : Hp} {kvs : List (Key × V)} {t : List (Key × α)} (h : TabOn K H kvs t) : kvs.length = t.length := Paired.length h
theorem TabOn.at_ {K : PySem.W.Frag} {H : Hp} : ∀ {kvs : List (Key × V)} {t : List (Key × α)}, TabOn K H kvs t → ∀ k, (vG t k = none → valV kvs k = none) ∧ ∀ a, vG t k = some a → ∃ v, valV kvs k = some v ∧ Dp K H v (Datum.toD a)
  | _, _, .nil, k => ⟨fun _ => rfl, fun a h => (nomatch h)⟩
  | (k1, v) :: kvs, (k2, a) :: t, .cons h r, k => by
    obtain ⟨e1, e2⟩ := h
    have e1 : k1 = k2 := e1
    subst e1
    have ih := TabOn.at_ r k
    rw [valV_vG] at ih ⊢
    rw [vG_cons, vG_cons]
    by_cases q : k1 = k
    · rw [if_pos q, if_pos q]
      refine ⟨fun h => (nomatch h), fun b h => ?_⟩
      cases h
      exact ⟨v, rfl, e2⟩
    · rw [if_neg q, if_neg q]
      exact ih
def rEqDd (K : PySem.W.Frag) (u : Nat) (neg : Bool) : R2 := fun x y H Q => ∃ (α : Type) (_ : DecidableEq α) (_ : Datum α) (a b : Addr) (ks ls : List (Key × V)) (ta tb : List (Key × α)), u + 1 + Datum.depth α < cLine ∧ x = .ref a ∧ y = .ref b ∧ L2.Rd H a (.dK ks) ∧ L2.Rd H b (.dK ls) ∧ TabOn K H ks ta ∧ TabOn K H ls tb ∧ Q (.bl (if neg then !eqTab ta tb else eqTab ta tb)) H
theorem hits_data {A : Around} {s : Shared} {pins : List (Addr × Obj)} {σ : L2.St} {H : Hp} (I : Inv X pins σ H s) (hu : A.units + Datum.depth α < cLine) {ls : List (Key × V)} {vb : List (Key × Value)} (rb : KV ls vb) {tb : List (Key × α)} (ob : TabOn X.K H ls tb) :
    ∀ {ks : List (Key × V)} {va : List (Key × Value)}, KV ks va → ∀ {ta : List (Key × α)}, TabOn X.K H ks ta → PySem.W.KeqHits A s vb va (ta.all fun kv => decide (vG tb kv.1 = some kv.2)) := by
  intro ks va ra
  unfold KV at ra
  induction ra with
  | nil => intro ta h; cases h; exact .nil
  | @cons p q ps qs h t ih =>
    intro ta o
    cases o with
    | @cons _ pa _ tas oh ot =>
      obtain ⟨h1, h2⟩ := h
      obtain ⟨o1, o2⟩ := oh
      obtain ⟨k, v⟩ := q
      obtain ⟨k', a⟩ := pa
      have h1 : p.1 = k := h1
      have o1 : p.1 = k' := o1
      rw [List.all_cons]
      have e : k = k' := h1.symm.trans o1
      subst e
      obtain ⟨g1, g2⟩ := ob.at_ k
      cases hv : vG tb k with
      | none =>
        have ev : valueAt vb k = none := by
          have r := rb.val k
          rw [g1 hv] at r
          cases ev : valueAt vb k with
          | none => rfl
          | some z => rw [ev] at r; exact r.elim
        rw [show decide ((none : Option α) = some ((k, a) : Key × α).2) = false from decide_eq_false fun z => nomatch z]
        exact .miss ev
      | some b =>
        obtain ⟨w, w1, w2⟩ := g2 b hv
        have rr : RelO (some w) (valueAt vb k) := by rw [← w1]; exact rb.val k
        obtain ⟨y, hy, ry⟩ := rr.some_of
        have Ha : PySem.W.Holds s.heap v a := Dp.reads I _ p.2 v o2 h2
        have Hb : PySem.W.Holds s.heap y b := Dp.reads I _ w y w2 ry
        rw [show decide (some b = some ((k, a) : Key × α).2) = decide (a = b) from decide_eq_decide.mpr ⟨fun z => (Option.some.inj z).symm, fun z => by rw [show ((k, a) : Key × α).2 = b from z]⟩]
        exact .hit hy (PySem.W.eqAt_datum Ha Hb hu) (ih ot)
theorem op_eqDd : OpR X (compareOp .Eq) (rEqDd X.K X.A.units false) := by
  intro pins s σ H x y v u Q I rx ry ⟨α, _, _, a, b, ks, ls, ta, tb, hu, ex, ey, ea, eb, oa, ob, q⟩
  subst ex
  subst ey
  obtain rfl : v = Value.ref a := rx
  obtain rfl : u = Value.ref b := ry
  obtain ⟨_, ya, va, ra, da⟩ := dk_rd I.hok ea
  obtain ⟨_, yb, vb, rb, db⟩ := dk_rd I.hok eb
  have l1 : va.length = ta.length := by rw [← ra.length, oa.len]
  have l2 : vb.length = tb.length := by rw [← rb.length, ob.len]
  refine PySem.W.keq_eq (knd := mixKind X.prog X.w) (r := ta.all fun kv => decide (vG tb kv.1 = some kv.2)) ya yb da db (by omega) (fun _ => hits_data I (by show X.A.units + 1 + _ < cLine; omega) rb ob ra oa) ?_
  rw [l1, l2]
  exact ⟨.bl _, H, I, rfl, q⟩
theorem op_neDd : OpR X (compareOp .NotEq) (rEqDd X.K X.A.units true) := by
  intro pins s σ H x y v u Q I rx ry ⟨α, _, _, a, b, ks, ls, ta, tb, hu, ex, ey, ea, eb, oa, ob, q⟩
  subst ex
  subst ey
  obtain rfl : v = Value.ref a := rx
  obtain rfl : u = Value.ref b := ry
  obtain ⟨_, ya, va, ra, da⟩ := dk_rd I.hok ea
  obtain ⟨_, yb, vb, rb, db⟩ := dk_rd I.hok eb
  have l1 : va.length = ta.length := by rw [← ra.length, oa.len]
  have l2 : vb.length = tb.length := by rw [← rb.length, ob.len]
  refine PySem.W.keq_ne (knd := mixKind X.prog X.w) (r := ta.all fun kv => decide (vG tb kv.1 = some kv.2)) ya yb da db (by omega) (fun _ => hits_data I (by show X.A.units + 1 + _ < cLine; omega) rb ob ra oa) ?_
  rw [l1, l2]
  exact ⟨.bl _, H, I, rfl, q⟩
end
section
variable {j : J} {Γ : Gm} {C : List Cell} {R : Ps} {p q : Pr} {kps : List (Key × Pr)} {α : Type} [DecidableEq α] [Datum α] [Rep α]
/-- a table of data -/
abbrev dTab (K : PySem.W.Frag) (t : List (Key × α)) : List (Key × Pr) := t.map fun kv => (kv.1, pr K kv.2)
theorem tab_on {K : PySem.W.Frag} {F H : Hp} (hd : ∀ {v : V} {d : PyData}, Dp K F v d → Dp K H v d) : ∀ {t : List (Key × α)} {kvs : List (Key × V)}, KvOn (dTab K t) F kvs → TabOn K H kvs t
  | [], _, .nil => .nil
  | (k, a) :: t, (k', v) :: kvs, .cons ⟨e1, e2⟩ r => .cons ⟨Eq.symm e1, hd (Rep.dat e2)⟩ (tab_on hd r)
theorem ok_cmpDd {neg : Bool} {ta tb : List (Key × α)} (h1 : DicOk j C p (dTab j.X.K ta)) (h2 : DicOk j C q (dTab j.X.K tb)) (hu : j.X.A.units + 1 + Datum.depth α < cLine) (r : R C (isB (if neg then !eqTab ta tb else eqTab ta tb))) : OpOk j Γ (rEqDd j.X.K j.X.A.units neg) p q C R := fun Φ σ F H v w Q x S o1 o2 K => by
  obtain ⟨a, ks, ev, g1, g2⟩ := h1 _ _ _ _ _ _ _ S o1
  obtain ⟨b, ls, ew, g3, g4⟩ := h2 _ _ _ _ _ _ _ S o2
  exact ⟨α, _, _, a, b, ks, ls, ta, tb, hu, ev, ew, g1, g3, tab_on (fun h => S.dp h) g2, tab_on (fun h => S.dp h) g4, K.now S r rfl⟩
end
/-! ### get, pop, list, update -/
section
variable {j : J} {Γ : Gm} {C : List Cell} {R : Ps} {p q : Pr} {kps : List (Key × Pr)} {o e ke : Expr} {apos cpos : Pos} {m : Addr}
/-- d.get(k) -/
theorem ev_dget1 (hu : j.X.A.units + 1 < cLine) (h : Ev j Γ C o fun C0 p => ∃ kps, DicOk j C0 p kps ∧ Ev j Γ C0 ke fun C1 kp => ∃ kps k, DicOk j C1 p kps ∧ kp = isV (kV k) ∧ R C1 ((vP kps k).getD isN)) (m : M1 j.X o "get" apos ke cpos) : Ev j Γ C (.Call (.Attribute o "get" apos) [ke] [] cpos) R :=
  ev_lift (pe_dget1 hu pe_we pe_we m) fun Φ σ F H Q x S K => h Φ σ F H _ x S fun v F1 H1 C0 p ⟨kps0, d0, h1⟩ S1 s1 o1 => by
    obtain ⟨a, kvs, ev, g1, g2⟩ := d0 _ _ _ _ _ _ _ S1 o1
    refine ⟨a, ev, .inl ⟨kvs, g1⟩, h1 Φ σ F1 H1 _ x S1 fun w F2 H2 C1 kp ⟨kps, k, d1, ek, r⟩ S2 s2 o2 => ?_⟩
    subst ek
    obtain ⟨a', kvs', ev', g1', g2'⟩ := d1 _ _ _ _ _ _ _ S2 (p.mono s2 o1)
    rw [ev] at ev'
    cases ev'
    have ew : w = kV k := o2
    subst ew
    obtain ⟨t1, t2⟩ := g2'.valsOf k
    refine ⟨valV kvs' k, .inl ⟨kvs', k, g1', rfl, rfl⟩, ?_⟩
    cases hv : vP kps k with
    | none =>
      rw [hv] at r
      rw [t2 hv]
      exact K _ _ _ _ _ r S2 (s1.trans s2) rfl
    | some z =>
      rw [hv] at r
      obtain ⟨v', e1, e2⟩ := t1 z hv
      rw [e1]
      exact K _ _ _ _ _ r S2 (s1.trans s2) e2
/-- d.pop(k), k there -/
theorem ev_dpop1 (h : Ev j Γ C o fun C0 p => ∃ m kps0, p = isR m ∧ cK m kps0 ∈ C0 ∧ Ev j Γ C0 ke fun C1 kp => ∃ kps k i q, kp = isV (kV k) ∧ C1[i]? = some (cK m kps) ∧ vP kps k = some q ∧ R (C1.set i (cK m (dP kps k))) q) (m : M1 j.X o "pop" apos ke cpos) : Ev j Γ C (.Call (.Attribute o "pop" apos) [ke] [] cpos) R :=
  ev_lift (pe_dpop1 pe_we pe_we m) fun Φ σ F H Q x S K => h Φ σ F H _ x S fun v F1 H1 C0 p ⟨m, kps0, ep, hm, h1⟩ S1 s1 o1 => by
    subst ep
    have ev : v = .ref m := o1
    subst ev
    obtain ⟨kvs0, g1, _⟩ := S1.dic hm
    refine ⟨m, rfl, .inl ⟨kvs0, .inl g1⟩, h1 Φ σ F1 H1 _ x S1 fun w F2 H2 C1 kp ⟨kps, k, i, q, ek, hi, hv, r⟩ S2 s2 o2 => ?_⟩
    subst ek
    have ew : w = kV k := o2
    subst ew
    obtain ⟨kvs, g2, g3⟩ := S2.dic (List.mem_of_getElem? hi)
    obtain ⟨v', e1, e2⟩ := (g3.valsOf k).1 q hv
    exact ⟨kvs, k, v', g2, rfl, e1, K _ _ _ _ _ r (S2.puti (c := cK m kps) (c' := cK m (dP kps k)) hi rfl g2 (fun _ z => nomatch z) ⟨_, rfl, g3.drop k⟩) (s1.trans s2) e2⟩
def rListDk : List V → Hp → VK → Prop := fun xs H Q => ∃ (a : Addr) (kvs : List (Key × V)), xs = [.ref a] ∧ L2.Rd H a (.dK kvs) ∧ ∀ p, H p = none → Q (.ref p) (upd H p (.lst (kvs.map fun kv => kV kv.1)))
/-- list(d): its keys -/
theorem ok_listD (h : DicOk j C p kps) (r : R C (rL (kps.map fun kp => isV (kV kp.1)))) : CallOk j Γ rListDk [p] C R := fun Φ σ F H vs Q x S o K => by
  obtain ⟨v, e, o⟩ := all1 o
  obtain ⟨a, kvs, ev, h1, h2⟩ := h _ _ _ _ _ _ _ S o
  exact ⟨a, kvs, by rw [e, ev], h1, fun d hd => K.newL S r (kv_keys h2) hd⟩
end
section
variable {X : L2.Cx}
def rUpd : V → List V → Hp → VK → Prop := fun x xs H Q => ∃ (a b : Addr) (ks ls : List (Key × V)), x = .ref a ∧ xs = [.ref b] ∧ a ≠ b ∧ H a = some (.dK ks) ∧ L2.Rd H b (.dK ls) ∧ ks.length + ls.length ≤ sizeLine ∧ Q .non (upd H a (.dK (mergeK ks ls)))
theorem kv_merged : ∀ {ls : List (Key × V)} {vb : List (Key × Value)}, KV ls vb → ∀ {ks : List (Key × V)} {va : List (Key × Value)}, KV ks va → KV (mergeK ks ls) (merged va vb)
  | _, _, .nil, _, _, h => h
  | (k, v) :: ls, (k', u) :: vb, .cons ⟨e1, e2⟩ r, ks, va, h => by
    have e1 : k = k' := e1
    subst e1
    exact kv_merged (show KV ls vb from r) (h.put k e2)
theorem mt_update : MtR X "dict.update" rUpd := by
  intro pins s σ H x xs v us Q I rx rxs h
  obtain ⟨a, b, ks, ls, rfl, rfl, hne, ha, hb, hz, q⟩ := h
  cases rx
  cases rxs with
  | cons r1 r2 =>
    cases r2
    obtain rfl : _ = Value.ref b := r1
    obtain ⟨z1, ya, va, ra, da⟩ := dk_of I.hok ha
    obtain ⟨z2, yb, vb, rb, db⟩ := dk_rd I.hok hb
    refine call_meetsIn PySem.F.slot_dict_update da.typeIs PySem.F.entry_dict_update (PySem.F.args_dict_update_2 _ _) (meets_dict_update (mixKind X.prog X.w) a b hne yb) ⟨va, vb, da, db, (by rw [← ra.length, ← rb.length]; exact hz), fun h' d1 d2 hs => ?_⟩
    have rel := kv_merged rb ra
    have hl : (mergeK ks ls).length ≤ sizeLine := by
      have := merged_length_le va vb
      rw [rel.length]
      rw [← ra.length, ← rb.length] at this
      omega
    obtain ⟨o', e1, e2⟩ := Heap.dictOf_iff.mp d1
    exact ⟨.non, _, d_write (t' := s.toks) I (by rw [ha]; exact True.intro) hs ⟨o', e1⟩ (dk_new hl ya rel d1), rfl, q⟩
end
section
variable {j : J} {Γ : Gm} {C : List Cell} {R : Ps} {q : Pr} {kps ls : List (Key × Pr)} {m : Addr}
theorem ok_update (i : Nat) (hc : C[i]? = some (cK m kps)) {b : Addr} (hb : cK b ls ∈ C) (hne : m ≠ b) (hz : kps.length + ls.length ≤ sizeLine) (r : R (C.set i (cK m (mP kps ls))) isN) : MtOk j Γ rUpd (isR m) [isR b] C R := fun Φ σ F H v vs Q x S o1 o2 K => by
  have ev : v = .ref m := o1
  subst ev
  obtain ⟨w, e, o⟩ := all1 o2
  have ew : w = .ref b := o
  subst ew
  obtain ⟨kvs, g2, g3⟩ := S.dic (List.mem_of_getElem? hc)
  obtain ⟨kws, g4, g5⟩ := S.dic hb
  exact ⟨m, b, kvs, kws, rfl, e, hne, g2, .inl g4, by rw [← g3.len, ← g5.len]; exact hz, K _ _ _ _ _ r (S.puti (c := cK m kps) (c' := cK m (mP kps ls)) hc rfl g2 (fun _ z => nomatch z) ⟨_, rfl, KvOn.merge g5 g3⟩) (L2.Same.refl F) rfl⟩
end
end Z

end
section
set_option Elab.async false
set_option linter.all false
set_option maxRecDepth 100000
set_option maxHeartbeats 1000000
/-! Z55: texts split and joined; list(d.items()); sorted texts of a list. -/
namespace Z
open PySem PySem.Spec PyProof.Rows L2 L2.DX
open PySem.W (Datum Tup)
theorem allStr {F : Hp} : ∀ ys : List Str, AllOn (ys.map fun x => isS x) F (ys.map V.str)
  | [] => .nil
  | _ :: r => .cons rfl (allStr r)
theorem strs_of {F : Hp} : ∀ {ys : List Str} {vs : List V}, AllOn (ys.map fun x => isS x) F vs → vs = ys.map V.str
  | [], _, .nil => rfl
  | y :: ys, v :: vs, .cons h r => by
    rw [strs_of r, show v = V.str y from h]
    rfl
section
variable {j : J} {Γ : Gm} {C : List Cell} {R : Ps} {p q : Pr}
def rSplit : V → List V → Hp → VK → Prop := fun x xs H Q => ∃ a b, x = .str a ∧ xs = [.str b] ∧ (b.length == 0) = false ∧ a.length + 2 ≤ sizeLine ∧ rNewStrs (Txt.split a b) H Q
theorem mt_splitZ {X : L2.Cx} : MtR X "str.split" rSplit := mt_split
theorem ok_split {a b : Str} (hz : a.length + 2 ≤ sizeLine) (r : R C (rL ((Txt.split a b).map fun x => isS x))) (hb : (b.length == 0) = false := by decide) : MtOk j Γ rSplit (isS a) [isS b] C R := fun Φ σ F H v vs Q x S o1 o2 K => by
  have ev : v = .str a := o1
  subst ev
  obtain ⟨w, e, o⟩ := all1 o2
  have ew : w = .str b := o
  subst ew
  exact ⟨a, b, rfl, e, hb, hz, fun d hd => K.newL S r (allStr _) hd⟩
def rJoin (K : PySem.W.Frag) : V → List V → Hp → VK → Prop := fun x xs H Q => ∃ a p, ∃ ys : List Str, x = .str a ∧ xs = [.ref p] ∧ (SqL K H p (ys.map V.str) ∨ SqT K H p (ys.map V.str)) ∧ (ys.map (·.length)).sum + ys.length * a.length ≤ 16777216 ∧ Q (.str (Txt.join a ys)) H
theorem mt_joinZ {X : L2.Cx} : MtR X "str.join" (rJoin X.K) := mt_join
theorem ok_joinL {a : Str} {ys : List Str} (h : LstOk j C p (ys.map fun x => isS x)) (hz : (ys.map (·.length)).sum + ys.length * a.length ≤ 16777216) (r : R C (isS (Txt.join a ys))) : MtOk j Γ (rJoin j.X.K) (isS a) [p] C R := fun Φ σ F H v vs Q x S o1 o2 K => by
  have ev : v = .str a := o1
  subst ev
  obtain ⟨w, e, o⟩ := all1 o2
  obtain ⟨l, ws, ew, g1, g2⟩ := h _ _ _ _ _ _ _ S o
  rw [strs_of g2] at g1
  exact ⟨a, l, ys, rfl, by rw [e, ew], .inl g1, hz, K.now S r rfl⟩
theorem ok_joinT {a : Str} {ys : List Str} (h : TupOk j p (ys.map fun x => isS x)) (hz : (ys.map (·.length)).sum + ys.length * a.length ≤ 16777216) (r : R C (isS (Txt.join a ys))) : MtOk j Γ (rJoin j.X.K) (isS a) [p] C R := fun Φ σ F H v vs Q x S o1 o2 K => by
  have ev : v = .str a := o1
  subst ev
  obtain ⟨w, e, o⟩ := all1 o2
  obtain ⟨l, ws, ew, g1, g2⟩ := h _ _ _ _ _ _ _ _ S o
  rw [strs_of g2] at g1
  exact ⟨a, l, ys, rfl, by rw [e, ew], .inr g1, hz, K.now S r rfl⟩
/-- sorted(a list of texts) -/
theorem ok_sortedL {ys : List Str} (h : LstOk j C p (ys.map fun x => isS x)) (h64 : ys.length < 64) (r : ∀ zs, zs.Perm ys → sortedS zs = true → R C (rL (zs.map fun y => isS y))) : CallOk j Γ (rSortedS j.X.K) [p] C R := fun Φ σ F H vs Q x S o K => by
  obtain ⟨v, e, o⟩ := all1 o
  obtain ⟨l, ws, ew, g1, g2⟩ := h _ _ _ _ _ _ _ S o
  rw [strs_of g2] at g1
  exact ⟨l, ys, by rw [e, ew], g1, h64, fun zs pp hp hs hn => K.newL S (r zs hp hs) (allStr zs) hn⟩
end
/-! ### list(d.items()) -/
section
variable {X : L2.Cx}
def rItemsK : V → List V → Hp → VK → Prop := fun x xs H Q => ∃ (a : Addr) (kvs : List (Key × V)), x = .ref a ∧ xs = [] ∧ L2.Rd H a (.dK kvs) ∧ ∀ p, H p = none → Q (.ref p) (upd H p (itemsO p a))
theorem mt_itemsK : MtR X "dict.items" rItemsK := by
  intro pins s σ H x xs v us Q I rx rxs h
  obtain ⟨a, kvs, rfl, rfl, ha, q⟩ := h
  cases rx
  cases rxs
  obtain ⟨z, lo, vs, rel, dd⟩ := dk_rd I.hok ha
  have hf : H s.heap.objs.size = none := I.hok.fresh (Nat.le_refl _)
  refine call_meetsIn PySem.F.slot_dict_items dd.typeIs PySem.F.entry_dict_items (PySem.F.args_dict_items_1 _) (meets_dict_items (mixKind X.prog X.w) a lo) ⟨⟨vs, dd⟩, ?_⟩
  exact ⟨.ref s.heap.objs.size, upd H s.heap.objs.size (itemsO s.heap.objs.size a), I.laid (t' := s.toks) (fun b u e => Heap.get?_push_of_some _ e) (Nat.le_refl _) (itemsO_ok (Heap.get?_push_size _ rfl)), rfl, q _ hf⟩
def tupsH (H : Hp) (L : List (Addr × List V)) : Hp := L.foldl (fun H p => upd H p.1 (.tup p.2)) H
theorem takeTs {pins : List (Addr × Obj)} {σ : L2.St} {H0 : Hp} {s : Shared} {h' : Heap} {tk : Nat} (I0 : Inv X pins σ H0 s) : ∀ (L : List (Addr × List V)) (H1 : Hp), Inv X pins σ H1 { s with heap := h', toks := tk } → (L.map Prod.fst).Nodup →
    (∀ p ∈ L, s.heap.objs.size ≤ p.1 ∧ H1 p.1 = none ∧ ∀ H2, ObjOk X.prog X.w H2 h' p.1 (.tup p.2)) → Inv X pins σ (tupsH H1 L) { s with heap := h', toks := tk }
  | [], H1, I1, _, _ => I1
  | p :: L, H1, I1, hn, h => by
    obtain ⟨hb, hnone, ok⟩ := h p (List.mem_cons_self ..)
    have hf : H0 p.1 = none := I0.hok.fresh hb
    have I2 : Inv X pins σ (upd H1 p.1 (.tup p.2)) { s with heap := h', toks := tk } := I1.take (h' := h') (t' := tk) (fun b ob _ e => e) (I0.fpOk hb hnone) (ok _)
    rw [List.map_cons, List.nodup_cons] at hn
    refine takeTs I0 L _ I2 hn.2 fun c hc => ?_
    obtain ⟨c1, c2, c3⟩ := h c (List.mem_cons_of_mem _ hc)
    exact ⟨c1, by show upd H1 p.1 (.tup p.2) c.1 = none; rw [upd_ne (fun z => hn.1 (List.mem_map.mpr ⟨c, hc, z⟩))]; exact c2, c3⟩
theorem tupsH_out {a : Addr} : ∀ {L : List (Addr × List V)} {H : Hp}, a ∉ L.map Prod.fst → tupsH H L a = H a
  | [], _, _ => rfl
  | p :: L, H, h => by
    rw [List.map_cons, List.mem_cons, not_or] at h
    show tupsH (upd H p.1 (.tup p.2)) L a = H a
    rw [tupsH_out h.2, upd_ne h.1]
def rListI : List V → Hp → VK → Prop := fun xs H Q => ∃ (p a : Addr) (kvs : List (Key × V)), xs = [.ref p] ∧ H p = some (itemsO p a) ∧ L2.Rd H a (.dK kvs) ∧ ∀ (L : List (Addr × List V)) (l : Addr), L.map Prod.snd = kvs.map (fun kv => [kV kv.1, kv.2]) → (L.map Prod.fst).Nodup → (∀ q ∈ L, H q.1 = none) → H l = none → l ∉ L.map Prod.fst → Q (.ref l) (upd (tupsH H L) l (.lst (L.map fun q => V.ref q.1)))
theorem zip_fst {α β : Type} : ∀ {as : List α} {bs : List β}, as.length = bs.length → (as.zip bs).map Prod.fst = as ∧ (as.zip bs).map Prod.snd = bs
  | [], [], _ => ⟨rfl, rfl⟩
  | [], b :: bs, h => by simp at h
  | a :: as, [], h => by simp at h
  | a :: as, b :: bs, h => by
    obtain ⟨h1, h2⟩ := zip_fst (as := as) (bs := bs) (by simpa using h)
    exact ⟨by rw [List.zip_cons_cons, List.map_cons, h1], by rw [List.zip_cons_cons, List.map_cons, h2]⟩
theorem vals_refs2 : ∀ as : List Addr, Vals (as.map V.ref) (as.map Value.ref)
  | [] => .nil
  | _ :: r => .cons rfl (vals_refs2 r)
theorem cr_listI (hc : X.calm = true) : CallR X (.type "list") rListI := by
  intro pins s σ H xs us Q I r h
  obtain ⟨p, a, kvs, rfl, hp, ha, q⟩ := h
  obtain rfl := Vals.ref1 r
  have view : s.heap.IsItemsView p a := (show ObjOk X.prog X.w H s.heap p (itemsO p a) from I.hok p _ hp).1
  obtain ⟨z, lo, vs, rel, dd⟩ := dk_rd I.hok ha
  obtain ⟨ep, hm⟩ := dd.dictAt
  have hh : X.A.handled = none := I.ok.hd hc
  have lv : kvs.length = vs.length := Paired.length rel
  refine PySem.W.kdx_call (knd := mixKind X.prog X.w) hh view hm (by rw [← lv]; exact z) fun h' tk acc c as hk hS hl hG hacc => ?_
  have I1 : Inv X pins σ H { s with heap := h', toks := tk } := I.kept hk
  have nd : as.Nodup := List.Pairwise.imp (fun h => Nat.ne_of_lt h) hG.rise
  have hlk : as.length = kvs.length := by rw [hl, lv]
  let L : List (Addr × List V) := as.zip (kvs.map fun kv => [kV kv.1, kv.2])
  obtain ⟨z1, z2⟩ := zip_fst (as := as) (bs := kvs.map fun kv => [kV kv.1, kv.2]) (by rw [List.length_map]; exact hlk)
  have hge : ∀ b ∈ as, s.heap.objs.size ≤ b := fun b hb => Nat.le_of_lt (hG.above b hb)
  have I2 := takeTs I L H I1 (by rw [show L.map Prod.fst = as from z1]; exact nd) fun pr hpr => by
    obtain ⟨n, hn, en⟩ := List.mem_iff_getElem.mp hpr
    have hna : n < as.length := by
      have : n < L.length := hn
      rw [show L.length = min as.length _ from List.length_zip] at this
      omega
    have hnk : n < kvs.length := by omega
    have e1 : pr.1 = as[n] := by
      rw [← en]
      show (as.zip _)[n].1 = _
      rw [List.getElem_zip]
    have e2 : pr.2 = [kV kvs[n].1, kvs[n].2] := by
      rw [← en]
      show (as.zip _)[n].2 = _
      rw [List.getElem_zip, List.getElem_map]
    refine ⟨by rw [e1]; exact hge _ (List.getElem_mem hna), by rw [e1]; exact I.hok.fresh (hge _ (List.getElem_mem hna)), fun H2 => ?_⟩
    obtain ⟨key, k, x, g1, g2, g3⟩ := hG.pairs n as[n] (List.getElem?_eq_getElem hna)
    have hnv : n < vs.length := by omega
    obtain ⟨k', hk', r'⟩ : ∃ u, vs[n]? = some (kvs[n].1, u) ∧ RelV kvs[n].2 u := by
      obtain ⟨u, hu, ru⟩ := kv_get rel (i := n) (k := kvs[n].1) (v := kvs[n].2) (List.getElem?_eq_getElem hnk)
      exact ⟨u, hu, ru⟩
    rw [g1] at hk'
    cases hk'
    rw [e1, e2]
    exact ⟨by show 2 ≤ sizeLine; decide, [key, x], .cons (relV_key (show keyIs kvs[n].1 key = true from g2)) (.cons r' .nil), ⟨_, g3, rfl, _, rfl⟩⟩
  have hSn : s.heap.objs.size ∉ as := fun z => Nat.lt_irrefl _ (hG.above _ z)
  have hSf : H s.heap.objs.size = none := I.hok.fresh (Nat.le_refl _)
  have hSf2 : tupsH H L s.heap.objs.size = none := by rw [tupsH_out (by rw [show L.map Prod.fst = as from z1]; exact hSn)]; exact hSf
  refine ⟨.ref s.heap.objs.size, upd (tupsH H L) s.heap.objs.size (.lst (L.map fun q => V.ref q.1)), I2.take (h' := h') (t' := tk) (fun b ob _ e => e) (I.fpOk (Nat.le_refl _) hSf2) ?_, rfl, q L _ z2 (by rw [show L.map Prod.fst = as from z1]; exact nd) (fun q hq => ?_) hSf (by rw [show L.map Prod.fst = as from z1]; exact hSn)⟩
  · have em : (L.map fun q => V.ref q.1) = as.map V.ref := by rw [← z1, List.map_map]; rfl
    rw [em]
    refine ⟨?_, as.map Value.ref, c, vals_refs2 as, ?_⟩
    · rw [List.length_map, hlk]
      exact z
    · rw [hS, ← hacc, Array.toArray_toList]
  · exact I.hok.fresh (hge _ (by rw [← z1]; exact List.mem_map.mpr ⟨q, hq, rfl⟩))
end
section
variable {j : J} {Γ : Gm} {C : List Cell} {R : Ps} {p : Pr} {kps : List (Key × Pr)}
def rVi (a : Addr) : Pr := ⟨fun F v => ∃ p, v = .ref p ∧ F p = some (itemsO p a), fun s ⟨p, e, h⟩ => ⟨p, e, s _ _ h⟩⟩
theorem ok_itemsK {a : Addr} (h : DicOk j C (isR a) kps) (r : R C (rVi a)) : MtOk j Γ rItemsK (isR a) [] C R := fun Φ σ F H v vs Q x S o1 o2 K => by
  have ev : v = .ref a := o1
  subst ev
  cases o2
  obtain ⟨a', kvs, e, h1, h2⟩ := h _ _ _ _ _ _ _ S rfl
  cases e
  refine ⟨a, kvs, rfl, rfl, h1, fun q hq => ?_⟩
  obtain ⟨S2, s2⟩ := S.newF (o := itemsO q a) hq ⟨fun _ z => (nomatch z), fun _ _ z => (nomatch z)⟩
  exact K _ _ _ _ _ r S2 s2 ⟨q, rfl, upd_same⟩
theorem newTs {tb : Tb} {Φ : Fx} {σ : L2.St} : ∀ {L : List (Addr × List V)} {F H : Hp}, Sta tb Φ Γ C σ F H → (L.map Prod.fst).Nodup → (∀ q ∈ L, H q.1 = none) → ∃ F', L2.Same F F' ∧ Sta tb Φ Γ C σ F' (tupsH H L) ∧ ∀ q ∈ L, F' q.1 = some (.tup q.2)
  | [], F, H, S, _, _ => ⟨F, L2.Same.refl F, S, fun _ h => nomatch h⟩
  | p :: L, F, H, S, nd, hn => by
    rw [List.map_cons, List.nodup_cons] at nd
    obtain ⟨S2, s2⟩ := S.newF (o := .tup p.2) (hn p List.mem_cons_self) ⟨fun _ z => (nomatch z), fun _ _ z => (nomatch z)⟩
    obtain ⟨F', s', S', h'⟩ := newTs S2 nd.2 fun q hq => by rw [upd_ne fun z => nd.1 (List.mem_map.mpr ⟨q, hq, z⟩)]; exact hn q (List.mem_cons_of_mem _ hq)
    refine ⟨F', s2.trans s', S', fun q hq => ?_⟩
    rcases List.mem_cons.mp hq with rfl | hq
    · exact s' _ _ upd_same
    · exact h' q hq
theorem pairs_all {K : PySem.W.Frag} {F F' : Hp} (s : L2.Same F F') : ∀ {kps : List (Key × Pr)} {kvs : List (Key × V)} {L : List (Addr × List V)}, KvOn kps F kvs → L.map Prod.snd = kvs.map (fun kv => [kV kv.1, kv.2]) → (∀ q ∈ L, F' q.1 = some (.tup q.2)) → AllOn (rPairs K kps) F' (L.map fun q => V.ref q.1)
  | [], _, [], .nil, _, _ => .nil
  | [], _, _ :: _, .nil, e, _ => by simp at e
  | (k, q) :: kps, (k', v) :: kvs, [], .cons _ _, e, _ => by simp at e
  | (k, q) :: kps, (k', v) :: kvs, p :: L, .cons ⟨e1, e2⟩ r, e, h => by
    rw [List.map_cons, List.map_cons] at e
    injection e with ea eb
    have e1 : k = k' := e1
    subst e1
    refine .cons ⟨p.1, _, rfl, SqT.of (h p List.mem_cons_self), ?_⟩ (pairs_all s r eb fun q hq => h q (List.mem_cons_of_mem _ hq))
    rw [ea]
    exact .cons rfl (.cons (q.mono s e2) .nil)
/-- list(d.items()): pairs -/
theorem ok_listI {a : Addr} (h : DicOk j C (isR a) kps) (r : R C (rL (rPairs j.X.K kps))) : CallOk j Γ rListI [rVi a] C R := fun Φ σ F H vs Q x S o K => by
  obtain ⟨v, e, p, ev, hp⟩ := all1 o
  subst ev
  obtain ⟨a', kvs, e', h1, h2⟩ := h _ _ _ _ _ _ _ S rfl
  cases e'
  have hpH : H p = some (itemsO p a) := by
    rcases S.subx p _ hp with w | ⟨_, _, _, w⟩
    · exact w
    · cases w
  refine ⟨p, a, kvs, e, hpH, h1, fun L l eL nd hn hl hlL => ?_⟩
  obtain ⟨F', s', S', h'⟩ := newTs S nd hn
  exact (K.same s').newL S' r (pairs_all s' h2 eL h') (by rw [tupsH_out hlL]; exact hl)
end
end Z

end
section
set_option Elab.async false
set_option linter.all false
set_option maxRecDepth 100000
set_option maxHeartbeats 1000000
/-! Z56: a name's value seen as less; tuples of texts as keys; plain facts of split and join. -/
namespace Z
open PySem PySem.Spec PyProof.Rows L2
open PySem.W (Datum Tup)
section
variable {j : J} {Γ : Gm} {C : List Cell} {R : Ps} {P : Po} {sts : List Stmt} {p q : Pr}
theorem tr_as (i : Nat) (hi : Γ[i]? = some (some p)) (w : ∀ F v, p.on F v → q.on F v) (t : Tr j (Γ.set i (some q)) C sts P) : Tr j Γ C sts P := fun Φ σ F H x S => by
  have e : EnvOk (Γ.set i (some q)) F σ := by
    refine ⟨by rw [S.env.len, List.length_set], fun k p' h => ?_⟩
    by_cases hk : i = k
    · subst hk
      have hl : i < Γ.length := (List.getElem?_eq_some_iff.mp hi).1
      rw [List.getElem?_set_self hl] at h
      cases h
      obtain ⟨v, h1, h2⟩ := S.env.at_ i p hi
      exact ⟨v, h1, w F v h2⟩
    · rw [List.getElem?_set_ne hk] at h
      exact S.env.at_ k p' h
  exact t Φ σ F H x (S.envTo e)
/-- tuple(a list): a key -/
theorem ok_tupleLK {ks : List Key} (h : LstOk j C p (ks.map fun k => isV (kV k))) (r : R C (rKt ks)) : CallOk j Γ (fun xs H Q => ∃ p ys, xs = [.ref p] ∧ ((SqL j.X.K H p ys ∧ ∀ l, H l = none → Q (.ref l) (upd H l (.tup ys))) ∨ (SqT j.X.K H p ys ∧ Q (.ref p) H))) [p] C R := fun Φ σ F H vs Q x S o K => by
  obtain ⟨v, e, o⟩ := all1 o
  obtain ⟨a, ws, ev, g1, g2⟩ := h _ _ _ _ _ _ _ S o
  refine ⟨a, ws, by rw [e, ev], .inl ⟨g1, fun l hl => ?_⟩⟩
  obtain ⟨S2, s2⟩ := S.newF (o := .tup ws) hl fine_tup
  exact K _ _ _ _ _ r S2 s2 ⟨l, rfl, by rw [upd_same, vals_keys g2]⟩
end
theorem cutP_neg1 (ps : List Pr) : cutP ps none (some (-1)) = ps.dropLast := by
  unfold cutP
  have e2 : HT.sIx ps.length 0 none = 0 := rfl
  have e1 : HT.sIx ps.length ps.length (some (-1)) = ps.length - 1 := by
    show (if (-1 : Int) < 0 then ((-1 : Int) + (ps.length : Int)).toNat else min (-1 : Int).toNat ps.length) = _
    rw [if_pos (by decide)]
    omega
  rw [e1, e2, List.drop_zero, Nat.sub_zero, List.dropLast_eq_take]
/-- texts as keys -/
abbrev kS (xs : List Str) : List Key := xs.map fun x => .inr x
theorem kS_pr (xs : List Str) : (kS xs).map (fun k => isV (kV k)) = xs.map fun x => isS x := by
  unfold kS
  rw [List.map_map]
  rfl
theorem kS_rT {K : PySem.W.Frag} {xs : List Str} (F : Hp) (v : V) (h : (rKt (kS xs)).on F v) : (rT K (xs.map fun x => isS x)).on F v := by
  have := rKt_rT (K := K) h
  rw [kS_pr] at this
  exact this
theorem kS_inj : ∀ {xs ys : List Str}, kS xs = kS ys → xs = ys
  | [], [], _ => rfl
  | [], y :: ys, h => by simp [kS] at h
  | x :: xs, [], h => by simp [kS] at h
  | x :: xs, y :: ys, h => by
    unfold kS at h
    rw [List.map_cons, List.map_cons] at h
    injection h with h1 h2
    rw [Sum.inr.inj h1, kS_inj (show kS xs = kS ys from h2)]
/-! ### split and join by one sign -/
theorem txt_join (a : Str) (ys : List Str) : Txt.join a ys = Str.join a ys := StrLaws.glued_eq_join a ys
theorem join_cps (c : Nat) : ∀ (x : Str) (ys : List Str), (Str.join ⟨#[c]⟩ (x :: ys)).cps.toList = x.cps.toList ++ (ys.map fun y => c :: y.cps.toList).flatten
  | x, [] => by simp [Str.join]
  | x, y :: r => by
    have h := join_cps c y r
    show ((x ++ ⟨#[c]⟩ ++ Str.join ⟨#[c]⟩ (y :: r) : Str)).cps.toList = _
    show ((x.cps ++ #[c]) ++ (Str.join ⟨#[c]⟩ (y :: r)).cps).toList = _
    rw [Array.toList_append, Array.toList_append, h]
    simp
theorem str_ext {x y : Str} (h : x.cps.toList = y.cps.toList) : x = y := by
  obtain ⟨u⟩ := x
  obtain ⟨v⟩ := y
  have h : u.toList = v.toList := h
  rw [Array.toList_inj.mp h]
theorem cut_first {c : Nat} : ∀ {a b u v : List Nat}, c ∉ a → c ∉ b → a ++ c :: u = b ++ c :: v → a = b ∧ u = v
  | [], [], u, v, _, _, h => by simpa using h
  | [], y :: b, u, v, _, hb, h => by
    rw [List.nil_append, List.cons_append] at h
    injection h with h1 _
    exact absurd (by rw [h1]; exact List.mem_cons_self) hb
  | x :: a, [], u, v, ha, _, h => by
    rw [List.nil_append, List.cons_append] at h
    injection h with h1 _
    exact absurd (by rw [← h1]; exact List.mem_cons_self) ha
  | x :: a, y :: b, u, v, ha, hb, h => by
    rw [List.cons_append, List.cons_append] at h
    injection h with h1 h2
    obtain ⟨e1, e2⟩ := cut_first (fun z => ha (List.mem_cons_of_mem _ z)) (fun z => hb (List.mem_cons_of_mem _ z)) h2
    exact ⟨by rw [h1, e1], e2⟩
/-- what is joined with a sign that no part has can be told apart -/
theorem join_inj {c : Nat} : ∀ {x y : Str} {xs ys : List Str}, (∀ z ∈ x :: xs, c ∉ z.cps.toList) → (∀ z ∈ y :: ys, c ∉ z.cps.toList) → Str.join ⟨#[c]⟩ (x :: xs) = Str.join ⟨#[c]⟩ (y :: ys) → x :: xs = y :: ys
  | x, y, [], [], _, _, h => by rw [show x = y from h]
  | x, y, [], z :: ys, hx, _, h => by
    have e := congrArg (fun s : Str => s.cps.toList) h
    simp only [join_cps] at e
    have : c ∈ x.cps.toList := by
      simp only [List.map_nil, List.flatten_nil, List.append_nil] at e
      rw [e]
      simp
    exact absurd this (hx x List.mem_cons_self)
  | x, y, z :: xs, [], _, hy, h => by
    have e := congrArg (fun s : Str => s.cps.toList) h
    simp only [join_cps] at e
    have : c ∈ y.cps.toList := by
      simp only [List.map_nil, List.flatten_nil, List.append_nil] at e
      rw [← e]
      simp
    exact absurd this (hy y List.mem_cons_self)
  | x, y, z :: xs, w :: ys, hx, hy, h => by
    have e := congrArg (fun s : Str => s.cps.toList) h
    simp only [join_cps, List.map_cons, List.flatten_cons, List.cons_append] at e
    obtain ⟨e1, e2⟩ := cut_first (hx x List.mem_cons_self) (hy y List.mem_cons_self) e
    have hr : Str.join ⟨#[c]⟩ (z :: xs) = Str.join ⟨#[c]⟩ (w :: ys) := str_ext (by rw [join_cps, join_cps]; exact e2)
    have ih := join_inj (fun u hu => hx u (List.mem_cons_of_mem _ hu)) (fun u hu => hy u (List.mem_cons_of_mem _ hu)) hr
    rw [str_ext e1, ih]
theorem split_of_join {c : Nat} {xs : List Str} (h0 : xs ≠ []) (h : ∀ x ∈ xs, c ∉ x.cps.toList) : Txt.split (Txt.join ⟨#[c]⟩ xs) ⟨#[c]⟩ = xs := by
  rw [txt_join]
  have e := StrLaws.join_split (Str.join ⟨#[c]⟩ xs) ⟨#[c]⟩
  have f := StrLaws.split_free (Str.join ⟨#[c]⟩ xs) c
  have hp := PyProof.Rows.split_pos (Str.join ⟨#[c]⟩ xs) ⟨#[c]⟩
  generalize Txt.split (Str.join ⟨#[c]⟩ xs) ⟨#[c]⟩ = ys at e f hp ⊢
  cases ys with
  | nil => simp at hp
  | cons y ys =>
    cases xs with
    | nil => exact absurd rfl h0
    | cons x xs => exact join_inj f h e
theorem join_of_split (x : Str) (c : Nat) : Txt.join ⟨#[c]⟩ (Txt.split x ⟨#[c]⟩) = x := by
  rw [txt_join]
  exact StrLaws.join_split x ⟨#[c]⟩
end Z

end
section
set_option Elab.async false
set_option linter.all false
set_option maxRecDepth 100000
/-! Z57: cells' addresses differ; tables with texts as keys; None or a value as data; tables that are equal. -/
namespace Z
open PySem PySem.Spec PyProof.Rows L2
open PySem.W (Datum Tup)
open Rep (pr)
section
variable {j : J} {Γ : Gm} {C : List Cell} {R : Ps} {P : Po} {sts : List Stmt} {e : Expr}
theorem tr_nd (h : (C.map (·.a)).Nodup → Tr j Γ C sts P) : Tr j Γ C sts P := fun Φ σ F H x S => h S.cells.nd Φ σ F H x S
theorem ev_nd (h : (C.map (·.a)).Nodup → Ev j Γ C e R) : Ev j Γ C e R := fun Φ σ F H Q x S => h S.cells.nd Φ σ F H Q x S
end
/-! ### tables with texts as keys -/
section
variable {α : Type} [DecidableEq α] [Datum α] [Rep α]
def sK (K : PySem.W.Frag) (t : List (Str × α)) : List (Key × Pr) := t.map fun kv => (.inr kv.1, pr K kv.2)
theorem inr_injS : ∀ a b : Str, (Sum.inr a : Key) = Sum.inr b → a = b := fun a b h => by injection h
theorem sK_len (K : PySem.W.Frag) (t : List (Str × α)) : (sK K t).length = t.length := by unfold sK; rw [List.length_map]
theorem sK_put (K : PySem.W.Frag) (t : List (Str × α)) (x : Str) (v : α) : pP (sK K t) (.inr x) (pr K v) = sK K (pG t x v) :=
  pG_map (f := (Sum.inr : Str → Key)) (g := fun v : α => pr K v) inr_injS t x v
theorem sK_get (K : PySem.W.Frag) (t : List (Str × α)) (x : Str) : vP (sK K t) (.inr x) = (vG t x).map fun v => pr K v :=
  vG_map (f := (Sum.inr : Str → Key)) (g := fun v : α => pr K v) inr_injS t x
theorem sK_mP (K : PySem.W.Frag) (t u : List (Str × α)) : mP (sK K t) (sK K u) = sK K (pGs t u) :=
  pGs_map (f := (Sum.inr : Str → Key)) (g := fun v : α => pr K v) inr_injS u t
theorem sK_nil (K : PySem.W.Frag) : sK K ([] : List (Str × α)) = [] := rfl
theorem sK_keys (K : PySem.W.Frag) (t : List (Str × α)) : (sK K t).map (fun kp => isV (kV kp.1)) = t.map fun kv => isS kv.1 := by
  unfold sK
  rw [List.map_map]
  rfl
theorem sK_fst (K : PySem.W.Frag) (t : List (Str × α)) : (sK K t).map (·.1) = (t.map Prod.fst).map Sum.inr := by
  unfold sK
  rw [List.map_map, List.map_map]
  rfl
theorem sK_at {K : PySem.W.Frag} {t : List (Str × α)} {n : Nat} {q : Pr} (h : ((sK K t).map (fun kp => isV (kV kp.1)))[n]? = some q) : ∃ x v, t[n]? = some (x, v) ∧ q = isS x := by
  rw [sK_keys, List.getElem?_map] at h
  obtain ⟨kv, h1, h2⟩ := Option.map_eq_some_iff.mp h
  exact ⟨kv.1, kv.2, h1, h2.symm⟩
theorem vG_at {t : List (Str × α)} {n : Nat} {x : Str} {v : α} (nd : (t.map Prod.fst).Nodup) (h : t[n]? = some (x, v)) : vG t x = some v := by
  induction t generalizing n with
  | nil => simp at h
  | cons p t ih =>
    rw [vG_cons]
    rw [List.map_cons, List.nodup_cons] at nd
    cases n with
    | zero =>
      rw [List.getElem?_cons_zero] at h
      cases Option.some.inj h
      rw [if_pos rfl]
    | succ n =>
      rw [List.getElem?_cons_succ] at h
      rw [if_neg (fun z => nd.1 (by rw [z]; exact List.mem_map.mpr ⟨(x, v), List.mem_of_getElem? h, rfl⟩))]
      exact ih nd.2 h
theorem nd_not {t : List (Str × α)} {n : Nat} {x : Str} {v : α} (nd : (t.map Prod.fst).Nodup) (h : t[n]? = some (x, v)) : ∀ p ∈ t.take n, p.1 ≠ x := fun p hp e => by
  obtain ⟨k, hk, ek⟩ := List.mem_iff_getElem.mp hp
  rw [List.length_take] at hk
  rw [List.getElem_take] at ek
  obtain ⟨hn, en⟩ := List.getElem?_eq_some_iff.mp h
  have := (List.getElem_inj (xs := t.map Prod.fst) (h₀ := by rw [List.length_map]; omega) (h₁ := by rw [List.length_map]; omega) nd (i := k) (j := n)).mp (by rw [List.getElem_map, List.getElem_map, ek, en, e])
  omega
/-- a filtered table grows by one row -/
theorem sK_filt {K : PySem.W.Frag} {t : List (Str × α)} {f : Str × α → Bool} {n : Nat} {x : Str} {v : α} (nd : (t.map Prod.fst).Nodup) (h : t[n]? = some (x, v)) (hf : f (x, v) = true) : pP (sK K ((t.take n).filter f)) (.inr x) (pr K v) = sK K ((t.take (n + 1)).filter f) := by
  rw [sK_put, pG_snoc _ _ fun p hp => nd_not nd h p (List.mem_filter.mp hp).1, List.take_add_one, h, List.filter_append]
  simp [hf]
theorem filt_no {β : Type} {t : List β} {f : β → Bool} {n : Nat} {x : β} (h : t[n]? = some x) (hf : f x = false) : (t.take (n + 1)).filter f = (t.take n).filter f := by
  rw [List.take_add_one, h, List.filter_append]
  simp [hf]
theorem filt_yes {β : Type} {t : List β} {f : β → Bool} {n : Nat} {x : β} (h : t[n]? = some x) (hf : f x = true) : (t.take (n + 1)).filter f = (t.take n).filter f ++ [x] := by
  rw [List.take_add_one, h, List.filter_append]
  simp [hf]
theorem filt_lt {β : Type} {t : List β} {f : β → Bool} {n m : Nat} (h : t.length < m) : ((t.take n).filter f).length < m := Nat.lt_of_le_of_lt (Nat.le_trans (List.length_filter_le _ _) (List.length_take_le' _ _)) h
theorem nd_filt {β γ : Type} {g : β → γ} {f : β → Bool} {t : List β} (nd : (t.map g).Nodup) : ((t.filter f).map g).Nodup := nd.sublist (List.filter_sublist.map g)
theorem any_take {β : Type} {f : β → Bool} {t : List β} {n : Nat} {x : β} (h : t[n]? = some x) : (t.take (n + 1)).any f = ((t.take n).any f || f x) := by
  rw [List.take_add_one, h, List.any_append]
  simp
theorem vG_memS {t : List (Str × α)} {x : Str} {v : α} (nd : (t.map Prod.fst).Nodup) (h : (x, v) ∈ t) : vG t x = some v := by
  obtain ⟨n, hn, e⟩ := List.mem_iff_getElem.mp h
  exact vG_at nd (List.getElem?_eq_some_iff.mpr ⟨hn, e⟩)
theorem vG_someS {t : List (Str × α)} {x : Str} {v : α} (h : vG t x = some v) : (x, v) ∈ t := by
  induction t with
  | nil => cases h
  | cons p t ih =>
    rw [vG_cons] at h
    by_cases e : p.1 = x
    · rw [if_pos e] at h
      subst e
      cases Option.some.inj h
      exact List.mem_cons_self
    · rw [if_neg e] at h
      exact List.mem_cons_of_mem _ (ih h)
theorem vG_noneS {t : List (Str × α)} {x : Str} (h : vG t x = none) : x ∉ t.map Prod.fst := fun z => by
  induction t with
  | nil => exact absurd z (by simp)
  | cons p t ih =>
    rw [vG_cons] at h
    by_cases e : p.1 = x
    · rw [if_pos e] at h; cases h
    · rw [if_neg e] at h
      rcases List.mem_cons.mp z with z | z
      · exact e z.symm
      · exact ih h z
theorem vG_notS {t : List (Str × α)} {x : Str} (h : x ∉ t.map Prod.fst) : vG t x = none := by
  cases e : vG t x with
  | none => rfl
  | some v => exact absurd (List.mem_map.mpr ⟨(x, v), vG_someS e, rfl⟩) h
/-- tables as dicts of the layer -/
def kT (t : List (Str × α)) : List (Key × α) := t.map fun kv => (Sum.inr kv.1, kv.2)
theorem kT_dTab (K : PySem.W.Frag) (t : List (Str × α)) : dTab K (kT t) = sK K t := by
  unfold kT sK dTab
  rw [List.map_map]
  rfl
def eqS (t u : List (Str × α)) : Bool := (t.length == u.length) && t.all fun kv => decide (vG u kv.1 = some kv.2)
theorem eqTab_kT (t u : List (Str × α)) : eqTab (kT t) (kT u) = eqS t u := by
  unfold eqTab eqS
  have h1 : (kT t).length = t.length := by unfold kT; rw [List.length_map]
  have h2 : (kT u).length = u.length := by unfold kT; rw [List.length_map]
  rw [h1, h2]
  congr 1
  unfold kT
  rw [List.all_map]
  congr 1
  funext kv
  show decide (vG (u.map fun kv => ((Sum.inr kv.1 : Key), kv.2)) (Sum.inr kv.1) = some kv.2) = _
  have := vG_map (f := (Sum.inr : Str → Key)) (g := fun v : α => v) inr_injS u kv.1
  rw [this]
  congr 1
  rw [Option.map_id']
theorem eqS_perm {t u : List (Str × α)} (nd : (t.map Prod.fst).Nodup) (h : t.Perm u) : eqS t u = true := by
  unfold eqS
  rw [h.length_eq, beq_self_eq_true, Bool.true_and, List.all_eq_true]
  intro kv hk
  exact decide_eq_true (vG_memS ((h.map _).nodup_iff.mp nd) (h.mem_iff.mp hk))
theorem eqS_refl {t : List (Str × α)} (nd : (t.map Prod.fst).Nodup) : eqS t t = true := eqS_perm nd (List.Perm.refl _)
/-- equal lookups, no key twice: the same rows -/
theorem perm_of_vG {t u : List (Str × α)} (nt : (t.map Prod.fst).Nodup) (nu : (u.map Prod.fst).Nodup) (h : ∀ x, vG t x = vG u x) : t.Perm u := by
  have nt' : t.Nodup := List.Pairwise.of_map Prod.fst (fun a b h e => h (by rw [e])) nt
  have nu' : u.Nodup := List.Pairwise.of_map Prod.fst (fun a b h e => h (by rw [e])) nu
  rw [List.perm_ext_iff_of_nodup nt' nu']
  intro ⟨x, v⟩
  refine ⟨fun z => vG_someS ?_, fun z => vG_someS ?_⟩
  · rw [← h]; exact vG_memS nt z
  · rw [h]; exact vG_memS nu z
end
/-! ### None or a value -/
class NotNone (α : Type) [DecidableEq α] [Datum α] : Prop where
  l : ∀ a : α, PyData.eqv .none (Datum.toD a) = false
  r : ∀ a : α, PyData.eqv (Datum.toD a) .none = false
instance {α : Type} [DecidableEq α] [Datum α] : NotNone (Tup α) := ⟨fun a => by show PyData.eqv .none (.tuple _) = false; simp only [PyData.eqv], fun a => by show PyData.eqv (.tuple _) .none = false; simp only [PyData.eqv]⟩
instance : NotNone Str := ⟨fun a => by show PyData.eqv .none (.str _) = false; simp only [PyData.eqv], fun a => by show PyData.eqv (.str _) .none = false; simp only [PyData.eqv]⟩
instance : NotNone Int := ⟨fun a => by show PyData.eqv .none (.int _) = false; simp only [PyData.eqv], fun a => by show PyData.eqv (.int _) .none = false; simp only [PyData.eqv]⟩
instance {α : Type} [DecidableEq α] [Datum α] : NotNone (List α) := ⟨fun a => by show PyData.eqv .none (.list _) = false; simp only [PyData.eqv], fun a => by show PyData.eqv (.list _) .none = false; simp only [PyData.eqv]⟩
section
variable {α : Type} [DecidableEq α] [Datum α] [NotNone α]
def optD : Option α → PyData
  | none => .none
  | some a => Datum.toD a
instance : Datum (Option α) where
  toD := optD
  plain a := by cases a with
    | none => rfl
    | some a => exact Datum.plain a
  eqv a b := by
    cases a with
    | none => cases b with
      | none => show PyData.eqv .none .none = _; simp only [PyData.eqv]; rfl
      | some b => show PyData.eqv .none (Datum.toD b) = _; rw [NotNone.l b]; rfl
    | some a => cases b with
      | none => show PyData.eqv (Datum.toD a) .none = _; rw [NotNone.r a]; rfl
      | some b => show PyData.eqv (Datum.toD a) (Datum.toD b) = _; rw [Datum.eqv]; exact decide_eq_decide.mpr ⟨fun h => by rw [h], fun h => Option.some.inj h⟩
  depth := Datum.depth α
  depth_le a := by cases a with
    | none => exact Nat.zero_le _
    | some a => exact Datum.depth_le a
instance [Rep α] : Rep (Option α) := ⟨fun K a => (a.map fun v => pr K v).getD isN, fun {K F v a} h => by
  cases a with
  | none => rw [show v = .non from h]; exact .non
  | some a => exact Rep.dat (α := α) (a := a) h⟩
theorem pr_opt [Rep α] (K : PySem.W.Frag) (a : Option α) : pr K a = (a.map fun v => pr K v).getD isN := rfl
end
/-! ### a for whose invariant is chosen behind its source -/
section
variable {j : J} {Γ : Gm} {C : List Cell} {P : Po} {rest body : List Stmt} {tg e : Expr} {pos : Pos}
theorem tr_forV (N : Gm → List Cell → Prop)
    (k : Sr j Γ C tg e fun C1 ps Kp => ∃ I : Nat → Gm → List Cell → Prop, I 0 Γ C1 ∧ (∀ n Γ' C', I n Γ' C' → Kp C') ∧
      (∀ i q Γ' C', ps[i]? = some q → I i Γ' C' → Eg j Γ' C' tg q fun Γ2 C2 => Tr j Γ2 C2 body { nx := I (i + 1), ct := I (i + 1), bk := N, rt := P.rt }) ∧ (∀ Γ' C', I ps.length Γ' C' → N Γ' C'))
    (kr : ∀ Γ' C', N Γ' C' → Tr j Γ' C' rest P) (hp : PassesOwn (model j.X.prog j.X.w) j.X.A j.X.env j.X.xe) (hc : j.X.calm = true) (hs : ∀ x, foldedSetIterable e j.X.env x = pure x := by intro _; rfl) : Tr j Γ C (.For tg e body [] pos :: rest) P := by
  obtain ⟨wi, hi, h⟩ := k
  refine tr_lift (ps_for hp hc hi pg_wg pss_wb hs) fun Φ σ F H x S => h Φ σ F H _ x S fun it F1 H1 C1 ps Kp ⟨I, i0, ik, turn, fin⟩ S1 s1 at_ => ?_
  refine ⟨fun i m σ' H' => m = ps.length - i ∧ i ≤ ps.length ∧ ∃ Γ' C' F', I i Γ' C' ∧ Sta j.tb Φ Γ' C' σ' F' H' ∧ L2.Same F1 F', ⟨ps.length, by simp, Nat.zero_le _, Γ, C1, F1, i0, S1, L2.Same.refl _⟩, ?_⟩
  rintro i m σ' H' ⟨rfl, hn, Γ', C', F', i', S', s'⟩
  obtain ⟨hgo, hst, hyl⟩ := at_ _ _ _ _ _ _ s' S' (ik _ _ _ i')
  by_cases hlt : i < ps.length
  · refine .inr ⟨hgo i hlt, fun σ2 H2 => ∃ Γ2 C2 F2, I (i + 1) Γ2 C2 ∧ Sta j.tb Φ Γ2 C2 σ2 F2 H2 ∧ L2.Same F1 F2, fun σ2 H2 q => ⟨ps.length - (i + 1), by omega, rfl, hlt, q⟩, fun y H2 yl => ?_⟩
    obtain ⟨F2, s2, S2, o2, _⟩ := hyl i y H2 _ (List.getElem?_eq_getElem hlt) yl
    refine turn i ps[i] Γ' C' (List.getElem?_eq_getElem hlt) i' Φ σ' F2 H2 y _ x S2 o2 fun Γ3 C3 σ3 F3 H3 t3 S3 s3 => ?_
    refine Wb.mono (Tr.at t3 x S3) (fun σ4 H4 ⟨Γ4, C4, F4, n4, S4, s4⟩ => ⟨Γ4, C4, F4, n4, S4, ((s'.trans s2).trans s3).trans s4⟩) (fun v4 H4 ⟨Γ4, C4, F4, σ4, ρ4, r4, S4, o4, _⟩ => ⟨Γ4, C4, F4, σ4, ρ4, r4, S4, o4⟩) (fun σ4 H4 ⟨Γ4, C4, F4, n4, S4, s4⟩ => ?_) fun σ4 H4 ⟨Γ4, C4, F4, n4, S4, s4⟩ => ⟨Γ4, C4, F4, n4, S4, ((s'.trans s2).trans s3).trans s4⟩
    exact kr Γ4 C4 n4 Φ σ4 F4 H4 x S4
  · have en : i = ps.length := by omega
    subst en
    exact .inl ⟨hst, kr Γ' C' (fin Γ' C' i') Φ σ' F' H' x S'⟩
end
end Z

end
section
set_option Elab.async false
set_option linter.all false
set_option maxRecDepth 100000
/-! Z58: dict displays; == of tables. -/
namespace Z
open PySem PySem.Spec PyProof.Rows L2
open PySem.W (Datum Tup)
open Rep (pr)
section
variable {j : J} {Γ : Gm} {R : Ps} {pos : Pos}
def EvPs (j : J) (Γ : Gm) : List Cell → List (Expr × Expr) → (List Cell → List (Key × Pr) → Prop) → Prop
  | C, [], R => R C []
  | C, (k, v) :: r, R => Ev j Γ C k fun C1 kp => Ev j Γ C1 v fun C2 p => ∃ key, kp = isV (kV key) ∧ EvPs j Γ C2 r fun C3 kps => R C3 ((key, p) :: kps)
theorem tpairs_of : ∀ (prs : List (Expr × Expr)) {C : List Cell} {R : List Cell → List (Key × Pr) → Prop} {Φ : Fx} {σ : L2.St} {F H : Hp} {Q : List (V × V) → Hp → Prop}, XW j Φ → Sta j.tb Φ Γ C σ F H → EvPs j Γ C prs R →
    (∀ kvs F' H' C' kps, R C' kps → Sta j.tb Φ Γ C' σ F' H' → L2.Same F F' → KvOn kps F' kvs → kvs.length = prs.length → Q (kvs.map fun kv => (kV kv.1, kv.2)) H') → tPairs (prs.map fun p => (We j.X p.1, We j.X p.2)) σ H Q
  | [], C, R, Φ, σ, F, H, Q, x, S, h, K => K [] F H C [] h S (L2.Same.refl F) .nil rfl
  | (k, v) :: r, C, R, Φ, σ, F, H, Q, x, S, h, K => by
    refine h Φ σ F H _ x S fun u F1 H1 C1 kp h1 S1 s1 o1 => ?_
    refine h1 Φ σ F1 H1 _ x S1 fun w F2 H2 C2 p ⟨key, e, h2⟩ S2 s2 o2 => ?_
    subst e
    have eu : u = kV key := o1
    subst eu
    exact tpairs_of r x S2 h2 fun kvs F3 H3 C3 kps r3 S3 s3 o3 l3 => K ((key, w) :: kvs) F3 H3 C3 ((key, p) :: kps) r3 S3 ((s1.trans s2).trans s3) (.cons ⟨rfl, p.mono s3 o2⟩ o3) (by rw [List.length_cons, List.length_cons, l3])
theorem pps_of : ∀ prs : List (Expr × Expr), PPs j.X pos (prs.map fun p => some p.1) (prs.map Prod.snd) (prs.map fun p => (We j.X p.1, We j.X p.2))
  | [] => pps_nil
  | _ :: r => pps_cons pe_we pe_we (pps_of r)
/-- {k: v, ..} -/
theorem ev_dispC (prs : List (Expr × Expr)) {C : List Cell} {keys : List (Option Expr)} {values : List Expr} (h : ∀ p, EvPs j Γ (cK p [] :: C) prs fun C3 kps => ∃ i, C3[i]? = some (cK p []) ∧ R (C3.set i (cK p (mP [] kps))) (isR p))
    (hk : keys = prs.map fun p => some p.1) (hv : values = prs.map Prod.snd) (h0 : keys ≠ []) (h15 : keys.length ≤ 15) : Ev j Γ C (.Dict keys values pos) R := by
  subst hk
  subst hv
  refine ev_lift (pe_disp (pps_of prs) (by rw [List.all_map]; exact List.all_eq_true.mpr fun _ _ => rfl) (by rw [List.length_map, List.length_map]) h0 h15) fun Φ σ F H Q x S K p hp => ?_
  have S0 := S.newC (c := cK p []) (o := .dK []) hp ⟨[], rfl, .nil⟩
  refine tpairs_of prs x S0 (h p) fun kvs F3 H3 C3 kps ⟨i, hc, r⟩ S3 s3 o3 l3 => ?_
  obtain ⟨vs, h1, h2⟩ := S3.dic (List.mem_of_getElem? hc)
  cases h2
  refine ⟨h1, kvs, rfl, by rw [l3]; rw [List.length_map] at h15; exact h15, ?_⟩
  exact K _ _ _ _ _ r (S3.puti hc rfl h1 (fun _ z => nomatch z) ⟨_, rfl, KvOn.merge o3 .nil⟩) s3 rfl
end
section
variable {j : J} {Γ : Gm} {C : List Cell} {R : Ps} {p q : Pr} {α : Type} [DecidableEq α] [Datum α] [Rep α] {t u : List (Str × α)}
theorem ok_neD (h1 : DicOk j C p (sK j.X.K t)) (h2 : DicOk j C q (sK j.X.K u)) (hu : j.X.A.units + 1 + Datum.depth α < cLine) (r : R C (isB (!eqS t u))) : OpOk j Γ (rEqDd j.X.K j.X.A.units true) p q C R :=
  ok_cmpDd (neg := true) (ta := kT t) (tb := kT u) (by rw [kT_dTab]; exact h1) (by rw [kT_dTab]; exact h2) hu (by rw [eqTab_kT]; exact r)
theorem ok_eqD (h1 : DicOk j C p (sK j.X.K t)) (h2 : DicOk j C q (sK j.X.K u)) (hu : j.X.A.units + 1 + Datum.depth α < cLine) (r : R C (isB (eqS t u))) : OpOk j Γ (rEqDd j.X.K j.X.A.units false) p q C R :=
  ok_cmpDd (neg := false) (ta := kT t) (tb := kT u) (by rw [kT_dTab]; exact h1) (by rw [kT_dTab]; exact h2) hu (by rw [eqTab_kT]; exact r)
end
end Z

end
section
set_option Elab.async false
set_option linter.all false
set_option maxRecDepth 100000
open PySem PySem.Spec PyProof.Rows L2 Z
/-! short rows -/
local macro_rules | `(tactic| walk_at "zmem") => `(tactic| first
  | exact List.Mem.head _
  | exact List.Mem.tail _ (List.Mem.head _)
  | exact List.Mem.tail _ (List.Mem.tail _ (List.Mem.head _))
  | exact List.Mem.tail _ (List.Mem.tail _ (List.Mem.tail _ (List.Mem.head _)))
  | exact List.Mem.tail _ (List.Mem.tail _ (List.Mem.tail _ (List.Mem.tail _ (List.Mem.head _)))))
local macro_rules | `(tactic| walk_at "zlst") => `(tactic| first | exact lst_F | exact lst_S | exact lst_C (by walk_at "zmem") | assumption)
local macro_rules | `(tactic| walk_at "ztup") => `(tactic| first | exact tup_F | assumption)
local macro_rules | `(tactic| walk_at "zdic") => `(tactic| first | exact dic_F | exact dic_C (by walk_at "zmem") | exact dic_Z (by walk_at "zmem") | assumption)
local macro_rules | `(tactic| walk_at "zside") => `(tactic| first | assumption | decide | (show _ ≤ sizeLine; decide) | omega)
local macro_rules | `(tactic| walk_at "zadd") => `(tactic| first | refine okA_addI ?_ | refine okA_addS (by walk_at "zside") ?_ | refine okA_addL (by walk_at "zlst") (by walk_at "zlst") (by walk_at "zside") ?_)
local macro_rules | `(tactic| walk_at "zsub") => `(tactic| refine ok_rI0 ?_)
local macro_rules | `(tactic| walk_at "zmul") => `(tactic| first | refine okA_mulI (by walk_at "zside") ?_ | refine okA_mulL (by walk_at "zside") (by walk_at "zside") (by walk_at "zside") ?_)
local macro_rules | `(tactic| walk_at "zdiv") => `(tactic| refine ok_rI (by first | assumption | exact ⟨by decide, by decide⟩) ?_)
local macro_rules | `(tactic| walk_at "zmod") => `(tactic| refine ok_rI (by first | assumption | decide) ?_)
local macro_rules | `(tactic| walk_at "zpow") => `(tactic| refine ok_rI (by exact ⟨by decide, by decide, by decide⟩) ?_)
local macro_rules | `(tactic| walk_at "zlt") => `(tactic| refine ok_rI0 ?_)
local macro_rules | `(tactic| walk_at "zeq") => `(tactic| refine okA_eqS rfl ?_)
local macro_rules | `(tactic| walk_at "zne") => `(tactic| refine okA_neS rfl ?_)
local macro_rules | `(tactic| walk_at "zix") => `(tactic| first | refine okA_ixL (by walk_at "zlst") (by rfl) ?_ | refine okA_ixT (by walk_at "ztup") (by rfl) ?_ | refine okA_ixD (by walk_at "zdic") (by assumption) ?_)
local macro_rules | `(tactic| walk_at "zfld") => `(tactic| refine ⟨_, _, _, rfl, by walk_at "zmem", rfl, ?_⟩)
local macro_rules | `(tactic| walk_at "zc_len") => `(tactic| first | refine okA_lenL (by walk_at "zlst") ?_ | refine okA_lenT (by walk_at "ztup") ?_ | refine okA_lenD (by walk_at "zdic") ?_ | refine okA_lenS (by walk_at "zside") ?_)
local macro_rules | `(tactic| walk_at "zc_int") => `(tactic| first | refine ok_intI ?_ | refine ok_intB ?_)
local macro_rules | `(tactic| walk_at "zc_abs") => `(tactic| refine ok_abs ?_)
local macro_rules | `(tactic| walk_at "zc_str") => `(tactic| refine ok_strI (by walk_at "zside") ?_)
local macro_rules | `(tactic| walk_at "zso") => `(tactic| first
  | refine so_L (i := 0) rfl rfl ?_ | refine so_L (i := 1) rfl rfl ?_ | refine so_L (i := 2) rfl rfl ?_ | refine so_L (i := 3) rfl rfl ?_)
local macro_rules | `(tactic| walk_at "zuse") => `(tactic| apply et_use)
local macro_rules | `(tactic| walk_at "zev") => `(tactic| apply ev_use)
local macro_rules | `(tactic| walk_at "zand") => `(tactic| apply etp_and)
local macro_rules | `(tactic| walk_at "zor") => `(tactic| apply etp_or)
local macro_rules | `(tactic| walk_at "znot") => `(tactic| apply etp_not)
namespace K23
open PySem.W (Datum Tup)
open Rep (pr)
def top (i : Nat) : Stmt := PySem.Challenge.pw_landstack_k23_windows_on_a_part.main.body.getD i (.Pass ⟨0, 0, 0, 0⟩)
abbrev sDice : Stmt := top 11
abbrev sRoll : Stmt := top 12
/-- the dice -/
def cDi (d : Addr) : Cell := ⟨d, fun _ o => ∃ a b c : Int, o = .lst [.int a, .int b, .int c], fun _ h => h, fun ⟨a, b, c, e⟩ => by subst e; exact fun _ z => (nomatch z), fun ⟨a, b, c, e⟩ => by subst e; exact fun _ z => (nomatch z)⟩
theorem di_of {d : Addr} {a b c : Int} (F : Hp) (o : HO) (h : (cL d [isI a, isI b, isI c]).on F o) : (cDi d).on F o := by
  obtain ⟨vs, e, h⟩ := h
  cases h with
  | cons h1 h => cases h with
    | cons h2 h => cases h with
      | cons h3 h =>
        cases h
        exact ⟨a, b, c, by rw [e, show _ = V.int a from h1, show _ = V.int b from h2, show _ = V.int c from h3]⟩
theorem di_to {d : Addr} (F : Hp) (o : HO) (h : (cDi d).on F o) : ∃ z : Int × Int × Int, (cL d [isI z.1, isI z.2.1, isI z.2.2]).on F o := by
  obtain ⟨a, b, c, e⟩ := h
  exact ⟨(a, b, c), _, e, .cons rfl (.cons rfl (.cons rfl .nil))⟩
def pDice : Prom Int := { ps := fun c => [isI c], R := fun _ C ρ => ∃ d a b c, C = [cL d [isI a, isI b, isI c]] ∧ ρ = isR d }
structure DO where
  d : Addr
  n : Int
def pRoll : Prom DO := { ps := fun o => [isR o.d, isI o.n], C := fun o => [cDi o.d], pre := fun o => 0 < o.n ∧ o.n ≤ 100000000, R := fun o C ρ => ∃ r : Int, 0 ≤ r ∧ r < o.n ∧ C = [cDi o.d] ∧ ρ = isI r }
section
variable {Pg : Program} {w : World} {K : PySem.W.Frag} {mg : Str → Option Value} {base : Heap} {tb : Tb}
theorem scDice : FnScope ["cell"] ["cell"] (defScope sDice) := ⟨rfl, rfl, rfl, by decide +kernel, rfl, by decide +kernel, by decide +kernel⟩
theorem ok_dice {f : Addr} {fd : FuncData} (Fn : Fun K "_law_dice" "_law_dice" sDice f fd) (zAbs : mg "abs" = none) (zInt : mg "int" = none) : FnOk Pg w K mg base (L2.CX Pg w) 1 f fd ["cell"] (pDice.sp tb) :=
  def_ok Fn scDice (fun _ => rfl) fun cell cdv A outer s H E _ hr own => by
    refine tr_ifx ?_
    refine et_chain op_lt op_lt rfl ?_
    refine ev_op op_sub ?_
    refine ev_int ?_
    refine ev_int ?_
    refine ok_rI0 ?_
    refine ev_name 0 rfl ?_
    refine ok_rI0 ?_
    have big : ∀ {P : Po} {rest : List Stmt}, P.rt = pDice.R cell → Tr ⟨cxOf (L2.CX Pg w) Pg w K mg base ["cell"] "_law_dice" (defScope sDice) f cdv A outer s H E, tb, pDice.XP cell⟩ [some (isI cell)] [] ((defBody sDice).drop 1) P := by
      intro P rest hP
      refine tr_ret ?_
      refine ev_lstC ?_
      refine ea_cons ?_
      refine ev_name 0 rfl ?_
      refine ea_cons ?_
      refine ev_op op_addA ?_
      refine ev_int ?_
      refine ev_op op_mod ?_
      refine ev_callTy call_int1 zInt (by decide +kernel) ?_
      refine ea_cons ?_
      refine ev_name 0 rfl ?_
      refine ea_nil ?_
      walk_at "zc_int"
      refine ev_int ?_
      walk_at "zmod"
      walk_at "zadd"
      refine ea_cons ?_
      refine ev_callTy call_int1 zInt (by decide +kernel) ?_
      refine ea_cons ?_
      refine ev_cmp op_ge rfl ?_
      refine ev_name 0 rfl ?_
      refine ev_op op_pow ?_
      refine ev_int ?_
      refine ev_int ?_
      walk_at "zpow"
      walk_at "zlt"
      refine ea_nil ?_
      walk_at "zc_int"
      refine ea_nil ?_
      refine ⟨by show 3 ≤ sizeLine; decide, fun p => ?_⟩
      rw [hP]
      exact ⟨_, _, _, _, rfl, rfl⟩
    refine ⟨_, rfl, fun h1 => ?_, fun h1 => ⟨fun z => (nomatch z), fun _ => big (rest := []) rfl⟩⟩
    refine ev_int ?_
    refine ok_rI0 ?_
    refine ⟨_, rfl, fun h2 => ?_, fun h2 => big (rest := []) rfl⟩
    refine tr_ret ?_
    refine ev_lstC ?_
    refine ea_cons ?_
    refine ev_callB call_abs zAbs (by decide +kernel) ?_
    refine ea_cons ?_
    refine ev_name 0 rfl ?_
    refine ea_nil ?_
    refine ok_abs ?_
    refine ea_cons ?_
    refine ev_int ?_
    refine ea_cons ?_
    refine ev_int ?_
    refine ea_nil ?_
    exact ⟨by show 3 ≤ sizeLine; decide, fun p => ⟨_, _, _, _, rfl, rfl⟩⟩
theorem scRoll : FnScope ["dice", "many", "found"] ["dice", "many"] (defScope sRoll) := ⟨rfl, rfl, rfl, by decide +kernel, rfl, by decide +kernel, by decide +kernel⟩
theorem ok_roll {f : Addr} {fd : FuncData} (Fn : Fun K "_law_roll" "_law_roll" sRoll f fd) (zInt : mg "int" = none) : FnOk Pg w K mg base (L2.CX Pg w) 1 f fd ["dice", "many"] (pRoll.sp tb) :=
  def_ok Fn scRoll (fun _ => rfl) fun o cdv A outer s H E hpre hr own => by
    obtain ⟨d, n⟩ := o
    obtain ⟨n0, n1⟩ := hpre
    have u1 := hu_of hr
    have hmod : 0 < n := n0
    have hdiv : CDiv n 0 ∨ CDiv 7 7 := .inr ⟨by decide, by decide⟩
    have hdivn : ∀ i : Int, CDiv i n := fun i => ⟨n0, by dsimp only at n1; omega⟩
    refine tr_open (i := 0) (fun z : Int × Int × Int => cL d [isI z.1, isI z.2.1, isI z.2.2]) rfl (fun _ => rfl) di_to ?_
    rintro ⟨a, b, c⟩
    -- if dice[2] == 2 or (dice[2] == 1 and dice[0] > 0):
    refine tr_ifx ?_
    walk_at "zuse"
    · refine et_w ?_
      walk_at "zor"
      · refine et_cmp op_eqA rfl ?_
        refine ev_ix (ix_all u1) ?_
        refine ev_name 0 rfl ?_ -- dice
        refine ev_int ?_
        walk_at "zix"
        refine ev_int ?_
        walk_at "zeq"
        refine ⟨_, rfl, ?_⟩
        exact ⟨rfl, rfl⟩
      intro h3
      refine etw_or1 ?_
      refine et_w ?_
      walk_at "zand"
      · refine et_cmp op_eqA rfl ?_
        refine ev_ix (ix_all u1) ?_
        refine ev_name 0 rfl ?_ -- dice
        refine ev_int ?_
        walk_at "zix"
        refine ev_int ?_
        walk_at "zeq"
        refine ⟨_, rfl, ?_⟩
        exact ⟨rfl, rfl⟩
      intro h4
      refine etw_and1 ?_
      refine et_cmp op_gt rfl ?_
      refine ev_ix (ix_all u1) ?_
      refine ev_name 0 rfl ?_ -- dice
      refine ev_int ?_
      walk_at "zix"
      refine ev_int ?_
      walk_at "zlt"
      refine ⟨_, rfl, ?_⟩
      exact ⟨rfl, rfl⟩
    refine bB (fun h1 => ?_) (fun h2 => ?_)
    · -- found = int(dice[0]) % many
      refine tr_set 2 ?_ scRoll.nd -- found
      refine ev_op op_mod ?_
      refine ev_callTy call_int1 zInt (by decide +kernel) ?_
      refine ea_cons ?_
      refine ev_ix (ix_all u1) ?_
      refine ev_name 0 rfl ?_ -- dice
      refine ev_int ?_
      walk_at "zix"
      refine ea_nil ?_
      walk_at "zc_int"
      refine ev_name 1 rfl ?_ -- many
      walk_at "zmod"
      -- dice[0] = dice[0] // many
      refine tr_sput u1 ?_
      refine ev_op op_fdiv ?_
      refine ev_ix (ix_all u1) ?_
      refine ev_name 0 rfl ?_ -- dice
      refine ev_int ?_
      walk_at "zix"
      refine ev_name 1 rfl ?_ -- many
      refine ok_rI (hdivn _) ?_
      refine ev_name 0 rfl ?_ -- dice
      refine ev_int ?_
      walk_at "zso"
      -- return found
      refine tr_weak (i := 0) (c' := cDi d) rfl rfl di_of ?_
      refine tr_ret ?_
      refine ev_name 2 rfl ?_ -- found
      exact ⟨_, Int.emod_nonneg _ (Int.ne_of_gt n0), Int.emod_lt_of_pos _ n0, rfl, rfl⟩
    -- dice[2] = 0
    refine tr_sput u1 ?_
    refine ev_int ?_
    refine ev_name 0 rfl ?_ -- dice
    refine ev_int ?_
    walk_at "zso"
    -- if many > 100000000:
    refine tr_ifx ?_
    walk_at "zuse"
    · refine et_cmp op_gt rfl ?_
      refine ev_name 1 rfl ?_ -- many
      refine ev_int ?_
      walk_at "zlt"
      refine ⟨_, rfl, ?_⟩
      exact ⟨rfl, rfl⟩
    refine bD (fun h1 => absurd h1 (by dsimp only at n1 ⊢; omega)) (fun h2 => ?_)
    -- dice[0] = int(dice[0] * 48271 + dice[1] * 69621 + 11) % 2147483647
    refine tr_sput u1 ?_
    refine ev_op op_mod ?_
    refine ev_callTy call_int1 zInt (by decide +kernel) ?_
    refine ea_cons ?_
    refine ev_op op_addA ?_
    refine ev_op op_addA ?_
    refine ev_op op_mulA ?_
    refine ev_ix (ix_all u1) ?_
    refine ev_name 0 rfl ?_ -- dice
    refine ev_int ?_
    walk_at "zix"
    refine ev_int ?_
    refine okA_mulI (.inr ⟨by decide, by decide⟩) ?_
    refine ev_op op_mulA ?_
    refine ev_ix (ix_all u1) ?_
    refine ev_name 0 rfl ?_ -- dice
    refine ev_int ?_
    walk_at "zix"
    refine ev_int ?_
    refine okA_mulI (.inr ⟨by decide, by decide⟩) ?_
    walk_at "zadd"
    refine ev_int ?_
    walk_at "zadd"
    refine ea_nil ?_
    walk_at "zc_int"
    refine ev_int ?_
    walk_at "zmod"
    refine ev_name 0 rfl ?_ -- dice
    refine ev_int ?_
    walk_at "zso"
    -- dice[1] = dice[1] + 1
    refine tr_sput u1 ?_
    refine ev_op op_addA ?_
    refine ev_ix (ix_all u1) ?_
    refine ev_name 0 rfl ?_ -- dice
    refine ev_int ?_
    walk_at "zix"
    refine ev_int ?_
    walk_at "zadd"
    refine ev_name 0 rfl ?_ -- dice
    refine ev_int ?_
    walk_at "zso"
    -- return int(dice[0] // 7) % many
    refine tr_ret ?_
    refine ev_endW 0 (cDi d) ?_
    refine ev_op op_mod ?_
    refine ev_callTy call_int1 zInt (by decide +kernel) ?_
    refine ea_cons ?_
    refine ev_op op_fdiv ?_
    refine ev_ix (ix_all u1) ?_
    refine ev_name 0 rfl ?_ -- dice
    refine ev_int ?_
    walk_at "zix"
    refine ev_int ?_
    walk_at "zdiv"
    refine ea_nil ?_
    walk_at "zc_int"
    refine ev_name 1 rfl ?_ -- many
    walk_at "zmod"
    exact ⟨_, rfl, rfl, di_of, _, Int.emod_nonneg _ (Int.ne_of_gt n0), Int.emod_lt_of_pos _ n0, rfl, rfl⟩
end
end K23

end
section

set_option Elab.async false
set_option linter.all false
set_option maxRecDepth 100000
open PySem PySem.Spec PyProof.Rows L2 Z
/-! short rows -/
local macro_rules | `(tactic| walk_at "zmem") => `(tactic| first
  | exact List.Mem.head _
  | exact List.Mem.tail _ (List.Mem.head _)
  | exact List.Mem.tail _ (List.Mem.tail _ (List.Mem.head _))
  | exact List.Mem.tail _ (List.Mem.tail _ (List.Mem.tail _ (List.Mem.head _)))
  | exact List.Mem.tail _ (List.Mem.tail _ (List.Mem.tail _ (List.Mem.tail _ (List.Mem.head _)))))
local macro_rules | `(tactic| walk_at "zlst") => `(tactic| first | exact lst_F | exact lst_S | exact lst_C (by walk_at "zmem") | assumption)
local macro_rules | `(tactic| walk_at "ztup") => `(tactic| first | exact tup_F | assumption)
local macro_rules | `(tactic| walk_at "zdic") => `(tactic| first | exact dic_F | exact dic_C (by walk_at "zmem") | exact dic_Z (by walk_at "zmem") | assumption)
local macro_rules | `(tactic| walk_at "zside") => `(tactic| first | assumption | decide | (show _ ≤ sizeLine; decide) | omega)
local macro_rules | `(tactic| walk_at "zadd") => `(tactic| first | refine okA_addI ?_ | refine okA_addS (by walk_at "zside") ?_ | refine okA_addL (by walk_at "zlst") (by walk_at "zlst") (by walk_at "zside") ?_)
local macro_rules | `(tactic| walk_at "zsub") => `(tactic| refine ok_rI0 ?_)
local macro_rules | `(tactic| walk_at "zmul") => `(tactic| first | refine okA_mulI (by walk_at "zside") ?_ | refine okA_mulL (by walk_at "zside") (by walk_at "zside") (by walk_at "zside") ?_)
local macro_rules | `(tactic| walk_at "zdiv") => `(tactic| refine ok_rI (by first | assumption | exact ⟨by decide, by decide⟩) ?_)
local macro_rules | `(tactic| walk_at "zmod") => `(tactic| refine ok_rI (by first | assumption | decide) ?_)
local macro_rules | `(tactic| walk_at "zpow") => `(tactic| refine ok_rI (by exact ⟨by decide, by decide, by decide⟩) ?_)
local macro_rules | `(tactic| walk_at "zlt") => `(tactic| refine ok_rI0 ?_)
local macro_rules | `(tactic| walk_at "zeq") => `(tactic| refine okA_eqS rfl ?_)
local macro_rules | `(tactic| walk_at "zne") => `(tactic| refine okA_neS rfl ?_)
local macro_rules | `(tactic| walk_at "zix") => `(tactic| first | refine okA_ixL (by walk_at "zlst") (by rfl) ?_ | refine okA_ixT (by walk_at "ztup") (by rfl) ?_ | refine okA_ixD (by walk_at "zdic") (by assumption) ?_)
local macro_rules | `(tactic| walk_at "zfld") => `(tactic| refine ⟨_, _, _, rfl, by walk_at "zmem", rfl, ?_⟩)
local macro_rules | `(tactic| walk_at "zc_len") => `(tactic| first | refine okA_lenL (by walk_at "zlst") ?_ | refine okA_lenT (by walk_at "ztup") ?_ | refine okA_lenD (by walk_at "zdic") ?_ | refine okA_lenS (by walk_at "zside") ?_)
local macro_rules | `(tactic| walk_at "zc_int") => `(tactic| first | refine ok_intI ?_ | refine ok_intB ?_)
local macro_rules | `(tactic| walk_at "zc_abs") => `(tactic| refine ok_abs ?_)
local macro_rules | `(tactic| walk_at "zc_str") => `(tactic| refine ok_strI (by walk_at "zside") ?_)
local macro_rules | `(tactic| walk_at "zso") => `(tactic| first
  | refine so_L (i := 0) rfl rfl ?_ | refine so_L (i := 1) rfl rfl ?_ | refine so_L (i := 2) rfl rfl ?_ | refine so_L (i := 3) rfl rfl ?_)
local macro_rules | `(tactic| walk_at "zuse") => `(tactic| apply et_use)
local macro_rules | `(tactic| walk_at "zev") => `(tactic| apply ev_use)
local macro_rules | `(tactic| walk_at "zand") => `(tactic| apply etp_and)
local macro_rules | `(tactic| walk_at "zor") => `(tactic| apply etp_or)
local macro_rules | `(tactic| walk_at "znot") => `(tactic| apply etp_not)
namespace K23
open PySem.W (Datum Tup)
open Rep (pr)
abbrev sRounds : Stmt := top 13
abbrev sTold : Stmt := top 14
section
variable {Pg : Program} {w : World} {K : PySem.W.Frag} {mg : Str → Option Value} {base : Heap} {tb : Tb} {CE : Addr} {mk : Addr → NdefX.NF} {bodyL : Expr}
def pTold {ω : Type} (K : PySem.W.Frag) (p : Prom ω) (mk : Addr → NdefX.NF) (body : Expr) (CE : Addr) : Prom ω := { ps := fun _ => [rFu mk body], C := p.C, pre := fun o => p.pre o ∧ p.ps o = [] ∧ ∀ cls C, p.XP o cls C → PySem.W.exmOne K cls (.ref CE) = some true, R := fun o C ρ => p.R o C ρ ∨ ((∃ cls, p.XP o cls C) ∧ ρ = isS "HostError") }
theorem scTold : FnScope ["what"] ["what"] (defScope sTold) := ⟨rfl, rfl, rfl, by decide +kernel, rfl, by decide +kernel, by decide +kernel⟩
theorem ok_told {ω : Type} {p : Prom ω} {k : Nat} {f : Addr} {fd : FuncData} (Fn : Fun K "_law_told" "_law_told" sTold f fd) (gE : mg "HostError" = some (.ref CE)) (GC : ∀ c', CloOk Pg w K mg base k (mk c') bodyL (p.sp tb)) (hmc : ∀ c', (mk c').c = c') :
    FnOk Pg w K mg base (L2.CX Pg w) (k + 1) f fd ["what"] ((pTold K p mk bodyL CE).sp tb) :=
  def_ok Fn scTold (fun _ => rfl) fun o cdv A outer s H E hpre hr own => by
    obtain ⟨h1, h2, h3⟩ := hpre
    refine tr_tryRet (c := .ref CE) (fun cls C => p.XP o cls C) rfl rfl ⟨rfl, by decide, .inl gE⟩ (fun pn xe => ?_) fun cls C' h => ⟨true, ?_, fun _ => .inr ⟨⟨cls, h⟩, rfl⟩, fun z => nomatch z⟩
    · refine ev_clo0 0 GC hr hmc rfl ?_
      refine ⟨o, [], h1, h2.symm, by rw [List.append_nil]; exact List.Perm.refl _, fun C' ρ r => ?_, fun cls C' x => ?_⟩
      · rw [List.append_nil]
        exact .inl r
      · rw [List.append_nil]
        exact x
    · exact h3 cls C' h
/-! rounds -/
def pRounds (K : PySem.W.Frag) : Prom (List Int) := { ps := fun ns => [rLs K (ns.map isI), isI 1], R := fun ns C ρ => ∃ (d : Addr) (a b c : Int), C = [cL d [isI a, isI b, isI c]] ∧ ρ = rL [isR d] }
theorem scRounds : FnScope ["script", "most", "cells", "cell"] ["script", "most"] (defScope sRounds) := ⟨rfl, rfl, rfl, by decide +kernel, rfl, by decide +kernel, by decide +kernel⟩
theorem cut_take (ps : List Pr) : cutP ps none (some 1) = ps.take 1 := by
  unfold cutP
  have e1 : HT.sIx ps.length ps.length (some 1) = min 1 ps.length := HT.sIx_nat _ _ 1
  have e2 : HT.sIx ps.length 0 none = 0 := rfl
  rw [e1, e2]
  cases ps <;> simp
theorem ok_rounds {f fD : Addr} {fd fdD : FuncData} (Fn : Fun K "_law_rounds" "_law_rounds" sRounds f fd) (GD : FnOk Pg w K mg base (L2.CX Pg w) 1 fD fdD ["cell"] (pDice.sp tb)) (gD : mg "_law_dice" = some (.ref fD)) (kD : PySem.W.keepIn K (.ref fD) = true) (bD : Binds K fdD ["cell"] []) :
    FnOk Pg w K mg base (L2.CX Pg w) 2 f fd ["script", "most"] ((pRounds K).sp tb) :=
  def_ok Fn scRounds (fun _ => rfl) fun ns cdv A outer s H E _ hr own => by
    have u64 := hr.units
    -- cells = script[:most]
    refine tr_set 2 ?_ scRounds.nd -- cells
    refine ev_slice sl_list ?_
    refine ev_name 0 rfl ?_ -- script
    refine eo_none ?_
    refine eo_some ?_
    refine ev_name 1 rfl ?_ -- most
    refine ⟨_, rfl, ?_⟩
    refine ok_slL lst_S ?_
    rw [cut_take, ← List.map_take]
    -- if cells == []:
    refine tr_if (fun Γ C => C = [] ∧ ∃ (z : Int) (x : Option Pr), Γ = [some (rLs K (ns.map isI)), some (isI 1), some (rL [isI z]), x]) ?_ ?_
    · refine et_cmp op_eqA rfl ?_
      refine ev_name 2 rfl ?_ -- cells
      refine ev_lst ?_
      refine ea_nil ?_
      refine ⟨by show 0 ≤ sizeLine; decide, ?_⟩
      refine okA_eqT (α := List Int) (a := ns.take 1) (b := []) (dat_F (a := ns.take 1)) (dat_F (a := ([] : List Int))) (Nat.lt_of_le_of_lt (Nat.add_le_add_left (by decide : Datum.depth (List Int) ≤ 64) _) u64) ?_
      refine ⟨_, rfl, ?_⟩
      refine Z.bD (fun h1 => ?_) (fun h2 => ?_)
      · -- cells = [0]
        refine tr_set 2 ?_ scRounds.nd -- cells
        refine ev_lst ?_
        refine ea_cons ?_
        refine ev_int ?_
        refine ea_nil ?_
        refine ⟨by show 1 ≤ sizeLine; decide, ?_⟩
        exact tr_nil ⟨rfl, 0, _, rfl⟩
      · refine tr_nil ?_
        cases ns with
        | nil => exact absurd rfl h2
        | cons z r => exact ⟨rfl, z, _, rfl⟩
    · rintro Γ C ⟨rfl, z, x, rfl⟩
      -- return [_law_dice(cell) for cell in cells]
      refine tr_ret ?_
      refine ev_lcL 3 ?_ scRounds.nd (blkOk_by (by show blkC ["script", "most", "cells", "cell"] (defScope sRounds) _ _ = true; decide +kernel)) rfl (fun s H Cc cl fp => pg_name scRounds.nd rfl (Or.inl rfl) (Or.inr rfl))
      refine ev_name 2 rfl ?_ -- cells
      refine ⟨_, rfl, fun n C acc => (n = 0 ∧ C = [] ∧ acc = []) ∨ (n = 1 ∧ ∃ (d : Addr) (a b c : Int), C = [cL d [isI a, isI b, isI c]] ∧ acc = [isR d]), .inl ⟨rfl, rfl, rfl⟩, fun n q Ci acc hq hI => ?_, fun Cn acc hI => ?_⟩
      · have hn : n = 0 := by
          have := (List.getElem?_eq_some_iff.mp hq).1
          simp only [List.length_singleton] at this
          omega
        subst hn
        have hq : isI z = q := by simpa using hq
        subst hq
        rcases hI with ⟨_, rfl, rfl⟩ | ⟨h, _⟩
        · intro s H Cc cl fp
          refine eif_no ⟨fun _ => ?_, fun h => nomatch h⟩
          intro s H Cc cl fp
          refine ev_call GD (hr.mono (by decide)) gD kD bD ?_
          refine ea_cons ?_
          refine ev_name 3 rfl ?_ -- cell
          refine ea_nil ?_
          refine ⟨z, [], True.intro, rfl, List.Perm.nil, ?_, fun cls C' z => z.elim⟩
          rintro C' ρ ⟨d, a, b, c, rfl, rfl⟩
          exact ⟨by show 0 < sizeLine; decide, .inr ⟨rfl, d, a, b, c, rfl, rfl⟩⟩
        · cases h
      · rcases hI with ⟨h, _⟩ | ⟨_, d, a, b, c, rfl, rfl⟩
        · cases h
        · exact ⟨d, a, b, c, rfl, rfl⟩
end
end K23

end
section
set_option Elab.async false
set_option linter.all false
set_option maxRecDepth 100000
open PySem PySem.Spec PyProof.Rows L2 Z
/-! short rows -/
local macro_rules | `(tactic| walk_at "zmem") => `(tactic| first
  | exact List.Mem.head _
  | exact List.Mem.tail _ (List.Mem.head _)
  | exact List.Mem.tail _ (List.Mem.tail _ (List.Mem.head _))
  | exact List.Mem.tail _ (List.Mem.tail _ (List.Mem.tail _ (List.Mem.head _)))
  | exact List.Mem.tail _ (List.Mem.tail _ (List.Mem.tail _ (List.Mem.tail _ (List.Mem.head _)))))
local macro_rules | `(tactic| walk_at "zlst") => `(tactic| first | exact lst_F | exact lst_S | exact lst_C (by walk_at "zmem") | assumption)
local macro_rules | `(tactic| walk_at "ztup") => `(tactic| first | exact tup_F | assumption)
local macro_rules | `(tactic| walk_at "zdic") => `(tactic| first | exact dic_F | exact dic_C (by walk_at "zmem") | exact dic_Z (by walk_at "zmem") | assumption)
local macro_rules | `(tactic| walk_at "zside") => `(tactic| first | assumption | decide | (show _ ≤ sizeLine; decide) | omega)
local macro_rules | `(tactic| walk_at "zadd") => `(tactic| first | refine okA_addI ?_ | refine okA_addS (by walk_at "zside") ?_ | refine okA_addL (by walk_at "zlst") (by walk_at "zlst") (by walk_at "zside") ?_)
local macro_rules | `(tactic| walk_at "zsub") => `(tactic| refine ok_rI0 ?_)
local macro_rules | `(tactic| walk_at "zmul") => `(tactic| first | refine okA_mulI (by walk_at "zside") ?_ | refine okA_mulL (by walk_at "zside") (by walk_at "zside") (by walk_at "zside") ?_)
local macro_rules | `(tactic| walk_at "zdiv") => `(tactic| refine ok_rI (by first | assumption | exact ⟨by decide, by decide⟩) ?_)
local macro_rules | `(tactic| walk_at "zmod") => `(tactic| refine ok_rI (by first | assumption | decide) ?_)
local macro_rules | `(tactic| walk_at "zpow") => `(tactic| refine ok_rI (by exact ⟨by decide, by decide, by decide⟩) ?_)
local macro_rules | `(tactic| walk_at "zlt") => `(tactic| refine ok_rI0 ?_)
local macro_rules | `(tactic| walk_at "zeq") => `(tactic| refine okA_eqS rfl ?_)
local macro_rules | `(tactic| walk_at "zne") => `(tactic| refine okA_neS rfl ?_)
local macro_rules | `(tactic| walk_at "zix") => `(tactic| first | refine okA_ixL (by walk_at "zlst") (by rfl) ?_ | refine okA_ixT (by walk_at "ztup") (by rfl) ?_ | refine okA_ixD (by walk_at "zdic") (by assumption) ?_)
local macro_rules | `(tactic| walk_at "zfld") => `(tactic| refine ⟨_, _, _, rfl, by walk_at "zmem", rfl, ?_⟩)
local macro_rules | `(tactic| walk_at "zc_len") => `(tactic| first | refine okA_lenL (by walk_at "zlst") ?_ | refine okA_lenT (by walk_at "ztup") ?_ | refine okA_lenD (by walk_at "zdic") ?_ | refine okA_lenS (by walk_at "zside") ?_)
local macro_rules | `(tactic| walk_at "zc_int") => `(tactic| first | refine ok_intI ?_ | refine ok_intB ?_)
local macro_rules | `(tactic| walk_at "zc_abs") => `(tactic| refine ok_abs ?_)
local macro_rules | `(tactic| walk_at "zc_str") => `(tactic| refine ok_strI (by walk_at "zside") ?_)
local macro_rules | `(tactic| walk_at "zso") => `(tactic| first
  | refine so_L (i := 0) rfl rfl ?_ | refine so_L (i := 1) rfl rfl ?_ | refine so_L (i := 2) rfl rfl ?_ | refine so_L (i := 3) rfl rfl ?_)
local macro_rules | `(tactic| walk_at "zuse") => `(tactic| apply et_use)
local macro_rules | `(tactic| walk_at "zev") => `(tactic| apply ev_use)
local macro_rules | `(tactic| walk_at "zand") => `(tactic| apply etp_and)
local macro_rules | `(tactic| walk_at "zor") => `(tactic| apply etp_or)
local macro_rules | `(tactic| walk_at "znot") => `(tactic| apply etp_not)
namespace K23
open PySem.W (Datum Tup)
open Rep (pr)
/-! facts of the text -/
structure Def (K : PySem.W.Frag) (mg : Str → Option Value) (x : Str) (st : Stmt) (f : Addr) (fd : FuncData) (ps : List Str) : Prop where
  fn : Fun K x x st f fd
  g : mg x = some (.ref f)
  kp : PySem.W.keepIn K (.ref f) = true
  bd : Binds K fd ps []
structure MDef (K : PySem.W.Frag) (C : Addr) (m q : Str) (st : Stmt) (f : Addr) (fd : FuncData) (ps : List Str) : Prop where
  fn : Fun K m q st f fd
  mt : Meth K C m f
  bd : Binds K fd ps []
/-- an exception's class, its name x -/
structure Exc (K : PySem.W.Frag) (mg : Str → Option Value) (x : Str) (CE : Addr) : Prop where
  gE : mg x = some (.ref CE)
  kE : PySem.W.keepIn K (.ref CE) = true
  xE : PySem.W.excIn K CE [.type "ValueError", .type "Exception", .type "BaseException", .type "object"] "ValueError.__new__" = true
  bE : PySem.W.subIn K (.ref CE) (.type "BaseException") = some true
  tE : PySem.W.typeIn K (.ref CE) = some (.type "type")
abbrev sCheck : Stmt := top 6
abbrev sParts : Stmt := top 7
abbrev sWInit : Stmt := inClass (top 9) 0
abbrev sWSees : Stmt := inClass (top 9) 1
abbrev sWLook : Stmt := inClass (top 9) 2
abbrev sWWith : Stmt := inClass (top 9) 3
abbrev sWWider : Stmt := inClass (top 9) 4
abbrev sWDeeds : Stmt := inClass (top 9) 5
theorem dep0 {u n d : Nat} (h : d ≤ 60) (k : u + 64 < n) : u + d < n := by omega
theorem dep1 {u n d : Nat} (h : d ≤ 60) (k : u + 64 < n) : u + 1 + d < n := by omega
/-! names and paths -/
abbrev signL : Str := "abcdefghijklmnopqrstuvwxyzABCDEFGHIJKLMNOPQRSTUVWXYZ0123456789._-"
def chkF (x : Str) : Bool := (decide (0 < (x.length : Int)) && decide ((x.length : Int) ≤ 30)) && (decide (x ∉ ([".", ".."] : List Str)) && x.cps.toList.all fun c => decide (c ∈ signL.cps.toList))
def pCheck (CC : Addr) : Prom Str := { ps := fun x => [isS x], pre := fun x => x.length ≤ 10000, R := fun x C ρ => chkF x = true ∧ C = [] ∧ ρ = isN, XP := fun x cls C => chkF x = false ∧ cls = .ref CC ∧ C = [] }
abbrev partsF (p : Str) : List Str := Txt.split p "/"
def okF (p : Str) : Bool := decide ((partsF p).length ≤ 8) && (partsF p).all chkF
def pParts (CC : Addr) : Prom Str := { ps := fun x => [isS x], pre := fun x => x.length ≤ 10000, R := fun x C ρ => okF x = true ∧ C = [] ∧ ρ = rKt (kS (partsF x)), XP := fun x cls C => okF x = false ∧ cls = .ref CC ∧ C = [] }
abbrev chN : List Str := ["name", "sign"]
abbrev nmCh : Nat → Nat → Str := fun _ _ => ("check_name" : Str) ++ ".<locals>." ++ "<genexpr>"
section
variable {Pg : Program} {w : World} {K : PySem.W.Frag} {mg : Str → Option Value} {base : Heap} {tb : Tb} {CC : Addr}
theorem scCheck : FnScope chN ["name"] (defScope sCheck) := ⟨rfl, rfl, rfl, by decide +kernel, rfl, by decide +kernel, by decide +kernel⟩
theorem ok_check {f c P : Addr} {dV kV doc pm ct oc : Value} {an od : Option Addr} {osl : Array (Option Value)}
    (lk : K.lookup f = some ⟨oc, od, .func (PySem.W.fnOf "check_name" "check_name" (defArgs sCheck) (defBody sCheck) (defScope sCheck) dV kV doc pm an (.ref c) ct), osl⟩) (hcd : PySem.W.codeIn K (.ref c) "check_name" = true) (TB : LamX.TabB base mg c P) (hm : (P, nmCh) ∈ tb.nt) (hun : ∀ p ∈ tb.nt, p.1 = P → p.2 = nmCh)
    (X : Exc K mg "ContentError" CC) {tS : Tok} (gS : mg "NAME_SIGNS" = some (.str signL tS)) (zLen : mg "len" = none) (zAny : mg "any" = none) :
    FnOk Pg w K mg base (L2.CX Pg w) 4 f (PySem.W.fnOf "check_name" "check_name" (defArgs sCheck) (defBody sCheck) (defScope sCheck) dV kV doc pm an (.ref c) ct) ["name"] ((pCheck CC).sp tb) :=
  def_okC lk hcd scCheck (fun _ => rfl) fun x A outer s H E hpre hr own => by
    have u1 := hu_of hr
    have u64 := hr.units
    have hl : x.length ≤ 10000 := hpre
    have hz : x.length ≤ sizeLine := Nat.le_trans hl (by decide)
    refine tr_ifx ?_
    refine et_use (B := !chkF x) ?_ ?_
    · have e : (!chkF x) = ((!(decide (0 < (x.length : Int)) && decide ((x.length : Int) ≤ 30))) || (decide (x ∈ ([".", ".."] : List Str)) || !(x.cps.toList.all fun c => decide (c ∈ signL.cps.toList)))) := by
        unfold chkF
        rw [Bool.not_and, Bool.not_and, Bool.not_and, decide_not, Bool.not_not]
      rw [e]
      refine et_w ?_
      walk_at "zor"
      · walk_at "znot"
        refine et_chain op_lt op_le rfl ?_
        refine ev_int ?_
        refine ev_callB call_lenA zLen (by decide +kernel) ?_
        refine ea_cons ?_
        refine ev_name 0 rfl ?_ -- name
        refine ea_nil ?_
        refine okA_lenS hz ?_
        walk_at "zlt"
        refine ⟨_, rfl, fun h => ?_, fun h => ⟨rfl, by rw [h]; rfl⟩⟩
        refine ev_int ?_
        walk_at "zlt"
        exact ⟨_, rfl, rfl, by rw [h, Bool.true_and]⟩
      intro h1
      walk_at "zor"
      · refine et_cmp (op_inA u1) rfl ?_
        refine ev_name 0 rfl ?_ -- name
        refine ev_tup ?_
        refine ea_cons ?_
        refine ev_str ?_
        refine ea_cons ?_
        refine ev_str ?_
        refine ea_nil ?_
        refine ⟨by show 2 ≤ sizeLine; decide, ?_⟩
        refine okA_inT (α := Str) (a := x) (xs := [".", ".."]) (dat_F (a := x)) tup_F (dep1 (by decide) u64) ?_
        exact ⟨_, rfl, rfl, rfl⟩
      intro h2
      refine etw_or1 ?_
      refine et_truth ?_
      refine ev_anyU (own := [("sign", 1)]) (k := 0) (g := gName 1) (P := P) (c := c) (nm := nmCh) ⟨hm, rfl, hun, TB, rfl, blkOk_by (by show blkC chN (defScope sCheck) _ _ = true; decide +kernel), scCheck.nd, by decide +kernel, rfl, rfl, ?_, fun v => rfl⟩ (hr.mono (by decide)) zAny ?_
      · intro A' s' H' C' code fp pn hrA
        exact pg_name scCheck.nd rfl (Or.inl rfl) (Or.inr rfl)
      refine sr_S ?_
      refine ev_name 0 rfl ?_ -- name
      refine ⟨x, rfl, fun n C' acc => C' = [] ∧ ((x.cps.toList.take n).all fun c => decide (c ∈ signL.cps.toList)) = true, ⟨rfl, by simp⟩, fun _ _ _ _ => True.intro, ?_, ?_⟩
      · rintro n q C' acc hq ⟨rfl, ha⟩
        rw [List.getElem?_map] at hq
        obtain ⟨ch, hx, rfl⟩ := Option.map_eq_some_iff.mp hq
        have tk2 : x.cps.toList.take (n + 1) = x.cps.toList.take n ++ [ch] := by rw [List.take_add_one, hx]; rfl
        refine ⟨_, tgt_name, ?_⟩
        intro A' s' H' C' code fp pn hrA
        refine eif_no ⟨fun _ => ?_, fun z => nomatch z⟩
        intro A' s' H' C' code fp pn hrA
        refine ev_cmp (op_notInA (hu_of hrA)) rfl ?_
        refine ev_name 1 rfl ?_ -- sign
        refine ev_glob (v := .str signL) gS ⟨_, rfl⟩ ?_ -- NAME_SIGNS
        refine okA_notInC ?_
        refine ⟨_, rfl, fun hb => tru_B ⟨rfl, ?_⟩, fun hb => ⟨rfl, ?_⟩⟩
        · have hb : decide (ch ∈ signL.cps.toList) = false := by simpa using hb
          have h3 : (x.cps.toList.all fun c => decide (c ∈ signL.cps.toList)) = false := List.all_eq_false.mpr ⟨ch, List.mem_of_getElem? hx, by rw [hb]; exact Bool.false_ne_true⟩
          rw [h3]
          rfl
        · have hb : decide (ch ∈ signL.cps.toList) = true := by simpa using hb
          rw [tk2, List.all_append, ha, List.all_cons, hb]
          rfl
      · rintro Cn acc ⟨rfl, ha⟩
        rw [List.length_map, List.take_length] at ha
        exact tru_B ⟨rfl, by rw [ha]; rfl⟩
    refine bB (fun h1 => ?_) (fun h1 => ?_)
    · refine tr_raise PySem.F.excBase_ValueError X.xE X.gE X.kE (raises_own X.bE X.tE) rfl ?_
      exact ⟨by simpa using h1, rfl, rfl⟩
    · exact tr_nil ⟨by simpa using h1, rfl, rfl⟩
abbrev paN : List Str := ["path", "names", "name"]
theorem scParts : FnScope paN ["path"] (defScope sParts) := ⟨rfl, rfl, rfl, by decide +kernel, rfl, by decide +kernel, by decide +kernel⟩
theorem ok_parts {f fC : Addr} {fd dC : FuncData} (Fn : Fun K "parts_of_path" "parts_of_path" sParts f fd)
    (GC : FnOk Pg w K mg base (L2.CX Pg w) 4 fC dC ["name"] ((pCheck CC).sp tb)) (gC : mg "check_name" = some (.ref fC)) (kC : PySem.W.keepIn K (.ref fC) = true) (bC : Binds K dC ["name"] [])
    (X : Exc K mg "ContentError" CC) {tD : Tok} (gD : mg "MOST_DEEP" = some (.int 8 tD)) (zLen : mg "len" = none) (zTuple : mg "tuple" = none) : FnOk Pg w K mg base (L2.CX Pg w) 5 f fd ["path"] ((pParts CC).sp tb) :=
  def_ok Fn scParts (fun _ => rfl) fun x cdv A outer s H E hpre hr own => by
    have u1 := hu_of hr
    have hl : x.length ≤ 10000 := hpre
    have hsp := PyProof.Rows.split_le x "/"
    have hps : ∀ y ∈ partsF x, y.length ≤ 10000 := fun y hy => Nat.le_trans (PyProof.Rows.part_short hy) hl
    -- names = path.split("/")
    refine tr_set 1 ?_ scParts.nd
    refine ev_bm PySem.F.plainAttrs_str PySem.F.slot_str_split PySem.F.type_str_split mt_splitZ ?_
    refine ev_name 0 rfl ?_
    refine ⟨ty_S, ?_⟩
    refine ea_cons ?_
    refine ev_str ?_
    refine ea_nil ?_
    refine ok_split (Nat.le_trans (Nat.add_le_add_right hl 2) (by decide)) ?_
    -- if len(names) > MOST_DEEP:
    refine tr_ifx ?_
    refine et_cmp op_gt rfl ?_
    refine ev_callB call_lenA zLen (by decide +kernel) ?_
    refine ea_cons ?_
    refine ev_name 1 rfl ?_
    refine ea_nil ?_
    refine okA_lenL lst_F ?_
    refine ev_glob (v := .int 8) gD ⟨_, rfl⟩ ?_
    walk_at "zlt"
    rw [List.length_map]
    refine ⟨_, rfl, ?_⟩
    refine bD (fun h1 => ?_) (fun h1 => ?_)
    · refine tr_raise PySem.F.excBase_ValueError X.xE X.gE X.kE (raises_own X.bE X.tE) rfl ?_
      refine ⟨?_, rfl, rfl⟩
      unfold okF
      rw [decide_eq_false (by show ¬ (partsF x).length ≤ 8; have h1 : ((partsF x).length : Int) > 8 := h1; omega)]
      rfl
    have h8 : (partsF x).length ≤ 8 := by have h1 : ¬ ((partsF x).length : Int) > 8 := h1; omega
    -- for name in names:
    refine tr_forU (fun i Γ C => C = [] ∧ ((partsF x).take i).all chkF = true ∧ ∃ x2, Γ = [some (isS x), some (rL ((partsF x).map fun y => isS y)), x2]) (fun Γ C => C = [] ∧ okF x = true ∧ ∃ x2, Γ = [some (isS x), some (rL ((partsF x).map fun y => isS y)), x2]) ?_ ?_ own rfl
    · refine sr_L ?_
      refine ev_name 1 rfl ?_
      refine ⟨_, rfl, ⟨rfl, by simp, none, rfl⟩, fun _ _ _ _ => True.intro, fun i q Γ C hq hI => ?_, fun Γ C hI => ?_⟩
      · obtain ⟨rfl, ha, x2, rfl⟩ := hI
        rw [List.getElem?_map] at hq
        obtain ⟨y, hy, rfl⟩ := Option.map_eq_some_iff.mp hq
        have tk2 : (partsF x).take (i + 1) = (partsF x).take i ++ [y] := by rw [List.take_add_one, hy]; rfl
        refine eg_name 2 ?_ scParts.nd
        refine tr_expr ?_
        refine ev_call GC (hr.mono (by decide)) gC kC bC ?_
        refine ea_cons ?_
        refine ev_name 2 rfl ?_
        refine ea_nil ?_
        refine ⟨y, [], hps y (List.mem_of_getElem? hy), rfl, List.Perm.nil, away0 (fun C' ρ h => ?_) fun cls C' h => ?_⟩
        · obtain ⟨h1, rfl, rfl⟩ := h
          exact tr_nil ⟨rfl, by rw [tk2, List.all_append, ha, List.all_cons, h1]; rfl, _, rfl⟩
        · obtain ⟨h1, rfl, rfl⟩ := h
          refine ⟨?_, rfl, rfl⟩
          have : (partsF x).all chkF = false := List.all_eq_false.mpr ⟨y, List.mem_of_getElem? hy, by rw [h1]; exact Bool.false_ne_true⟩
          unfold okF
          rw [this, Bool.and_false]
      · obtain ⟨rfl, ha, x2, rfl⟩ := hI
        rw [List.length_map, List.take_length] at ha
        refine ⟨rfl, ?_, x2, rfl⟩
        unfold okF
        rw [ha, decide_eq_true h8]
        rfl
    · rintro Γ C ⟨rfl, hok, x2, rfl⟩
      refine tr_ret ?_
      refine ev_callTy call_tuple_of zTuple (by decide +kernel) ?_
      refine ea_cons ?_
      refine ev_name 1 rfl ?_
      refine ea_nil ?_
      refine ok_tupleLK (ks := kS (partsF x)) (by rw [kS_pr]; exact lst_F) ?_
      exact ⟨hok, rfl, rfl⟩
end
end K23

end
section
set_option Elab.async false
set_option linter.all false
set_option maxRecDepth 100000
open PySem PySem.Spec PyProof.Rows L2 Z
/-! short rows -/
local macro_rules | `(tactic| walk_at "zmem") => `(tactic| first
  | exact List.Mem.head _
  | exact List.Mem.tail _ (List.Mem.head _)
  | exact List.Mem.tail _ (List.Mem.tail _ (List.Mem.head _))
  | exact List.Mem.tail _ (List.Mem.tail _ (List.Mem.tail _ (List.Mem.head _)))
  | exact List.Mem.tail _ (List.Mem.tail _ (List.Mem.tail _ (List.Mem.tail _ (List.Mem.head _)))))
local macro_rules | `(tactic| walk_at "zlst") => `(tactic| first | exact lst_F | exact lst_S | exact lst_C (by walk_at "zmem") | assumption)
local macro_rules | `(tactic| walk_at "ztup") => `(tactic| first | exact tup_F | assumption)
local macro_rules | `(tactic| walk_at "zdic") => `(tactic| first | exact dic_F | exact dic_C (by walk_at "zmem") | exact dic_Z (by walk_at "zmem") | assumption)
local macro_rules | `(tactic| walk_at "zside") => `(tactic| first | assumption | decide | (show _ ≤ sizeLine; decide) | omega)
local macro_rules | `(tactic| walk_at "zadd") => `(tactic| first | refine okA_addI ?_ | refine okA_addS (by walk_at "zside") ?_ | refine okA_addL (by walk_at "zlst") (by walk_at "zlst") (by walk_at "zside") ?_)
local macro_rules | `(tactic| walk_at "zsub") => `(tactic| refine ok_rI0 ?_)
local macro_rules | `(tactic| walk_at "zmul") => `(tactic| first | refine okA_mulI (by walk_at "zside") ?_ | refine okA_mulL (by walk_at "zside") (by walk_at "zside") (by walk_at "zside") ?_)
local macro_rules | `(tactic| walk_at "zdiv") => `(tactic| refine ok_rI (by first | assumption | exact ⟨by decide, by decide⟩) ?_)
local macro_rules | `(tactic| walk_at "zmod") => `(tactic| refine ok_rI (by first | assumption | decide) ?_)
local macro_rules | `(tactic| walk_at "zpow") => `(tactic| refine ok_rI (by exact ⟨by decide, by decide, by decide⟩) ?_)
local macro_rules | `(tactic| walk_at "zlt") => `(tactic| refine ok_rI0 ?_)
local macro_rules | `(tactic| walk_at "zeq") => `(tactic| refine okA_eqS rfl ?_)
local macro_rules | `(tactic| walk_at "zne") => `(tactic| refine okA_neS rfl ?_)
local macro_rules | `(tactic| walk_at "zix") => `(tactic| first | refine okA_ixL (by walk_at "zlst") (by rfl) ?_ | refine okA_ixT (by walk_at "ztup") (by rfl) ?_ | refine okA_ixD (by walk_at "zdic") (by assumption) ?_)
local macro_rules | `(tactic| walk_at "zfld") => `(tactic| refine ⟨_, _, _, rfl, by walk_at "zmem", rfl, ?_⟩)
local macro_rules | `(tactic| walk_at "zc_len") => `(tactic| first | refine okA_lenL (by walk_at "zlst") ?_ | refine okA_lenT (by walk_at "ztup") ?_ | refine okA_lenD (by walk_at "zdic") ?_ | refine okA_lenS (by walk_at "zside") ?_)
local macro_rules | `(tactic| walk_at "zc_int") => `(tactic| first | refine ok_intI ?_ | refine ok_intB ?_)
local macro_rules | `(tactic| walk_at "zc_abs") => `(tactic| refine ok_abs ?_)
local macro_rules | `(tactic| walk_at "zc_str") => `(tactic| refine ok_strI (by walk_at "zside") ?_)
local macro_rules | `(tactic| walk_at "zso") => `(tactic| first
  | refine so_L (i := 0) rfl rfl ?_ | refine so_L (i := 1) rfl rfl ?_ | refine so_L (i := 2) rfl rfl ?_ | refine so_L (i := 3) rfl rfl ?_)
local macro_rules | `(tactic| walk_at "zuse") => `(tactic| apply et_use)
local macro_rules | `(tactic| walk_at "zev") => `(tactic| apply ev_use)
local macro_rules | `(tactic| walk_at "zand") => `(tactic| apply etp_and)
local macro_rules | `(tactic| walk_at "zor") => `(tactic| apply etp_or)
local macro_rules | `(tactic| walk_at "znot") => `(tactic| apply etp_not)
namespace K23
open PySem.W (Datum Tup)
open Rep (pr)
/-! a window -/
structure WiO where
  w : Addr
  f : Addr
  ks : List (List Str)
abbrev fKs (ks : List (List Str)) : TKs := ks.map fun k => (kS k, isB true)
abbrev cW (CW : Addr) (o : WiO) : Cell := cI o.w CW ["folders"] [isR o.f]
abbrev cFo (o : WiO) : Cell := cT o.f (fKs o.ks)
abbrev tS (K : PySem.W.Frag) (xs : List Str) : Pr := rT K (xs.map fun y => isS y)
def seesK (P k : List Str) : Bool := (decide (P.take k.length = k) && decide (k.length < P.length)) || (decide (P.dropLast = k.take P.dropLast.length) && decide (P.dropLast.length < k.length))
def seesF (ks : List (List Str)) (P : List Str) : Bool := ks.any (seesK P) || decide (P.dropLast = [])
structure SeO where
  o : WiO
  p : Str
def pSees (CW : Addr) : Prom SeO := { ps := fun x => [isR x.o.w, isS x.p], C := fun x => [cW CW x.o, cFo x.o], pre := fun x => okF x.p = true ∧ x.p.length ≤ 10000, R := fun x C ρ => C = [cW CW x.o, cFo x.o] ∧ ρ = isB (seesF x.o.ks (partsF x.p)) }
structure Txt (K : PySem.W.Frag) (mg : Str → Option Value) (CW : Addr) : Prop where
  cl : Cls K CW
  na : NoAttr K CW "folders"
theorem tup_iff {a b : List Str} : decide ((⟨a⟩ : Tup Str) = ⟨b⟩) = decide (a = b) := by
  by_cases h : a = b
  · subst h; simp
  · rw [decide_eq_false h, decide_eq_false (fun z => h (by injection z))]
section
variable {Pg : Program} {w : World} {K : PySem.W.Frag} {mg : Str → Option Value} {base : Heap} {tb : Tb} {CC CW : Addr}
abbrev seN : List Str := ["self", "path", "parts", "above", "folder"]
theorem scSees : FnScope seN ["self", "path"] (defScope sWSees) := ⟨rfl, rfl, rfl, by decide +kernel, rfl, by decide +kernel, by decide +kernel⟩
theorem ok_sees {f fP : Addr} {fd dP : FuncData} (Fn : Fun K "sees" "Window.sees" sWSees f fd) (T : Txt K mg CW)
    (GP : FnOk Pg w K mg base (L2.CX Pg w) 5 fP dP ["path"] ((pParts CC).sp tb)) (gP : mg "parts_of_path" = some (.ref fP)) (kP : PySem.W.keepIn K (.ref fP) = true) (bP : Binds K dP ["path"] [])
    (zLen : mg "len" = none) : FnOk Pg w K mg base (L2.CX Pg w) 6 f fd ["self", "path"] ((pSees CW).sp tb) :=
  def_ok Fn scSees (fun _ => rfl) fun x cdv A outer s H E hpre hr own => by
    obtain ⟨⟨wa, fa, ks⟩, p⟩ := x
    obtain ⟨hok, hl⟩ := hpre
    have hok : okF p = true := hok
    have hl : p.length ≤ 10000 := hl
    have u1 := hu_of hr
    have u64 := hr.units
    -- parts = parts_of_path(path)
    refine tr_set 2 ?_ scSees.nd
    refine ev_call GP (hr.mono (by decide)) gP kP bP ?_
    refine ea_cons ?_
    refine ev_name 1 rfl ?_
    refine ea_nil ?_
    refine ⟨p, _, hl, rfl, List.Perm.refl _, fun C' ρ h => ?_, fun cls C' h => absurd h.1 (by rw [hok]; exact Bool.noConfusion)⟩
    obtain ⟨_, rfl, rfl⟩ := h
    refine tr_as 2 rfl (fun F v h => kS_rT (K := K) F v h) ?_
    generalize hPP : partsF p = PP
    -- above = parts[:-1]
    refine tr_set 3 ?_ scSees.nd
    refine ev_slice sl_tupA ?_
    refine ev_name 2 rfl ?_
    refine eo_none ?_
    refine eo_some ?_
    refine ev_un un_neg ?_
    refine ev_int ?_
    refine ok_rU ?_
    refine ⟨_, rfl, ?_⟩
    refine ok_slTu ?_
    rw [cutP_neg1, ← List.map_dropLast]
    -- for folder in self.folders:
    refine tr_forLk lk_T (c := 1) rfl (pi_keys pe_we) (fun od kvs n Γ C => C = [cW CW ⟨wa, fa, ks⟩, cY fa od kvs (fKs ks)] ∧ (ks.take n).any (seesK PP) = false ∧ ∃ x4, Γ = [some (isR wa), some (isS p), some (tS K PP), some (tS K PP.dropLast), x4])
      (fun Γ C => C = [cW CW ⟨wa, fa, ks⟩, cFo ⟨wa, fa, ks⟩] ∧ ks.any (seesK PP) = false ∧ ∃ x4, Γ = [some (isR wa), some (isS p), some (tS K PP), some (tS K PP.dropLast), x4]) (fun od y => ?_) ?_ own rfl
    · refine srw_T ?_
      refine ev_fld (fns := ["folders"]) 0 T.cl T.na (by decide) rfl ?_
      refine ev_name 0 rfl ?_
      refine ⟨_, _, _, rfl, List.Mem.head _, rfl, ?_⟩
      refine ⟨fa, od, y, fKs ks, rfl, List.Mem.tail _ (List.Mem.head _), ⟨rfl, by simp, none, rfl⟩, ?_, ?_, ?_⟩
      · rintro n Γ' C' ⟨rfl, _⟩
        exact List.Mem.tail _ (List.Mem.head _)
      · rintro n q Γ' C' hq ⟨rfl, ha, x4, rfl⟩
        rw [List.getElem?_map, List.getElem?_map] at hq
        obtain ⟨z1, hz, rfl⟩ := Option.map_eq_some_iff.mp hq
        obtain ⟨k, hk, rfl⟩ := Option.map_eq_some_iff.mp hz
        have tk : ks.take (n + 1) = ks.take n ++ [k] := by rw [List.take_add_one, hk]; rfl
        refine eg_name 4 ?_ scSees.nd
        refine tr_as 4 rfl (fun F v h => kS_rT (K := K) F v h) ?_
        have fin : seesK PP k = true → isB true = isB (seesF ks (partsF p)) := by
          intro h
          have : ks.any (seesK PP) = true := List.any_eq_true.mpr ⟨k, List.mem_of_getElem? hk, h⟩
          unfold seesF
          rw [hPP, this]
          rfl
        -- first test
        refine tr_ifx ?_
        refine et_use (B := decide (PP.take k.length = k) && decide (k.length < PP.length)) ?_ ?_
        · refine et_w ?_
          refine etp_and ?_ fun h3 => ?_
          · refine et_cmp op_eqA rfl ?_
            refine ev_slice sl_tupA ?_
            refine ev_name 2 rfl ?_ -- parts
            refine eo_none ?_
            refine eo_some ?_
            refine ev_callB call_lenA zLen (by decide +kernel) ?_
            refine ea_cons ?_
            refine ev_name 4 rfl ?_ -- folder
            refine ea_nil ?_
            refine okA_lenT tup_F ?_
            refine ⟨_, rfl, ?_⟩
            refine ok_slTu ?_
            rw [cutP_take, List.length_map, ← List.map_take]
            refine ev_name 4 rfl ?_ -- folder
            refine okA_eqT (α := Tup Str) (a := ⟨PP.take k.length⟩) (b := ⟨k⟩) (dat_F (a := (⟨PP.take k.length⟩ : Tup Str))) (dat_F (a := (⟨k⟩ : Tup Str))) (dep0 (by decide) u64) ?_
            rw [tup_iff]
            exact ⟨_, rfl, rfl, rfl⟩
          refine etw_and1 ?_
          refine et_cmp op_gt rfl ?_
          refine ev_callB call_lenA zLen (by decide +kernel) ?_
          refine ea_cons ?_
          refine ev_name 2 rfl ?_ -- parts
          refine ea_nil ?_
          refine okA_lenT tup_F ?_
          refine ev_callB call_lenA zLen (by decide +kernel) ?_
          refine ea_cons ?_
          refine ev_name 4 rfl ?_ -- folder
          refine ea_nil ?_
          refine okA_lenT tup_F ?_
          walk_at "zlt"
          rw [List.length_map, List.length_map]
          exact ⟨_, rfl, rfl, decide_eq_decide.mpr (by omega)⟩
        refine bB (fun h1 => ?_) (fun h1 => ?_)
        · refine tr_ret ?_
          refine ev_bl ?_
          exact ⟨1, rfl, rfl, fin (by unfold seesK; rw [h1]; rfl)⟩
        refine tr_ifx ?_
        refine et_use (B := decide (PP.dropLast = k.take PP.dropLast.length) && decide (PP.dropLast.length < k.length)) ?_ ?_
        · refine et_w ?_
          refine etp_and ?_ fun h3 => ?_
          · refine et_cmp op_eqA rfl ?_
            refine ev_name 3 rfl ?_ -- above
            refine ev_slice sl_tupA ?_
            refine ev_name 4 rfl ?_ -- folder
            refine eo_none ?_
            refine eo_some ?_
            refine ev_callB call_lenA zLen (by decide +kernel) ?_
            refine ea_cons ?_
            refine ev_name 3 rfl ?_ -- above
            refine ea_nil ?_
            refine okA_lenT tup_F ?_
            refine ⟨_, rfl, ?_⟩
            refine ok_slTu ?_
            rw [cutP_take, List.length_map, ← List.map_take]
            refine okA_eqT (α := Tup Str) (a := ⟨PP.dropLast⟩) (b := ⟨k.take PP.dropLast.length⟩) (dat_F (a := (⟨PP.dropLast⟩ : Tup Str))) (dat_F (a := (⟨k.take PP.dropLast.length⟩ : Tup Str))) (dep0 (by decide) u64) ?_
            rw [tup_iff]
            exact ⟨_, rfl, rfl, rfl⟩
          refine etw_and1 ?_
          refine et_cmp op_lt rfl ?_
          refine ev_callB call_lenA zLen (by decide +kernel) ?_
          refine ea_cons ?_
          refine ev_name 3 rfl ?_ -- above
          refine ea_nil ?_
          refine okA_lenT tup_F ?_
          refine ev_callB call_lenA zLen (by decide +kernel) ?_
          refine ea_cons ?_
          refine ev_name 4 rfl ?_ -- folder
          refine ea_nil ?_
          refine okA_lenT tup_F ?_
          walk_at "zlt"
          rw [List.length_map, List.length_map]
          exact ⟨_, rfl, rfl, decide_eq_decide.mpr (by omega)⟩
        refine bB (fun h2 => ?_) (fun h2 => ?_)
        · refine tr_ret ?_
          refine ev_bl ?_
          exact ⟨1, rfl, rfl, fin (by unfold seesK; rw [h2, Bool.or_true])⟩
        refine tr_nil ⟨rfl, ?_, _, rfl⟩
        rw [tk, List.any_append, ha, List.any_cons]
        unfold seesK
        rw [h1, h2]
        rfl
      · rintro Γ' C' ⟨rfl, ha, x4, rfl⟩
        rw [List.length_map, List.length_map, List.take_length] at ha
        exact ⟨1, rfl, rfl, ha, x4, rfl⟩
    · rintro Γ C ⟨rfl, ha, x4, rfl⟩
      refine tr_ret ?_
      refine ev_cmp op_eqA rfl ?_
      refine ev_name 3 rfl ?_ -- above
      refine ev_tup ?_
      refine ea_nil ?_
      refine ⟨by show 0 ≤ sizeLine; decide, ?_⟩
      refine okA_eqT (α := Tup Str) (a := ⟨PP.dropLast⟩) (b := ⟨[]⟩) (dat_F (a := (⟨PP.dropLast⟩ : Tup Str))) (dat_F (a := (⟨[]⟩ : Tup Str))) (dep0 (by decide) u64) ?_
      rw [tup_iff]
      refine ⟨rfl, ?_⟩
      show isB _ = isB (seesF ks (partsF p))
      unfold seesF
      rw [hPP, ha]
      rfl
end
end K23

end
section
set_option Elab.async false
set_option linter.all false
set_option maxRecDepth 100000
open PySem PySem.Spec PyProof.Rows L2 Z
/-! short rows -/
local macro_rules | `(tactic| walk_at "zmem") => `(tactic| first
  | exact List.Mem.head _
  | exact List.Mem.tail _ (List.Mem.head _)
  | exact List.Mem.tail _ (List.Mem.tail _ (List.Mem.head _))
  | exact List.Mem.tail _ (List.Mem.tail _ (List.Mem.tail _ (List.Mem.head _)))
  | exact List.Mem.tail _ (List.Mem.tail _ (List.Mem.tail _ (List.Mem.tail _ (List.Mem.head _)))))
local macro_rules | `(tactic| walk_at "zlst") => `(tactic| first | exact lst_F | exact lst_S | exact lst_C (by walk_at "zmem") | assumption)
local macro_rules | `(tactic| walk_at "ztup") => `(tactic| first | exact tup_F | assumption)
local macro_rules | `(tactic| walk_at "zdic") => `(tactic| first | exact dic_F | exact dic_C (by walk_at "zmem") | exact dic_Z (by walk_at "zmem") | assumption)
local macro_rules | `(tactic| walk_at "zside") => `(tactic| first | assumption | decide | (show _ ≤ sizeLine; decide) | omega)
local macro_rules | `(tactic| walk_at "zadd") => `(tactic| first | refine okA_addI ?_ | refine okA_addS (by walk_at "zside") ?_ | refine okA_addL (by walk_at "zlst") (by walk_at "zlst") (by walk_at "zside") ?_)
local macro_rules | `(tactic| walk_at "zsub") => `(tactic| refine ok_rI0 ?_)
local macro_rules | `(tactic| walk_at "zmul") => `(tactic| first | refine okA_mulI (by walk_at "zside") ?_ | refine okA_mulL (by walk_at "zside") (by walk_at "zside") (by walk_at "zside") ?_)
local macro_rules | `(tactic| walk_at "zdiv") => `(tactic| refine ok_rI (by first | assumption | exact ⟨by decide, by decide⟩) ?_)
local macro_rules | `(tactic| walk_at "zmod") => `(tactic| refine ok_rI (by first | assumption | decide) ?_)
local macro_rules | `(tactic| walk_at "zpow") => `(tactic| refine ok_rI (by exact ⟨by decide, by decide, by decide⟩) ?_)
local macro_rules | `(tactic| walk_at "zlt") => `(tactic| refine ok_rI0 ?_)
local macro_rules | `(tactic| walk_at "zeq") => `(tactic| refine okA_eqS rfl ?_)
local macro_rules | `(tactic| walk_at "zne") => `(tactic| refine okA_neS rfl ?_)
local macro_rules | `(tactic| walk_at "zix") => `(tactic| first | refine okA_ixL (by walk_at "zlst") (by rfl) ?_ | refine okA_ixT (by walk_at "ztup") (by rfl) ?_ | refine okA_ixD (by walk_at "zdic") (by assumption) ?_)
local macro_rules | `(tactic| walk_at "zfld") => `(tactic| refine ⟨_, _, _, rfl, by walk_at "zmem", rfl, ?_⟩)
local macro_rules | `(tactic| walk_at "zc_len") => `(tactic| first | refine okA_lenL (by walk_at "zlst") ?_ | refine okA_lenT (by walk_at "ztup") ?_ | refine okA_lenD (by walk_at "zdic") ?_ | refine okA_lenS (by walk_at "zside") ?_)
local macro_rules | `(tactic| walk_at "zc_int") => `(tactic| first | refine ok_intI ?_ | refine ok_intB ?_)
local macro_rules | `(tactic| walk_at "zc_abs") => `(tactic| refine ok_abs ?_)
local macro_rules | `(tactic| walk_at "zc_str") => `(tactic| refine ok_strI (by walk_at "zside") ?_)
local macro_rules | `(tactic| walk_at "zso") => `(tactic| first
  | refine so_L (i := 0) rfl rfl ?_ | refine so_L (i := 1) rfl rfl ?_ | refine so_L (i := 2) rfl rfl ?_ | refine so_L (i := 3) rfl rfl ?_)
local macro_rules | `(tactic| walk_at "zuse") => `(tactic| apply et_use)
local macro_rules | `(tactic| walk_at "zev") => `(tactic| apply ev_use)
local macro_rules | `(tactic| walk_at "zand") => `(tactic| apply etp_and)
local macro_rules | `(tactic| walk_at "zor") => `(tactic| apply etp_or)
local macro_rules | `(tactic| walk_at "znot") => `(tactic| apply etp_not)
namespace K23
open PySem.W (Datum Tup)
open Rep (pr)
/-! a window is made -/
def addK (acc : List (List Str)) (k : List Str) : List (List Str) := if k ∈ acc then acc else acc ++ [k]
def dedF (ks : List (List Str)) : List (List Str) := ks.foldl addK []
theorem dedF_snoc (ks : List (List Str)) (k : List Str) : dedF (ks ++ [k]) = addK (dedF ks) k := by unfold dedF; rw [List.foldl_append]; rfl
theorem addK_len (acc : List (List Str)) (k : List Str) : (addK acc k).length ≤ acc.length + 1 := by
  unfold addK
  split
  · omega
  · rw [List.length_append]; exact Nat.le_refl _
theorem dedF_len : ∀ (ks acc : List (List Str)), (ks.foldl addK acc).length ≤ acc.length + ks.length
  | [], acc => Nat.le_refl _
  | k :: ks, acc => by
    have h1 := dedF_len ks (addK acc k)
    have h2 := addK_len acc k
    rw [List.foldl_cons, List.length_cons]
    omega
theorem dedF_mem (k : List Str) : ∀ (ks acc : List (List Str)), k ∈ ks.foldl addK acc ↔ k ∈ acc ∨ k ∈ ks
  | [], acc => by simp
  | a :: ks, acc => by
    rw [List.foldl_cons, dedF_mem k ks]
    unfold addK
    split
    · next h =>
      constructor
      · rintro (z | z)
        · exact .inl z
        · exact .inr (List.mem_cons_of_mem _ z)
      · rintro (z | z)
        · exact .inl z
        · rcases List.mem_cons.mp z with z | z
          · exact .inl (by rw [z]; exact h)
          · exact .inr z
    · rw [List.mem_append, List.mem_singleton, List.mem_cons, or_assoc]
theorem fKs_put (acc : List (List Str)) (k : List Str) : pG (fKs acc) (kS k) (isB true) = fKs (addK acc k) := by
  have e : ((fKs acc).any fun p => decide (p.1 = kS k)) = decide (k ∈ acc) := by
    rw [Bool.eq_iff_iff, List.any_eq_true, decide_eq_true_iff]
    constructor
    · rintro ⟨p, hp, h⟩
      obtain ⟨a, ha, rfl⟩ := List.mem_map.mp hp
      have h : kS a = kS k := of_decide_eq_true h
      rw [← kS_inj h]
      exact ha
    · intro h
      exact ⟨_, List.mem_map.mpr ⟨k, h, rfl⟩, decide_eq_true rfl⟩
  unfold pG addK
  rw [e]
  by_cases h : k ∈ acc
  · rw [if_pos (decide_eq_true h), if_pos h, List.map_map]
    refine List.map_congr_left fun a _ => ?_
    show (if kS a = kS k then (kS a, isB true) else (kS a, isB true)) = _
    split <;> rfl
  · rw [if_neg (by rw [decide_eq_false h]; exact Bool.false_ne_true), if_neg h]
    exact (List.map_append (f := fun k => (kS k, isB true)) (l₁ := acc) (l₂ := [k])).symm
structure InO where
  w : Addr
  fs : List Str
def pInit (CW : Addr) : Prom InO := { ps := fun o => [isR o.w, rL (o.fs.map fun x => isS x)], C := fun o => [cI o.w CW [] []], pre := fun o => (∀ x ∈ o.fs, okF x = true ∧ x.length ≤ 10000) ∧ o.fs.length ≤ 60, R := fun o C ρ => ρ = isN ∧ ∃ f, C = [cFo ⟨o.w, f, dedF (o.fs.map partsF)⟩, cW CW ⟨o.w, f, dedF (o.fs.map partsF)⟩] }
def pBad (CW CC : Addr) : Prom Addr := { ps := fun w => [isR w, rL [isS ""]], C := fun w => [cI w CW [] []], R := fun _ _ _ => False, XP := fun _ cls C => cls = .ref CC }
/-! tables of paths -/
abbrev TbO := List (Str × Tup Str)
abbrev NdT (t : TbO) : Prop := (t.map Prod.fst).Nodup ∧ t.length < 60
abbrev OkT (t : TbO) : Prop := ∀ e ∈ t, okF e.1 = true ∧ e.1.length ≤ 10000
abbrev inW (ks : List (List Str)) : Str × Tup Str → Bool := fun e => seesF ks (partsF e.1)
abbrev outW (ks : List (List Str)) : Str × Tup Str → Bool := fun e => !(seesF ks (partsF e.1))
structure LoO where
  o : WiO
  d : Addr
  t : TbO
abbrev cD (K : PySem.W.Frag) (d : Addr) (t : TbO) : Cell := cK d (sK K t)
def pLook (K : PySem.W.Frag) (CW : Addr) : Prom LoO := { ps := fun x => [isR x.o.w, isR x.d], C := fun x => [cW CW x.o, cFo x.o, cD K x.d x.t], pre := fun x => NdT x.t ∧ OkT x.t, R := fun x C ρ => ∃ D, C = [cD K D (x.t.filter (inW x.o.ks)), cW CW x.o, cFo x.o, cD K x.d x.t] ∧ ρ = isR D }
structure WcO where
  o : WiO
  d : Addr
  t : TbO
  e : Addr
  u : TbO
abbrev allIn (ks : List (List Str)) (u : TbO) : Bool := u.all (inW ks)
def pWith (K : PySem.W.Frag) (CW CE : Addr) : Prom WcO := { ps := fun x => [isR x.o.w, isR x.d, isR x.e], C := fun x => [cW CW x.o, cFo x.o, cD K x.d x.t, cD K x.e x.u], pre := fun x => (NdT x.t ∧ OkT x.t) ∧ NdT x.u ∧ OkT x.u, R := fun x C ρ => allIn x.o.ks x.u = true ∧ ∃ D, C = [cD K D (pGs (x.t.filter (outW x.o.ks)) x.u), cW CW x.o, cFo x.o, cD K x.d x.t, cD K x.e x.u] ∧ ρ = isR D, XP := fun x cls C => allIn x.o.ks x.u = false ∧ cls = .ref CE ∧ C = [cW CW x.o, cFo x.o, cD K x.d x.t, cD K x.e x.u] }
abbrev inN : List Str := ["self", "folders", "folder"]
abbrev loN : List Str := ["self", "files", "path"]
abbrev wiN : List Str := ["self", "files", "seen", "found", "path"]
abbrev nmWi : Nat → Nat → Str := fun _ _ => ("Window.with_changes" : Str) ++ ".<locals>." ++ "<genexpr>"
section
variable {Pg : Program} {w : World} {K : PySem.W.Frag} {mg : Str → Option Value} {base : Heap} {tb : Tb} {CC CW CE : Addr}
theorem scInit : FnScope inN ["self", "folders"] (defScope sWInit) := ⟨rfl, rfl, rfl, by decide +kernel, rfl, by decide +kernel, by decide +kernel⟩
theorem scLook : FnScope loN ["self", "files"] (defScope sWLook) := ⟨rfl, rfl, rfl, by decide +kernel, rfl, by decide +kernel, by decide +kernel⟩
theorem scWith : FnScope wiN ["self", "files", "seen"] (defScope sWWith) := ⟨rfl, rfl, rfl, by decide +kernel, rfl, by decide +kernel, by decide +kernel⟩
theorem ok_init {f fP : Addr} {fd dP : FuncData} (Fn : Fun K "__init__" "Window.__init__" sWInit f fd) (T : Txt K mg CW)
    (GP : FnOk Pg w K mg base (L2.CX Pg w) 5 fP dP ["path"] ((pParts CC).sp tb)) (gP : mg "parts_of_path" = some (.ref fP)) (kP : PySem.W.keepIn K (.ref fP) = true) (bP : Binds K dP ["path"] []) :
    FnOk Pg w K mg base (L2.CX Pg w) 6 f fd ["self", "folders"] ((pInit CW).sp tb) :=
  def_ok Fn scInit (fun _ => rfl) fun x cdv A outer s H E hpre hr own => by
    obtain ⟨wa, fs⟩ := x
    obtain ⟨hok, hlen⟩ := hpre
    have hok : ∀ x ∈ fs, okF x = true ∧ x.length ≤ 10000 := hok
    have hlen : fs.length ≤ 60 := hlen
    have u1 := hu_of hr
    -- self.folders = {}
    refine tr_fldN (fns := []) T.cl T.na (by decide +kernel) (by decide) ?_
    refine ev_dicT fun f => ?_
    refine ev_name 0 rfl ?_
    refine ⟨_, _, 1, rfl, rfl, ?_⟩
    -- for folder in folders:
    refine tr_forU (fun n Γ C => C = [cFo ⟨wa, f, dedF ((fs.take n).map partsF)⟩, cW CW ⟨wa, f, []⟩] ∧ ∃ x2, Γ = [some (isR wa), some (rL (fs.map fun x => isS x)), x2])
      (fun Γ C => C = [cFo ⟨wa, f, dedF (fs.map partsF)⟩, cW CW ⟨wa, f, []⟩]) ?_ ?_ own rfl
    · refine sr_L ?_
      refine ev_name 1 rfl ?_
      refine ⟨_, rfl, ⟨rfl, none, rfl⟩, fun _ _ _ _ => True.intro, fun n q Γ C hq hI => ?_, fun Γ C hI => ?_⟩
      · obtain ⟨rfl, x2, rfl⟩ := hI
        rw [List.getElem?_map] at hq
        obtain ⟨x, hx, rfl⟩ := Option.map_eq_some_iff.mp hq
        obtain ⟨h1, h2⟩ := hok x (List.mem_of_getElem? hx)
        have tk : (fs.take (n + 1)).map partsF = (fs.take n).map partsF ++ [partsF x] := by rw [List.take_add_one, hx, List.map_append]; rfl
        refine eg_name 2 ?_ scInit.nd
        refine tr_sput u1 ?_
        refine ev_bl ?_
        refine ev_fld (fns := ["folders"]) 0 T.cl T.na (by decide) rfl ?_
        refine ev_name 0 rfl ?_
        refine ⟨_, _, _, rfl, List.Mem.tail _ (List.Mem.head _), rfl, ?_⟩
        refine ev_call GP (hr.mono (by decide)) gP kP bP ?_
        refine ea_cons ?_
        refine ev_name 2 rfl ?_
        refine ea_nil ?_
        refine ⟨x, _, h2, rfl, List.Perm.refl _, fun C' ρ h => ?_, fun cls C' h => absurd h.1 (by rw [h1]; exact Bool.noConfusion)⟩
        obtain ⟨_, rfl, rfl⟩ := h
        refine so_T (p := isN) (kp := isN) 0 rfl ?_ ?_
        · rw [List.length_map]
          have := dedF_len ((fs.take n).map partsF) []
          rw [List.length_map, List.length_take] at this
          exact Nat.lt_of_le_of_lt (show _ ≤ 60 from Nat.le_trans this (by simp; omega)) (by decide)
        rw [fKs_put, ← dedF_snoc, ← tk]
        exact tr_nil ⟨rfl, _, rfl⟩
      · obtain ⟨rfl, x2, rfl⟩ := hI
        rw [List.length_map, List.take_length]
    · rintro Γ C rfl
      exact tr_nil ⟨rfl, f, rfl⟩
theorem bad_part : okF "" = false := by decide +kernel
theorem ok_bad {f fP : Addr} {fd dP : FuncData} (Fn : Fun K "__init__" "Window.__init__" sWInit f fd) (T : Txt K mg CW)
    (GP : FnOk Pg w K mg base (L2.CX Pg w) 5 fP dP ["path"] ((pParts CC).sp tb)) (gP : mg "parts_of_path" = some (.ref fP)) (kP : PySem.W.keepIn K (.ref fP) = true) (bP : Binds K dP ["path"] []) :
    FnOk Pg w K mg base (L2.CX Pg w) 6 f fd ["self", "folders"] ((pBad CW CC).sp tb) :=
  def_ok Fn scInit (fun _ => rfl) fun wa cdv A outer s H E hpre hr own => by
    have u1 := hu_of hr
    refine tr_fldN (fns := []) T.cl T.na (by decide +kernel) (by decide) ?_
    refine ev_dicT fun f => ?_
    refine ev_name 0 rfl ?_
    refine ⟨_, _, 1, rfl, rfl, ?_⟩
    refine tr_forU (fun n Γ C => n = 0 ∧ C = [cFo ⟨wa, f, []⟩, cW CW ⟨wa, f, []⟩] ∧ Γ = [some (isR wa), some (rL [isS ""]), none])
      (fun Γ C => False) ?_ (fun _ _ z => z.elim) own rfl
    refine sr_L ?_
    refine ev_name 1 rfl ?_
    refine ⟨_, rfl, ⟨rfl, rfl, rfl⟩, fun _ _ _ _ => True.intro, fun n q Γ C hq hI => ?_, fun Γ C hI => ?_⟩
    · obtain ⟨rfl, rfl, rfl⟩ := hI
      have hq : isS "" = q := Option.some.inj hq
      subst hq
      refine eg_name 2 ?_ scInit.nd
      refine tr_sput u1 ?_
      refine ev_bl ?_
      refine ev_fld (fns := ["folders"]) 0 T.cl T.na (by decide) rfl ?_
      refine ev_name 0 rfl ?_
      refine ⟨_, _, _, rfl, List.Mem.tail _ (List.Mem.head _), rfl, ?_⟩
      refine ev_call GP (hr.mono (by decide)) gP kP bP ?_
      refine ea_cons ?_
      refine ev_name 2 rfl ?_
      refine ea_nil ?_
      refine ⟨"", _, show ("" : Str).length ≤ 10000 by decide, rfl, List.Perm.refl _, fun C' ρ h => absurd h.1 (by rw [bad_part]; exact Bool.noConfusion), fun cls C' h => h.2.1⟩
    · exact absurd hI.1 (by decide)
theorem ok_look {f fS : Addr} {fd dS : FuncData} (Fn : Fun K "look" "Window.look" sWLook f fd) (T : Txt K mg CW)
    (GS : FnOk Pg w K mg base (L2.CX Pg w) 6 fS dS ["self", "path"] ((pSees CW).sp tb)) (mS : Meth K CW "sees" fS) (bS : Binds K dS ["self", "path"] []) :
    FnOk Pg w K mg base (L2.CX Pg w) 7 f fd ["self", "files"] ((pLook K CW).sp tb) :=
  def_ok Fn scLook (fun _ => rfl) fun x cdv A outer s H E hpre hr own => by
    obtain ⟨⟨wa, fa, ks⟩, d, t⟩ := x
    obtain ⟨⟨nd, hl⟩, hok⟩ := hpre
    have nd : (t.map Prod.fst).Nodup := nd
    have hl : t.length < 60 := hl
    have hok : OkT t := hok
    have u1 := hu_of hr
    refine tr_ret ?_
    refine ev_lock lk_K 2 rfl fun od kvs => ?_
    refine ev_dcU (own := [("path", 2)]) (g := gName 2) (sr_w (pi_keys pe_we) (srw_K ?_)) scLook.nd (blkOk_by (by show blkC loN (defScope sWLook) _ _ = true; decide +kernel)) rfl (fun s H Cc cl fp => pg_name scLook.nd rfl (Or.inl rfl) (Or.inr rfl))
    refine ev_name 1 rfl ?_
    refine ⟨d, od, kvs, sK K t, rfl, List.Mem.tail _ (List.Mem.tail _ (List.Mem.head _)), fun n C' acc => C' = [cW CW ⟨wa, fa, ks⟩, cFo ⟨wa, fa, ks⟩, cZ d od kvs (sK K t)] ∧ acc = sK K ((t.take n).filter (inW ks)), ⟨rfl, rfl⟩, ?_, ?_, ?_⟩
    · rintro n C' acc ⟨rfl, _⟩
      exact List.Mem.tail _ (List.Mem.tail _ (List.Mem.head _))
    · rintro n q Ci acc hq ⟨rfl, rfl⟩
      obtain ⟨x, v, hx, rfl⟩ := sK_at hq
      have ox := hok _ (List.mem_of_getElem? hx)
      refine ⟨_, tgt_name, ?_⟩
      intro s H Cc cl fp
      refine eif_one ?_
      refine et_truth ?_
      refine ev_meth GS (hr.mono (by decide)) T.cl mS bS ?_
      refine ev_name 0 rfl ?_ -- self
      refine ⟨ins_C (fns := ["folders"]) (List.Mem.head _) (by decide +kernel), ?_⟩
      refine ea_cons ?_
      refine ev_name 2 rfl ?_ -- path
      refine ea_nil ?_
      refine ⟨⟨⟨wa, fa, ks⟩, x⟩, _, ox, rfl, List.Perm.refl _, fun C' ρ ⟨e1, e2⟩ => ?_, fun cls C' z => z.elim⟩
      subst e1
      subst e2
      refine tru_B ⟨fun hb => ?_, fun hb => ?_⟩
      · intro s H Cc cl fp
        refine ev_name 2 rfl ?_
        intro s H Cc cl fp
        refine ev_ix (ix_all (hu_of hr)) ?_
        refine ev_name 1 rfl ?_
        refine ev_name 2 rfl ?_
        refine okA_ixD (k := .inr x) (kps := sK K t) (dic_Z (List.Mem.tail _ (List.Mem.tail _ (List.Mem.head _)))) (by rw [sK_get, vG_at nd hx]; rfl) ?_
        refine ⟨.inr x, rfl, ?_, rfl, ?_⟩
        · rw [sK_len]; exact Nat.lt_trans (filt_lt hl) (by decide)
        · exact sK_filt nd hx hb
      · exact ⟨rfl, by rw [filt_no hx hb]⟩
    · rintro Cn acc ⟨rfl, rfl⟩ D
      refine ⟨3, rfl, D, ?_, rfl⟩
      rw [sK_keys, List.length_map, List.take_length]
      rfl
end
end K23

end
section
set_option Elab.async false
set_option linter.all false
set_option maxRecDepth 100000
open PySem PySem.Spec PyProof.Rows L2 Z
/-! short rows -/
local macro_rules | `(tactic| walk_at "zmem") => `(tactic| first
  | exact List.Mem.head _
  | exact List.Mem.tail _ (List.Mem.head _)
  | exact List.Mem.tail _ (List.Mem.tail _ (List.Mem.head _))
  | exact List.Mem.tail _ (List.Mem.tail _ (List.Mem.tail _ (List.Mem.head _)))
  | exact List.Mem.tail _ (List.Mem.tail _ (List.Mem.tail _ (List.Mem.tail _ (List.Mem.head _)))))
local macro_rules | `(tactic| walk_at "zlst") => `(tactic| first | exact lst_F | exact lst_S | exact lst_C (by walk_at "zmem") | assumption)
local macro_rules | `(tactic| walk_at "ztup") => `(tactic| first | exact tup_F | assumption)
local macro_rules | `(tactic| walk_at "zdic") => `(tactic| first | exact dic_F | exact dic_C (by walk_at "zmem") | exact dic_Z (by walk_at "zmem") | assumption)
local macro_rules | `(tactic| walk_at "zside") => `(tactic| first | assumption | decide | (show _ ≤ sizeLine; decide) | omega)
local macro_rules | `(tactic| walk_at "zadd") => `(tactic| first | refine okA_addI ?_ | refine okA_addS (by walk_at "zside") ?_ | refine okA_addL (by walk_at "zlst") (by walk_at "zlst") (by walk_at "zside") ?_)
local macro_rules | `(tactic| walk_at "zsub") => `(tactic| refine ok_rI0 ?_)
local macro_rules | `(tactic| walk_at "zmul") => `(tactic| first | refine okA_mulI (by walk_at "zside") ?_ | refine okA_mulL (by walk_at "zside") (by walk_at "zside") (by walk_at "zside") ?_)
local macro_rules | `(tactic| walk_at "zdiv") => `(tactic| refine ok_rI (by first | assumption | exact ⟨by decide, by decide⟩) ?_)
local macro_rules | `(tactic| walk_at "zmod") => `(tactic| refine ok_rI (by first | assumption | decide) ?_)
local macro_rules | `(tactic| walk_at "zpow") => `(tactic| refine ok_rI (by exact ⟨by decide, by decide, by decide⟩) ?_)
local macro_rules | `(tactic| walk_at "zlt") => `(tactic| refine ok_rI0 ?_)
local macro_rules | `(tactic| walk_at "zeq") => `(tactic| refine okA_eqS rfl ?_)
local macro_rules | `(tactic| walk_at "zne") => `(tactic| refine okA_neS rfl ?_)
local macro_rules | `(tactic| walk_at "zix") => `(tactic| first | refine okA_ixL (by walk_at "zlst") (by rfl) ?_ | refine okA_ixT (by walk_at "ztup") (by rfl) ?_ | refine okA_ixD (by walk_at "zdic") (by assumption) ?_)
local macro_rules | `(tactic| walk_at "zfld") => `(tactic| refine ⟨_, _, _, rfl, by walk_at "zmem", rfl, ?_⟩)
local macro_rules | `(tactic| walk_at "zc_len") => `(tactic| first | refine okA_lenL (by walk_at "zlst") ?_ | refine okA_lenT (by walk_at "ztup") ?_ | refine okA_lenD (by walk_at "zdic") ?_ | refine okA_lenS (by walk_at "zside") ?_)
local macro_rules | `(tactic| walk_at "zc_int") => `(tactic| first | refine ok_intI ?_ | refine ok_intB ?_)
local macro_rules | `(tactic| walk_at "zc_abs") => `(tactic| refine ok_abs ?_)
local macro_rules | `(tactic| walk_at "zc_str") => `(tactic| refine ok_strI (by walk_at "zside") ?_)
local macro_rules | `(tactic| walk_at "zso") => `(tactic| first
  | refine so_L (i := 0) rfl rfl ?_ | refine so_L (i := 1) rfl rfl ?_ | refine so_L (i := 2) rfl rfl ?_ | refine so_L (i := 3) rfl rfl ?_)
local macro_rules | `(tactic| walk_at "zuse") => `(tactic| apply et_use)
local macro_rules | `(tactic| walk_at "zev") => `(tactic| apply ev_use)
local macro_rules | `(tactic| walk_at "zand") => `(tactic| apply etp_and)
local macro_rules | `(tactic| walk_at "zor") => `(tactic| apply etp_or)
local macro_rules | `(tactic| walk_at "znot") => `(tactic| apply etp_not)
namespace K23
open PySem.W (Datum Tup)
open Rep (pr)
abbrev LW (K : PySem.W.Frag) (CW : Addr) (x : WcO) : List Cell := [cW CW x.o, cFo x.o, cD K x.d x.t, cD K x.e x.u]
theorem all_fin {β : Type} {f : β → Bool} {t : List β} (h : (t.take t.length).any (fun e => !(f e)) = false) : t.all f = true := by
  rw [List.take_length] at h
  rw [List.all_eq_true]
  intro e he
  have := (List.any_eq_false.mp h) e he
  simpa using this
theorem all_bad {β : Type} {f : β → Bool} {t : List β} {n : Nat} {e : β} (h : t[n]? = some e) (hf : (!(f e)) = true) : t.all f = false := by
  rw [List.all_eq_false]
  exact ⟨e, List.mem_of_getElem? h, by simpa using hf⟩
section
variable {Pg : Program} {w : World} {K : PySem.W.Frag} {mg : Str → Option Value} {base : Heap} {tb : Tb} {CC CW CE : Addr}
theorem ok_with {f c P fS : Addr} {dS : FuncData} {dV kV doc pm ct oc : Value} {an od : Option Addr} {osl : Array (Option Value)}
    (lk : K.lookup f = some ⟨oc, od, .func (PySem.W.fnOf "with_changes" "Window.with_changes" (defArgs sWWith) (defBody sWWith) (defScope sWWith) dV kV doc pm an (.ref c) ct), osl⟩) (hcd : PySem.W.codeIn K (.ref c) "Window.with_changes" = true) (TB : LamX.TabB base mg c P) (hm : (P, nmWi) ∈ tb.nt) (hun : ∀ p ∈ tb.nt, p.1 = P → p.2 = nmWi)
    (T : Txt K mg CW) (X : Exc K mg "HostError" CE)
    (GS : FnOk Pg w K mg base (L2.CX Pg w) 6 fS dS ["self", "path"] ((pSees CW).sp tb)) (mS : Meth K CW "sees" fS) (bS : Binds K dS ["self", "path"] []) (zAny : mg "any" = none) :
    FnOk Pg w K mg base (L2.CX Pg w) 10 f (PySem.W.fnOf "with_changes" "Window.with_changes" (defArgs sWWith) (defBody sWWith) (defScope sWWith) dV kV doc pm an (.ref c) ct) ["self", "files", "seen"] ((pWith K CW CE).sp tb) :=
  def_okC lk hcd scWith (fun _ => rfl) fun x A outer s H E hpre hr own => by
    obtain ⟨⟨wa, fa, ks⟩, d, t, e, u⟩ := x
    obtain ⟨⟨⟨nd, hl⟩, hok⟩, ⟨nu, hlu⟩, hoku⟩ := hpre
    have nd : (t.map Prod.fst).Nodup := nd
    have hl : t.length < 60 := hl
    have hok : OkT t := hok
    have nu : (u.map Prod.fst).Nodup := nu
    have hlu : u.length < 60 := hlu
    have hoku : OkT u := hoku
    have u1 := hu_of hr
    -- if any(not self.sees(path) for path in seen):
    refine tr_ifx ?_
    refine et_use (B := !(allIn ks u)) ?_ ?_
    · refine et_truth ?_
      refine ev_lock lk_K 3 rfl fun od kvs => ?_
      refine ev_anyU (own := [("path", 4)]) (k := 6) (g := gName 4) (P := P) (c := c) (nm := nmWi) ⟨hm, rfl, hun, TB, rfl, blkOk_by (by show blkC wiN (defScope sWWith) _ _ = true; decide +kernel), scWith.nd, by decide +kernel, rfl, rfl, ?_, fun v => rfl⟩ (hr.mono (by decide)) zAny ?_
      · intro A' s' H' C' code fp pn hrA
        exact pg_name scWith.nd rfl (Or.inl rfl) (Or.inr rfl)
      refine sr_w (pi_keys pe_we) (srw_K ?_)
      refine ev_name 2 rfl ?_ -- seen
      refine ⟨e, od, kvs, sK K u, rfl, List.Mem.tail _ (List.Mem.tail _ (List.Mem.tail _ (List.Mem.head _))), fun n C' acc => C' = [cW CW ⟨wa, fa, ks⟩, cFo ⟨wa, fa, ks⟩, cD K d t, cZ e od kvs (sK K u)] ∧ ((u.take n).any fun e => !(inW ks e)) = false, ⟨rfl, by simp⟩, ?_, ?_, ?_⟩
      · rintro n C' acc ⟨rfl, _⟩
        exact List.Mem.tail _ (List.Mem.tail _ (List.Mem.tail _ (List.Mem.head _)))
      · rintro n q C' acc hq ⟨rfl, ha⟩
        obtain ⟨x, v, hx, rfl⟩ := sK_at hq
        have ox := hoku _ (List.mem_of_getElem? hx)
        refine ⟨_, tgt_name, ?_⟩
        intro A' s' H' C' code fp pn hrA
        refine eif_no ⟨fun _ => ?_, fun z => nomatch z⟩
        intro A' s' H' C' code fp pn hrA
        refine ev_not ?_
        refine ev_meth GS hrA T.cl mS bS ?_
        refine ev_name 0 rfl ?_ -- self
        refine ⟨ins_C (fns := ["folders"]) (List.Mem.head _) (by decide +kernel), ?_⟩
        refine ea_cons ?_
        refine ev_name 4 rfl ?_ -- path
        refine ea_nil ?_
        refine ⟨⟨⟨wa, fa, ks⟩, x⟩, _, ox, rfl, List.Perm.refl _, fun C' ρ ⟨e1, e2⟩ => ?_, fun cls C' z => z.elim⟩
        subst e1
        subst e2
        refine ⟨_, rfl, _, rfl, fun hb => ⟨3, rfl, tru_B ⟨rfl, ?_⟩⟩, fun hb => ⟨rfl, ?_⟩⟩
        · show true = !(allIn ks u)
          unfold allIn
          rw [all_bad hx hb]
          rfl
        · rw [any_take hx, ha, Bool.false_or]
          exact hb
      · rintro Cn acc ⟨rfl, ha⟩
        rw [sK_keys, List.length_map] at ha
        refine ⟨3, rfl, tru_B ⟨rfl, ?_⟩⟩
        show false = !(allIn ks u)
        unfold allIn
        rw [all_fin ha]
        rfl
    refine bB (fun h1 => ?_) (fun h1 => ?_)
    · refine tr_raise PySem.F.excBase_ValueError X.xE X.gE X.kE (raises_own X.bE X.tE) rfl ?_
      exact ⟨by simpa using h1, rfl, rfl⟩
    -- found = {path: files[path] for path in files if not self.sees(path)}
    refine tr_setDcLk (own := [("path", 4)]) (g := gName 4) lk_K 2 rfl (pi_keys pe_we) 3 (fun od kvs => ?_) scWith.nd (blkOk_by (by show blkC wiN (defScope sWWith) _ _ = true; decide +kernel)) rfl (fun s H Cc cl fp => pg_name scWith.nd rfl (Or.inl rfl) (Or.inr rfl)) (by rfl)
    refine srw_K ?_
    refine ev_name 1 rfl ?_
    refine ⟨d, od, kvs, sK K t, rfl, List.Mem.tail _ (List.Mem.tail _ (List.Mem.head _)), fun n C' acc => C' = [cW CW ⟨wa, fa, ks⟩, cFo ⟨wa, fa, ks⟩, cZ d od kvs (sK K t), cD K e u] ∧ acc = sK K ((t.take n).filter (outW ks)), ⟨rfl, rfl⟩, ?_, ?_, ?_⟩
    · rintro n C' acc ⟨rfl, _⟩
      exact List.Mem.tail _ (List.Mem.tail _ (List.Mem.head _))
    · rintro n q Ci acc hq ⟨rfl, rfl⟩
      obtain ⟨x, v, hx, rfl⟩ := sK_at hq
      have ox := hok _ (List.mem_of_getElem? hx)
      refine ⟨_, tgt_name, ?_⟩
      intro s H Cc cl fp
      refine eif_one ?_
      refine et_not ?_
      refine et_truth ?_
      refine ev_meth GS (hr.mono (by decide)) T.cl mS bS ?_
      refine ev_name 0 rfl ?_ -- self
      refine ⟨ins_C (fns := ["folders"]) (List.Mem.head _) (by decide +kernel), ?_⟩
      refine ea_cons ?_
      refine ev_name 4 rfl ?_ -- path
      refine ea_nil ?_
      refine ⟨⟨⟨wa, fa, ks⟩, x⟩, _, ox, rfl, List.Perm.refl _, fun C' ρ ⟨e1, e2⟩ => ?_, fun cls C' z => z.elim⟩
      subst e1
      subst e2
      refine tru_B ⟨fun hb => ?_, fun hb => ?_⟩
      · intro s H Cc cl fp
        refine ev_name 4 rfl ?_
        intro s H Cc cl fp
        refine ev_ix (ix_all (hu_of hr)) ?_
        refine ev_name 1 rfl ?_
        refine ev_name 4 rfl ?_
        refine okA_ixD (k := .inr x) (kps := sK K t) (dic_Z (List.Mem.tail _ (List.Mem.tail _ (List.Mem.head _)))) (by rw [sK_get, vG_at nd hx]; rfl) ?_
        refine ⟨.inr x, rfl, ?_, rfl, ?_⟩
        · rw [sK_len]; exact Nat.lt_trans (filt_lt hl) (by decide)
        · exact sK_filt nd hx hb
      · exact ⟨rfl, by rw [filt_no hx hb]⟩
    · rintro Cn acc ⟨rfl, rfl⟩ D
      refine ⟨3, rfl, ?_⟩
      rw [sK_keys, List.length_map, List.take_length]
      refine tr_nd fun hnd => ?_
      have hne : D ≠ e := by
        have h2 : [D, wa, fa, d, e].Nodup := hnd
        intro z
        rw [z] at h2
        simp at h2
      -- found.update(seen)
      refine tr_expr ?_
      refine ev_bm PySem.F.plainAttrs_dict PySem.F.slot_dict_update PySem.F.type_dict_update mt_update ?_
      refine ev_name 3 rfl ?_ -- found
      refine ⟨ty_D (List.Mem.head _), ?_⟩
      refine ea_cons ?_
      refine ev_name 2 rfl ?_ -- seen
      refine ea_nil ?_
      refine ok_update (kps := sK K (t.filter (outW ks))) (ls := sK K u) 0 rfl (List.Mem.tail _ (List.Mem.tail _ (List.Mem.tail _ (List.Mem.tail _ (List.Mem.head _))))) hne ?_ ?_
      · rw [sK_len, sK_len]
        exact Nat.le_trans (Nat.add_le_add (Nat.le_trans (List.length_filter_le _ _) (Nat.le_of_lt hl)) (Nat.le_of_lt hlu)) (by decide)
      rw [sK_mP]
      refine tr_ret ?_
      refine ev_name 3 rfl ?_ -- found
      exact ⟨by simpa using h1, D, rfl, rfl⟩
end
end K23

end
section
set_option Elab.async false
set_option linter.all false
set_option maxRecDepth 100000
open PySem PySem.Spec PyProof.Rows L2 Z
/-! short rows -/
local macro_rules | `(tactic| walk_at "zmem") => `(tactic| first
  | exact List.Mem.head _
  | exact List.Mem.tail _ (List.Mem.head _)
  | exact List.Mem.tail _ (List.Mem.tail _ (List.Mem.head _))
  | exact List.Mem.tail _ (List.Mem.tail _ (List.Mem.tail _ (List.Mem.head _)))
  | exact List.Mem.tail _ (List.Mem.tail _ (List.Mem.tail _ (List.Mem.tail _ (List.Mem.head _)))))
local macro_rules | `(tactic| walk_at "zlst") => `(tactic| first | exact lst_F | exact lst_S | exact lst_C (by walk_at "zmem") | assumption)
local macro_rules | `(tactic| walk_at "ztup") => `(tactic| first | exact tup_F | assumption)
local macro_rules | `(tactic| walk_at "zdic") => `(tactic| first | exact dic_F | exact dic_C (by walk_at "zmem") | exact dic_Z (by walk_at "zmem") | assumption)
local macro_rules | `(tactic| walk_at "zside") => `(tactic| first | assumption | decide | (show _ ≤ sizeLine; decide) | omega)
local macro_rules | `(tactic| walk_at "zadd") => `(tactic| first | refine okA_addI ?_ | refine okA_addS (by walk_at "zside") ?_ | refine okA_addL (by walk_at "zlst") (by walk_at "zlst") (by walk_at "zside") ?_)
local macro_rules | `(tactic| walk_at "zsub") => `(tactic| refine ok_rI0 ?_)
local macro_rules | `(tactic| walk_at "zmul") => `(tactic| first | refine okA_mulI (by walk_at "zside") ?_ | refine okA_mulL (by walk_at "zside") (by walk_at "zside") (by walk_at "zside") ?_)
local macro_rules | `(tactic| walk_at "zdiv") => `(tactic| refine ok_rI (by first | assumption | exact ⟨by decide, by decide⟩) ?_)
local macro_rules | `(tactic| walk_at "zmod") => `(tactic| refine ok_rI (by first | assumption | decide) ?_)
local macro_rules | `(tactic| walk_at "zpow") => `(tactic| refine ok_rI (by exact ⟨by decide, by decide, by decide⟩) ?_)
local macro_rules | `(tactic| walk_at "zlt") => `(tactic| refine ok_rI0 ?_)
local macro_rules | `(tactic| walk_at "zeq") => `(tactic| refine okA_eqS rfl ?_)
local macro_rules | `(tactic| walk_at "zne") => `(tactic| refine okA_neS rfl ?_)
local macro_rules | `(tactic| walk_at "zix") => `(tactic| first | refine okA_ixL (by walk_at "zlst") (by rfl) ?_ | refine okA_ixT (by walk_at "ztup") (by rfl) ?_ | refine okA_ixD (by walk_at "zdic") (by assumption) ?_)
local macro_rules | `(tactic| walk_at "zfld") => `(tactic| refine ⟨_, _, _, rfl, by walk_at "zmem", rfl, ?_⟩)
local macro_rules | `(tactic| walk_at "zc_len") => `(tactic| first | refine okA_lenL (by walk_at "zlst") ?_ | refine okA_lenT (by walk_at "ztup") ?_ | refine okA_lenD (by walk_at "zdic") ?_ | refine okA_lenS (by walk_at "zside") ?_)
local macro_rules | `(tactic| walk_at "zc_int") => `(tactic| first | refine ok_intI ?_ | refine ok_intB ?_)
local macro_rules | `(tactic| walk_at "zc_abs") => `(tactic| refine ok_abs ?_)
local macro_rules | `(tactic| walk_at "zc_str") => `(tactic| refine ok_strI (by walk_at "zside") ?_)
local macro_rules | `(tactic| walk_at "zso") => `(tactic| first
  | refine so_L (i := 0) rfl rfl ?_ | refine so_L (i := 1) rfl rfl ?_ | refine so_L (i := 2) rfl rfl ?_ | refine so_L (i := 3) rfl rfl ?_)
local macro_rules | `(tactic| walk_at "zuse") => `(tactic| apply et_use)
local macro_rules | `(tactic| walk_at "zev") => `(tactic| apply ev_use)
local macro_rules | `(tactic| walk_at "zand") => `(tactic| apply etp_and)
local macro_rules | `(tactic| walk_at "zor") => `(tactic| apply etp_or)
local macro_rules | `(tactic| walk_at "znot") => `(tactic| apply etp_not)
namespace K23
open PySem.W (Datum Tup)
open Rep (pr)
structure WdO where
  o : WiO
  xs : List Str
  fs : List Str
abbrev okL (xs : List Str) : Prop := ∀ x ∈ xs, okF x = true ∧ x.length ≤ 10000
def pWider (CW : Addr) : Prom WdO := { ps := fun x => [isR x.o.w, rL (x.fs.map fun y => isS y)], C := fun x => [cW CW x.o, cFo x.o], pre := fun x => (x.o.ks = x.xs.map partsF ∧ okL x.xs ∧ okL x.fs) ∧ x.xs.length ≤ 20 ∧ x.fs.length ≤ 20, R := fun x C ρ => ∃ w2 f2, C = [cFo ⟨w2, f2, dedF ((x.xs ++ x.fs).map partsF)⟩, cW CW ⟨w2, f2, dedF ((x.xs ++ x.fs).map partsF)⟩, cW CW x.o, cFo x.o] ∧ ρ = isR w2 }
theorem parts8 {x : Str} (h : okF x = true) : (partsF x).length ≤ 8 := by
  unfold okF at h
  rw [Bool.and_eq_true] at h
  exact of_decide_eq_true h.1
theorem sum_le : ∀ {l : List Str} {m : Nat}, (∀ y ∈ l, y.length ≤ m) → (l.map (·.length)).sum ≤ l.length * m
  | [], m, h => Nat.zero_le _
  | y :: l, m, h => by
    have h1 := h y List.mem_cons_self
    have h2 := sum_le (l := l) (m := m) fun z hz => h z (List.mem_cons_of_mem _ hz)
    rw [List.map_cons, List.sum_cons, List.length_cons, Nat.add_mul, Nat.one_mul]
    omega
theorem parts_sum {x : Str} (h : okF x = true) (hl : x.length ≤ 10000) : ((partsF x).map (·.length)).sum + (partsF x).length * ("/" : Str).length ≤ 16777216 := by
  have h8 := parts8 h
  have h1 := sum_le (l := partsF x) (m := 10000) fun y hy => Nat.le_trans (PyProof.Rows.part_short hy) hl
  have h2 : (partsF x).length * 10000 ≤ 8 * 10000 := Nat.mul_le_mul_right _ h8
  have h3 : (partsF x).length * ("/" : Str).length ≤ 8 * 1 := Nat.mul_le_mul_right 1 h8
  omega
structure DeO where
  o : WiO
  d : Addr
  t : TbO
  e : Addr
  u : TbO
abbrev LD (K : PySem.W.Frag) (CW : Addr) (x : DeO) : List Cell := [cW CW x.o, cFo x.o, cD K x.d x.t, cD K x.e x.u]
def keysD (t u : TbO) : List (Str × Bool) := pGs [] ((t.map Prod.fst ++ u.map Prod.fst).map fun x => (x, true))
def rowD (ks : List (List Str)) (t u : TbO) (x : Str) : List (Str × Str) := if (seesF ks (partsF x) && decide (vG t x ≠ vG u x)) = true then [(if (vG u x).isSome then "put" else "take", x)] else []
noncomputable def deedsF (ks : List (List Str)) (t u : TbO) : List (Str × Str) := (srtT ((keysD t u).map Prod.fst)).flatMap (rowD ks t u)
noncomputable def pDeeds (K : PySem.W.Frag) (CW : Addr) : Prom DeO := { ps := fun x => [isR x.o.w, isR x.d, isR x.e], C := fun x => LD K CW x, pre := fun x => (NdT x.t ∧ OkT x.t) ∧ (NdT x.u ∧ OkT x.u) ∧ x.t.length + x.u.length < 60, R := fun x C ρ => ((∃ D k m l, C = cK D k :: cL m l :: LD K CW x) ∧ ∃ ys : List Str, ys.Perm ((keysD x.t x.u).map Prod.fst) ∧ sortedS ys = true) ∧ ρ = rT K ((deedsF x.o.ks x.t x.u).map fun r => rT K [isS r.1, isS r.2]) }
theorem keysD_mem {t u : TbO} {x : Str} : x ∈ (keysD t u).map Prod.fst ↔ x ∈ t.map Prod.fst ∨ x ∈ u.map Prod.fst := by
  unfold keysD
  have h : ∀ (l : List Str) (acc : List (Str × Bool)), x ∈ (pGs acc (l.map fun x => (x, true))).map Prod.fst ↔ x ∈ acc.map Prod.fst ∨ x ∈ l := by
    intro l
    induction l with
    | nil => intro acc; show x ∈ acc.map Prod.fst ↔ _; simp
    | cons a l ih =>
      intro acc
      show x ∈ (pGs (pG acc a true) (l.map fun x => (x, true))).map Prod.fst ↔ _
      rw [ih]
      have e : x ∈ (pG acc a true).map Prod.fst ↔ x ∈ acc.map Prod.fst ∨ x = a := by
        unfold pG
        by_cases hh : (acc.any fun p => decide (p.1 = a)) = true
        · rw [if_pos hh, List.map_map]
          have e2 : (Prod.fst ∘ fun p : Str × Bool => if p.1 = a then (p.1, true) else p) = Prod.fst := by
            funext p
            show (if p.1 = a then (p.1, true) else p).1 = p.1
            split <;> rfl
          rw [e2]
          obtain ⟨p, hp, hq⟩ := List.any_eq_true.mp hh
          have : a ∈ acc.map Prod.fst := List.mem_map.mpr ⟨p, hp, of_decide_eq_true hq⟩
          constructor
          · exact .inl
          · rintro (z | z)
            · exact z
            · rw [z]; exact this
        · rw [if_neg hh, List.map_append, List.mem_append]
          simp
      rw [e, List.mem_cons, or_assoc]
  rw [h]
  simp
theorem keysD_len (t u : TbO) : ((keysD t u).map Prod.fst).length ≤ t.length + u.length := by
  unfold keysD
  rw [List.length_map]
  refine Nat.le_trans (pGs_len _ _) ?_
  simp
abbrev wdN : List Str := ["self", "folders", "folder"]
abbrev deN : List Str := ["self", "before", "after", "found", "path"]
section
variable {Pg : Program} {w : World} {K : PySem.W.Frag} {mg : Str → Option Value} {base : Heap} {tb : Tb} {CC CW CE : Addr}
theorem tup_KS {j : J} {xs : List Str} : TupOk j (rKt (kS xs)) (xs.map fun y => isS y) := by
  rw [← kS_pr]
  exact tup_K
theorem mem5 {α : Type} {a b c d e x : α} {l : List α} : x ∈ a :: b :: c :: d :: e :: x :: l := by simp
theorem flat_len {α β : Type} {g : α → List β} (h : ∀ x, (g x).length ≤ 1) : ∀ l : List α, (l.flatMap g).length ≤ l.length
  | [] => Nat.le_refl _
  | x :: l => by
    have h1 := h x
    have h2 := flat_len h l
    rw [List.flatMap_cons, List.length_append, List.length_cons]
    omega
theorem rowD_len (ks : List (List Str)) (t u : TbO) (x : Str) : (rowD ks t u x).length ≤ 1 := by
  unfold rowD
  split
  · exact Nat.le_refl _
  · exact Nat.zero_le _
theorem scWider : FnScope wdN ["self", "folders"] (defScope sWWider) := ⟨rfl, rfl, rfl, by decide +kernel, rfl, by decide +kernel, by decide +kernel⟩
theorem scDeeds : FnScope deN ["self", "before", "after"] (defScope sWDeeds) := ⟨rfl, rfl, rfl, by decide +kernel, rfl, by decide +kernel, by decide +kernel⟩
theorem ok_wider {f fI : Addr} {fd dI : FuncData} (Fn : Fun K "wider" "Window.wider" sWWider f fd) (T : Txt K mg CW)
    (M : Mk K CW fI) (GI : FnOk Pg w K mg base (L2.CX Pg w) 6 fI dI ["self", "folders"] ((pInit CW).sp tb)) (gW : mg "Window" = some (.ref CW)) (bI : Binds K dI ["self", "folders"] []) (zList : mg "list" = none) :
    FnOk Pg w K mg base (L2.CX Pg w) 8 f fd ["self", "folders"] ((pWider CW).sp tb) :=
  def_ok Fn scWider (fun _ => rfl) fun x cdv A outer s H E hpre hr own => by
    obtain ⟨⟨wa, fa, ks⟩, xs, fs⟩ := x
    obtain ⟨⟨hks, hx, hf⟩, hxl, hfl⟩ := hpre
    have hks : ks = xs.map partsF := hks
    have hx : okL xs := hx
    have hf : okL fs := hf
    have hxl : xs.length ≤ 20 := hxl
    have hfl : fs.length ≤ 20 := hfl
    subst hks
    have u1 := hu_of hr
    refine tr_ret ?_
    refine ev_make M GI (hr.mono (by decide)) gW bI ?_
    refine ea_cons ?_
    refine ev_op op_addA ?_
    refine ev_lock lk_T 1 rfl fun od kvs => ?_
    refine ev_lcU (own := [("folder", 2)]) (g := gName 2) (sr_w (pi_keys pe_we) (srw_T ?_)) scWider.nd (blkOk_by (by show blkC wdN (defScope sWWider) _ _ = true; decide +kernel)) rfl (fun s H Cc cl fp => pg_name scWider.nd rfl (Or.inl rfl) (Or.inr rfl))
    refine ev_fld (fns := ["folders"]) 0 T.cl T.na (by decide) rfl ?_
    refine ev_name 0 rfl ?_
    refine ⟨_, _, _, rfl, List.Mem.head _, rfl, ?_⟩
    refine ⟨fa, od, kvs, fKs (xs.map partsF), rfl, List.Mem.tail _ (List.Mem.head _), fun n C' acc => C' = [cW CW ⟨wa, fa, xs.map partsF⟩, cY fa od kvs (fKs (xs.map partsF))] ∧ acc = (xs.take n).map fun y => isS y, ⟨rfl, rfl⟩, ?_, ?_, ?_⟩
    · rintro n C' acc ⟨rfl, _⟩
      exact List.Mem.tail _ (List.Mem.head _)
    · rintro n q Ci acc hq ⟨rfl, rfl⟩
      rw [List.getElem?_map, List.getElem?_map, List.getElem?_map] at hq
      obtain ⟨z1, hz, rfl⟩ := Option.map_eq_some_iff.mp hq
      obtain ⟨k, hk, rfl⟩ := Option.map_eq_some_iff.mp hz
      obtain ⟨x, hxn, rfl⟩ := Option.map_eq_some_iff.mp hk
      obtain ⟨h1, h2⟩ := hx x (List.mem_of_getElem? hxn)
      have tk : xs.take (n + 1) = xs.take n ++ [x] := by rw [List.take_add_one, hxn]; rfl
      refine ⟨_, tgt_name, ?_⟩
      intro s H Cc cl fp
      refine eif_no ⟨fun _ => ?_, fun z => nomatch z⟩
      intro s H Cc cl fp
      refine ev_bm PySem.F.plainAttrs_str PySem.F.slot_str_join PySem.F.type_str_join mt_joinZ ?_
      refine ev_str ?_
      refine ⟨ty_S, ?_⟩
      refine ea_cons ?_
      refine ev_name 2 rfl ?_
      refine ea_nil ?_
      refine ok_joinT (ys := partsF x) tup_KS (parts_sum h1 h2) ?_
      rw [show Txt.join "/" (partsF x) = x from join_of_split x 47]
      refine ⟨?_, rfl, ?_⟩
      · rw [List.length_map]
        exact Nat.lt_of_le_of_lt (List.length_take_le' _ _) (Nat.lt_of_le_of_lt hxl (by decide))
      · rw [tk, List.map_append]
        rfl
    · rintro Cn acc ⟨rfl, rfl⟩
      rw [List.length_map, List.length_map, List.length_map, List.take_length]
      refine ⟨1, rfl, ?_⟩
      refine ev_callTy call_list_of zList (by decide +kernel) ?_
      refine ea_cons ?_
      refine ev_name 1 rfl ?_
      refine ea_nil ?_
      refine ok_listL lst_F ?_
      refine okA_addL lst_F lst_F ?_ ?_
      · rw [List.length_map, List.length_map]
        exact Nat.le_trans (Nat.add_le_add hxl hfl) (by decide)
      refine ea_nil ?_
      intro a
      rw [← List.map_append]
      refine ⟨⟨a, xs ++ fs⟩, _, ⟨?_, ?_⟩, rfl, List.Perm.refl _, ?_, fun _ _ z => z.elim⟩
      · intro y hy
        rcases List.mem_append.mp hy with z | z
        · exact hx y z
        · exact hf y z
      · show (xs ++ fs).length ≤ 60
        rw [List.length_append]
        omega
      · rintro C' ρ ⟨rfl, f2, rfl⟩
        exact ⟨rfl, a, f2, rfl, rfl⟩
theorem ok_deeds {f fS : Addr} {fd dS : FuncData} (Fn : Fun K "deeds_between" "Window.deeds_between" sWDeeds f fd) (T : Txt K mg CW)
    (GS : FnOk Pg w K mg base (L2.CX Pg w) 6 fS dS ["self", "path"] ((pSees CW).sp tb)) (mS : Meth K CW "sees" fS) (bS : Binds K dS ["self", "path"] []) (zList : mg "list" = none) (zSorted : mg "sorted" = none) (zTuple : mg "tuple" = none) :
    FnOk Pg w K mg base (L2.CX Pg w) 7 f fd ["self", "before", "after"] ((pDeeds K CW).sp tb) :=
  def_ok Fn scDeeds (fun _ => rfl) fun x cdv A outer s H E hpre hr own => by
    obtain ⟨⟨wa, fa, ks⟩, d, t, e, u⟩ := x
    obtain ⟨⟨⟨nd, hl⟩, hok⟩, ⟨⟨nu, hlu⟩, hoku⟩, hs⟩ := hpre
    have nd : (t.map Prod.fst).Nodup := nd
    have nu : (u.map Prod.fst).Nodup := nu
    have hok : OkT t := hok
    have hoku : OkT u := hoku
    have hs : t.length + u.length < 60 := hs
    have u1 := hu_of hr
    have u64 := hr.units
    -- found = []
    refine tr_set 3 ?_ scDeeds.nd
    refine ev_lstC ?_
    refine ea_nil ?_
    refine ⟨by show 0 ≤ sizeLine; decide, fun m => ?_⟩
    -- for path in sorted({path: True for path in list(before) + list(after)}):
    generalize hks : (keysD t u).map Prod.fst = kk
    have hkl : kk.length ≤ t.length + u.length := by rw [← hks]; exact keysD_len t u
    refine tr_forV (fun Γ C => (∃ ys : List Str, ys.Perm ((keysD t u).map Prod.fst) ∧ sortedS ys = true) ∧ ∃ D x4, C = cK D (sK K (keysD t u)) :: cL m ((deedsF ks t u).map fun r => rT K [isS r.1, isS r.2]) :: LD K CW ⟨⟨wa, fa, ks⟩, d, t, e, u⟩ ∧ Γ = [some (isR wa), some (isR d), some (isR e), some (isR m), x4]) ?_ ?_ own rfl
    · refine sr_L ?_
      refine ev_callB (call_sortedD rfl) zSorted (by decide +kernel) ?_
      refine ea_cons ?_
      refine ev_dcU (own := [("path", 4)]) (g := gName 4) (sr_L ?_) scDeeds.nd (blkOk_by (by show blkC deN (defScope sWDeeds) _ _ = true; decide +kernel)) rfl (fun s H Cc cl fp => pg_name scDeeds.nd rfl (Or.inl rfl) (Or.inr rfl))
      refine ev_op op_addA ?_
      refine ev_callTy (call_listD rfl) zList (by decide +kernel) ?_
      refine ea_cons ?_
      refine ev_name 1 rfl ?_
      refine ea_nil ?_
      refine ok_listD (kps := sK K t) (dic_C (by walk_at "zmem")) ?_
      refine ev_callTy (call_listD rfl) zList (by decide +kernel) ?_
      refine ea_cons ?_
      refine ev_name 2 rfl ?_
      refine ea_nil ?_
      refine ok_listD (kps := sK K u) (dic_C (by walk_at "zmem")) ?_
      rw [sK_keys, sK_keys]
      refine okA_addL lst_F lst_F ?_ ?_
      · rw [List.length_map, List.length_map]
        exact Nat.le_trans (Nat.le_of_lt hs) (by decide)
      have e1 : (t.map fun kv => isS kv.1) ++ (u.map fun kv => isS kv.1) = (t.map Prod.fst ++ u.map Prod.fst).map fun x => isS x := by rw [List.map_append, List.map_map, List.map_map]; rfl
      rw [e1]
      have hkl2 : (t.map Prod.fst ++ u.map Prod.fst).length < 60 := by rw [List.length_append, List.length_map, List.length_map]; exact hs
      have hkd : keysD t u = pGs [] ((t.map Prod.fst ++ u.map Prod.fst).map fun x => (x, true)) := rfl
      generalize t.map Prod.fst ++ u.map Prod.fst = al at hkd hkl2
      refine ⟨_, rfl, fun n C' acc => C' = cL m [] :: LD K CW ⟨⟨wa, fa, ks⟩, d, t, e, u⟩ ∧ acc = sK K (pGs [] ((al.take n).map fun x => (x, true))), ⟨rfl, rfl⟩, fun _ _ _ _ => True.intro, ?_, ?_⟩
      · rintro n q Ci acc hq ⟨rfl, rfl⟩
        rw [List.getElem?_map] at hq
        obtain ⟨x, hx, rfl⟩ := Option.map_eq_some_iff.mp hq
        have tk : (al.take (n + 1)).map (fun x => (x, true)) = (al.take n).map (fun x => (x, true)) ++ [(x, true)] := by rw [List.take_add_one, hx, List.map_append]; rfl
        refine ⟨_, tgt_name, ?_⟩
        intro s H Cc cl fp
        refine eif_no ⟨fun _ => ?_, fun z => nomatch z⟩
        intro s H Cc cl fp
        refine ev_name 4 rfl ?_
        intro s H Cc cl fp
        refine ev_bl ?_
        refine ⟨.inr x, rfl, ?_, rfl, ?_⟩
        · rw [sK_len]
          exact Nat.lt_of_le_of_lt (Nat.le_trans (pGs_len _ _) (by rw [List.length_map, List.length_nil, Nat.zero_add]; exact Nat.le_trans (List.length_take_le' _ _) (Nat.le_of_lt hkl2))) (by decide)
        · rw [tk, pGs_snoc]
          exact sK_put K _ x true
      · rintro Cn acc ⟨rfl, rfl⟩ D
        rw [List.length_map, List.take_length, ← hkd]
        refine ea_nil ?_
        refine ok_sortedD (kps := sK K (keysD t u)) (ks := kk) (dic_C (by walk_at "zmem")) (by rw [sK_fst, hks]) (Nat.lt_of_le_of_lt hkl (by omega)) fun ys hy hs2 => ?_
        have hys := srtT_of hy hs2
        refine ⟨_, rfl, fun n Γ C => ∃ x4, C = cK D (sK K (keysD t u)) :: cL m (((ys.take n).flatMap (rowD ks t u)).map fun r => rT K [isS r.1, isS r.2]) :: LD K CW ⟨⟨wa, fa, ks⟩, d, t, e, u⟩ ∧ Γ = [some (isR wa), some (isR d), some (isR e), some (isR m), x4], ⟨none, rfl, rfl⟩, fun _ _ _ _ => True.intro, ?_, ?_⟩
        · rintro n q Γ C hq ⟨x4, rfl, rfl⟩
          rw [List.getElem?_map] at hq
          obtain ⟨x, hx, rfl⟩ := Option.map_eq_some_iff.mp hq
          have hm : x ∈ kk := hy.mem_iff.mp (List.mem_of_getElem? hx)
          have ox : okF x = true ∧ x.length ≤ 10000 := by
            rw [← hks, keysD_mem] at hm
            rcases hm with z | z
            · obtain ⟨kv, h1, rfl⟩ := List.mem_map.mp z
              exact hok _ h1
            · obtain ⟨kv, h1, rfl⟩ := List.mem_map.mp z
              exact hoku _ h1
          have tk : (ys.take (n + 1)).flatMap (rowD ks t u) = (ys.take n).flatMap (rowD ks t u) ++ rowD ks t u x := by rw [List.take_add_one, hx, List.flatMap_append]; simp
          refine eg_name 4 ?_ scDeeds.nd
          refine tr_if (fun Γ C => ∃ x4, C = cK D (sK K (keysD t u)) :: cL m (((ys.take (n + 1)).flatMap (rowD ks t u)).map fun r => rT K [isS r.1, isS r.2]) :: LD K CW ⟨⟨wa, fa, ks⟩, d, t, e, u⟩ ∧ Γ = [some (isR wa), some (isR d), some (isR e), some (isR m), x4]) ?_ fun Γ C h => tr_nil h
          refine et_use (B := seesF ks (partsF x) && decide (vG t x ≠ vG u x)) ?_ ?_
          · refine et_w ?_
            refine etp_and ?_ fun h3 => ?_
            · refine et_truth ?_
              refine ev_methS GS (hr.mono (by decide)) T.cl mS bS ?_
              refine ev_name 0 rfl ?_ -- self
              refine ⟨ins_C (fns := ["folders"]) (List.Mem.tail _ (List.Mem.tail _ (List.Mem.head _))) (by decide +kernel), ?_⟩
              refine ea_cons ?_
              refine ev_name 4 rfl ?_ -- path
              refine ea_nil ?_
              refine ⟨⟨⟨wa, fa, ks⟩, x⟩, [cD K d t, cD K e u, cK D (sK K (keysD t u)), cL m (((ys.take n).flatMap (rowD ks t u)).map fun r => rT K [isS r.1, isS r.2])], ox, rfl, ?_, fun C' ρ ⟨e1, e2⟩ => ⟨e1, ?_⟩, fun cls C' z => z.elim⟩
              · exact perm_of fun _ c => by (simp only [LD, pSees, List.append_eq, List.count_append, List.count_cons, List.count_nil]; omega)
              subst e2
              exact tru_B ⟨rfl, rfl⟩
            refine etw_and1 ?_
            refine et_cmp op_neA rfl ?_
            refine ev_dget1 u1 ?_ ⟨rfl, rfl, rfl, rfl⟩
            refine ev_name 1 rfl ?_ -- before
            refine ⟨sK K t, dic_C (by walk_at "zmem"), ?_⟩
            refine ev_name 4 rfl ?_ -- path
            refine ⟨sK K t, .inr x, dic_C (by walk_at "zmem"), rfl, ?_⟩
            rw [sK_get, ← pr_opt]
            refine ev_dget1 u1 ?_ ⟨rfl, rfl, rfl, rfl⟩
            refine ev_name 2 rfl ?_ -- after
            refine ⟨sK K u, dic_C mem5, ?_⟩
            refine ev_name 4 rfl ?_ -- path
            refine ⟨sK K u, .inr x, dic_C mem5, rfl, ?_⟩
            rw [sK_get, ← pr_opt]
            refine okA_neT (α := Option (Tup Str)) (a := vG t x) (b := vG u x) (dat_F (a := vG t x)) (dat_F (a := vG u x)) (dep0 (by decide) u64) ?_
            exact ⟨_, rfl, rfl, rfl⟩
          refine bB (fun h1 => ?_) (fun h1 => ?_)
          · refine tr_expr ?_
            refine ev_bm PySem.F.plainAttrs_list PySem.F.slot_list_append PySem.F.type_list_append mt_append ?_
            refine ev_name 3 rfl ?_ -- found
            refine ⟨ty_L (lst_C (List.Mem.tail _ (List.Mem.head _))), ?_⟩
            refine ea_cons ?_
            refine ev_tup ?_
            refine ea_cons ?_
            refine ev_ifx ?_
            refine et_cmp (op_inA u1) rfl ?_
            refine ev_name 4 rfl ?_
            refine ev_name 2 rfl ?_
            refine okA_inD (k := .inr x) (kps := sK K u) (dic_C mem5) ?_
            rw [sK_get, Option.isSome_map]
            refine ⟨_, rfl, fun h2 => ?_, fun h2 => ?_⟩
            all_goals
              refine ev_str ?_
              refine ea_cons ?_
              refine ev_name 4 rfl ?_
              refine ea_nil ?_
              refine ⟨by show 2 ≤ sizeLine; decide, ?_⟩
              refine ea_nil ?_
              refine ok_append (i := 1) rfl ?_ ?_
              · rw [List.length_map]
                refine Nat.lt_of_le_of_lt (flat_len (rowD_len ks t u) _) ?_
                exact Nat.lt_of_le_of_lt (List.length_take_le' _ _) (by rw [hy.length_eq]; exact Nat.lt_of_le_of_lt (show _ ≤ 60 by omega) (by decide))
              refine tr_nil ⟨_, ?_, rfl⟩
              have er : rowD ks t u x = [(if (vG u x).isSome then ("put" : Str) else "take", x)] := by
                unfold rowD
                rw [if_pos h1]
              rw [tk, er, h2, List.map_append]
              rfl
          · refine tr_nil ⟨_, ?_, rfl⟩
            rw [tk]
            have : rowD ks t u x = [] := by
              unfold rowD
              rw [if_neg (by rw [h1]; exact Bool.false_ne_true)]
            rw [this, List.append_nil]
        · rintro Γ C ⟨x4, rfl, rfl⟩
          rw [List.length_map, List.take_length, hys, ← hks]
          exact ⟨⟨ys, by rw [hks]; exact hy, hs2⟩, D, x4, rfl, rfl⟩
    · rintro Γ C ⟨hex, D, x4, rfl, rfl⟩
      refine tr_ret ?_
      refine ev_callTy call_tuple_of zTuple (by decide +kernel) ?_
      refine ea_cons ?_
      refine ev_name 3 rfl ?_
      refine ea_nil ?_
      refine ok_tupleL (lst_C (List.Mem.tail _ (List.Mem.head _))) ?_
      exact ⟨⟨⟨D, _, m, _, rfl⟩, hex⟩, rfl⟩
end
end K23

end
section
set_option Elab.async false
set_option linter.all false
set_option maxRecDepth 100000
open PySem PySem.Spec PyProof.Rows L2 Z
/-! short rows -/
local macro_rules | `(tactic| walk_at "zmem") => `(tactic| first
  | exact List.Mem.head _
  | exact List.Mem.tail _ (List.Mem.head _)
  | exact List.Mem.tail _ (List.Mem.tail _ (List.Mem.head _))
  | exact List.Mem.tail _ (List.Mem.tail _ (List.Mem.tail _ (List.Mem.head _)))
  | exact List.Mem.tail _ (List.Mem.tail _ (List.Mem.tail _ (List.Mem.tail _ (List.Mem.head _)))))
local macro_rules | `(tactic| walk_at "zlst") => `(tactic| first | exact lst_F | exact lst_S | exact lst_C (by walk_at "zmem") | assumption)
local macro_rules | `(tactic| walk_at "ztup") => `(tactic| first | exact tup_F | assumption)
local macro_rules | `(tactic| walk_at "zdic") => `(tactic| first | exact dic_F | exact dic_C (by walk_at "zmem") | exact dic_Z (by walk_at "zmem") | assumption)
local macro_rules | `(tactic| walk_at "zside") => `(tactic| first | assumption | decide | (show _ ≤ sizeLine; decide) | omega)
local macro_rules | `(tactic| walk_at "zadd") => `(tactic| first | refine okA_addI ?_ | refine okA_addS (by walk_at "zside") ?_ | refine okA_addL (by walk_at "zlst") (by walk_at "zlst") (by walk_at "zside") ?_)
local macro_rules | `(tactic| walk_at "zsub") => `(tactic| refine ok_rI0 ?_)
local macro_rules | `(tactic| walk_at "zmul") => `(tactic| first | refine okA_mulI (by walk_at "zside") ?_ | refine okA_mulL (by walk_at "zside") (by walk_at "zside") (by walk_at "zside") ?_)
local macro_rules | `(tactic| walk_at "zdiv") => `(tactic| refine ok_rI (by first | assumption | exact ⟨by decide, by decide⟩) ?_)
local macro_rules | `(tactic| walk_at "zmod") => `(tactic| refine ok_rI (by first | assumption | decide) ?_)
local macro_rules | `(tactic| walk_at "zpow") => `(tactic| refine ok_rI (by exact ⟨by decide, by decide, by decide⟩) ?_)
local macro_rules | `(tactic| walk_at "zlt") => `(tactic| refine ok_rI0 ?_)
local macro_rules | `(tactic| walk_at "zeq") => `(tactic| refine okA_eqS rfl ?_)
local macro_rules | `(tactic| walk_at "zne") => `(tactic| refine okA_neS rfl ?_)
local macro_rules | `(tactic| walk_at "zix") => `(tactic| first | refine okA_ixL (by walk_at "zlst") (by rfl) ?_ | refine okA_ixT (by walk_at "ztup") (by rfl) ?_ | refine okA_ixD (by walk_at "zdic") (by assumption) ?_)
local macro_rules | `(tactic| walk_at "zfld") => `(tactic| refine ⟨_, _, _, rfl, by walk_at "zmem", rfl, ?_⟩)
local macro_rules | `(tactic| walk_at "zc_len") => `(tactic| first | refine okA_lenL (by walk_at "zlst") ?_ | refine okA_lenT (by walk_at "ztup") ?_ | refine okA_lenD (by walk_at "zdic") ?_ | refine okA_lenS (by walk_at "zside") ?_)
local macro_rules | `(tactic| walk_at "zc_int") => `(tactic| first | refine ok_intI ?_ | refine ok_intB ?_)
local macro_rules | `(tactic| walk_at "zc_abs") => `(tactic| refine ok_abs ?_)
local macro_rules | `(tactic| walk_at "zc_str") => `(tactic| refine ok_strI (by walk_at "zside") ?_)
local macro_rules | `(tactic| walk_at "zso") => `(tactic| first
  | refine so_L (i := 0) rfl rfl ?_ | refine so_L (i := 1) rfl rfl ?_ | refine so_L (i := 2) rfl rfl ?_ | refine so_L (i := 3) rfl rfl ?_)
local macro_rules | `(tactic| walk_at "zuse") => `(tactic| apply et_use)
local macro_rules | `(tactic| walk_at "zev") => `(tactic| apply ev_use)
local macro_rules | `(tactic| walk_at "zand") => `(tactic| apply etp_and)
local macro_rules | `(tactic| walk_at "zor") => `(tactic| apply etp_or)
local macro_rules | `(tactic| walk_at "znot") => `(tactic| apply etp_not)
namespace K23
open PySem.W (Datum Tup)
open Rep (pr)
abbrev sFolder : Stmt := top 15
abbrev sFiles : Stmt := top 16
abbrev sLsees : Stmt := top 17
abbrev abL : List Str := ["a", "b", "ab"]
abbrev fL : List Str := ["f0", "f1"]
abbrev GoodF (x : Str) : Prop := okF x = true ∧ x.length ≤ 10000
theorem nameOk : ∀ x ∈ abL ++ fL, chkF x = true ∧ x.length ≤ 2 ∧ 47 ∉ x.cps.toList := by decide +kernel
theorem len_l (x : Str) : x.length = x.cps.toList.length := by
  show x.cps.size = _
  rw [Array.length_toList]
theorem join_len (c : Nat) : ∀ (ys : List Str), (∀ y ∈ ys, y.length ≤ 2) → ((ys.map fun y => c :: y.cps.toList).flatten).length ≤ 3 * ys.length
  | [], _ => Nat.le_refl _
  | y :: ys, h => by
    have h1 := h y List.mem_cons_self
    have h2 := join_len c ys fun z hz => h z (List.mem_cons_of_mem _ hz)
    rw [len_l] at h1
    rw [List.map_cons, List.flatten_cons, List.length_append, List.length_cons, List.length_cons]
    omega
theorem join_good {l : List Str} (h0 : l ≠ []) (h8 : l.length ≤ 8) (h : ∀ x ∈ l, x ∈ abL ++ fL) : GoodF (Txt.join "/" l) ∧ partsF (Txt.join "/" l) = l := by
  have e : partsF (Txt.join "/" l) = l := split_of_join (c := 47) h0 fun x hx => (nameOk x (h x hx)).2.2
  refine ⟨⟨?_, ?_⟩, e⟩
  · unfold okF
    rw [e, decide_eq_true h8, Bool.true_and, List.all_eq_true]
    exact fun x hx => (nameOk x (h x hx)).1
  · cases l with
    | nil => exact absurd rfl h0
    | cons x ys =>
      have h1 := join_len 47 ys fun y hy => (nameOk y (h y (List.mem_cons_of_mem _ hy))).2.1
      have h2 := (nameOk x (h x List.mem_cons_self)).2.1
      have ej : (Txt.join "/" (x :: ys)).cps.toList = x.cps.toList ++ (ys.map fun y => 47 :: y.cps.toList).flatten := by
        rw [txt_join]
        exact join_cps 47 x ys
      rw [len_l] at h2
      rw [len_l, ej, List.length_append]
      rw [List.length_cons] at h8
      omega
theorem join_sum {l : List Str} (h8 : l.length ≤ 8) (h : ∀ x ∈ l, x ∈ abL ++ fL) : (l.map (·.length)).sum + l.length * ("/" : Str).length ≤ 16777216 := by
  have h1 := sum_le (l := l) (m := 2) fun x hx => (nameOk x (h x hx)).2.1
  have h2 : l.length * 2 ≤ 8 * 2 := Nat.mul_le_mul_right _ h8
  have h3 : l.length * ("/" : Str).length ≤ 8 * 1 := Nat.mul_le_mul_right 1 h8
  omega
def pFolder : Prom Addr := { ps := fun d => [isR d], C := fun d => [cDi d], R := fun d C ρ => C = [cDi d] ∧ ∃ x : Str, GoodF x ∧ ρ = isS x }
def pFiles (K : PySem.W.Frag) : Prom Addr := { ps := fun d => [isR d], C := fun d => [cDi d], R := fun d C ρ => ∃ D t, C = [cD K D t, cDi d] ∧ ρ = isR D ∧ (t.map Prod.fst).Nodup ∧ t.length ≤ 8 ∧ OkT t }
def lsK (A k : List Str) : Bool := decide (A.take k.length = k) || decide (k.take A.length = A)
def lseesF (fs : List Str) (p : Str) : Bool := fs.any (fun f => lsK (partsF p).dropLast (partsF f)) || decide ((partsF p).dropLast = [])
def pLsees : Prom (List Str × Str) := { ps := fun o => [rL (o.1.map fun x => isS x), isS o.2], pre := fun o => o.2.length ≤ 10000 ∧ ∀ x ∈ o.1, x.length ≤ 10000, R := fun o C ρ => C = [] ∧ ρ = isB (lseesF o.1 o.2) }
abbrev foN : List Str := ["dice", "k"]
abbrev fiN : List Str := ["dice", "found", "k", "path", "j"]
abbrev lsN : List Str := ["folders", "path", "above", "folder", "parts"]
theorem pG_nd {α : Type} {t : List (Str × α)} {x : Str} {v : α} (nd : (t.map Prod.fst).Nodup) : ((pG t x v).map Prod.fst).Nodup := by
  unfold pG
  by_cases h : (t.any fun p => decide (p.1 = x)) = true
  · rw [if_pos h, List.map_map]
    have e2 : (Prod.fst ∘ fun p : Str × α => if p.1 = x then (p.1, v) else p) = Prod.fst := by
      funext p
      show (if p.1 = x then (p.1, v) else p).1 = p.1
      split <;> rfl
    rw [e2]
    exact nd
  · rw [if_neg h, List.map_append, List.nodup_append]
    refine ⟨nd, by simp, fun a ha b hb e => h ?_⟩
    obtain ⟨p, hp, rfl⟩ := List.mem_map.mp ha
    rw [List.map_cons, List.map_nil, List.mem_singleton] at hb
    exact List.any_eq_true.mpr ⟨p, hp, decide_eq_true (by rw [e, hb])⟩
theorem pG_ok {t : TbO} {x : Str} {v : Tup Str} (h : OkT t) (g : GoodF x) : OkT (pG t x v) := by
  intro e he
  unfold pG at he
  by_cases hh : (t.any fun p => decide (p.1 = x)) = true
  · rw [if_pos hh] at he
    obtain ⟨p, hp, rfl⟩ := List.mem_map.mp he
    have := h p hp
    split
    · exact this
    · exact this
  · rw [if_neg hh] at he
    rcases List.mem_append.mp he with z | z
    · exact h e z
    · rw [List.mem_singleton.mp z]; exact g
section
variable {Pg : Program} {w : World} {K : PySem.W.Frag} {mg : Str → Option Value} {base : Heap} {tb : Tb}
theorem scFolder : FnScope foN ["dice"] (defScope sFolder) := ⟨rfl, rfl, rfl, by decide +kernel, rfl, by decide +kernel, by decide +kernel⟩
theorem scFiles : FnScope fiN ["dice"] (defScope sFiles) := ⟨rfl, rfl, rfl, by decide +kernel, rfl, by decide +kernel, by decide +kernel⟩
theorem scLsees : FnScope lsN ["folders", "path"] (defScope sLsees) := ⟨rfl, rfl, rfl, by decide +kernel, rfl, by decide +kernel, by decide +kernel⟩
theorem ok_folder {f fR : Addr} {fd dR : FuncData} (Fn : Fun K "_law_folder" "_law_folder" sFolder f fd) (GR : FnOk Pg w K mg base (L2.CX Pg w) 1 fR dR ["dice", "many"] (pRoll.sp tb)) (gR : mg "_law_roll" = some (.ref fR)) (kR : PySem.W.keepIn K (.ref fR) = true) (bR : Binds K dR ["dice", "many"] [])
    (zRange : mg "range" = none) : FnOk Pg w K mg base (L2.CX Pg w) 2 f fd ["dice"] (pFolder.sp tb) :=
  def_ok Fn scFolder (fun _ => rfl) fun d cdv A outer s H E _ hr own => by
    refine tr_ret ?_
    refine ev_bm PySem.F.plainAttrs_str PySem.F.slot_str_join PySem.F.type_str_join mt_joinZ ?_
    refine ev_str ?_
    refine ⟨ty_S, ?_⟩
    refine ea_cons ?_
    refine ev_lcU (own := [("k", 1)]) (g := gName 1) (sr_R zRange ?_) scFolder.nd (blkOk_by (by show blkC foN (defScope sFolder) _ _ = true; decide +kernel)) rfl (fun s H Cc cl fp => pg_name scFolder.nd rfl (Or.inl rfl) (Or.inr rfl))
    refine ev_op op_addA ?_
    refine ev_int ?_
    refine ev_callS GR (hr.mono (by decide)) gR kR bR ?_
    refine ea_cons ?_
    refine ev_name 0 rfl ?_ -- dice
    refine ea_cons ?_
    refine ev_int ?_
    refine ea_nil ?_
    refine ⟨⟨d, 3⟩, [], ⟨by show (0 : Int) < 3; decide, by show (3 : Int) ≤ 100000000; decide⟩, rfl, perm0, fun C' ρ h => ?_, fun cls C' z => z⟩
    obtain ⟨r, r0, r1, rfl, rfl⟩ := h
    have r0 : 0 ≤ r := r0
    have r1 : r < 3 := r1
    refine ⟨rfl, ?_⟩
    walk_at "zadd"
    obtain ⟨m, hm⟩ : ∃ m : Nat, 1 + r = (m : Int) := ⟨(1 + r).toNat, by omega⟩
    have hm8 : m ≤ 8 := by omega
    rw [hm]
    refine ⟨_, rfl, by omega, fun n C' acc => C' = [cDi d] ∧ ∃ l : List Str, acc = l.map (fun y => isS y) ∧ l.length = n ∧ ∀ x ∈ l, x ∈ abL, ⟨rfl, [], rfl, rfl, fun x z => absurd z (by simp)⟩, fun _ _ _ _ => True.intro, ?_, ?_⟩
    · rintro n q Ci acc hq ⟨rfl, l, rfl, hll, hlm⟩
      have hnr : n < m := by
        have := (List.getElem?_eq_some_iff.mp hq).1
        simpa using this
      refine ⟨_, tgt_name, ?_⟩
      intro s H Cc cl fp
      refine eif_no ⟨fun _ => ?_, fun z => nomatch z⟩
      intro s H Cc cl fp
      refine ev_ix (ix_all (hu_of hr)) ?_
      refine ev_lst ?_
      refine ea_cons ?_
      refine ev_str ?_
      refine ea_cons ?_
      refine ev_str ?_
      refine ea_cons ?_
      refine ev_str ?_
      refine ea_nil ?_
      refine ⟨by show 3 ≤ sizeLine; decide, ?_⟩
      refine ev_callS GR (hr.mono (by decide)) gR kR bR ?_
      refine ea_cons ?_
      refine ev_name 0 rfl ?_ -- dice
      refine ea_cons ?_
      refine ev_int ?_
      refine ea_nil ?_
      refine ⟨⟨d, 3⟩, [], ⟨by show (0 : Int) < 3; decide, by show (3 : Int) ≤ 100000000; decide⟩, rfl, perm0, fun C' ρ h => ?_, fun cls C' z => z⟩
      obtain ⟨r, r0, r1, rfl, rfl⟩ := h
      have r0 : 0 ≤ r := r0
      have r1 : r < 3 := r1
      refine ⟨rfl, ?_⟩
      obtain ⟨x, hx, ex⟩ := pick (fun y => isS y) (l := abL) r0 r1
      refine okA_ixL (ps := abL.map fun y => isS y) lst_F ex ?_
      refine ⟨?_, rfl, l ++ [x], by rw [List.map_append]; rfl, by rw [List.length_append, hll]; rfl, fun y hy => ?_⟩
      · rw [List.length_map, hll]
        exact Nat.lt_trans hnr (Nat.lt_of_le_of_lt hm8 (by decide))
      · rcases List.mem_append.mp hy with z | z
        · exact hlm y z
        · rw [List.mem_singleton.mp z]; exact hx
    rintro Cn acc ⟨rfl, l, rfl, hll, hlm⟩
    rw [List.length_map, List.length_range] at hll
    have hmem : ∀ x ∈ l, x ∈ abL ++ fL := fun x hx => List.mem_append_left _ (hlm x hx)
    have hne : l ≠ [] := fun z => by rw [z] at hll; simp at hll; omega
    refine ea_nil ?_
    refine ok_joinL (ys := l) lst_F (join_sum (by omega) hmem) ?_
    exact ⟨rfl, _, (join_good hne (by omega) hmem).1, rfl⟩
theorem str_f {r : Int} (h0 : 0 ≤ r) (h1 : r < 2) : ("f" : Str) ++ (toString r : String) ∈ fL := by
  have : r = 0 ∨ r = 1 := by omega
  rcases this with rfl | rfl <;> decide +kernel
theorem pswap {a b : Cell} : [a, b].Perm ([b] ++ [a]) := List.Perm.swap b a []
theorem small {r n : Int} (h0 : 0 ≤ r) (h1 : r < n) (hn : n ≤ 1000) : r.natAbs.log2 < 1920 := by
  by_cases z : r.natAbs = 0
  · rw [z]; decide
  · exact Nat.lt_trans ((Nat.log2_lt z).mpr (show r.natAbs < 2 ^ 10 by omega)) (by decide)
set_option maxHeartbeats 2000000 in
theorem ok_files {f fR : Addr} {fd dR : FuncData} (Fn : Fun K "_law_files" "_law_files" sFiles f fd) (GR : FnOk Pg w K mg base (L2.CX Pg w) 1 fR dR ["dice", "many"] (pRoll.sp tb)) (gR : mg "_law_roll" = some (.ref fR)) (kR : PySem.W.keepIn K (.ref fR) = true) (bR : Binds K dR ["dice", "many"] [])
    (zRange : mg "range" = none) (zStr : mg "str" = none) : FnOk Pg w K mg base (L2.CX Pg w) 2 f fd ["dice"] ((pFiles K).sp tb) :=
  def_ok Fn scFiles (fun _ => rfl) fun d cdv A outer s H E _ hr own => by
    have u1 := hu_of hr
    refine tr_set 1 ?_ scFiles.nd
    refine ev_dicC fun D => ?_
    -- for k in range(roll 9)
    refine tr_forU (fun n Γ C => ∃ t : TbO, C = [cD K D t, cDi d] ∧ ((t.map Prod.fst).Nodup ∧ t.length ≤ n ∧ OkT t) ∧ ∃ x2 x3 x4, Γ = [some (isR d), some (isR D), x2, x3, x4])
      (fun Γ C => ∃ t : TbO, C = [cD K D t, cDi d] ∧ ((t.map Prod.fst).Nodup ∧ t.length ≤ 8 ∧ OkT t) ∧ ∃ x2 x3 x4, Γ = [some (isR d), some (isR D), x2, x3, x4]) ?_ ?_ own rfl
    · refine sr_R zRange ?_
      refine ev_callS GR (hr.mono (by decide)) gR kR bR ?_
      refine ea_cons ?_
      refine ev_name 0 rfl ?_ -- dice
      refine ea_cons ?_
      refine ev_int ?_
      refine ea_nil ?_
      refine ⟨⟨d, 9⟩, [cD K D []], ⟨by show (0 : Int) < 9; decide, by show (9 : Int) ≤ 100000000; decide⟩, rfl, pswap, fun C' ρ h => ?_, fun cls C' z => z⟩
      obtain ⟨r, r0, r1, rfl, rfl⟩ := h
      have r0 : 0 ≤ r := r0
      have r1 : r < 9 := r1
      refine ⟨rfl, ?_⟩
      obtain ⟨m, hm⟩ : ∃ m : Nat, r = (m : Int) := ⟨r.toNat, by omega⟩
      have hm8 : m ≤ 8 := by omega
      rw [hm]
      refine ⟨m, rfl, by omega, ⟨[], rfl, ⟨List.Pairwise.nil, Nat.le_refl _, fun e z => absurd z (by simp)⟩, none, none, none, rfl⟩, fun _ _ _ _ => True.intro, fun i q Γ C hq hI => ?_, fun Γ C hI => ?_⟩
      · obtain ⟨t, rfl, ⟨nd, hl, hok⟩, x2, x3, x4, rfl⟩ := hI
        have him : i < m := by
          have := (List.getElem?_eq_some_iff.mp hq).1
          simpa using this
        rw [List.getElem?_map] at hq
        obtain ⟨i', hi', rfl⟩ := Option.map_eq_some_iff.mp hq
        obtain ⟨mm, em⟩ : ∃ mm, mm = m := ⟨m, rfl⟩
        have him8 : i < 8 := by omega
        clear hm r0 r1 hm8 him
        refine eg_name 2 ?_ scFiles.nd
        refine tr_set 3 ?_ scFiles.nd
        refine ev_bm PySem.F.plainAttrs_str PySem.F.slot_str_join PySem.F.type_str_join mt_joinZ ?_
        refine ev_str ?_
        refine ⟨ty_S, ?_⟩
        refine ea_cons ?_
        refine ev_op op_addA ?_
        refine ev_lcU (own := [("j", 4)]) (g := gName 4) (sr_R zRange ?_) scFiles.nd (blkOk_by (by show blkC fiN (defScope sFiles) _ _ = true; decide +kernel)) rfl (fun s H Cc cl fp => pg_name scFiles.nd rfl (Or.inl rfl) (Or.inr rfl))
        refine ev_callS GR (hr.mono (by decide)) gR kR bR ?_
        refine ea_cons ?_
        refine ev_name 0 rfl ?_ -- dice
        refine ea_cons ?_
        refine ev_int ?_
        refine ea_nil ?_
        refine ⟨⟨d, 4⟩, [cD K D t], ⟨by show (0 : Int) < 4; decide, by show (4 : Int) ≤ 100000000; decide⟩, rfl, pswap, fun C' ρ h => ?_, fun cls C' z => z⟩
        obtain ⟨r, r0, r1, rfl, rfl⟩ := h
        have r0 : 0 ≤ r := r0
        have r1 : r < 4 := r1
        refine ⟨rfl, ?_⟩
        obtain ⟨m, hm⟩ : ∃ m : Nat, r = (m : Int) := ⟨r.toNat, by omega⟩
        have hm8 : m ≤ 8 := by omega
        rw [hm]
        refine ⟨_, rfl, by omega, fun n C' acc => C' = [cD K D t, cDi d] ∧ ∃ l : List Str, acc = l.map (fun y => isS y) ∧ l.length = n ∧ ∀ x ∈ l, x ∈ abL, ⟨rfl, [], rfl, rfl, fun x z => absurd z (by simp)⟩, fun _ _ _ _ => True.intro, ?_, ?_⟩
        · rintro n q Ci acc hq ⟨rfl, l, rfl, hll, hlm⟩
          have hnr : n < m := by
            have := (List.getElem?_eq_some_iff.mp hq).1
            simpa using this
          refine ⟨_, tgt_name, ?_⟩
          intro s H Cc cl fp
          refine eif_no ⟨fun _ => ?_, fun z => nomatch z⟩
          intro s H Cc cl fp
          refine ev_ix (ix_all (hu_of hr)) ?_
          refine ev_lst ?_
          refine ea_cons ?_
          refine ev_str ?_
          refine ea_cons ?_
          refine ev_str ?_
          refine ea_cons ?_
          refine ev_str ?_
          refine ea_nil ?_
          refine ⟨by show 3 ≤ sizeLine; decide, ?_⟩
          refine ev_callS GR (hr.mono (by decide)) gR kR bR ?_
          refine ea_cons ?_
          refine ev_name 0 rfl ?_ -- dice
          refine ea_cons ?_
          refine ev_int ?_
          refine ea_nil ?_
          refine ⟨⟨d, 3⟩, [cD K D t], ⟨by show (0 : Int) < 3; decide, by show (3 : Int) ≤ 100000000; decide⟩, rfl, pswap, fun C' ρ h => ?_, fun cls C' z => z⟩
          obtain ⟨r, r0, r1, rfl, rfl⟩ := h
          have r0 : 0 ≤ r := r0
          have r1 : r < 3 := r1
          refine ⟨rfl, ?_⟩
          obtain ⟨x, hx, ex⟩ := pick (fun y => isS y) (l := abL) r0 r1
          refine okA_ixL (ps := abL.map fun y => isS y) lst_F ex ?_
          refine ⟨?_, rfl, l ++ [x], by rw [List.map_append]; rfl, by rw [List.length_append, hll]; rfl, fun y hy => ?_⟩
          · rw [List.length_map, hll]
            exact Nat.lt_trans hnr (Nat.lt_of_le_of_lt hm8 (by decide))
          · rcases List.mem_append.mp hy with z | z
            · exact hlm y z
            · rw [List.mem_singleton.mp z]; exact hx
        rintro Cn acc ⟨rfl, l, rfl, hll, hlm⟩
        rw [List.length_map, List.length_range] at hll
        refine ev_lst ?_
        refine ea_cons ?_
        refine ev_op op_addA ?_
        refine ev_str ?_
        refine ev_callTy call_str_int zStr (by decide +kernel) ?_
        refine ea_cons ?_
        refine ev_callS GR (hr.mono (by decide)) gR kR bR ?_
        refine ea_cons ?_
        refine ev_name 0 rfl ?_ -- dice
        refine ea_cons ?_
        refine ev_int ?_
        refine ea_nil ?_
        refine ⟨⟨d, 2⟩, [cD K D t], ⟨by show (0 : Int) < 2; decide, by show (2 : Int) ≤ 100000000; decide⟩, rfl, pswap, fun C' ρ h => ?_, fun cls C' z => z⟩
        obtain ⟨r, r0, r1, rfl, rfl⟩ := h
        have r0 : 0 ≤ r := r0
        have r1 : r < 2 := r1
        refine ⟨rfl, ?_⟩
        have hf := str_f r0 r1
        refine ea_nil ?_
        refine ok_strI (small r0 r1 (by decide)) ?_
        refine okA_addS (by
          have : r = 0 ∨ r = 1 := by omega
          rcases this with rfl | rfl <;> decide +kernel) ?_
        generalize ("f" : Str) ++ ((toString r : String) : Str) = nm at hf ⊢
        refine ea_nil ?_
        refine ⟨by show 1 ≤ sizeLine; decide, ?_⟩
        refine okA_addL lst_F lst_F ?_ ?_
        · rw [List.length_map]
          exact Nat.le_trans (show l.length + 1 ≤ 60 by omega) (by decide)
        have el : (l.map fun y => isS y) ++ [isS nm] = (l ++ [nm]).map fun y => isS y := by rw [List.map_append]; rfl
        rw [el]
        have hmem : ∀ x ∈ l ++ [nm], x ∈ abL ++ fL := fun x hx => by
          rcases List.mem_append.mp hx with z | z
          · exact List.mem_append_left _ (hlm x z)
          · rw [List.mem_singleton.mp z]; exact List.mem_append_right _ hf
        have h8 : (l ++ [nm]).length ≤ 8 := by rw [List.length_append, List.length_singleton]; omega
        refine ea_nil ?_
        refine ok_joinL (ys := l ++ [nm]) lst_F (join_sum h8 hmem) ?_
        have hg := (join_good (by simp) h8 hmem).1
        generalize Txt.join "/" (l ++ [nm]) = pa at hg ⊢
        -- found[path] = (str(roll 3),)
        refine tr_sput u1 ?_
        refine ev_tup ?_
        refine ea_cons ?_
        refine ev_callTy call_str_int zStr (by decide +kernel) ?_
        refine ea_cons ?_
        refine ev_callS GR (hr.mono (by decide)) gR kR bR ?_
        refine ea_cons ?_
        refine ev_name 0 rfl ?_ -- dice
        refine ea_cons ?_
        refine ev_int ?_
        refine ea_nil ?_
        refine ⟨⟨d, 3⟩, [cD K D t], ⟨by show (0 : Int) < 3; decide, by show (3 : Int) ≤ 100000000; decide⟩, rfl, pswap, fun C' ρ h => ?_, fun cls C' z => z⟩
        obtain ⟨r, r0, r1, rfl, rfl⟩ := h
        have r0 : 0 ≤ r := r0
        have r1 : r < 3 := r1
        refine ⟨rfl, ?_⟩
        refine ea_nil ?_
        refine ok_strI (small r0 r1 (by decide)) ?_
        refine ea_nil ?_
        refine ⟨by show 1 ≤ sizeLine; decide, ?_⟩
        refine ev_name 1 rfl ?_
        refine ev_name 3 rfl ?_
        refine so_D (i := 0) (k := .inr pa) (kps := sK K t) rfl ?_ ?_
        · rw [sK_len]; exact Nat.lt_of_le_of_lt (show _ ≤ 60 by omega) (by decide)
        have e : pP (sK K t) (.inr pa) (rT K [isS ((toString r : String) : Str)]) = sK K (pG t pa ⟨[((toString r : String) : Str)]⟩) := sK_put K t pa ⟨[((toString r : String) : Str)]⟩
        refine tr_nil ⟨pG t pa ⟨[((toString r : String) : Str)]⟩, ?_, ⟨pG_nd nd, Nat.le_trans (pG_len _ _ _) (Nat.succ_le_succ hl), pG_ok hok hg⟩, _, _, _, rfl⟩
        show [cK D (pP (sK K t) (.inr pa) (rT K [isS ((toString r : String) : Str)])), cDi d] = _
        rw [e]
      · obtain ⟨t, rfl, ⟨nd, hl, hok⟩, x2, x3, x4, rfl⟩ := hI
        rw [List.length_map, List.length_range] at hl
        exact ⟨t, rfl, ⟨nd, by omega, hok⟩, x2, x3, x4, rfl⟩
    · rintro Γ C ⟨t, rfl, ⟨nd, hl, hok⟩, x2, x3, x4, rfl⟩
      refine tr_ret ?_
      refine ev_name 1 rfl ?_
      exact ⟨D, t, rfl, rfl, nd, hl, hok⟩
theorem ok_lsees {f : Addr} {fd : FuncData} (Fn : Fun K "_law_sees" "_law_sees" sLsees f fd) (zLen : mg "len" = none) : FnOk Pg w K mg base (L2.CX Pg w) 1 f fd ["folders", "path"] (pLsees.sp tb) :=
  def_ok Fn scLsees (fun _ => rfl) fun x cdv A outer s H E hpre hr own => by
    obtain ⟨fs, p⟩ := x
    obtain ⟨hl, hfl⟩ := hpre
    have hl : p.length ≤ 10000 := hl
    have hfl : ∀ x ∈ fs, x.length ≤ 10000 := hfl
    have u1 := hu_of hr
    have u64 := hr.units
    -- above = path.split('/')[:-1]
    refine tr_set 2 ?_ scLsees.nd
    refine ev_slice sl_list ?_
    refine ev_bm PySem.F.plainAttrs_str PySem.F.slot_str_split PySem.F.type_str_split mt_splitZ ?_
    refine ev_name 1 rfl ?_
    refine ⟨ty_S, ?_⟩
    refine ea_cons ?_
    refine ev_str ?_
    refine ea_nil ?_
    refine ok_split (Nat.le_trans (Nat.add_le_add_right hl 2) (by decide)) ?_
    refine eo_none ?_
    refine eo_some ?_
    refine ev_un un_neg ?_
    refine ev_int ?_
    refine ok_rU ?_
    refine ⟨_, rfl, ?_⟩
    refine ok_slL lst_F ?_
    rw [cutP_neg1, ← List.map_dropLast]
    generalize hA : (partsF p).dropLast = AA
    -- for folder in folders:
    refine tr_forU (fun n Γ C => C = [] ∧ ((fs.take n).any fun f => lsK AA (partsF f)) = false ∧ ∃ x3 x4, Γ = [some (rL (fs.map fun x => isS x)), some (isS p), some (rL (AA.map fun x => isS x)), x3, x4])
      (fun Γ C => C = [] ∧ (fs.any fun f => lsK AA (partsF f)) = false ∧ ∃ x3 x4, Γ = [some (rL (fs.map fun x => isS x)), some (isS p), some (rL (AA.map fun x => isS x)), x3, x4]) ?_ ?_ own rfl
    · refine sr_L ?_
      refine ev_name 0 rfl ?_
      refine ⟨_, rfl, ⟨rfl, by simp, none, none, rfl⟩, fun _ _ _ _ => True.intro, fun n q Γ C hq hI => ?_, fun Γ C hI => ?_⟩
      · obtain ⟨rfl, ha, x3, x4, rfl⟩ := hI
        rw [List.getElem?_map] at hq
        obtain ⟨x, hx, rfl⟩ := Option.map_eq_some_iff.mp hq
        have hxl := hfl x (List.mem_of_getElem? hx)
        refine eg_name 3 ?_ scLsees.nd
        refine tr_set 4 ?_ scLsees.nd
        refine ev_bm PySem.F.plainAttrs_str PySem.F.slot_str_split PySem.F.type_str_split mt_splitZ ?_
        refine ev_name 3 rfl ?_
        refine ⟨ty_S, ?_⟩
        refine ea_cons ?_
        refine ev_str ?_
        refine ea_nil ?_
        refine ok_split (Nat.le_trans (Nat.add_le_add_right hxl 2) (by decide)) ?_
        refine tr_ifx ?_
        refine et_use (B := lsK AA (partsF x)) ?_ ?_
        · unfold lsK
          refine et_w ?_
          walk_at "zor"
          · refine et_cmp op_eqA rfl ?_
            refine ev_slice sl_list ?_
            refine ev_name 2 rfl ?_ -- above
            refine eo_none ?_
            refine eo_some ?_
            refine ev_callB call_lenA zLen (by decide +kernel) ?_
            refine ea_cons ?_
            refine ev_name 4 rfl ?_ -- parts
            refine ea_nil ?_
            refine okA_lenL lst_F ?_
            refine ⟨_, rfl, ?_⟩
            refine ok_slL lst_F ?_
            rw [cutP_take, List.length_map, ← List.map_take]
            refine ev_name 4 rfl ?_ -- parts
            refine okA_eqT (α := List Str) (a := AA.take (partsF x).length) (b := partsF x) (dat_F (a := AA.take (partsF x).length)) (dat_F (a := partsF x)) (dep0 (by decide) u64) ?_
            exact ⟨_, rfl, rfl, rfl⟩
          intro g1
          refine etw_or1 ?_
          refine et_cmp op_eqA rfl ?_
          refine ev_slice sl_list ?_
          refine ev_name 4 rfl ?_ -- parts
          refine eo_none ?_
          refine eo_some ?_
          refine ev_callB call_lenA zLen (by decide +kernel) ?_
          refine ea_cons ?_
          refine ev_name 2 rfl ?_ -- above
          refine ea_nil ?_
          refine okA_lenL lst_F ?_
          refine ⟨_, rfl, ?_⟩
          refine ok_slL lst_F ?_
          rw [cutP_take, List.length_map, ← List.map_take]
          refine ev_name 2 rfl ?_ -- above
          refine okA_eqT (α := List Str) (a := (partsF x).take AA.length) (b := AA) (dat_F (a := (partsF x).take AA.length)) (dat_F (a := AA)) (dep0 (by decide) u64) ?_
          exact ⟨_, rfl, rfl, rfl⟩
        refine bB (fun h1 => ?_) (fun h1 => ?_)
        · refine tr_ret ?_
          refine ev_bl ?_
          refine ⟨rfl, ?_⟩
          have : (fs.any fun f => lsK AA (partsF f)) = true := List.any_eq_true.mpr ⟨x, List.mem_of_getElem? hx, h1⟩
          show isB true = isB (lseesF fs p)
          unfold lseesF
          rw [hA, this]
          rfl
        refine tr_nil ⟨rfl, ?_, _, _, rfl⟩
        rw [any_take hx, ha, h1]
        rfl
      · obtain ⟨rfl, ha, x3, x4, rfl⟩ := hI
        rw [List.length_map, List.take_length] at ha
        exact ⟨rfl, ha, x3, x4, rfl⟩
    · rintro Γ C ⟨rfl, ha, x3, x4, rfl⟩
      refine tr_ret ?_
      refine ev_cmp op_eqA rfl ?_
      refine ev_name 2 rfl ?_ -- above
      refine ev_lst ?_
      refine ea_nil ?_
      refine ⟨by show 0 ≤ sizeLine; decide, ?_⟩
      refine okA_eqT (α := List Str) (a := AA) (b := []) (dat_F (a := AA)) (dat_F (a := ([] : List Str))) (dep0 (by decide) u64) ?_
      refine ⟨rfl, ?_⟩
      show isB _ = isB (lseesF fs p)
      unfold lseesF
      rw [hA, ha]
      rfl
end
end K23

end
section
set_option Elab.async false
set_option linter.all false
set_option maxRecDepth 100000
open PySem PySem.Spec PyProof.Rows L2 Z
/-! short rows -/
local macro_rules | `(tactic| walk_at "zmem") => `(tactic| first
  | exact List.Mem.head _
  | exact List.Mem.tail _ (List.Mem.head _)
  | exact List.Mem.tail _ (List.Mem.tail _ (List.Mem.head _))
  | exact List.Mem.tail _ (List.Mem.tail _ (List.Mem.tail _ (List.Mem.head _)))
  | exact List.Mem.tail _ (List.Mem.tail _ (List.Mem.tail _ (List.Mem.tail _ (List.Mem.head _)))))
local macro_rules | `(tactic| walk_at "zlst") => `(tactic| first | exact lst_F | exact lst_S | exact lst_C (by walk_at "zmem") | assumption)
local macro_rules | `(tactic| walk_at "ztup") => `(tactic| first | exact tup_F | assumption)
local macro_rules | `(tactic| walk_at "zdic") => `(tactic| first | exact dic_F | exact dic_C (by walk_at "zmem") | exact dic_Z (by walk_at "zmem") | assumption)
local macro_rules | `(tactic| walk_at "zside") => `(tactic| first | assumption | decide | (show _ ≤ sizeLine; decide) | omega)
local macro_rules | `(tactic| walk_at "zadd") => `(tactic| first | refine okA_addI ?_ | refine okA_addS (by walk_at "zside") ?_ | refine okA_addL (by walk_at "zlst") (by walk_at "zlst") (by walk_at "zside") ?_)
local macro_rules | `(tactic| walk_at "zsub") => `(tactic| refine ok_rI0 ?_)
local macro_rules | `(tactic| walk_at "zmul") => `(tactic| first | refine okA_mulI (by walk_at "zside") ?_ | refine okA_mulL (by walk_at "zside") (by walk_at "zside") (by walk_at "zside") ?_)
local macro_rules | `(tactic| walk_at "zdiv") => `(tactic| refine ok_rI (by first | assumption | exact ⟨by decide, by decide⟩) ?_)
local macro_rules | `(tactic| walk_at "zmod") => `(tactic| refine ok_rI (by first | assumption | decide) ?_)
local macro_rules | `(tactic| walk_at "zpow") => `(tactic| refine ok_rI (by exact ⟨by decide, by decide, by decide⟩) ?_)
local macro_rules | `(tactic| walk_at "zlt") => `(tactic| refine ok_rI0 ?_)
local macro_rules | `(tactic| walk_at "zeq") => `(tactic| refine okA_eqS rfl ?_)
local macro_rules | `(tactic| walk_at "zne") => `(tactic| refine okA_neS rfl ?_)
local macro_rules | `(tactic| walk_at "zix") => `(tactic| first | refine okA_ixL (by walk_at "zlst") (by rfl) ?_ | refine okA_ixT (by walk_at "ztup") (by rfl) ?_ | refine okA_ixD (by walk_at "zdic") (by assumption) ?_)
local macro_rules | `(tactic| walk_at "zfld") => `(tactic| refine ⟨_, _, _, rfl, by walk_at "zmem", rfl, ?_⟩)
local macro_rules | `(tactic| walk_at "zc_len") => `(tactic| first | refine okA_lenL (by walk_at "zlst") ?_ | refine okA_lenT (by walk_at "ztup") ?_ | refine okA_lenD (by walk_at "zdic") ?_ | refine okA_lenS (by walk_at "zside") ?_)
local macro_rules | `(tactic| walk_at "zc_int") => `(tactic| first | refine ok_intI ?_ | refine ok_intB ?_)
local macro_rules | `(tactic| walk_at "zc_abs") => `(tactic| refine ok_abs ?_)
local macro_rules | `(tactic| walk_at "zc_str") => `(tactic| refine ok_strI (by walk_at "zside") ?_)
local macro_rules | `(tactic| walk_at "zso") => `(tactic| first
  | refine so_L (i := 0) rfl rfl ?_ | refine so_L (i := 1) rfl rfl ?_ | refine so_L (i := 2) rfl rfl ?_ | refine so_L (i := 3) rfl rfl ?_)
local macro_rules | `(tactic| walk_at "zuse") => `(tactic| apply et_use)
local macro_rules | `(tactic| walk_at "zev") => `(tactic| apply ev_use)
local macro_rules | `(tactic| walk_at "zand") => `(tactic| apply etp_and)
local macro_rules | `(tactic| walk_at "zor") => `(tactic| apply etp_or)
local macro_rules | `(tactic| walk_at "znot") => `(tactic| apply etp_not)
namespace K23
open PySem.W (Datum Tup)
open Rep (pr)
/-! facts of the text -/
structure Ads where
  CW : Addr
  CE : Addr
  CC : Addr
  cC : Addr
  PC : Addr
  cV : Addr
  PV : Addr
  fDice : Addr
  fRoll : Addr
  fRounds : Addr
  fTold : Addr
  fFolder : Addr
  fFiles : Addr
  fLsees : Addr
  fCheck : Addr
  fParts : Addr
  fInit : Addr
  fSees : Addr
  fLook : Addr
  fWith : Addr
  fWider : Addr
  fDeeds : Addr
  dDice : FuncData
  dRoll : FuncData
  dRounds : FuncData
  dTold : FuncData
  dFolder : FuncData
  dFiles : FuncData
  dLsees : FuncData
  dCheck : FuncData
  dParts : FuncData
  dInit : FuncData
  dSees : FuncData
  dLook : FuncData
  dWith : FuncData
  dWider : FuncData
  dDeeds : FuncData
structure LawT (K : PySem.W.Frag) (mg : Str → Option Value) (base : Heap) (a : Ads) : Prop where
  T : Txt K mg a.CW
  XE : Exc K mg "HostError" a.CE
  XC : Exc K mg "ContentError" a.CC
  mEE : PySem.W.exmOne K (.ref a.CE) (.ref a.CE) = some true
  mCE : PySem.W.exmOne K (.ref a.CC) (.ref a.CE) = some true
  mkW : Mk K a.CW a.fInit
  gW : mg "Window" = some (.ref a.CW)
  sgn : ∃ tS, mg "NAME_SIGNS" = some (.str signL tS)
  deep : ∃ tD, mg "MOST_DEEP" = some (.int 8 tD)
  dice : Def K mg "_law_dice" sDice a.fDice a.dDice ["cell"]
  roll : Def K mg "_law_roll" sRoll a.fRoll a.dRoll ["dice", "many"]
  rounds : Def K mg "_law_rounds" sRounds a.fRounds a.dRounds ["script", "most"]
  told : Def K mg "_law_told" sTold a.fTold a.dTold ["what"]
  folder : Def K mg "_law_folder" sFolder a.fFolder a.dFolder ["dice"]
  files : Def K mg "_law_files" sFiles a.fFiles a.dFiles ["dice"]
  lsees : Def K mg "_law_sees" sLsees a.fLsees a.dLsees ["folders", "path"]
  parts : Def K mg "parts_of_path" sParts a.fParts a.dParts ["path"]
  init : MDef K a.CW "__init__" "Window.__init__" sWInit a.fInit a.dInit ["self", "folders"]
  sees : MDef K a.CW "sees" "Window.sees" sWSees a.fSees a.dSees ["self", "path"]
  look : MDef K a.CW "look" "Window.look" sWLook a.fLook a.dLook ["self", "files"]
  wider : MDef K a.CW "wider" "Window.wider" sWWider a.fWider a.dWider ["self", "folders"]
  deeds : MDef K a.CW "deeds_between" "Window.deeds_between" sWDeeds a.fDeeds a.dDeeds ["self", "before", "after"]
  chG : mg "check_name" = some (.ref a.fCheck)
  chK : PySem.W.keepIn K (.ref a.fCheck) = true
  chB : Binds K a.dCheck ["name"] []
  ch : ∃ (dV kV doc pm ct oc : Value) (an od : Option Addr) (osl : Array (Option Value)), a.dCheck = PySem.W.fnOf "check_name" "check_name" (defArgs sCheck) (defBody sCheck) (defScope sCheck) dV kV doc pm an (.ref a.cC) ct ∧ K.lookup a.fCheck = some ⟨oc, od, .func a.dCheck, osl⟩
  chC : PySem.W.codeIn K (.ref a.cC) "check_name" = true
  chT : LamX.TabB base mg a.cC a.PC
  wiM : Meth K a.CW "with_changes" a.fWith
  wiB : Binds K a.dWith ["self", "files", "seen"] []
  wi : ∃ (dV kV doc pm ct oc : Value) (an od : Option Addr) (osl : Array (Option Value)), a.dWith = PySem.W.fnOf "with_changes" "Window.with_changes" (defArgs sWWith) (defBody sWWith) (defScope sWWith) dV kV doc pm an (.ref a.cV) ct ∧ K.lookup a.fWith = some ⟨oc, od, .func a.dWith, osl⟩
  wiC : PySem.W.codeIn K (.ref a.cV) "Window.with_changes" = true
  wiT : LamX.TabB base mg a.cV a.PV
  neP : a.PC ≠ a.PV
  zAbs : mg "abs" = none
  zInt : mg "int" = none
  zRange : mg "range" = none
  zLen : mg "len" = none
  zDict : mg "dict" = none
  zTuple : mg "tuple" = none
  zList : mg "list" = none
  zSorted : mg "sorted" = none
  zAny : mg "any" = none
  zStr : mg "str" = none
/-! the law's frame -/
abbrev sLaw : Stmt := top 18
structure Bn where
  Pg : Program
  w : World
  K : PySem.W.Frag
  mg : Str → Option Value
  base : Heap
  tb : Tb
  f : Addr
  cdv : Value
  A : Around
  outer : List Env
  s : Shared
  H : Hp
  E : XK
abbrev lN : List Str := ["script", "dice", "folders", "k", "window", "files", "other", "path", "seen", "changed", "rest", "after", "outside", "more", "wider", "deeds", "here", "word", "row", "narrow"]
abbrev Bn.j (b : Bn) : J := ⟨cxOf (L2.CX b.Pg b.w) b.Pg b.w b.K b.mg b.base lN "law" (defScope sLaw) b.f b.cdv b.A b.outer b.s b.H b.E, b.tb, fun _ _ => False⟩
theorem scLaw : FnScope lN ["script"] (defScope sLaw) := ⟨rfl, rfl, rfl, by decide +kernel, rfl, by decide +kernel, by decide +kernel⟩
abbrev ndL : lN.Nodup := scLaw.nd
def forB : Stmt → List Stmt
  | .For _ _ b _ _ => b
  | _ => []
def ifC : Stmt → Expr
  | .If c _ _ _ => c
  | _ => .Constant .none 0 ⟨0, 0, 0, 0⟩
def expE : Stmt → Expr
  | .Expr e _ => e
  | .Return (some e) _ => e
  | _ => .Constant .none 0 ⟨0, 0, 0, 0⟩
def orN : Expr → Nat → Expr
  | .BoolOp _ es _, n => es.getD n (.Constant .none 0 ⟨0, 0, 0, 0⟩)
  | e, _ => e
def cmpA : Expr → Expr
  | .Compare a _ _ _ => a
  | e => e
def arg0 : Expr → Expr
  | .Call _ (a :: _) _ _ => a
  | e => e
def lamP : Expr → Arguments
  | .Lambda p _ _ _ => p
  | _ => C8.fnArgs (.Pass ⟨0, 0, 0, 0⟩)
def lamB : Expr → Expr
  | .Lambda _ b _ _ => b
  | e => e
def lamS : Expr → Scope
  | .Lambda _ _ s _ => s
  | _ => C8.fnScope (.Pass ⟨0, 0, 0, 0⟩)
def nth (l : List Stmt) (i : Nat) : Stmt := l.getD i (.Pass ⟨0, 0, 0, 0⟩)
abbrev lRound : List Stmt := forB (nth (defBody sLaw) 0)
/-- the lambdas, as they stand in the text -/
abbrev eW : Expr := arg0 (cmpA (orN (ifC (nth lRound 10)) 1))
abbrev eB : Expr := arg0 (cmpA (orN (expE (nth (defBody sLaw) 2)) 2))
section
variable {b : Bn} {a : Ads}
theorem t_w : freeOf (lamS eW).names = (["files", "other", "window"] : List Str) := by decide +kernel
theorem t_b : freeOf (lamS eB).names = ([] : List Str) := by decide +kernel
/-- the three tables -/
structure LamT (b : Bn) (a : Ads) (c Pt : Addr) : Prop where
  cdv : b.cdv = .ref c
  tb : b.tb.nt = [(Pt, fun _ _ => b.j.X.env.qual ++ "<lambda>"), (a.PC, nmCh), (a.PV, nmWi)]
  n1 : Pt ≠ a.PC
  n2 : Pt ≠ a.PV
  TB : LamX.TabB b.base b.mg c Pt
theorem G_roll (L : LawT b.K b.mg b.base a) : FnOk b.Pg b.w b.K b.mg b.base (L2.CX b.Pg b.w) 1 a.fRoll a.dRoll ["dice", "many"] ((pRoll).sp b.tb) := ok_roll L.roll.fn L.zInt
theorem G_folder (L : LawT b.K b.mg b.base a) : FnOk b.Pg b.w b.K b.mg b.base (L2.CX b.Pg b.w) 2 a.fFolder a.dFolder ["dice"] ((pFolder).sp b.tb) := ok_folder L.folder.fn (G_roll L) L.roll.g L.roll.kp L.roll.bd L.zRange
theorem G_files (L : LawT b.K b.mg b.base a) : FnOk b.Pg b.w b.K b.mg b.base (L2.CX b.Pg b.w) 2 a.fFiles a.dFiles ["dice"] ((pFiles b.K).sp b.tb) := ok_files L.files.fn (G_roll L) L.roll.g L.roll.kp L.roll.bd L.zRange L.zStr
theorem G_lsees (L : LawT b.K b.mg b.base a) : FnOk b.Pg b.w b.K b.mg b.base (L2.CX b.Pg b.w) 1 a.fLsees a.dLsees ["folders", "path"] ((pLsees).sp b.tb) := ok_lsees L.lsees.fn L.zLen
theorem G_check (L : LawT b.K b.mg b.base a) {c Pt : Addr} (M : LamT b a c Pt) : FnOk b.Pg b.w b.K b.mg b.base (L2.CX b.Pg b.w) 4 a.fCheck a.dCheck ["name"] ((pCheck a.CC).sp b.tb) := by
  obtain ⟨dV, kV, doc, pm, ct, oc, an, od, osl, e, lk⟩ := L.ch
  obtain ⟨tS, gS⟩ := L.sgn
  rw [e] at lk ⊢
  refine ok_check lk L.chC L.chT (by rw [M.tb]; exact List.Mem.tail _ (List.Mem.head _)) (fun p hp e => ?_) L.XC gS L.zLen L.zAny
  rw [M.tb] at hp
  rcases List.mem_cons.mp hp with h | h
  · rw [h] at e
    exact absurd e M.n1
  · rcases List.mem_cons.mp h with h | h
    · rw [h]
    · rw [List.mem_singleton.mp h] at e
      exact absurd e.symm L.neP
theorem G_parts (L : LawT b.K b.mg b.base a) {c Pt : Addr} (M : LamT b a c Pt) : FnOk b.Pg b.w b.K b.mg b.base (L2.CX b.Pg b.w) 5 a.fParts a.dParts ["path"] ((pParts a.CC).sp b.tb) := by
  obtain ⟨tD, gD⟩ := L.deep
  exact ok_parts L.parts.fn (G_check L M) L.chG L.chK L.chB L.XC gD L.zLen L.zTuple
theorem G_init (L : LawT b.K b.mg b.base a) {c Pt : Addr} (M : LamT b a c Pt) : FnOk b.Pg b.w b.K b.mg b.base (L2.CX b.Pg b.w) 6 a.fInit a.dInit ["self", "folders"] ((pInit a.CW).sp b.tb) := ok_init L.init.fn L.T (G_parts L M) L.parts.g L.parts.kp L.parts.bd
theorem G_bad (L : LawT b.K b.mg b.base a) {c Pt : Addr} (M : LamT b a c Pt) : FnOk b.Pg b.w b.K b.mg b.base (L2.CX b.Pg b.w) 6 a.fInit a.dInit ["self", "folders"] ((pBad a.CW a.CC).sp b.tb) := ok_bad L.init.fn L.T (G_parts L M) L.parts.g L.parts.kp L.parts.bd
theorem G_sees (L : LawT b.K b.mg b.base a) {c Pt : Addr} (M : LamT b a c Pt) : FnOk b.Pg b.w b.K b.mg b.base (L2.CX b.Pg b.w) 6 a.fSees a.dSees ["self", "path"] ((pSees a.CW).sp b.tb) := ok_sees L.sees.fn L.T (G_parts L M) L.parts.g L.parts.kp L.parts.bd L.zLen
theorem G_look (L : LawT b.K b.mg b.base a) {c Pt : Addr} (M : LamT b a c Pt) : FnOk b.Pg b.w b.K b.mg b.base (L2.CX b.Pg b.w) 7 a.fLook a.dLook ["self", "files"] ((pLook b.K a.CW).sp b.tb) := ok_look L.look.fn L.T (G_sees L M) L.sees.mt L.sees.bd
theorem G_with (L : LawT b.K b.mg b.base a) {c Pt : Addr} (M : LamT b a c Pt) : FnOk b.Pg b.w b.K b.mg b.base (L2.CX b.Pg b.w) 10 a.fWith a.dWith ["self", "files", "seen"] ((pWith b.K a.CW a.CE).sp b.tb) := by
  obtain ⟨dV, kV, doc, pm, ct, oc, an, od, osl, e, lk⟩ := L.wi
  rw [e] at lk ⊢
  refine ok_with lk L.wiC L.wiT (by rw [M.tb]; exact List.Mem.tail _ (List.Mem.tail _ (List.Mem.head _))) (fun p hp e => ?_) L.T L.XE (G_sees L M) L.sees.mt L.sees.bd L.zAny
  rw [M.tb] at hp
  rcases List.mem_cons.mp hp with h | h
  · rw [h] at e
    exact absurd e M.n2
  · rcases List.mem_cons.mp h with h | h
    · rw [h] at e
      exact absurd e L.neP
    · rw [List.mem_singleton.mp h]
theorem G_wider (L : LawT b.K b.mg b.base a) {c Pt : Addr} (M : LamT b a c Pt) : FnOk b.Pg b.w b.K b.mg b.base (L2.CX b.Pg b.w) 8 a.fWider a.dWider ["self", "folders"] ((pWider a.CW).sp b.tb) := ok_wider L.wider.fn L.T L.mkW (G_init L M) L.gW L.init.bd L.zList
theorem G_deeds (L : LawT b.K b.mg b.base a) {c Pt : Addr} (M : LamT b a c Pt) : FnOk b.Pg b.w b.K b.mg b.base (L2.CX b.Pg b.w) 7 a.fDeeds a.dDeeds ["self", "before", "after"] ((pDeeds b.K a.CW).sp b.tb) := ok_deeds L.deeds.fn L.T (G_sees L M) L.sees.mt L.sees.bd L.zList L.zSorted L.zTuple
/-! the lambdas -/
abbrev CloB (b : Bn) (k : Nat) (e : Expr) {ω : Type} (q : Prom ω) (caps : ω → List (Addr × Pr)) (c' : Addr) : Prop := CloOk b.Pg b.w b.K b.mg b.base k (lamG b.j.X (lamP e) (lamS e) c') (lamB e) ((q.cap caps).sp b.tb)
abbrev ca (b : Bn) (y : Str) : Addr := cellAt b.j.X y
def p0 {ω : Type} (p : Prom ω) : Prom ω := { p with ps := fun _ => [] }
abbrev capW (b : Bn) (o : WcO) : List (Addr × Pr) := [(ca b "files", isR o.d), (ca b "other", isR o.e), (ca b "window", isR o.o.w)]
def pBadW (CW CC : Addr) : Prom Unit := { ps := fun _ => [], R := fun _ _ _ => False, XP := fun _ cls C => cls = .ref CC }
theorem clo_w (L : LawT b.K b.mg b.base a) {c Pt : Addr} (M : LamT b a c Pt) (c' : Addr) : CloB b 11 eW (p0 (pWith b.K a.CW a.CE)) (capW b) c' := by
  refine clo_ok (as := (["files", "other", "window"] : List Str).map (ca b)) (N := ["files", "other", "window"]) (ps := []) (fr := ["files", "other", "window"]) (fun o h => rfl) (NdefX.nscope_by (by show NdefX.nscB ["files", "other", "window"] [] ["files", "other", "window"] (lamS (eW)) = true; decide +kernel)) (clo_of t_w (fun y => Iff.rfl) ?_) (fun pm ctv us hl => match us, hl with | [], _ => rfl) (fun _ => rfl) fun o f A outer s H E hpre hr => ?_
  · show (([6, 7, 8] : List Nat).map fun k => b.s.heap.objs.size + k).Nodup
    exact nd_off (by decide)
  refine ev_meth (G_with L M) (hr.mono (by decide)) L.T.cl L.wiM L.wiB ?_
  refine ev_name 2 rfl ?_ -- window
  refine ⟨ins_C (fns := ["folders"]) (List.Mem.head _) (by decide +kernel), ?_⟩
  refine ea_cons ?_
  refine ev_name 0 rfl ?_
  refine ea_cons ?_
  refine ev_name 1 rfl ?_
  refine ea_nil ?_
  exact ⟨o, [], hpre, rfl, perm0, away0 (fun _ _ h => h) fun _ _ h => h⟩
theorem clo_b (L : LawT b.K b.mg b.base a) {c Pt : Addr} (M : LamT b a c Pt) (c' : Addr) : CloB b 8 eB (pBadW a.CW a.CC) (fun _ => []) c' := by
  refine clo_ok (as := ([] : List Str).map (ca b)) (N := []) (ps := []) (fr := []) (fun o h => rfl) (NdefX.nscope_by (by show NdefX.nscB [] [] [] (lamS (eB)) = true; decide +kernel)) (clo_of t_b (fun y => Iff.rfl) ?_) (fun pm ctv us hl => match us, hl with | [], _ => rfl) (fun _ => rfl) fun o f A outer s H E hpre hr => ?_
  · exact List.nodup_nil
  refine ev_make L.mkW (G_bad L M) (hr.mono (by decide)) L.gW L.init.bd ?_
  refine ea_cons ?_
  refine ev_lst ?_
  refine ea_cons ?_
  refine ev_str ?_
  refine ea_nil ?_
  refine ⟨by show 1 ≤ sizeLine; decide, ?_⟩
  refine ea_nil ?_
  intro x
  exact ⟨x, [], True.intro, rfl, perm0, fun C' ρ h => h.elim, fun cls C' h => h⟩
/-- where the table stands -/
theorem lam_in {c Pt : Addr} (M : LamT b a c Pt) : (Pt, fun _ _ => b.j.X.env.qual ++ "<lambda>") ∈ b.j.tb.nt := by
  show _ ∈ b.tb.nt
  rw [M.tb]
  exact List.Mem.head _
theorem lam_un {c Pt : Addr} (M : LamT b a c Pt) : ∀ p ∈ b.j.tb.nt, p.1 = Pt → p.2 = fun _ _ => b.j.X.env.qual ++ "<lambda>" := fun p hp e => by
  have hp : p ∈ b.tb.nt := hp
  rw [M.tb] at hp
  rcases List.mem_cons.mp hp with h | h
  · rw [h]
  · rcases List.mem_cons.mp h with h | h
    · rw [h] at e
      exact absurd e.symm M.n1
    · rw [List.mem_singleton.mp h] at e
      exact absurd e.symm M.n2
theorem lam_fr {e : Expr} (h : ∀ n ∈ freeOf (lamS e).names, (defScope sLaw).names.lookup n = some .cell) : ∀ y ∈ (lamS e).names, y.2 = NameKind.free → b.j.X.env.scope.names.lookup y.1 = some .cell ∨ b.j.X.env.scope.names.lookup y.1 = some .free := fun y hy e' =>
  .inl (h y.1 (List.mem_map.mpr ⟨y, List.mem_filter.mpr ⟨hy, by rw [e']; rfl⟩, rfl⟩))
theorem told_pre {ω : Type} {K : PySem.W.Frag} {q : Prom ω} {caps : ω → List (Addr × Pr)} {mk : Addr → NdefX.NF} {body : Expr} {CE : Addr} {w : ω} (h : q.pre w) (h0 : q.ps w = []) (hX : ∀ cls C', q.XP w cls C' → PySem.W.exmOne K cls (.ref CE) = some true) : (pTold K (q.cap caps) mk body CE).pre w := ⟨h, h0, fun cls C ⟨C'', _, x⟩ => hX cls C'' x⟩
theorem told_perm {ω : Type} {K : PySem.W.Frag} {q : Prom ω} {caps : ω → List (Addr × Pr)} {mk : Addr → NdefX.NF} {body : Expr} {CE : Addr} {w : ω} {C Cr : List Cell} (h : C.Perm (q.C w ++ Cr)) : (capsC (caps w) ++ C).Perm ((pTold K (q.cap caps) mk body CE).C w ++ Cr) := by
  show (capsC (caps w) ++ C).Perm ((capsC (caps w) ++ q.C w) ++ Cr)
  rw [List.append_assoc]
  exact List.Perm.append_left _ h
theorem told_calm {ω : Type} {K : PySem.W.Frag} {q : Prom ω} {caps : ω → List (Addr × Pr)} {mk : Addr → NdefX.NF} {body : Expr} {CE : Addr} {w : ω} {C1 : List Cell} {R : Ps} (hR : ∀ C' ρ, q.R w C' ρ → C' = q.C w ∧ R C1 ρ) (hX : ∀ cls C', q.XP w cls C' → C' = q.C w ∧ R C1 (isS "HostError")) : Calm (pTold K (q.cap caps) mk body CE) w C1 R := by
  refine ⟨fun C' ρ h => ?_, fun cls C' z => z⟩
  rcases h with ⟨C'', rfl, h⟩ | ⟨⟨cls, C'', rfl, h⟩, rfl⟩
  · obtain ⟨e, r⟩ := hR C'' ρ h
    exact ⟨by rw [e]; rfl, r⟩
  · obtain ⟨e, r⟩ := hX cls C'' h
    exact ⟨by rw [e]; rfl, r⟩
end
end K23

end
section
set_option Elab.async false
set_option linter.all false
set_option maxRecDepth 100000
open PySem PySem.Spec PyProof.Rows L2 Z
/-! short rows -/
local macro_rules | `(tactic| walk_at "zmem") => `(tactic| first
  | exact List.Mem.head _
  | exact List.Mem.tail _ (List.Mem.head _)
  | exact List.Mem.tail _ (List.Mem.tail _ (List.Mem.head _))
  | exact List.Mem.tail _ (List.Mem.tail _ (List.Mem.tail _ (List.Mem.head _)))
  | exact List.Mem.tail _ (List.Mem.tail _ (List.Mem.tail _ (List.Mem.tail _ (List.Mem.head _)))))
local macro_rules | `(tactic| walk_at "zlst") => `(tactic| first | exact lst_F | exact lst_S | exact lst_C (by walk_at "zmem") | assumption)
local macro_rules | `(tactic| walk_at "ztup") => `(tactic| first | exact tup_F | assumption)
local macro_rules | `(tactic| walk_at "zdic") => `(tactic| first | exact dic_F | exact dic_C (by walk_at "zmem") | exact dic_Z (by walk_at "zmem") | assumption)
local macro_rules | `(tactic| walk_at "zside") => `(tactic| first | assumption | decide | (show _ ≤ sizeLine; decide) | omega)
local macro_rules | `(tactic| walk_at "zadd") => `(tactic| first | refine okA_addI ?_ | refine okA_addS (by walk_at "zside") ?_ | refine okA_addL (by walk_at "zlst") (by walk_at "zlst") (by walk_at "zside") ?_)
local macro_rules | `(tactic| walk_at "zsub") => `(tactic| refine ok_rI0 ?_)
local macro_rules | `(tactic| walk_at "zmul") => `(tactic| first | refine okA_mulI (by walk_at "zside") ?_ | refine okA_mulL (by walk_at "zside") (by walk_at "zside") (by walk_at "zside") ?_)
local macro_rules | `(tactic| walk_at "zdiv") => `(tactic| refine ok_rI (by first | assumption | exact ⟨by decide, by decide⟩) ?_)
local macro_rules | `(tactic| walk_at "zmod") => `(tactic| refine ok_rI (by first | assumption | decide) ?_)
local macro_rules | `(tactic| walk_at "zpow") => `(tactic| refine ok_rI (by exact ⟨by decide, by decide, by decide⟩) ?_)
local macro_rules | `(tactic| walk_at "zlt") => `(tactic| refine ok_rI0 ?_)
local macro_rules | `(tactic| walk_at "zeq") => `(tactic| refine okA_eqS rfl ?_)
local macro_rules | `(tactic| walk_at "zne") => `(tactic| refine okA_neS rfl ?_)
local macro_rules | `(tactic| walk_at "zix") => `(tactic| first | refine okA_ixL (by walk_at "zlst") (by rfl) ?_ | refine okA_ixT (by walk_at "ztup") (by rfl) ?_ | refine okA_ixD (by walk_at "zdic") (by assumption) ?_)
local macro_rules | `(tactic| walk_at "zfld") => `(tactic| refine ⟨_, _, _, rfl, by walk_at "zmem", rfl, ?_⟩)
local macro_rules | `(tactic| walk_at "zc_len") => `(tactic| first | refine okA_lenL (by walk_at "zlst") ?_ | refine okA_lenT (by walk_at "ztup") ?_ | refine okA_lenD (by walk_at "zdic") ?_ | refine okA_lenS (by walk_at "zside") ?_)
local macro_rules | `(tactic| walk_at "zc_int") => `(tactic| first | refine ok_intI ?_ | refine ok_intB ?_)
local macro_rules | `(tactic| walk_at "zc_abs") => `(tactic| refine ok_abs ?_)
local macro_rules | `(tactic| walk_at "zc_str") => `(tactic| refine ok_strI (by walk_at "zside") ?_)
local macro_rules | `(tactic| walk_at "zso") => `(tactic| first
  | refine so_L (i := 0) rfl rfl ?_ | refine so_L (i := 1) rfl rfl ?_ | refine so_L (i := 2) rfl rfl ?_ | refine so_L (i := 3) rfl rfl ?_)
local macro_rules | `(tactic| walk_at "zuse") => `(tactic| apply et_use)
local macro_rules | `(tactic| walk_at "zev") => `(tactic| apply ev_use)
local macro_rules | `(tactic| walk_at "zand") => `(tactic| apply etp_and)
local macro_rules | `(tactic| walk_at "zor") => `(tactic| apply etp_or)
local macro_rules | `(tactic| walk_at "znot") => `(tactic| apply etp_not)
namespace K23
open PySem.W (Datum Tup)
open Rep (pr)
structure LO where
  d : Addr
  w : Addr
  f : Addr
  D1 : Addr
  D2 : Addr
  fs : List Str
  t : TbO
  u : TbO
abbrev LO.ks (o : LO) : List (List Str) := dedF (o.fs.map partsF)
abbrev LO.wi (o : LO) : WiO := ⟨o.w, o.f, o.ks⟩
structure LO.Ok (o : LO) : Prop where
  fok : okL o.fs
  fl : o.fs.length ≤ 3
  nt : (o.t.map Prod.fst).Nodup
  tl : o.t.length ≤ 8
  tok : OkT o.t
  nu : (o.u.map Prod.fst).Nodup
  ul : o.u.length ≤ 8
  uok : OkT o.u
abbrev LB (b : Bn) (a : Ads) (o : LO) : List Cell := [cDi o.d, cW a.CW o.wi, cFo o.wi, cD b.K o.D1 o.t, cD b.K o.D2 o.u]
def GS (b : Bn) (ns : List Int) (o : LO) (Γ : Gm) : Prop := ∃ x3 x7 x8 x9 x10 x11 x12 x13 x14 x15 x16 x17 x18 x19 : Option Pr, Γ = [some (rLs b.K (ns.map isI)), some (isR o.d), some (rL (o.fs.map fun x => isS x)), x3, some (isR o.w), some (isR o.D1), some (isR o.D2), x7, x8, x9, x10, x11, x12, x13, x14, x15, x16, x17, x18, x19]
def GamAny (Γ : Gm) : Prop := Γ.length = 20
local macro_rules | `(tactic| walk_at "zp") => `(tactic| exact perm_of fun _ c => by (simp only [LB, LO.wi, LO.ks, LW, LD, pInit, pFiles, pFolder, pRoll, pSees, pLsees, pLook, pWith, pWider, pDeeds, p0, List.append_eq, List.nil_append, List.cons_append, List.count_append, List.count_cons, List.count_nil]; omega))
/-! the plain law of seeing -/
theorem take_drop_last {α : Type} (P : List α) {n : Nat} (h : n < P.length) : P.take n = P.dropLast.take n := by
  rw [List.dropLast_eq_take, List.take_take, Nat.min_eq_left (by omega)]
theorem seesK_eq (P k : List Str) (hP : P ≠ []) : seesK P k = lsK P.dropLast k := by
  have hl : 0 < P.length := List.length_pos_iff.mpr hP
  have hd : P.dropLast.length = P.length - 1 := List.length_dropLast
  unfold seesK lsK
  rw [Bool.eq_iff_iff]
  simp only [Bool.or_eq_true, Bool.and_eq_true, decide_eq_true_eq]
  constructor
  · rintro (⟨h1, h2⟩ | ⟨h1, h2⟩)
    · exact .inl (by rw [← take_drop_last P h2]; exact h1)
    · exact .inr h1.symm
  · rintro (h1 | h1)
    · have h2 : k.length ≤ P.dropLast.length := by
        have := congrArg List.length h1
        rw [List.length_take] at this
        omega
      have h3 : k.length < P.length := by omega
      exact .inl ⟨by rw [take_drop_last P h3]; exact h1, h3⟩
    · have h2 : P.dropLast.length ≤ k.length := by
        have := congrArg List.length h1
        rw [List.length_take] at this
        omega
      by_cases h3 : P.dropLast.length < k.length
      · exact .inr ⟨h1.symm, h3⟩
      · have h4 : k.length = P.dropLast.length := by omega
        have h5 : k = P.dropLast := by
          rw [← h4, List.take_length] at h1
          exact h1
        have h6 : k.length < P.length := by omega
        exact .inl ⟨by rw [take_drop_last P h6, h5, List.take_length], h6⟩
theorem any_ded {f : List Str → Bool} (ks : List (List Str)) : (dedF ks).any f = ks.any f := by
  rw [Bool.eq_iff_iff, List.any_eq_true, List.any_eq_true]
  have h : ∀ k, k ∈ dedF ks ↔ k ∈ ks := fun k => by
    unfold dedF
    rw [dedF_mem]
    simp
  constructor
  · rintro ⟨k, h1, h2⟩; exact ⟨k, (h k).mp h1, h2⟩
  · rintro ⟨k, h1, h2⟩; exact ⟨k, (h k).mpr h1, h2⟩
theorem split_ne (p : Str) : partsF p ≠ [] := fun z => by
  have := PyProof.Rows.split_pos p "/"
  have e : Txt.split p "/" = [] := z
  rw [e] at this
  exact absurd this (by simp)
theorem law_sees (fs : List Str) (p : Str) : lseesF fs p = seesF (dedF (fs.map partsF)) (partsF p) := by
  unfold lseesF seesF
  rw [any_ded, List.any_map]
  congr 2
  funext f
  exact (seesK_eq (partsF p) (partsF f) (split_ne p)).symm
theorem law_sees2 (fs ms : List Str) (p : Str) : seesF (dedF ((fs ++ ms).map partsF)) (partsF p) = (lseesF fs p || lseesF ms p) := by
  rw [← law_sees]
  unfold lseesF
  rw [List.any_append]
  cases (fs.any fun f => lsK (partsF p).dropLast (partsF f)) <;> cases (ms.any fun f => lsK (partsF p).dropLast (partsF f)) <;> simp
section
variable {b : Bn} {a : Ads} {ns : List Int} {P : Po}
theorem roundA (L : LawT b.K b.mg b.base a) {c Pt : Addr} (M : LamT b a c Pt) (hr : Room 20 b.j.X.A) {d : Addr} {x2 x3 x4 x5 x6 x7 x8 x9 x10 x11 x12 x13 x14 x15 x16 x17 x18 x19 : Option Pr} (k : ∀ o : LO, o.Ok → ∀ Γ, GS b ns o Γ → Tr b.j Γ (LB b a o) (lRound.drop 2) P) :
    Tr b.j [some (rLs b.K (ns.map isI)), some (isR d), x2, x3, x4, x5, x6, x7, x8, x9, x10, x11, x12, x13, x14, x15, x16, x17, x18, x19] [cDi d] lRound P := by
  -- folders = [_law_folder(dice) for k in range(_law_roll(dice, 4))]
  refine tr_set 2 ?_ ndL
  refine ev_lcU (own := [("k", 3)]) (g := gName 3) (sr_R L.zRange ?_) ndL (blkOk_by (by show blkC lN (defScope sLaw) _ _ = true; decide +kernel)) rfl (fun s H Cc cl fp => pg_name ndL rfl (Or.inl rfl) (Or.inr rfl))
  refine ev_callS (G_roll L) (hr.mono (by decide)) L.roll.g L.roll.kp L.roll.bd ?_
  refine ea_cons ?_
  refine ev_name 1 rfl ?_ -- dice
  refine ea_cons ?_
  refine ev_int ?_
  refine ea_nil ?_
  refine ⟨⟨d, 4⟩, [], ⟨by show (0 : Int) < 4; decide, by show (4 : Int) ≤ 100000000; decide⟩, rfl, perm0, fun C' ρ h => ?_, fun cls C' z => z⟩
  obtain ⟨r, r0, r1, rfl, rfl⟩ := h
  have r0 : 0 ≤ r := r0
  have r1 : r < 4 := r1
  refine ⟨rfl, ?_⟩
  obtain ⟨m, hm⟩ : ∃ m : Nat, r = (m : Int) := ⟨r.toNat, by omega⟩
  have hm8 : m ≤ 3 := by omega
  rw [hm]
  refine ⟨m, rfl, by omega, fun n C' acc => C' = [cDi d] ∧ ∃ l : List Str, acc = l.map (fun y => isS y) ∧ l.length = n ∧ okL l, ⟨rfl, [], rfl, rfl, fun x z => absurd z (by simp)⟩, fun _ _ _ _ => True.intro, ?_, ?_⟩
  · rintro n q Ci acc hq ⟨rfl, l, rfl, hll, hlm⟩
    have hnr : n < m := by
      have := (List.getElem?_eq_some_iff.mp hq).1
      simpa using this
    refine ⟨_, tgt_name, ?_⟩
    intro s H Cc cl fp
    refine eif_no ⟨fun _ => ?_, fun z => nomatch z⟩
    intro s H Cc cl fp
    refine ev_call (G_folder L) (hr.mono (by decide)) L.folder.g L.folder.kp L.folder.bd ?_
    refine ea_cons ?_
    refine ev_name 1 rfl ?_
    refine ea_nil ?_
    refine ⟨d, [], True.intro, rfl, perm0, away0 (fun C' ρ h => ?_) fun cls C' z => z⟩
    obtain ⟨rfl, x, gx, rfl⟩ := h
    refine ⟨?_, rfl, l ++ [x], by rw [List.map_append]; rfl, by rw [List.length_append, hll]; rfl, fun y hy => ?_⟩
    · rw [List.length_map, hll]
      exact Nat.lt_trans hnr (Nat.lt_of_le_of_lt hm8 (by decide))
    · rcases List.mem_append.mp hy with z | z
      · exact hlm y z
      · rw [List.mem_singleton.mp z]; exact gx
  rintro Cn acc ⟨rfl, fs, rfl, hfl, hfok⟩
  rw [List.length_map, List.length_range] at hfl
  -- window, files, other = ..
  refine tr_asg ?_
  refine ev_tup ?_
  refine ea_cons ?_
  refine ev_make L.mkW (G_init L M) (hr.mono (by decide)) L.gW L.init.bd ?_
  refine ea_cons ?_
  refine ev_name 2 rfl ?_
  refine ea_nil ?_
  intro wa
  refine ⟨⟨wa, fs⟩, [cDi d], ⟨hfok, by show fs.length ≤ 60; omega⟩, rfl, List.Perm.refl _, ?_, fun _ _ z => z.elim⟩
  rintro C' ρ ⟨rfl, f, rfl⟩
  refine ⟨rfl, ?_⟩
  refine ea_cons ?_
  refine ev_call (G_files L) (hr.mono (by decide)) L.files.g L.files.kp L.files.bd ?_
  refine ea_cons ?_
  refine ev_name 1 rfl ?_
  refine ea_nil ?_
  refine ⟨d, [cFo ⟨wa, f, dedF (fs.map partsF)⟩, cW a.CW ⟨wa, f, dedF (fs.map partsF)⟩], True.intro, rfl, by walk_at "zp", ?_, fun cls C' z => z.elim⟩
  rintro C' ρ ⟨D1, t, rfl, rfl, nt, tl, tok⟩
  refine ea_cons ?_
  refine ev_call (G_files L) (hr.mono (by decide)) L.files.g L.files.kp L.files.bd ?_
  refine ea_cons ?_
  refine ev_name 1 rfl ?_
  refine ea_nil ?_
  refine ⟨d, [cD b.K D1 t, cFo ⟨wa, f, dedF (fs.map partsF)⟩, cW a.CW ⟨wa, f, dedF (fs.map partsF)⟩], True.intro, rfl, by walk_at "zp", ?_, fun cls C' z => z.elim⟩
  rintro C' ρ ⟨D2, u, rfl, rfl, nu, ul, uok⟩
  refine ea_nil ?_
  refine ⟨by show 3 ≤ sizeLine; decide, ?_⟩
  refine eg_tup rfl tup_F rfl ?_
  refine egl_cons ?_
  refine eg_name 4 ?_ ndL
  refine egl_cons ?_
  refine eg_name 5 ?_ ndL
  refine egl_cons ?_
  refine eg_name 6 ?_ ndL
  refine egl_nil ?_
  refine tr_perm (C' := LB b a ⟨d, wa, f, D1, D2, fs, t, u⟩) (by walk_at "zp") ?_
  exact k ⟨d, wa, f, D1, D2, fs, t, u⟩ ⟨hfok, by show fs.length ≤ 3; omega, nt, tl, tok, nu, ul, uok⟩ _ ⟨_, _, _, _, _, _, _, _, _, _, _, _, _, _, rfl⟩
theorem key_ok {o : LO} (h : o.Ok) {x : Str} (hx : x ∈ o.t.map Prod.fst ++ o.u.map Prod.fst) : okF x = true ∧ x.length ≤ 10000 := by
  rcases List.mem_append.mp hx with z | z
  · obtain ⟨kv, h1, rfl⟩ := List.mem_map.mp z
    exact h.tok _ h1
  · obtain ⟨kv, h1, rfl⟩ := List.mem_map.mp z
    exact h.uok _ h1
theorem roundB (L : LawT b.K b.mg b.base a) {c Pt : Addr} (M : LamT b a c Pt) (hr : Room 20 b.j.X.A) (own : PassesOwn (model b.j.X.prog b.j.X.w) b.j.X.A b.j.X.env b.j.X.xe) {o : LO} (h : o.Ok) {Γ : Gm} (g : GS b ns o Γ) (k : ∀ Γ, GS b ns o Γ → Tr b.j Γ (LB b a o) (lRound.drop 3) P) : Tr b.j Γ (LB b a o) (lRound.drop 2) P := by
  obtain ⟨x3, x7, x8, x9, x10, x11, x12, x13, x14, x15, x16, x17, x18, x19, rfl⟩ := g
  refine tr_forU (fun _ Γ C => C = LB b a o ∧ GS b ns o Γ) (fun Γ C => C = LB b a o ∧ GS b ns o Γ) ?_ (fun Γ C ⟨e, g⟩ => by subst e; exact k Γ g) own rfl
  refine sr_L ?_
  refine ev_op op_addA ?_
  refine ev_callTy (call_listD rfl) L.zList (by decide +kernel) ?_
  refine ea_cons ?_
  refine ev_name 5 rfl ?_
  refine ea_nil ?_
  refine ok_listD (kps := sK b.K o.t) (dic_C (List.mem_of_getElem? (i := 3) rfl)) ?_
  refine ev_callTy (call_listD rfl) L.zList (by decide +kernel) ?_
  refine ea_cons ?_
  refine ev_name 6 rfl ?_
  refine ea_nil ?_
  refine ok_listD (kps := sK b.K o.u) (dic_C (List.mem_of_getElem? (i := 4) rfl)) ?_
  rw [sK_keys, sK_keys]
  refine okA_addL lst_F lst_F ?_ ?_
  · rw [List.length_map, List.length_map]
    exact Nat.le_trans (Nat.add_le_add h.tl h.ul) (by decide)
  have e1 : (o.t.map fun kv => isS kv.1) ++ (o.u.map fun kv => isS kv.1) = (o.t.map Prod.fst ++ o.u.map Prod.fst).map fun x => isS x := by rw [List.map_append, List.map_map, List.map_map]; rfl
  rw [e1]
  refine ⟨_, rfl, ⟨rfl, _, _, _, _, _, _, _, _, _, _, _, _, _, _, rfl⟩, fun _ _ _ _ => True.intro, fun n q Γ C hq hI => ?_, fun Γ C hI => hI⟩
  obtain ⟨rfl, x3, x7, x8, x9, x10, x11, x12, x13, x14, x15, x16, x17, x18, x19, rfl⟩ := hI
  rw [List.getElem?_map] at hq
  obtain ⟨x, hx, rfl⟩ := Option.map_eq_some_iff.mp hq
  have ox := key_ok h (List.mem_of_getElem? hx)
  refine eg_name 7 ?_ ndL
  refine tr_if (fun Γ C => C = LB b a o ∧ GS b ns o Γ) ?_ fun Γ C h => tr_nil h
  refine et_cmp op_neA rfl ?_
  refine ev_methS (G_sees L M) (hr.mono (by decide)) L.T.cl L.sees.mt L.sees.bd ?_
  refine ev_name 4 rfl ?_ -- window
  refine ⟨ins_C (fns := ["folders"]) (List.mem_of_getElem? (i := 1) rfl) (by decide +kernel), ?_⟩
  refine ea_cons ?_
  refine ev_name 7 rfl ?_ -- path
  refine ea_nil ?_
  refine ⟨⟨o.wi, x⟩, [cDi o.d, cD b.K o.D1 o.t, cD b.K o.D2 o.u], ox, rfl, by walk_at "zp", fun C' ρ ⟨e1, e2⟩ => ⟨e1, ?_⟩, fun cls C' z => z.elim⟩
  subst e2
  refine ev_callS (G_lsees L) (hr.mono (by decide)) L.lsees.g L.lsees.kp L.lsees.bd ?_
  refine ea_cons ?_
  refine ev_name 2 rfl ?_
  refine ea_cons ?_
  refine ev_name 7 rfl ?_
  refine ea_nil ?_
  refine ⟨(o.fs, x), _, ⟨ox.2, fun y hy => (h.fok y hy).2⟩, rfl, List.Perm.refl _, fun C' ρ ⟨e1, e2⟩ => ⟨e1, ?_⟩, fun cls C' z => z.elim⟩
  subst e2
  refine okA_neS rfl ?_
  rw [show lseesF (o.fs, x).1 (o.fs, x).2 = seesF o.ks (partsF x) from law_sees o.fs x]
  refine ⟨_, rfl, fun z => absurd z (by rw [show ((!decide (V.bl (seesF o.ks (partsF x)) = V.bl (seesF o.ks (partsF x)))) = false) from ne_no]; exact Bool.false_ne_true), fun _ => ?_⟩
  exact tr_nil ⟨rfl, _, _, _, _, _, _, _, _, _, _, _, _, _, _, rfl⟩
end
end K23

end
section
set_option Elab.async false
set_option linter.all false
set_option maxRecDepth 100000
open PySem PySem.Spec PyProof.Rows L2 Z
/-! short rows -/
local macro_rules | `(tactic| walk_at "zmem") => `(tactic| first
  | exact List.Mem.head _
  | exact List.Mem.tail _ (List.Mem.head _)
  | exact List.Mem.tail _ (List.Mem.tail _ (List.Mem.head _))
  | exact List.Mem.tail _ (List.Mem.tail _ (List.Mem.tail _ (List.Mem.head _)))
  | exact List.Mem.tail _ (List.Mem.tail _ (List.Mem.tail _ (List.Mem.tail _ (List.Mem.head _)))))
local macro_rules | `(tactic| walk_at "zlst") => `(tactic| first | exact lst_F | exact lst_S | exact lst_C (by walk_at "zmem") | assumption)
local macro_rules | `(tactic| walk_at "ztup") => `(tactic| first | exact tup_F | assumption)
local macro_rules | `(tactic| walk_at "zdic") => `(tactic| first | exact dic_F | exact dic_C (by walk_at "zmem") | exact dic_Z (by walk_at "zmem") | assumption)
local macro_rules | `(tactic| walk_at "zside") => `(tactic| first | assumption | decide | (show _ ≤ sizeLine; decide) | omega)
local macro_rules | `(tactic| walk_at "zadd") => `(tactic| first | refine okA_addI ?_ | refine okA_addS (by walk_at "zside") ?_ | refine okA_addL (by walk_at "zlst") (by walk_at "zlst") (by walk_at "zside") ?_)
local macro_rules | `(tactic| walk_at "zsub") => `(tactic| refine ok_rI0 ?_)
local macro_rules | `(tactic| walk_at "zmul") => `(tactic| first | refine okA_mulI (by walk_at "zside") ?_ | refine okA_mulL (by walk_at "zside") (by walk_at "zside") (by walk_at "zside") ?_)
local macro_rules | `(tactic| walk_at "zdiv") => `(tactic| refine ok_rI (by first | assumption | exact ⟨by decide, by decide⟩) ?_)
local macro_rules | `(tactic| walk_at "zmod") => `(tactic| refine ok_rI (by first | assumption | decide) ?_)
local macro_rules | `(tactic| walk_at "zpow") => `(tactic| refine ok_rI (by exact ⟨by decide, by decide, by decide⟩) ?_)
local macro_rules | `(tactic| walk_at "zlt") => `(tactic| refine ok_rI0 ?_)
local macro_rules | `(tactic| walk_at "zeq") => `(tactic| refine okA_eqS rfl ?_)
local macro_rules | `(tactic| walk_at "zne") => `(tactic| refine okA_neS rfl ?_)
local macro_rules | `(tactic| walk_at "zix") => `(tactic| first | refine okA_ixL (by walk_at "zlst") (by rfl) ?_ | refine okA_ixT (by walk_at "ztup") (by rfl) ?_ | refine okA_ixD (by walk_at "zdic") (by assumption) ?_)
local macro_rules | `(tactic| walk_at "zfld") => `(tactic| refine ⟨_, _, _, rfl, by walk_at "zmem", rfl, ?_⟩)
local macro_rules | `(tactic| walk_at "zc_len") => `(tactic| first | refine okA_lenL (by walk_at "zlst") ?_ | refine okA_lenT (by walk_at "ztup") ?_ | refine okA_lenD (by walk_at "zdic") ?_ | refine okA_lenS (by walk_at "zside") ?_)
local macro_rules | `(tactic| walk_at "zc_int") => `(tactic| first | refine ok_intI ?_ | refine ok_intB ?_)
local macro_rules | `(tactic| walk_at "zc_abs") => `(tactic| refine ok_abs ?_)
local macro_rules | `(tactic| walk_at "zc_str") => `(tactic| refine ok_strI (by walk_at "zside") ?_)
local macro_rules | `(tactic| walk_at "zso") => `(tactic| first
  | refine so_L (i := 0) rfl rfl ?_ | refine so_L (i := 1) rfl rfl ?_ | refine so_L (i := 2) rfl rfl ?_ | refine so_L (i := 3) rfl rfl ?_)
local macro_rules | `(tactic| walk_at "zuse") => `(tactic| apply et_use)
local macro_rules | `(tactic| walk_at "zev") => `(tactic| apply ev_use)
local macro_rules | `(tactic| walk_at "zand") => `(tactic| apply etp_and)
local macro_rules | `(tactic| walk_at "zor") => `(tactic| apply etp_or)
local macro_rules | `(tactic| walk_at "znot") => `(tactic| apply etp_not)
namespace K23
open PySem.W (Datum Tup)
open Rep (pr)
theorem mP_own {K : PySem.W.Frag} {F : TbO} (nd : (F.map Prod.fst).Nodup) : mP [] (sK K F) = sK K F := by
  have h := sK_mP K ([] : TbO) F
  rw [sK_nil] at h
  rw [h, pGs_nodup _ _ (by simpa using nd)]
  rfl
theorem pairs_snoc {K : PySem.W.Frag} (F : TbO) (x : Str) (v : Tup Str) : rPairs K (sK K (F ++ [(x, v)])) = rPairs K (sK K F) ++ [rT K [isS x, pr K v]] := by
  unfold rPairs sK
  rw [List.map_append, List.map_append]
  rfl
def GS1 (b : Bn) (ns : List Int) (o : LO) (s : Addr) (Γ : Gm) : Prop := ∃ x3 x7 x9 x10 x11 x12 x13 x14 x15 x16 x17 x18 x19 : Option Pr, Γ = [some (rLs b.K (ns.map isI)), some (isR o.d), some (rL (o.fs.map fun x => isS x)), x3, some (isR o.w), some (isR o.D1), some (isR o.D2), x7, some (isR s), x9, x10, x11, x12, x13, x14, x15, x16, x17, x18, x19]
abbrev tIn (o : LO) : TbO := o.t.filter (inW o.ks)
abbrev tOut (o : LO) : TbO := o.t.filter (outW o.ks)
abbrev uIn (o : LO) : TbO := o.u.filter (inW o.ks)
abbrev uOut (o : LO) : TbO := o.u.filter (outW o.ks)
abbrev LS (b : Bn) (a : Ads) (o : LO) (s : Addr) : List Cell := cD b.K s (tIn o) :: LB b a o
local macro_rules | `(tactic| walk_at "zp") => `(tactic| exact perm_of fun _ c => by (simp only [LS, LB, LO.wi, LO.ks, LW, LD, pInit, pFiles, pFolder, pRoll, pSees, pLsees, pLook, pWith, pWider, pDeeds, p0, List.append_eq, List.nil_append, List.cons_append, List.count_append, List.count_cons, List.count_nil]; omega))
theorem away0' {ω : Type} {j : J} {p : Prom ω} {o : ω} {Cr : List Cell} {R : Ps} (hR : ∀ C' ρ, p.R o C' ρ → R (C' ++ Cr) ρ) (hX : ∀ cls C', p.XP o cls C' → j.XP cls (C' ++ Cr)) : Away j p o Cr R := ⟨hR, hX⟩
section
variable {b : Bn} {a : Ads} {ns : List Int} {P : Po}
theorem roundC (L : LawT b.K b.mg b.base a) {c Pt : Addr} (M : LamT b a c Pt) (hr : Room 20 b.j.X.A) {o : LO} (h : o.Ok) {Γ : Gm} (g : GS b ns o Γ) (k : ∀ s Γ, GS1 b ns o s Γ → Tr b.j Γ (LS b a o s) (lRound.drop 5) P) : Tr b.j Γ (LB b a o) (lRound.drop 3) P := by
  obtain ⟨x3, x7, x8, x9, x10, x11, x12, x13, x14, x15, x16, x17, x18, x19, rfl⟩ := g
  have u1 := hu_of hr
  have u64 := hr.units
  have ndI : ((tIn o).map Prod.fst).Nodup := nd_filt h.nt
  -- seen = dict([..])
  refine tr_set 8 ?_ ndL
  refine ev_callTy (call_dictP rfl) L.zDict (by decide +kernel) ?_
  refine ea_cons ?_
  refine ev_lock lk_K 3 rfl fun od kvs => ?_
  refine ev_lcU (own := [("path", 7)]) (g := gName 7) (sr_w (pi_keys pe_we) (srw_K ?_)) ndL (blkOk_by (by show blkC lN (defScope sLaw) _ _ = true; decide +kernel)) rfl (fun s H Cc cl fp => pg_name ndL rfl (Or.inl rfl) (Or.inr rfl))
  refine ev_name 5 rfl ?_
  refine ⟨o.D1, od, kvs, sK b.K o.t, rfl, List.mem_of_getElem? (i := 3) rfl, fun n C' acc => C' = (LB b a o).set 3 (cZ o.D1 od kvs (sK b.K o.t)) ∧ acc = rPairs b.K (sK b.K ((o.t.take n).filter (inW o.ks))), ⟨rfl, rfl⟩, ?_, ?_, ?_⟩
  · rintro n C' acc ⟨rfl, _⟩
    exact List.mem_of_getElem? (i := 3) rfl
  · rintro n q Ci acc hq ⟨rfl, rfl⟩
    obtain ⟨x, v, hx, rfl⟩ := sK_at hq
    have ox := h.tok _ (List.mem_of_getElem? hx)
    refine ⟨_, tgt_name, ?_⟩
    intro s H Cc cl fp
    refine eif_one ?_
    refine et_truth ?_
    refine ev_callS (G_lsees L) (hr.mono (by decide)) L.lsees.g L.lsees.kp L.lsees.bd ?_
    refine ea_cons ?_
    refine ev_name 2 rfl ?_
    refine ea_cons ?_
    refine ev_name 7 rfl ?_
    refine ea_nil ?_
    refine ⟨(o.fs, x), _, ⟨ox.2, fun y hy => (h.fok y hy).2⟩, rfl, List.Perm.refl _, fun C' ρ ⟨e1, e2⟩ => ⟨e1, ?_⟩, fun cls C' z => z.elim⟩
    subst e2
    rw [show lseesF (o.fs, x).1 (o.fs, x).2 = seesF o.ks (partsF x) from law_sees o.fs x]
    refine tru_B ⟨fun hb => ?_, fun hb => ?_⟩
    · intro s H Cc cl fp
      refine ev_tup ?_
      refine ea_cons ?_
      refine ev_name 7 rfl ?_
      refine ea_cons ?_
      refine ev_ix (ix_all (hu_of hr)) ?_
      refine ev_name 5 rfl ?_
      refine ev_name 7 rfl ?_
      refine okA_ixD (k := .inr x) (kps := sK b.K o.t) (dic_Z (List.mem_of_getElem? (i := 3) rfl)) (by rw [sK_get, vG_at h.nt hx]; rfl) ?_
      refine ea_nil ?_
      refine ⟨by show 2 ≤ sizeLine; decide, ?_⟩
      refine ⟨?_, rfl, by rw [filt_yes (f := inW o.ks) hx hb, pairs_snoc]; rfl⟩
      unfold rPairs
      rw [List.length_map, sK_len]
      exact Nat.lt_of_le_of_lt (Nat.le_trans (List.length_filter_le _ _) (Nat.le_trans (List.length_take_le' _ _) h.tl)) (by decide)
    · exact ⟨rfl, by rw [filt_no (f := inW o.ks) hx hb]⟩
  rintro Cn acc ⟨rfl, rfl⟩
  refine ⟨3, rfl, ?_⟩
  rw [sK_keys, List.length_map, List.take_length]
  refine ea_nil ?_
  refine ok_dictP lst_F fun s => ?_
  rw [mP_own ndI]
  show Tr b.j _ (LS b a o s) _ _
  -- if window.look(files) != seen:
  refine tr_ifx ?_
  refine et_cmp op_neDd rfl ?_
  refine ev_meth (G_look L M) (hr.mono (by decide)) L.T.cl L.look.mt L.look.bd ?_
  refine ev_name 4 rfl ?_ -- window
  refine ⟨ins_C (fns := ["folders"]) (List.mem_of_getElem? (i := 2) rfl) (by decide +kernel), ?_⟩
  refine ea_cons ?_
  refine ev_name 5 rfl ?_ -- files
  refine ea_nil ?_
  refine ⟨⟨o.wi, o.D1, o.t⟩, [cD b.K s (tIn o), cDi o.d, cD b.K o.D2 o.u], ⟨⟨h.nt, by show o.t.length < 60; have := h.tl; omega⟩, h.tok⟩, rfl, by walk_at "zp", away0' (fun C' ρ z => ?_) fun cls C' z => z.elim⟩
  obtain ⟨D, rfl, rfl⟩ := z
  refine ev_name 8 rfl ?_ -- seen
  refine ok_neD (t := tIn o) (u := tIn o) (dic_C (List.mem_of_getElem? (i := 0) rfl)) (dic_C (List.mem_of_getElem? (i := 4) rfl)) (dep1 (by decide) u64) ?_
  rw [eqS_refl ndI]
  refine ⟨_, rfl, fun z => absurd z (by decide), fun _ => ?_⟩
  show Tr b.j _ [cD b.K D (tIn o), cW a.CW o.wi, cFo o.wi, cD b.K o.D1 o.t, cD b.K s (tIn o), cDi o.d, cD b.K o.D2 o.u] _ _
  refine tr_perm (C' := cD b.K D (tIn o) :: LS b a o s) (by walk_at "zp") ?_
  refine tr_less (List.sublist_cons_self _ _) ?_
  exact k s _ ⟨_, _, _, _, _, _, _, _, _, _, _, _, _, rfl⟩
end
end K23

end
section
set_option Elab.async false
set_option linter.all false
set_option maxRecDepth 100000
open PySem PySem.Spec PyProof.Rows L2 Z
/-! short rows -/
local macro_rules | `(tactic| walk_at "zmem") => `(tactic| first
  | exact List.Mem.head _
  | exact List.Mem.tail _ (List.Mem.head _)
  | exact List.Mem.tail _ (List.Mem.tail _ (List.Mem.head _))
  | exact List.Mem.tail _ (List.Mem.tail _ (List.Mem.tail _ (List.Mem.head _)))
  | exact List.Mem.tail _ (List.Mem.tail _ (List.Mem.tail _ (List.Mem.tail _ (List.Mem.head _)))))
local macro_rules | `(tactic| walk_at "zlst") => `(tactic| first | exact lst_F | exact lst_S | exact lst_C (by walk_at "zmem") | assumption)
local macro_rules | `(tactic| walk_at "ztup") => `(tactic| first | exact tup_F | assumption)
local macro_rules | `(tactic| walk_at "zdic") => `(tactic| first | exact dic_F | exact dic_C (by walk_at "zmem") | exact dic_Z (by walk_at "zmem") | assumption)
local macro_rules | `(tactic| walk_at "zside") => `(tactic| first | assumption | decide | (show _ ≤ sizeLine; decide) | omega)
local macro_rules | `(tactic| walk_at "zadd") => `(tactic| first | refine okA_addI ?_ | refine okA_addS (by walk_at "zside") ?_ | refine okA_addL (by walk_at "zlst") (by walk_at "zlst") (by walk_at "zside") ?_)
local macro_rules | `(tactic| walk_at "zsub") => `(tactic| refine ok_rI0 ?_)
local macro_rules | `(tactic| walk_at "zmul") => `(tactic| first | refine okA_mulI (by walk_at "zside") ?_ | refine okA_mulL (by walk_at "zside") (by walk_at "zside") (by walk_at "zside") ?_)
local macro_rules | `(tactic| walk_at "zdiv") => `(tactic| refine ok_rI (by first | assumption | exact ⟨by decide, by decide⟩) ?_)
local macro_rules | `(tactic| walk_at "zmod") => `(tactic| refine ok_rI (by first | assumption | decide) ?_)
local macro_rules | `(tactic| walk_at "zpow") => `(tactic| refine ok_rI (by exact ⟨by decide, by decide, by decide⟩) ?_)
local macro_rules | `(tactic| walk_at "zlt") => `(tactic| refine ok_rI0 ?_)
local macro_rules | `(tactic| walk_at "zeq") => `(tactic| refine okA_eqS rfl ?_)
local macro_rules | `(tactic| walk_at "zne") => `(tactic| refine okA_neS rfl ?_)
local macro_rules | `(tactic| walk_at "zix") => `(tactic| first | refine okA_ixL (by walk_at "zlst") (by rfl) ?_ | refine okA_ixT (by walk_at "ztup") (by rfl) ?_ | refine okA_ixD (by walk_at "zdic") (by assumption) ?_)
local macro_rules | `(tactic| walk_at "zfld") => `(tactic| refine ⟨_, _, _, rfl, by walk_at "zmem", rfl, ?_⟩)
local macro_rules | `(tactic| walk_at "zc_len") => `(tactic| first | refine okA_lenL (by walk_at "zlst") ?_ | refine okA_lenT (by walk_at "ztup") ?_ | refine okA_lenD (by walk_at "zdic") ?_ | refine okA_lenS (by walk_at "zside") ?_)
local macro_rules | `(tactic| walk_at "zc_int") => `(tactic| first | refine ok_intI ?_ | refine ok_intB ?_)
local macro_rules | `(tactic| walk_at "zc_abs") => `(tactic| refine ok_abs ?_)
local macro_rules | `(tactic| walk_at "zc_str") => `(tactic| refine ok_strI (by walk_at "zside") ?_)
local macro_rules | `(tactic| walk_at "zso") => `(tactic| first
  | refine so_L (i := 0) rfl rfl ?_ | refine so_L (i := 1) rfl rfl ?_ | refine so_L (i := 2) rfl rfl ?_ | refine so_L (i := 3) rfl rfl ?_)
local macro_rules | `(tactic| walk_at "zuse") => `(tactic| apply et_use)
local macro_rules | `(tactic| walk_at "zev") => `(tactic| apply ev_use)
local macro_rules | `(tactic| walk_at "zand") => `(tactic| apply etp_and)
local macro_rules | `(tactic| walk_at "zor") => `(tactic| apply etp_or)
local macro_rules | `(tactic| walk_at "znot") => `(tactic| apply etp_not)
namespace K23
open PySem.W (Datum Tup)
open Rep (pr)
local macro_rules | `(tactic| walk_at "zp") => `(tactic| exact perm_of fun _ c => by (simp only [LS, LB, LO.wi, LO.ks, LW, LD, pInit, pFiles, pFolder, pRoll, pSees, pLsees, pLook, pWith, pWider, pDeeds, p0, List.append_eq, List.nil_append, List.cons_append, List.count_append, List.count_cons, List.count_nil]; omega))
theorem pairs_app {K : PySem.W.Frag} (F G : TbO) : rPairs K (sK K F) ++ rPairs K (sK K G) = rPairs K (sK K (F ++ G)) := by
  unfold rPairs sK
  rw [List.map_append, List.map_append]
theorem pGs_app {F G : TbO} (nd : ((F ++ G).map Prod.fst).Nodup) : pGs F G = F ++ G := pGs_nodup _ _ nd
theorem nd_two {ks : List (List Str)} {F G : TbO} (nf : (F.map Prod.fst).Nodup) (ng : (G.map Prod.fst).Nodup) : ((F.filter (outW ks) ++ G.filter (inW ks)).map Prod.fst).Nodup := by
  rw [List.map_append, List.nodup_append]
  refine ⟨nd_filt nf, nd_filt ng, fun x hx y hy e => ?_⟩
  subst e
  obtain ⟨p, hp, e1⟩ := List.mem_map.mp hx
  obtain ⟨q, hq, e2⟩ := List.mem_map.mp hy
  have h1 := (List.mem_filter.mp hp).2
  have h2 := (List.mem_filter.mp hq).2
  have h1 : (!(seesF ks (partsF p.1))) = true := h1
  have h2 : seesF ks (partsF q.1) = true := h2
  rw [e1] at h1
  rw [e2] at h2
  rw [h2] at h1
  cases h1
theorem in_two {ks : List (List Str)} {F G : TbO} : (F.filter (outW ks) ++ G.filter (inW ks)).filter (inW ks) = G.filter (inW ks) := by
  rw [List.filter_append, List.filter_filter, List.filter_filter]
  have e1 : F.filter (fun a => inW ks a && outW ks a) = [] := by
    rw [List.filter_eq_nil_iff]
    intro e _ h
    rw [Bool.and_eq_true] at h
    obtain ⟨h1, h2⟩ := h
    have h1 : seesF ks (partsF e.1) = true := h1
    have h2 : (!(seesF ks (partsF e.1))) = true := h2
    rw [h1] at h2
    cases h2
  rw [e1, List.nil_append]
  congr 1
  funext e
  exact Bool.and_self _
theorem all_in {ks : List (List Str)} {F : TbO} : allIn ks (F.filter (inW ks)) = true := by
  unfold allIn
  rw [List.all_eq_true]
  exact fun e he => (List.mem_filter.mp he).2
theorem perm_two {ks : List (List Str)} {F : TbO} : (F.filter (outW ks) ++ F.filter (inW ks)).Perm F := by
  have h := List.filter_append_perm (inW ks) F
  have e : F.filter (outW ks) = F.filter (fun x => !(inW ks x)) := rfl
  rw [e]
  exact (List.perm_append_comm).trans h
theorem ok_filt {f : Str × Tup Str → Bool} {F : TbO} (h : OkT F) : OkT (F.filter f) := fun e he => h e (List.mem_filter.mp he).1
theorem ok_app {F G : TbO} (h : OkT F) (g : OkT G) : OkT (F ++ G) := fun e he => by
  rcases List.mem_append.mp he with z | z
  · exact h e z
  · exact g e z
theorem len_filt {f : Str × Tup Str → Bool} {F : TbO} (h : F.length ≤ 8) : (F.filter f).length ≤ 8 := Nat.le_trans (List.length_filter_le _ _) h
section
variable {b : Bn} {a : Ads} {ns : List Int} {P : Po}
theorem roundD (L : LawT b.K b.mg b.base a) {c Pt : Addr} (M : LamT b a c Pt) (hr : Room 20 b.j.X.A) {o : LO} (h : o.Ok) {s : Addr} {Γ : Gm} (g : GS1 b ns o s Γ) (k : ∀ Γ, GS1 b ns o s Γ → Tr b.j Γ (LS b a o s) (lRound.drop 9) P) : Tr b.j Γ (LS b a o s) (lRound.drop 5) P := by
  obtain ⟨x3, x7, x9, x10, x11, x12, x13, x14, x15, x16, x17, x18, x19, rfl⟩ := g
  have u1 := hu_of hr
  have u64 := hr.units
  have ndI : ((tIn o).map Prod.fst).Nodup := nd_filt h.nt
  have ndO : ((tOut o).map Prod.fst).Nodup := nd_filt h.nt
  have ndU : ((uIn o).map Prod.fst).Nodup := nd_filt h.nu
  have ndA : ((tOut o ++ uIn o).map Prod.fst).Nodup := nd_two h.nt h.nu
  have ndB : ((tOut o ++ tIn o).map Prod.fst).Nodup := nd_two h.nt h.nt
  have tl := h.tl
  have ul := h.ul
  have l1 : (tOut o).length ≤ 8 := len_filt tl
  have l2 : (uIn o).length ≤ 8 := len_filt ul
  have l3 : (tIn o).length ≤ 8 := len_filt tl
  have okA : OkT (tOut o ++ uIn o) := ok_app (ok_filt h.tok) (ok_filt h.uok)
  have hT : NdT o.t ∧ OkT o.t := ⟨⟨h.nt, by omega⟩, h.tok⟩
  -- changed = dict([..])
  refine tr_set 9 ?_ ndL
  refine ev_callTy (call_dictP rfl) L.zDict (by decide +kernel) ?_
  refine ea_cons ?_
  refine ev_lock lk_K 5 rfl fun od kvs => ?_
  refine ev_lcU (own := [("path", 7)]) (g := gName 7) (sr_w (pi_keys pe_we) (srw_K ?_)) ndL (blkOk_by (by show blkC lN (defScope sLaw) _ _ = true; decide +kernel)) rfl (fun s H Cc cl fp => pg_name ndL rfl (Or.inl rfl) (Or.inr rfl))
  refine ev_name 6 rfl ?_
  refine ⟨o.D2, od, kvs, sK b.K o.u, rfl, List.mem_of_getElem? (i := 5) rfl, fun n C' acc => C' = (LS b a o s).set 5 (cZ o.D2 od kvs (sK b.K o.u)) ∧ acc = rPairs b.K (sK b.K ((o.u.take n).filter (inW o.ks))), ⟨rfl, rfl⟩, ?_, ?_, ?_⟩
  · rintro n C' acc ⟨rfl, _⟩
    exact List.mem_of_getElem? (i := 5) rfl
  · rintro n q Ci acc hq ⟨rfl, rfl⟩
    obtain ⟨x, v, hx, rfl⟩ := sK_at hq
    have ox := h.uok _ (List.mem_of_getElem? hx)
    refine ⟨_, tgt_name, ?_⟩
    intro s H Cc cl fp
    refine eif_one ?_
    refine et_truth ?_
    refine ev_callS (G_lsees L) (hr.mono (by decide)) L.lsees.g L.lsees.kp L.lsees.bd ?_
    refine ea_cons ?_
    refine ev_name 2 rfl ?_
    refine ea_cons ?_
    refine ev_name 7 rfl ?_
    refine ea_nil ?_
    refine ⟨(o.fs, x), _, ⟨ox.2, fun y hy => (h.fok y hy).2⟩, rfl, List.Perm.refl _, fun C' ρ ⟨e1, e2⟩ => ⟨e1, ?_⟩, fun cls C' z => z.elim⟩
    subst e2
    rw [show lseesF (o.fs, x).1 (o.fs, x).2 = seesF o.ks (partsF x) from law_sees o.fs x]
    refine tru_B ⟨fun hb => ?_, fun hb => ?_⟩
    · intro s H Cc cl fp
      refine ev_tup ?_
      refine ea_cons ?_
      refine ev_name 7 rfl ?_
      refine ea_cons ?_
      refine ev_ix (ix_all (hu_of hr)) ?_
      refine ev_name 6 rfl ?_
      refine ev_name 7 rfl ?_
      refine okA_ixD (k := .inr x) (kps := sK b.K o.u) (dic_Z (List.mem_of_getElem? (i := 5) rfl)) (by rw [sK_get, vG_at h.nu hx]; rfl) ?_
      refine ea_nil ?_
      refine ⟨by show 2 ≤ sizeLine; decide, ?_⟩
      refine ⟨?_, rfl, by rw [filt_yes (f := inW o.ks) hx hb, pairs_snoc]; rfl⟩
      unfold rPairs
      rw [List.length_map, sK_len]
      exact Nat.lt_of_le_of_lt (Nat.le_trans (List.length_filter_le _ _) (Nat.le_trans (List.length_take_le' _ _) h.ul)) (by decide)
    · exact ⟨rfl, by rw [filt_no (f := inW o.ks) hx hb]⟩
  rintro Cn acc ⟨rfl, rfl⟩
  refine ⟨5, rfl, ?_⟩
  rw [sK_keys, List.length_map, List.take_length]
  refine ea_nil ?_
  refine ok_dictP lst_F fun ch => ?_
  rw [mP_own ndU]
  show Tr b.j _ (cD b.K ch (uIn o) :: LS b a o s) _ _
  -- rest = dict([..])
  refine tr_set 10 ?_ ndL
  refine ev_callTy (call_dictP rfl) L.zDict (by decide +kernel) ?_
  refine ea_cons ?_
  refine ev_lock lk_K 5 rfl fun od kvs => ?_
  refine ev_lcU (own := [("path", 7)]) (g := gName 7) (sr_w (pi_keys pe_we) (srw_K ?_)) ndL (blkOk_by (by show blkC lN (defScope sLaw) _ _ = true; decide +kernel)) rfl (fun s H Cc cl fp => pg_name ndL rfl (Or.inl rfl) (Or.inr rfl))
  refine ev_name 5 rfl ?_
  refine ⟨o.D1, od, kvs, sK b.K o.t, rfl, List.mem_of_getElem? (i := 5) rfl, fun n C' acc => C' = (cD b.K ch (uIn o) :: LS b a o s).set 5 (cZ o.D1 od kvs (sK b.K o.t)) ∧ acc = rPairs b.K (sK b.K ((o.t.take n).filter (outW o.ks))), ⟨rfl, rfl⟩, ?_, ?_, ?_⟩
  · rintro n C' acc ⟨rfl, _⟩
    exact List.mem_of_getElem? (i := 5) rfl
  · rintro n q Ci acc hq ⟨rfl, rfl⟩
    obtain ⟨x, v, hx, rfl⟩ := sK_at hq
    have ox := h.tok _ (List.mem_of_getElem? hx)
    refine ⟨_, tgt_name, ?_⟩
    intro s H Cc cl fp
    refine eif_one ?_
    refine et_not ?_
    refine et_truth ?_
    refine ev_callS (G_lsees L) (hr.mono (by decide)) L.lsees.g L.lsees.kp L.lsees.bd ?_
    refine ea_cons ?_
    refine ev_name 2 rfl ?_
    refine ea_cons ?_
    refine ev_name 7 rfl ?_
    refine ea_nil ?_
    refine ⟨(o.fs, x), _, ⟨ox.2, fun y hy => (h.fok y hy).2⟩, rfl, List.Perm.refl _, fun C' ρ ⟨e1, e2⟩ => ⟨e1, ?_⟩, fun cls C' z => z.elim⟩
    subst e2
    rw [show lseesF (o.fs, x).1 (o.fs, x).2 = seesF o.ks (partsF x) from law_sees o.fs x]
    refine tru_B ⟨fun hb => ?_, fun hb => ?_⟩
    · intro s H Cc cl fp
      refine ev_tup ?_
      refine ea_cons ?_
      refine ev_name 7 rfl ?_
      refine ea_cons ?_
      refine ev_ix (ix_all (hu_of hr)) ?_
      refine ev_name 5 rfl ?_
      refine ev_name 7 rfl ?_
      refine okA_ixD (k := .inr x) (kps := sK b.K o.t) (dic_Z (List.mem_of_getElem? (i := 5) rfl)) (by rw [sK_get, vG_at h.nt hx]; rfl) ?_
      refine ea_nil ?_
      refine ⟨by show 2 ≤ sizeLine; decide, ?_⟩
      refine ⟨?_, rfl, by rw [filt_yes (f := outW o.ks) hx hb, pairs_snoc]; rfl⟩
      unfold rPairs
      rw [List.length_map, sK_len]
      exact Nat.lt_of_le_of_lt (Nat.le_trans (List.length_filter_le _ _) (Nat.le_trans (List.length_take_le' _ _) h.tl)) (by decide)
    · exact ⟨rfl, by rw [filt_no (f := outW o.ks) hx hb]⟩
  rintro Cn acc ⟨rfl, rfl⟩
  refine ⟨5, rfl, ?_⟩
  rw [sK_keys, List.length_map, List.take_length]
  refine ea_nil ?_
  refine ok_dictP lst_F fun re => ?_
  rw [mP_own ndO]
  show Tr b.j _ (cD b.K re (tOut o) :: cD b.K ch (uIn o) :: LS b a o s) _ _
  -- after = window.with_changes(files, changed)
  refine tr_set 11 ?_ ndL
  refine ev_meth (G_with L M) (hr.mono (by decide)) L.T.cl L.wiM L.wiB ?_
  refine ev_name 4 rfl ?_
  refine ⟨ins_C (fns := ["folders"]) (List.mem_of_getElem? (i := 4) rfl) (by decide +kernel), ?_⟩
  refine ea_cons ?_
  refine ev_name 5 rfl ?_
  refine ea_cons ?_
  refine ev_name 9 rfl ?_
  refine ea_nil ?_
  refine ⟨⟨o.wi, o.D1, o.t, ch, uIn o⟩, [cD b.K re (tOut o), cD b.K s (tIn o), cDi o.d, cD b.K o.D2 o.u], ⟨hT, ⟨ndU, by show (uIn o).length < 60; omega⟩, ok_filt h.uok⟩, rfl, by walk_at "zp", fun C' ρ z => ?_, fun cls C' z => absurd z.1 (by rw [show allIn o.ks (uIn o) = true from all_in]; exact Bool.noConfusion)⟩
  obtain ⟨_, af, rfl, rfl⟩ := z
  show Tr b.j _ [cD b.K af (pGs (tOut o) (uIn o)), cW a.CW o.wi, cFo o.wi, cD b.K o.D1 o.t, cD b.K ch (uIn o), cD b.K re (tOut o), cD b.K s (tIn o), cDi o.d, cD b.K o.D2 o.u] _ _
  rw [pGs_app ndA]
  -- the three tests
  refine tr_ifx ?_
  refine et_w ?_
  refine etw_or ?_
  refine et_cmp op_neDd rfl ?_
  refine ev_name 11 rfl ?_ -- after
  refine ev_callTy (call_dictP rfl) L.zDict (by decide +kernel) ?_
  refine ea_cons ?_
  refine ev_op op_addA ?_
  refine ev_callTy (cr_listI rfl) L.zList (by decide +kernel) ?_
  refine ea_cons ?_
  refine ev_bm0 PySem.F.plainAttrs_dict PySem.F.slot_dict_items PySem.F.type_dict_items mt_itemsK ?_
  refine ev_name 10 rfl ?_ -- rest
  refine ⟨ty_D (kps := sK b.K (tOut o)) (List.mem_of_getElem? (i := 5) rfl), ?_⟩
  refine ok_itemsK (a := re) (kps := sK b.K (tOut o)) (dic_C (List.mem_of_getElem? (i := 5) rfl)) ?_
  refine ea_nil ?_
  refine ok_listI (a := re) (kps := sK b.K (tOut o)) (dic_C (List.mem_of_getElem? (i := 5) rfl)) ?_
  refine ev_callTy (cr_listI rfl) L.zList (by decide +kernel) ?_
  refine ea_cons ?_
  refine ev_bm0 PySem.F.plainAttrs_dict PySem.F.slot_dict_items PySem.F.type_dict_items mt_itemsK ?_
  refine ev_name 9 rfl ?_ -- changed
  refine ⟨ty_D (kps := sK b.K (uIn o)) (List.mem_of_getElem? (i := 4) rfl), ?_⟩
  refine ok_itemsK (a := ch) (kps := sK b.K (uIn o)) (dic_C (List.mem_of_getElem? (i := 4) rfl)) ?_
  refine ea_nil ?_
  refine ok_listI (a := ch) (kps := sK b.K (uIn o)) (dic_C (List.mem_of_getElem? (i := 4) rfl)) ?_
  refine okA_addL lst_F lst_F ?_ ?_
  · show (rPairs b.K (sK b.K (tOut o))).length + (rPairs b.K (sK b.K (uIn o))).length ≤ sizeLine
    unfold rPairs
    rw [List.length_map, List.length_map, sK_len, sK_len]
    exact Nat.le_trans (Nat.add_le_add l1 l2) (by decide)
  refine ea_nil ?_
  refine ok_dictP (kps := sK b.K (tOut o ++ uIn o)) (by show LstOk _ _ (rL (rPairs b.K (sK b.K (tOut o)) ++ rPairs b.K (sK b.K (uIn o)))) _; rw [pairs_app]; exact lst_F) fun d2 => ?_
  rw [mP_own ndA]
  refine ok_neD (t := tOut o ++ uIn o) (u := tOut o ++ uIn o) (dic_C (List.mem_of_getElem? (i := 1) rfl)) (dic_C (List.mem_of_getElem? (i := 0) rfl)) (dep1 (by decide) u64) ?_
  rw [eqS_refl ndA]
  refine ⟨_, rfl, fun z => absurd z (by decide), fun _ => ?_⟩
  show Etw b.j _ [cD b.K d2 (tOut o ++ uIn o), cD b.K af (tOut o ++ uIn o), cW a.CW o.wi, cFo o.wi, cD b.K o.D1 o.t, cD b.K ch (uIn o), cD b.K re (tOut o), cD b.K s (tIn o), cDi o.d, cD b.K o.D2 o.u] _ _
  refine etw_or ?_
  refine et_cmp op_neDd rfl ?_
  refine ev_meth (G_look L M) (hr.mono (by decide)) L.T.cl L.look.mt L.look.bd ?_
  refine ev_name 4 rfl ?_
  refine ⟨ins_C (fns := ["folders"]) (List.mem_of_getElem? (i := 2) rfl) (by decide +kernel), ?_⟩
  refine ea_cons ?_
  refine ev_name 11 rfl ?_
  refine ea_nil ?_
  refine ⟨⟨o.wi, af, tOut o ++ uIn o⟩, [cD b.K d2 (tOut o ++ uIn o), cD b.K o.D1 o.t, cD b.K ch (uIn o), cD b.K re (tOut o), cD b.K s (tIn o), cDi o.d, cD b.K o.D2 o.u], ⟨⟨ndA, by show (tOut o ++ uIn o).length < 60; rw [List.length_append]; omega⟩, okA⟩, rfl, perm_of fun _ c => by (simp only [pLook, List.append_eq, List.nil_append, List.cons_append, List.count_append, List.count_cons, List.count_nil]; omega), fun C' ρ z => ?_, fun cls C' z => z.elim⟩
  obtain ⟨d3, rfl, rfl⟩ := z
  show Ev b.j _ [cD b.K d3 ((tOut o ++ uIn o).filter (inW o.ks)), cW a.CW o.wi, cFo o.wi, cD b.K af (tOut o ++ uIn o), cD b.K d2 (tOut o ++ uIn o), cD b.K o.D1 o.t, cD b.K ch (uIn o), cD b.K re (tOut o), cD b.K s (tIn o), cDi o.d, cD b.K o.D2 o.u] _ _
  rw [show (tOut o ++ uIn o).filter (inW o.ks) = uIn o from in_two]
  refine ev_name 9 rfl ?_ -- changed
  refine ok_neD (t := uIn o) (u := uIn o) (dic_C (List.mem_of_getElem? (i := 0) rfl)) (dic_C (List.mem_of_getElem? (i := 6) rfl)) (dep1 (by decide) u64) ?_
  rw [eqS_refl ndU]
  refine ⟨_, rfl, fun z => absurd z (by decide), fun _ => ?_⟩
  refine etw_or1 ?_
  refine et_cmp op_neDd rfl ?_
  refine ev_meth (G_with L M) (hr.mono (by decide)) L.T.cl L.wiM L.wiB ?_
  refine ev_name 4 rfl ?_
  refine ⟨ins_C (fns := ["folders"]) (List.mem_of_getElem? (i := 1) rfl) (by decide +kernel), ?_⟩
  refine ea_cons ?_
  refine ev_name 5 rfl ?_
  refine ea_cons ?_
  refine ev_name 8 rfl ?_
  refine ea_nil ?_
  refine ⟨⟨o.wi, o.D1, o.t, s, tIn o⟩, [cD b.K d3 (uIn o), cD b.K af (tOut o ++ uIn o), cD b.K d2 (tOut o ++ uIn o), cD b.K ch (uIn o), cD b.K re (tOut o), cDi o.d, cD b.K o.D2 o.u], ⟨hT, ⟨ndI, by show (tIn o).length < 60; omega⟩, ok_filt h.tok⟩, rfl, perm_of fun _ c => by (simp only [pWith, List.append_eq, List.nil_append, List.cons_append, List.count_append, List.count_cons, List.count_nil]; omega), fun C' ρ z => ?_, fun cls C' z => absurd z.1 (by rw [show allIn o.ks (tIn o) = true from all_in]; exact Bool.noConfusion)⟩
  obtain ⟨_, d4, rfl, rfl⟩ := z
  show Ev b.j _ [cD b.K d4 (pGs (tOut o) (tIn o)), cW a.CW o.wi, cFo o.wi, cD b.K o.D1 o.t, cD b.K s (tIn o), cD b.K d3 (uIn o), cD b.K af (tOut o ++ uIn o), cD b.K d2 (tOut o ++ uIn o), cD b.K ch (uIn o), cD b.K re (tOut o), cDi o.d, cD b.K o.D2 o.u] _ _
  rw [pGs_app ndB]
  refine ev_name 5 rfl ?_ -- files
  refine ok_neD (t := tOut o ++ tIn o) (u := o.t) (dic_C (List.mem_of_getElem? (i := 0) rfl)) (dic_C (List.mem_of_getElem? (i := 3) rfl)) (dep1 (by decide) u64) ?_
  rw [eqS_perm ndB perm_two]
  refine ⟨_, rfl, fun z => absurd z (by decide), fun _ => ?_⟩
  show Tr b.j _ [cD b.K d4 (tOut o ++ tIn o), cW a.CW o.wi, cFo o.wi, cD b.K o.D1 o.t, cD b.K s (tIn o), cD b.K d3 (uIn o), cD b.K af (tOut o ++ uIn o), cD b.K d2 (tOut o ++ uIn o), cD b.K ch (uIn o), cD b.K re (tOut o), cDi o.d, cD b.K o.D2 o.u] _ _
  refine tr_perm (C' := [cD b.K d4 (tOut o ++ tIn o), cD b.K d3 (uIn o), cD b.K af (tOut o ++ uIn o), cD b.K d2 (tOut o ++ uIn o), cD b.K ch (uIn o), cD b.K re (tOut o)] ++ LS b a o s) (perm_of fun _ c => by (simp only [LS, LB, List.append_eq, List.nil_append, List.cons_append, List.count_append, List.count_cons, List.count_nil]; omega)) ?_
  refine tr_less (List.sublist_append_right _ _) ?_
  exact k _ ⟨_, _, _, _, _, _, _, _, _, _, _, _, _, rfl⟩
end
end K23

end
section
set_option Elab.async false
set_option linter.all false
set_option maxRecDepth 100000
open PySem PySem.Spec PyProof.Rows L2 Z
/-! short rows -/
local macro_rules | `(tactic| walk_at "zmem") => `(tactic| first
  | exact List.Mem.head _
  | exact List.Mem.tail _ (List.Mem.head _)
  | exact List.Mem.tail _ (List.Mem.tail _ (List.Mem.head _))
  | exact List.Mem.tail _ (List.Mem.tail _ (List.Mem.tail _ (List.Mem.head _)))
  | exact List.Mem.tail _ (List.Mem.tail _ (List.Mem.tail _ (List.Mem.tail _ (List.Mem.head _)))))
local macro_rules | `(tactic| walk_at "zlst") => `(tactic| first | exact lst_F | exact lst_S | exact lst_C (by walk_at "zmem") | assumption)
local macro_rules | `(tactic| walk_at "ztup") => `(tactic| first | exact tup_F | assumption)
local macro_rules | `(tactic| walk_at "zdic") => `(tactic| first | exact dic_F | exact dic_C (by walk_at "zmem") | exact dic_Z (by walk_at "zmem") | assumption)
local macro_rules | `(tactic| walk_at "zside") => `(tactic| first | assumption | decide | (show _ ≤ sizeLine; decide) | omega)
local macro_rules | `(tactic| walk_at "zadd") => `(tactic| first | refine okA_addI ?_ | refine okA_addS (by walk_at "zside") ?_ | refine okA_addL (by walk_at "zlst") (by walk_at "zlst") (by walk_at "zside") ?_)
local macro_rules | `(tactic| walk_at "zsub") => `(tactic| refine ok_rI0 ?_)
local macro_rules | `(tactic| walk_at "zmul") => `(tactic| first | refine okA_mulI (by walk_at "zside") ?_ | refine okA_mulL (by walk_at "zside") (by walk_at "zside") (by walk_at "zside") ?_)
local macro_rules | `(tactic| walk_at "zdiv") => `(tactic| refine ok_rI (by first | assumption | exact ⟨by decide, by decide⟩) ?_)
local macro_rules | `(tactic| walk_at "zmod") => `(tactic| refine ok_rI (by first | assumption | decide) ?_)
local macro_rules | `(tactic| walk_at "zpow") => `(tactic| refine ok_rI (by exact ⟨by decide, by decide, by decide⟩) ?_)
local macro_rules | `(tactic| walk_at "zlt") => `(tactic| refine ok_rI0 ?_)
local macro_rules | `(tactic| walk_at "zeq") => `(tactic| refine okA_eqS rfl ?_)
local macro_rules | `(tactic| walk_at "zne") => `(tactic| refine okA_neS rfl ?_)
local macro_rules | `(tactic| walk_at "zix") => `(tactic| first | refine okA_ixL (by walk_at "zlst") (by rfl) ?_ | refine okA_ixT (by walk_at "ztup") (by rfl) ?_ | refine okA_ixD (by walk_at "zdic") (by assumption) ?_)
local macro_rules | `(tactic| walk_at "zfld") => `(tactic| refine ⟨_, _, _, rfl, by walk_at "zmem", rfl, ?_⟩)
local macro_rules | `(tactic| walk_at "zc_len") => `(tactic| first | refine okA_lenL (by walk_at "zlst") ?_ | refine okA_lenT (by walk_at "ztup") ?_ | refine okA_lenD (by walk_at "zdic") ?_ | refine okA_lenS (by walk_at "zside") ?_)
local macro_rules | `(tactic| walk_at "zc_int") => `(tactic| first | refine ok_intI ?_ | refine ok_intB ?_)
local macro_rules | `(tactic| walk_at "zc_abs") => `(tactic| refine ok_abs ?_)
local macro_rules | `(tactic| walk_at "zc_str") => `(tactic| refine ok_strI (by walk_at "zside") ?_)
local macro_rules | `(tactic| walk_at "zso") => `(tactic| first
  | refine so_L (i := 0) rfl rfl ?_ | refine so_L (i := 1) rfl rfl ?_ | refine so_L (i := 2) rfl rfl ?_ | refine so_L (i := 3) rfl rfl ?_)
local macro_rules | `(tactic| walk_at "zuse") => `(tactic| apply et_use)
local macro_rules | `(tactic| walk_at "zev") => `(tactic| apply ev_use)
local macro_rules | `(tactic| walk_at "zand") => `(tactic| apply etp_and)
local macro_rules | `(tactic| walk_at "zor") => `(tactic| apply etp_or)
local macro_rules | `(tactic| walk_at "znot") => `(tactic| apply etp_not)
namespace K23
open PySem.W (Datum Tup)
open Rep (pr)
theorem ex_map {P : Str → Prop} : ∀ ks : List (List Str), (∀ k ∈ ks, ∃ x, P x ∧ partsF x = k) → ∃ xs : List Str, ks = xs.map partsF ∧ ∀ x ∈ xs, P x
  | [], _ => ⟨[], rfl, fun x z => absurd z (by simp)⟩
  | k :: ks, h => by
    obtain ⟨x, h1, h2⟩ := h k List.mem_cons_self
    obtain ⟨xs, e, h3⟩ := ex_map ks fun k' hk => h k' (List.mem_cons_of_mem _ hk)
    refine ⟨x :: xs, by rw [e, ← h2]; rfl, fun y hy => ?_⟩
    rcases List.mem_cons.mp hy with z | z
    · rw [z]; exact h1
    · exact h3 y z
theorem law_sees3 {fs xs : List Str} (hx : dedF (fs.map partsF) = xs.map partsF) (ms : List Str) (p : Str) : seesF (dedF ((xs ++ ms).map partsF)) (partsF p) = (lseesF fs p || lseesF ms p) := by
  rw [law_sees2]
  congr 1
  rw [law_sees xs, law_sees fs, hx]
  unfold seesF
  rw [any_ded]
theorem out_all {ks : List (List Str)} {F : TbO} : allIn ks F = true ↔ F.filter (outW ks) = [] := by
  unfold allIn
  rw [List.all_eq_true, List.filter_eq_nil_iff]
  constructor
  · intro h e he z
    have h1 := h e he
    have h1 : seesF ks (partsF e.1) = true := h1
    have z : (!(seesF ks (partsF e.1))) = true := z
    rw [h1] at z
    cases z
  · intro h e he
    have h1 := h e he
    show seesF ks (partsF e.1) = true
    cases q : seesF ks (partsF e.1) with
    | true => rfl
    | false => exact absurd (show (!(seesF ks (partsF e.1))) = true by rw [q]; rfl) h1
local macro_rules | `(tactic| walk_at "zp") => `(tactic| exact perm_of fun _ c => by (simp only [LS, LB, LO.wi, LO.ks, LW, LD, pInit, pFiles, pFolder, pRoll, pSees, pLsees, pLook, pWith, pWider, pDeeds, p0, List.append_eq, List.nil_append, List.cons_append, List.count_append, List.count_cons, List.count_nil]; omega))
section
variable {b : Bn} {a : Ads} {ns : List Int} {P : Po}
theorem roundE (L : LawT b.K b.mg b.base a) {c Pt : Addr} (M : LamT b a c Pt) (hr : Room 20 b.j.X.A) {o : LO} (h : o.Ok) {s : Addr} {Γ : Gm} (g : GS1 b ns o s Γ) (k : ∀ Γ, GS1 b ns o s Γ → Tr b.j Γ (LS b a o s) (lRound.drop 11) P) : Tr b.j Γ (LS b a o s) (lRound.drop 9) P := by
  obtain ⟨x3, x7, x9, x10, x11, x12, x13, x14, x15, x16, x17, x18, x19, rfl⟩ := g
  have u1 := hu_of hr
  have u64 := hr.units
  have tl := h.tl
  have ul := h.ul
  -- outside = [path for path in other if not ..]
  refine tr_setLcLk (own := [("path", 7)]) (g := gName 7) lk_K 5 rfl (pi_keys pe_we) 12 (fun od kvs => ?_) ndL (blkOk_by (by show blkC lN (defScope sLaw) _ _ = true; decide +kernel)) rfl (fun s H Cc cl fp => pg_name ndL rfl (Or.inl rfl) (Or.inr rfl)) rfl
  refine srw_K ?_
  refine ev_name 6 rfl ?_
  refine ⟨o.D2, od, kvs, sK b.K o.u, rfl, List.mem_of_getElem? (i := 5) rfl, fun n C' acc => C' = (LS b a o s).set 5 (cZ o.D2 od kvs (sK b.K o.u)) ∧ acc = ((o.u.take n).filter (outW o.ks)).map fun e => isS e.1, ⟨rfl, rfl⟩, ?_, ?_, ?_⟩
  · rintro n C' acc ⟨rfl, _⟩
    exact List.mem_of_getElem? (i := 5) rfl
  · rintro n q Ci acc hq ⟨rfl, rfl⟩
    obtain ⟨x, v, hx, rfl⟩ := sK_at hq
    have ox := h.uok _ (List.mem_of_getElem? hx)
    refine ⟨_, tgt_name, ?_⟩
    intro s H Cc cl fp
    refine eif_one ?_
    refine et_not ?_
    refine et_truth ?_
    refine ev_callS (G_lsees L) (hr.mono (by decide)) L.lsees.g L.lsees.kp L.lsees.bd ?_
    refine ea_cons ?_
    refine ev_name 2 rfl ?_
    refine ea_cons ?_
    refine ev_name 7 rfl ?_
    refine ea_nil ?_
    refine ⟨(o.fs, x), _, ⟨ox.2, fun y hy => (h.fok y hy).2⟩, rfl, List.Perm.refl _, fun C' ρ ⟨e1, e2⟩ => ⟨e1, ?_⟩, fun cls C' z => z.elim⟩
    subst e2
    rw [show lseesF (o.fs, x).1 (o.fs, x).2 = seesF o.ks (partsF x) from law_sees o.fs x]
    refine tru_B ⟨fun hb => ?_, fun hb => ?_⟩
    · intro s H Cc cl fp
      refine ev_name 7 rfl ?_
      refine ⟨?_, rfl, by rw [filt_yes (f := outW o.ks) hx hb, List.map_append]; rfl⟩
      rw [List.length_map]
      exact Nat.lt_of_le_of_lt (Nat.le_trans (List.length_filter_le _ _) (Nat.le_trans (List.length_take_le' _ _) h.ul)) (by decide)
    · exact ⟨rfl, by rw [filt_no (f := outW o.ks) hx hb]⟩
  rintro Cn acc ⟨rfl, rfl⟩
  refine ⟨5, rfl, ?_⟩
  rw [sK_keys, List.length_map, List.take_length]
  show Tr b.j _ (LS b a o s) _ _
  -- if outside != [] and _law_told(..) != 'HostError':
  refine tr_ifx ?_
  refine et_use (B := decide ((uOut o).map Prod.fst ≠ []) && false) ?_ ?_
  · refine et_w ?_
    refine etp_and ?_ fun h1 => ?_
    · refine et_cmp op_neA rfl ?_
      refine ev_name 12 rfl ?_ -- outside
      refine ev_lst ?_
      refine ea_nil ?_
      refine ⟨by show 0 ≤ sizeLine; decide, ?_⟩
      rw [show (uOut o).map (fun e => isS e.1) = ((uOut o).map Prod.fst).map fun x => isS x by rw [List.map_map]; rfl]
      refine okA_neT (α := List Str) (a := (uOut o).map Prod.fst) (b := []) (dat_F (a := (uOut o).map Prod.fst)) (dat_F (a := ([] : List Str))) (dep0 (by decide) u64) ?_
      exact ⟨_, rfl, rfl, rfl⟩
    have hout : allIn o.ks o.u = false := by
      have h1 := of_decide_eq_true h1
      cases q : allIn o.ks o.u with
      | false => rfl
      | true =>
        have := out_all.mp q
        exact absurd (show (uOut o).map Prod.fst = [] by show (o.u.filter (outW o.ks)).map Prod.fst = []; rw [this]; rfl) h1
    refine etw_and1 ?_
    refine et_cmp op_neA rfl ?_
    refine ev_callXS [(5, "files"), (6, "other"), (4, "window")] (ok_told (Pg := b.Pg) (w := b.w) (base := b.base) (tb := b.tb) L.told.fn L.XE.gE (clo_w L M) (fun _ => rfl)) (hr.mono (by decide)) L.told.g L.told.kp L.told.bd ⟨fun q hq => ?_, by decide +kernel⟩ ?_
    · rcases List.mem_cons.mp hq with h | hq
      · rw [h]; exact ⟨rfl, rfl, rfl⟩
      · rcases List.mem_cons.mp hq with h | hq
        · rw [h]; exact ⟨rfl, rfl, rfl⟩
        · rw [List.mem_singleton.mp hq]
          exact ⟨rfl, rfl, rfl⟩
    refine ea_cons ?_
    refine ev_lam (P := Pt) (lam_in M) rfl (lam_un M) M.TB M.cdv ?_ (lam_fr (e := eW) (by rw [t_w]; decide +kernel))
    refine ea_nil ?_
    refine ⟨⟨o.wi, o.D1, o.t, o.D2, o.u⟩, [cD b.K s (tIn o), cDi o.d], capW b ⟨o.wi, o.D1, o.t, o.D2, o.u⟩, .cons ⟨rfl, rfl⟩ (.cons ⟨rfl, rfl⟩ (.cons ⟨rfl, rfl⟩ .nil)), told_pre ⟨⟨⟨h.nt, by show o.t.length < 60; omega⟩, h.tok⟩, ⟨h.nu, by show o.u.length < 60; omega⟩, h.uok⟩ rfl (fun cls C' z => by rw [z.2.1]; exact L.mEE), rfl, told_perm (by simp only [p0]; walk_at "zp"), told_calm (fun C' ρ z => absurd z.1 (by rw [show allIn o.ks o.u = false from hout]; exact Bool.noConfusion)) fun cls C' z => ⟨z.2.2, ?_⟩⟩
    refine ev_str ?_
    refine okA_neS rfl ?_
    exact ⟨_, rfl, rfl, rfl⟩
  refine ⟨fun z => absurd z (by rw [Bool.and_false]; exact Bool.false_ne_true), fun _ => ?_⟩
  exact k _ ⟨_, _, _, _, _, _, _, _, _, _, _, _, _, rfl⟩
theorem roundF (L : LawT b.K b.mg b.base a) {c Pt : Addr} (M : LamT b a c Pt) (hr : Room 20 b.j.X.A) {o : LO} (h : o.Ok) {s : Addr} {Γ : Gm} (g : GS1 b ns o s Γ) (k : ∀ Γ, GS1 b ns o s Γ → Tr b.j Γ (LS b a o s) (lRound.drop 14) P) : Tr b.j Γ (LS b a o s) (lRound.drop 11) P := by
  obtain ⟨x3, x7, x9, x10, x11, x12, x13, x14, x15, x16, x17, x18, x19, rfl⟩ := g
  have u1 := hu_of hr
  have u64 := hr.units
  have tl := h.tl
  have ul := h.ul
  -- more = [_law_folder(dice) for k in range(_law_roll(dice, 3))]
  refine tr_set 13 ?_ ndL
  refine ev_lcU (own := [("k", 3)]) (g := gName 3) (sr_R L.zRange ?_) ndL (blkOk_by (by show blkC lN (defScope sLaw) _ _ = true; decide +kernel)) rfl (fun s H Cc cl fp => pg_name ndL rfl (Or.inl rfl) (Or.inr rfl))
  refine ev_callS (G_roll L) (hr.mono (by decide)) L.roll.g L.roll.kp L.roll.bd ?_
  refine ea_cons ?_
  refine ev_name 1 rfl ?_ -- dice
  refine ea_cons ?_
  refine ev_int ?_
  refine ea_nil ?_
  refine ⟨⟨o.d, 3⟩, [cD b.K s (tIn o), cW a.CW o.wi, cFo o.wi, cD b.K o.D1 o.t, cD b.K o.D2 o.u], ⟨by show (0 : Int) < 3; decide, by show (3 : Int) ≤ 100000000; decide⟩, rfl, by walk_at "zp", fun C' ρ h => ?_, fun cls C' z => z⟩
  obtain ⟨r, r0, r1, rfl, rfl⟩ := h
  have r0 : 0 ≤ r := r0
  have r1 : r < 3 := r1
  refine ⟨rfl, ?_⟩
  obtain ⟨m, hm⟩ : ∃ m : Nat, r = (m : Int) := ⟨r.toNat, by omega⟩
  have hm8 : m ≤ 3 := by omega
  rw [hm]
  refine ⟨m, rfl, by omega, fun n C' acc => C' = LS b a o s ∧ ∃ l : List Str, acc = l.map (fun y => isS y) ∧ l.length = n ∧ okL l, ⟨rfl, [], rfl, rfl, fun x z => absurd z (by simp)⟩, fun _ _ _ _ => True.intro, ?_, ?_⟩
  · rintro n q Ci acc hq ⟨rfl, l, rfl, hll, hlm⟩
    have hnr : n < m := by
      have := (List.getElem?_eq_some_iff.mp hq).1
      simpa using this
    refine ⟨_, tgt_name, ?_⟩
    intro s' H Cc cl fp
    refine eif_no ⟨fun _ => ?_, fun z => nomatch z⟩
    intro s' H Cc cl fp
    refine ev_callS (G_folder L) (hr.mono (by decide)) L.folder.g L.folder.kp L.folder.bd ?_
    refine ea_cons ?_
    refine ev_name 1 rfl ?_
    refine ea_nil ?_
    refine ⟨o.d, [cD b.K s (tIn o), cW a.CW o.wi, cFo o.wi, cD b.K o.D1 o.t, cD b.K o.D2 o.u], True.intro, rfl, by walk_at "zp", fun C' ρ h => ?_, fun cls C' z => z⟩
    obtain ⟨rfl, x, gx, rfl⟩ := h
    refine ⟨rfl, ?_, rfl, l ++ [x], by rw [List.map_append]; rfl, by rw [List.length_append, hll]; rfl, fun y hy => ?_⟩
    · rw [List.length_map, hll]
      exact Nat.lt_trans hnr (Nat.lt_of_le_of_lt hm8 (by decide))
    · rcases List.mem_append.mp hy with z | z
      · exact hlm y z
      · rw [List.mem_singleton.mp z]; exact gx
  rintro Cn acc ⟨rfl, ms, rfl, hml, hmok⟩
  rw [List.length_map, List.length_range] at hml
  obtain ⟨xs, hx, hxok⟩ := ex_map (P := fun x => okF x = true ∧ x.length ≤ 10000) o.ks fun k' hk => by
    have hk : k' ∈ dedF (o.fs.map partsF) := hk
    unfold dedF at hk
    rw [dedF_mem] at hk
    rcases hk with z | z
    · exact absurd z (by simp)
    · obtain ⟨f, h1, h2⟩ := List.mem_map.mp z
      exact ⟨f, h.fok f h1, h2⟩
  have hxl : xs.length ≤ 3 := by
    have e := congrArg List.length hx
    rw [List.length_map] at e
    have h2 := dedF_len (o.fs.map partsF) []
    have h3 : (o.ks).length ≤ 0 + (o.fs.map partsF).length := h2
    rw [List.length_map] at h3
    have := h.fl
    omega
  -- wider = window.wider(more)
  refine tr_set 14 ?_ ndL
  refine ev_meth (G_wider L M) (hr.mono (by decide)) L.T.cl L.wider.mt L.wider.bd ?_
  refine ev_name 4 rfl ?_
  refine ⟨ins_C (fns := ["folders"]) (List.mem_of_getElem? (i := 2) rfl) (by decide +kernel), ?_⟩
  refine ea_cons ?_
  refine ev_name 13 rfl ?_
  refine ea_nil ?_
  refine ⟨⟨o.wi, xs, ms⟩, [cD b.K s (tIn o), cDi o.d, cD b.K o.D1 o.t, cD b.K o.D2 o.u], ⟨⟨hx, hxok, hmok⟩, by show xs.length ≤ 20; omega, by show ms.length ≤ 20; omega⟩, rfl, by walk_at "zp", fun C' ρ z => ?_, fun cls C' z => z.elim⟩
  obtain ⟨w2, f2, rfl, rfl⟩ := z
  show Tr b.j _ [cFo ⟨w2, f2, dedF ((xs ++ ms).map partsF)⟩, cW a.CW ⟨w2, f2, dedF ((xs ++ ms).map partsF)⟩, cW a.CW o.wi, cFo o.wi, cD b.K s (tIn o), cDi o.d, cD b.K o.D1 o.t, cD b.K o.D2 o.u] _ _
  -- if [path for path in .. if wider.sees(path) != ..] != []:
  refine tr_ifx ?_
  refine et_cmp op_neA rfl ?_
  refine ev_lcU (own := [("path", 7)]) (g := gName 7) (sr_L ?_) ndL (blkOk_by (by show blkC lN (defScope sLaw) _ _ = true; decide +kernel)) rfl (fun s H Cc cl fp => pg_name ndL rfl (Or.inl rfl) (Or.inr rfl))
  refine ev_op op_addA ?_
  refine ev_callTy (call_listD rfl) L.zList (by decide +kernel) ?_
  refine ea_cons ?_
  refine ev_name 5 rfl ?_
  refine ea_nil ?_
  refine ok_listD (kps := sK b.K o.t) (dic_C (List.mem_of_getElem? (i := 6) rfl)) ?_
  refine ev_callTy (call_listD rfl) L.zList (by decide +kernel) ?_
  refine ea_cons ?_
  refine ev_name 6 rfl ?_
  refine ea_nil ?_
  refine ok_listD (kps := sK b.K o.u) (dic_C (List.mem_of_getElem? (i := 7) rfl)) ?_
  rw [sK_keys, sK_keys]
  refine okA_addL lst_F lst_F ?_ ?_
  · rw [List.length_map, List.length_map]
    exact Nat.le_trans (Nat.add_le_add h.tl h.ul) (by decide)
  have e1 : (o.t.map fun kv => isS kv.1) ++ (o.u.map fun kv => isS kv.1) = (o.t.map Prod.fst ++ o.u.map Prod.fst).map fun x => isS x := by rw [List.map_append, List.map_map, List.map_map]; rfl
  rw [e1]
  refine ⟨_, rfl, fun n C' acc => C' = [cFo ⟨w2, f2, dedF ((xs ++ ms).map partsF)⟩, cW a.CW ⟨w2, f2, dedF ((xs ++ ms).map partsF)⟩, cW a.CW o.wi, cFo o.wi, cD b.K s (tIn o), cDi o.d, cD b.K o.D1 o.t, cD b.K o.D2 o.u] ∧ acc = [], ⟨rfl, rfl⟩, fun _ _ _ _ => True.intro, ?_, ?_⟩
  · rintro n q Ci acc hq ⟨rfl, rfl⟩
    rw [List.getElem?_map] at hq
    obtain ⟨x, hxn, rfl⟩ := Option.map_eq_some_iff.mp hq
    have ox := key_ok h (List.mem_of_getElem? hxn)
    have hS := law_sees3 hx ms x
    refine ⟨_, tgt_name, ?_⟩
    intro s' H Cc cl fp
    refine eif_one ?_
    refine et_cmp op_neA rfl ?_
    refine ev_methS (G_sees L M) (hr.mono (by decide)) L.T.cl L.sees.mt L.sees.bd ?_
    refine ev_name 14 rfl ?_ -- wider
    refine ⟨ins_C (fns := ["folders"]) (List.mem_of_getElem? (i := 1) rfl) (by decide +kernel), ?_⟩
    refine ea_cons ?_
    refine ev_name 7 rfl ?_ -- path
    refine ea_nil ?_
    refine ⟨⟨⟨w2, f2, dedF ((xs ++ ms).map partsF)⟩, x⟩, [cW a.CW o.wi, cFo o.wi, cD b.K s (tIn o), cDi o.d, cD b.K o.D1 o.t, cD b.K o.D2 o.u], ox, rfl, perm_of fun _ c => by (simp only [pSees, List.append_eq, List.nil_append, List.cons_append, List.count_append, List.count_cons, List.count_nil]; omega), fun C' ρ ⟨e1, e2⟩ => ⟨e1, ?_⟩, fun cls C' z => z.elim⟩
    subst e2
    rw [show seesF ({ o := ⟨w2, f2, dedF ((xs ++ ms).map partsF)⟩, p := x } : SeO).o.ks (partsF ({ o := ⟨w2, f2, dedF ((xs ++ ms).map partsF)⟩, p := x } : SeO).p) = (lseesF o.fs x || lseesF ms x) from hS]
    refine ev_or ?_
    refine ev_callS (G_lsees L) (hr.mono (by decide)) L.lsees.g L.lsees.kp L.lsees.bd ?_
    refine ea_cons ?_
    refine ev_name 2 rfl ?_
    refine ea_cons ?_
    refine ev_name 7 rfl ?_
    refine ea_nil ?_
    refine ⟨(o.fs, x), _, ⟨ox.2, fun y hy => (h.fok y hy).2⟩, rfl, List.Perm.refl _, fun C' ρ ⟨e1, e2⟩ => ⟨e1, ?_⟩, fun cls C' z => z.elim⟩
    subst e2
    refine ⟨_, rfl, fun h1 => ?_, fun h1 => ?_⟩
    · refine okA_neS rfl ?_
      rw [show lseesF o.fs x = true from h1, Bool.true_or]
      exact ⟨_, rfl, fun z => absurd z (by decide), fun _ => ⟨rfl, rfl⟩⟩
    refine ev_and1 ?_
    refine ev_callS (G_lsees L) (hr.mono (by decide)) L.lsees.g L.lsees.kp L.lsees.bd ?_
    refine ea_cons ?_
    refine ev_name 13 rfl ?_
    refine ea_cons ?_
    refine ev_name 7 rfl ?_
    refine ea_nil ?_
    refine ⟨(ms, x), _, ⟨ox.2, fun y hy => (hmok y hy).2⟩, rfl, List.Perm.refl _, fun C' ρ ⟨e1, e2⟩ => ⟨e1, ?_⟩, fun cls C' z => z.elim⟩
    subst e2
    refine okA_neS rfl ?_
    rw [show lseesF o.fs x = false from h1, Bool.false_or]
    exact ⟨_, rfl, fun z => absurd z (by rw [show (!decide (V.bl (lseesF ms x) = V.bl (lseesF (ms, x).1 (ms, x).2))) = false from ne_no]; exact Bool.false_ne_true), fun _ => ⟨rfl, rfl⟩⟩
  rintro Cn acc ⟨rfl, rfl⟩
  refine ev_lst ?_
  refine ea_nil ?_
  refine ⟨by show 0 ≤ sizeLine; decide, ?_⟩
  refine okA_neT (α := List Str) (a := []) (b := []) (dat_F (a := ([] : List Str))) (dat_F (a := ([] : List Str))) (dep0 (by decide) u64) ?_
  refine ⟨_, rfl, fun z => absurd z (by decide), fun _ => ?_⟩
  refine tr_perm (C' := [cFo ⟨w2, f2, dedF ((xs ++ ms).map partsF)⟩, cW a.CW ⟨w2, f2, dedF ((xs ++ ms).map partsF)⟩] ++ LS b a o s) (by walk_at "zp") ?_
  refine tr_less (List.sublist_append_right _ _) ?_
  exact k _ ⟨_, _, _, _, _, _, _, _, _, _, _, _, _, rfl⟩
end
end K23

end
section
set_option Elab.async false
set_option linter.all false
set_option maxRecDepth 100000
open PySem PySem.Spec PyProof.Rows L2 Z
/-! short rows -/
local macro_rules | `(tactic| walk_at "zmem") => `(tactic| first
  | exact List.Mem.head _
  | exact List.Mem.tail _ (List.Mem.head _)
  | exact List.Mem.tail _ (List.Mem.tail _ (List.Mem.head _))
  | exact List.Mem.tail _ (List.Mem.tail _ (List.Mem.tail _ (List.Mem.head _)))
  | exact List.Mem.tail _ (List.Mem.tail _ (List.Mem.tail _ (List.Mem.tail _ (List.Mem.head _)))))
local macro_rules | `(tactic| walk_at "zlst") => `(tactic| first | exact lst_F | exact lst_S | exact lst_C (by walk_at "zmem") | assumption)
local macro_rules | `(tactic| walk_at "ztup") => `(tactic| first | exact tup_F | assumption)
local macro_rules | `(tactic| walk_at "zdic") => `(tactic| first | exact dic_F | exact dic_C (by walk_at "zmem") | exact dic_Z (by walk_at "zmem") | assumption)
local macro_rules | `(tactic| walk_at "zside") => `(tactic| first | assumption | decide | (show _ ≤ sizeLine; decide) | omega)
local macro_rules | `(tactic| walk_at "zadd") => `(tactic| first | refine okA_addI ?_ | refine okA_addS (by walk_at "zside") ?_ | refine okA_addL (by walk_at "zlst") (by walk_at "zlst") (by walk_at "zside") ?_)
local macro_rules | `(tactic| walk_at "zsub") => `(tactic| refine ok_rI0 ?_)
local macro_rules | `(tactic| walk_at "zmul") => `(tactic| first | refine okA_mulI (by walk_at "zside") ?_ | refine okA_mulL (by walk_at "zside") (by walk_at "zside") (by walk_at "zside") ?_)
local macro_rules | `(tactic| walk_at "zdiv") => `(tactic| refine ok_rI (by first | assumption | exact ⟨by decide, by decide⟩) ?_)
local macro_rules | `(tactic| walk_at "zmod") => `(tactic| refine ok_rI (by first | assumption | decide) ?_)
local macro_rules | `(tactic| walk_at "zpow") => `(tactic| refine ok_rI (by exact ⟨by decide, by decide, by decide⟩) ?_)
local macro_rules | `(tactic| walk_at "zlt") => `(tactic| refine ok_rI0 ?_)
local macro_rules | `(tactic| walk_at "zeq") => `(tactic| refine okA_eqS rfl ?_)
local macro_rules | `(tactic| walk_at "zne") => `(tactic| refine okA_neS rfl ?_)
local macro_rules | `(tactic| walk_at "zix") => `(tactic| first | refine okA_ixL (by walk_at "zlst") (by rfl) ?_ | refine okA_ixT (by walk_at "ztup") (by rfl) ?_ | refine okA_ixD (by walk_at "zdic") (by assumption) ?_)
local macro_rules | `(tactic| walk_at "zfld") => `(tactic| refine ⟨_, _, _, rfl, by walk_at "zmem", rfl, ?_⟩)
local macro_rules | `(tactic| walk_at "zc_len") => `(tactic| first | refine okA_lenL (by walk_at "zlst") ?_ | refine okA_lenT (by walk_at "ztup") ?_ | refine okA_lenD (by walk_at "zdic") ?_ | refine okA_lenS (by walk_at "zside") ?_)
local macro_rules | `(tactic| walk_at "zc_int") => `(tactic| first | refine ok_intI ?_ | refine ok_intB ?_)
local macro_rules | `(tactic| walk_at "zc_abs") => `(tactic| refine ok_abs ?_)
local macro_rules | `(tactic| walk_at "zc_str") => `(tactic| refine ok_strI (by walk_at "zside") ?_)
local macro_rules | `(tactic| walk_at "zso") => `(tactic| first
  | refine so_L (i := 0) rfl rfl ?_ | refine so_L (i := 1) rfl rfl ?_ | refine so_L (i := 2) rfl rfl ?_ | refine so_L (i := 3) rfl rfl ?_)
local macro_rules | `(tactic| walk_at "zuse") => `(tactic| apply et_use)
local macro_rules | `(tactic| walk_at "zev") => `(tactic| apply ev_use)
local macro_rules | `(tactic| walk_at "zand") => `(tactic| apply etp_and)
local macro_rules | `(tactic| walk_at "zor") => `(tactic| apply etp_or)
local macro_rules | `(tactic| walk_at "znot") => `(tactic| apply etp_not)
namespace K23
open PySem.W (Datum Tup)
open Rep (pr)
/-! plain laws of deeds -/
theorem vG_filt {α : Type} (f : Str → Bool) (t : List (Str × α)) (x : Str) : vG (t.filter fun e => f e.1) x = if f x = true then vG t x else none := by
  induction t with
  | nil =>
    show none = _
    split <;> rfl
  | cons p t ih =>
    rw [List.filter_cons]
    by_cases hp : f p.1 = true
    · rw [if_pos hp, vG_cons, vG_cons, ih]
      by_cases e : p.1 = x
      · rw [if_pos e, if_pos e, ← e, if_pos hp]
      · rw [if_neg e, if_neg e]
    · rw [if_neg hp, ih, vG_cons]
      by_cases e : p.1 = x
      · rw [if_pos e, ← e, if_neg hp, if_neg hp]
      · rw [if_neg e]
theorem vG_put {α : Type} (t : List (Str × α)) (x : Str) (v : α) (y : Str) : vG (pG t x v) y = if y = x then some v else vG t y := by
  have app : ∀ t : List (Str × α), (∀ p ∈ t, p.1 ≠ x) → vG (t ++ [(x, v)]) y = if y = x then some v else vG t y := by
    intro t
    induction t with
    | nil =>
      intro _
      show vG [(x, v)] y = _
      rw [vG_cons]
      by_cases e : y = x
      · rw [if_pos e, if_pos e.symm]
      · rw [if_neg e, if_neg (fun z => e z.symm)]
    | cons p t ih =>
      intro h
      rw [List.cons_append, vG_cons, vG_cons, ih fun q hq => h q (List.mem_cons_of_mem _ hq)]
      by_cases e : p.1 = y
      · rw [if_pos e, if_pos e, if_neg (fun z => h p List.mem_cons_self (by rw [e, z]))]
      · rw [if_neg e, if_neg e]
  have upd : ∀ t : List (Str × α), (∃ p ∈ t, p.1 = x) → vG (t.map fun p => if p.1 = x then (p.1, v) else p) y = if y = x then some v else vG t y := by
    intro t
    have upd0 : ∀ t : List (Str × α), y ≠ x → vG (t.map fun p => if p.1 = x then (p.1, v) else p) y = vG t y := by
      intro t hne
      induction t with
      | nil => rfl
      | cons p t ih =>
        rw [List.map_cons, vG_cons, vG_cons, ih]
        by_cases e : p.1 = x
        · rw [if_pos e]
          show (if p.1 = y then some v else _) = _
          rw [if_neg (fun z => hne (by rw [← z, e])), if_neg (fun z => hne (by rw [← z, e]))]
        · rw [if_neg e]
    intro h
    by_cases e : y = x
    · rw [if_pos e]
      subst e
      induction t with
      | nil => obtain ⟨p, hp, _⟩ := h; exact absurd hp (by simp)
      | cons p t ih =>
        rw [List.map_cons, vG_cons]
        by_cases e : p.1 = y
        · rw [if_pos e]
          show (if p.1 = y then some v else _) = _
          rw [if_pos e]
        · rw [if_neg e, if_neg e]
          refine ih ?_
          obtain ⟨q, hq, eq⟩ := h
          rcases List.mem_cons.mp hq with z | z
          · exact absurd (by rw [← z]; exact eq) e
          · exact ⟨q, z, eq⟩
    · rw [if_neg e, upd0 t e]
  unfold pG
  by_cases h : (t.any fun p => decide (p.1 = x)) = true
  · rw [if_pos h]
    obtain ⟨p, hp, e⟩ := List.any_eq_true.mp h
    exact upd t ⟨p, hp, of_decide_eq_true e⟩
  · rw [if_neg h]
    exact app t fun p hp e => h (List.any_eq_true.mpr ⟨p, hp, decide_eq_true e⟩)
theorem rowD_mem {ks : List (List Str)} {t u : TbO} {y : Str} {r : Str × Str} (h : r ∈ rowD ks t u y) : r.2 = y ∧ seesF ks (partsF y) = true ∧ vG t y ≠ vG u y ∧ r.1 = (if (vG u y).isSome then ("put" : Str) else "take") := by
  unfold rowD at h
  split at h
  · next q =>
    rw [Bool.and_eq_true] at q
    rw [List.mem_singleton.mp h]
    exact ⟨rfl, q.1, of_decide_eq_true q.2, rfl⟩
  · exact absurd h (by simp)
theorem rowD_yes {ks : List (List Str)} {t u : TbO} {y : Str} (h1 : seesF ks (partsF y) = true) (h2 : vG t y ≠ vG u y) : rowD ks t u y = [(if (vG u y).isSome then ("put" : Str) else "take", y)] := by
  unfold rowD
  rw [if_pos (by rw [h1, decide_eq_true h2]; rfl)]
theorem deeds_row {ks : List (List Str)} {t u : TbO} {r : Str × Str} (h : r ∈ deedsF ks t u) : seesF ks (partsF r.2) = true ∧ vG t r.2 ≠ vG u r.2 ∧ r.1 = (if (vG u r.2).isSome then ("put" : Str) else "take") := by
  unfold deedsF at h
  obtain ⟨y, _, hy⟩ := List.mem_flatMap.mp h
  obtain ⟨e, h1, h2, h3⟩ := rowD_mem hy
  rw [e]
  exact ⟨h1, h2, h3⟩
section
variable {ks : List (List Str)} {t u : TbO}
theorem srt_perm (hex : ∃ ys : List Str, ys.Perm ((keysD t u).map Prod.fst) ∧ sortedS ys = true) : (srtT ((keysD t u).map Prod.fst)).Perm ((keysD t u).map Prod.fst) ∧ sortedS (srtT ((keysD t u).map Prod.fst)) = true := by
  obtain ⟨ys, h1, h2⟩ := hex
  rw [← srtT_of h1 h2]
  exact ⟨h1, h2⟩
theorem deeds_mem (hex : ∃ ys : List Str, ys.Perm ((keysD t u).map Prod.fst) ∧ sortedS ys = true) {x : Str} (h1 : seesF ks (partsF x) = true) (h2 : vG t x ≠ vG u x) : x ∈ (deedsF ks t u).map Prod.snd := by
  have hk : x ∈ (keysD t u).map Prod.fst := by
    rw [keysD_mem]
    by_cases a : x ∈ t.map Prod.fst
    · exact .inl a
    · by_cases b : x ∈ u.map Prod.fst
      · exact .inr b
      · exact absurd (by rw [vG_notS a, vG_notS b]) h2
  refine List.mem_map.mpr ⟨(if (vG u x).isSome then ("put" : Str) else "take", x), List.mem_flatMap.mpr ⟨x, (srt_perm hex).1.mem_iff.mpr hk, ?_⟩, rfl⟩
  rw [rowD_yes h1 h2]
  exact List.mem_singleton.mpr rfl
theorem rows_snd (l : List Str) : (l.flatMap (rowD ks t u)).map Prod.snd = l.filter fun y => (seesF ks (partsF y) && decide (vG t y ≠ vG u y)) := by
  induction l with
  | nil => rfl
  | cons y l ih =>
    rw [List.flatMap_cons, List.map_append, ih, List.filter_cons]
    by_cases h : (seesF ks (partsF y) && decide (vG t y ≠ vG u y)) = true
    · rw [if_pos h]
      unfold rowD
      rw [if_pos h]
      rfl
    · rw [if_neg h]
      unfold rowD
      rw [if_neg h]
      rfl
theorem pGs_nd : ∀ (l : List Str) (acc : List (Str × Bool)), (acc.map Prod.fst).Nodup → ((pGs acc (l.map fun x => (x, true))).map Prod.fst).Nodup
  | [], acc, h => h
  | x :: l, acc, h => by
    show ((pGs (pG acc x true) (l.map fun x => (x, true))).map Prod.fst).Nodup
    refine pGs_nd l _ ?_
    unfold pG
    by_cases hh : (acc.any fun p => decide (p.1 = x)) = true
    · rw [if_pos hh, List.map_map]
      have e2 : (Prod.fst ∘ fun p : Str × Bool => if p.1 = x then (p.1, true) else p) = Prod.fst := by
        funext p
        show (if p.1 = x then (p.1, true) else p).1 = p.1
        split <;> rfl
      rw [e2]
      exact h
    · rw [if_neg hh, List.map_append, List.nodup_append]
      refine ⟨h, by simp, fun a ha b hb e => hh ?_⟩
      obtain ⟨p, hp, rfl⟩ := List.mem_map.mp ha
      rw [List.map_cons, List.map_nil, List.mem_singleton] at hb
      exact List.any_eq_true.mpr ⟨p, hp, decide_eq_true (by rw [e, hb])⟩
theorem deeds_nd (hex : ∃ ys : List Str, ys.Perm ((keysD t u).map Prod.fst) ∧ sortedS ys = true) : ((deedsF ks t u).map Prod.snd).Nodup := by
  unfold deedsF
  rw [rows_snd]
  have nk : ((keysD t u).map Prod.fst).Nodup := pGs_nd _ [] List.Pairwise.nil
  exact ((srt_perm hex).1.nodup_iff.mpr nk).sublist List.filter_sublist
theorem deeds_sorted (hex : ∃ ys : List Str, ys.Perm ((keysD t u).map Prod.fst) ∧ sortedS ys = true) {zs : List Str} (hp : zs.Perm ((deedsF ks t u).map Prod.snd)) (hs : sortedS zs = true) : zs = (deedsF ks t u).map Prod.snd := by
  refine sort_uniq hp (sortedS_all hs) ?_
  unfold deedsF
  rw [rows_snd]
  exact (sortedS_all (srt_perm hex).2).sublist List.filter_sublist
theorem deeds_len (hex : ∃ ys : List Str, ys.Perm ((keysD t u).map Prod.fst) ∧ sortedS ys = true) : (deedsF ks t u).length ≤ t.length + u.length := by
  have h1 := flat_len (rowD_len ks t u) (srtT ((keysD t u).map Prod.fst))
  rw [(srt_perm hex).1.length_eq] at h1
  exact Nat.le_trans h1 (keysD_len t u)
/-- the table under way -/
structure HOk (ks : List (List Str)) (t u : TbO) (n : Nat) (hh : TbO) : Prop where
  nd : (hh.map Prod.fst).Nodup
  len : hh.length ≤ t.length + n
  at_ : ∀ x, vG hh x = if x ∈ ((deedsF ks t u).take n).map Prod.snd then vG u x else if seesF ks (partsF x) = true then vG t x else none
theorem hok0 (nt : (t.map Prod.fst).Nodup) : HOk ks t u 0 (t.filter (inW ks)) := ⟨nd_filt nt, List.length_filter_le _ _, fun x => by
  rw [List.take_zero, if_neg (by simp)]
  exact vG_filt (fun y => seesF ks (partsF y)) t x⟩
theorem hok_at {n : Nat} {hh : TbO} (h : HOk ks t u n hh) (hex : ∃ ys : List Str, ys.Perm ((keysD t u).map Prod.fst) ∧ sortedS ys = true) {wd x : Str} (hr : (deedsF ks t u)[n]? = some (wd, x)) : vG hh x = vG t x ∧ ∀ y, (y ∈ ((deedsF ks t u).take (n + 1)).map Prod.snd) = (y ∈ ((deedsF ks t u).take n).map Prod.snd ∨ y = x) := by
  have hs := (deeds_row (List.mem_of_getElem? hr)).1
  have hs : seesF ks (partsF x) = true := hs
  constructor
  · rw [h.at_ x, if_neg, if_pos hs]
    intro z
    obtain ⟨r, h1, h2⟩ := List.mem_map.mp z
    have hr' : ((deedsF ks t u).map fun r => (r.2, r.1))[n]? = some (x, wd) := by rw [List.getElem?_map, hr]; rfl
    have nd' : (((deedsF ks t u).map fun r => (r.2, r.1)).map Prod.fst).Nodup := by rw [List.map_map]; exact deeds_nd hex
    refine nd_not nd' hr' (r.2, r.1) ?_ h2
    rw [← List.map_take]
    exact List.mem_map.mpr ⟨r, h1, rfl⟩
  · intro y
    rw [List.take_add_one, hr, List.map_append]
    simp
theorem hok_take {n : Nat} {hh : TbO} (h : HOk ks t u n hh) (hex : ∃ ys : List Str, ys.Perm ((keysD t u).map Prod.fst) ∧ sortedS ys = true) {wd x : Str} (hr : (deedsF ks t u)[n]? = some (wd, x)) (hw : vG u x = none) : HOk ks t u (n + 1) (hh.filter fun e => decide (e.1 ≠ x)) := by
  obtain ⟨h1, h2⟩ := hok_at h hex hr
  refine ⟨nd_filt h.nd, Nat.le_trans (List.length_filter_le _ _) (Nat.le_trans h.len (by omega)), fun y => ?_⟩
  rw [vG_filt (fun y => decide (y ≠ x)) hh y]
  by_cases e : y = x
  · subst e
    rw [if_neg (by simp), if_pos (by rw [h2]; exact .inr rfl), hw]
  · rw [if_pos (decide_eq_true e), h.at_ y]
    by_cases z : y ∈ ((deedsF ks t u).take n).map Prod.snd
    · rw [if_pos z, if_pos (by rw [h2]; exact .inl z)]
    · have hz : y ∉ ((deedsF ks t u).take (n + 1)).map Prod.snd := by
        rw [h2]
        rintro (q | q)
        · exact z q
        · exact e q
      rw [if_neg z, if_neg hz]
theorem hok_put {n : Nat} {hh : TbO} (h : HOk ks t u n hh) (hex : ∃ ys : List Str, ys.Perm ((keysD t u).map Prod.fst) ∧ sortedS ys = true) {wd x : Str} (hr : (deedsF ks t u)[n]? = some (wd, x)) {v : Tup Str} (hw : vG u x = some v) : HOk ks t u (n + 1) (pG hh x v) := by
  obtain ⟨h1, h2⟩ := hok_at h hex hr
  have ndp : ((pG hh x v).map Prod.fst).Nodup := by
    unfold pG
    by_cases hh' : (hh.any fun p => decide (p.1 = x)) = true
    · rw [if_pos hh', List.map_map]
      have e2 : (Prod.fst ∘ fun p : Str × Tup Str => if p.1 = x then (p.1, v) else p) = Prod.fst := by
        funext p
        show (if p.1 = x then (p.1, v) else p).1 = p.1
        split <;> rfl
      rw [e2]
      exact h.nd
    · rw [if_neg hh', List.map_append, List.nodup_append]
      refine ⟨h.nd, by simp, fun a ha b hb e => hh' ?_⟩
      obtain ⟨p, hp, rfl⟩ := List.mem_map.mp ha
      rw [List.map_cons, List.map_nil, List.mem_singleton] at hb
      exact List.any_eq_true.mpr ⟨p, hp, decide_eq_true (by rw [e, hb])⟩
  refine ⟨ndp, Nat.le_trans (pG_len _ _ _) (Nat.succ_le_succ h.len), fun y => ?_⟩
  rw [vG_put]
  by_cases e : y = x
  · subst e
    rw [if_pos rfl, if_pos (by rw [h2]; exact .inr rfl), hw]
  · rw [if_neg e, h.at_ y]
    by_cases z : y ∈ ((deedsF ks t u).take n).map Prod.snd
    · rw [if_pos z, if_pos (by rw [h2]; exact .inl z)]
    · have hz : y ∉ ((deedsF ks t u).take (n + 1)).map Prod.snd := by
        rw [h2]
        rintro (q | q)
        · exact z q
        · exact e q
      rw [if_neg z, if_neg hz]
theorem hok_end {hh : TbO} (h : HOk ks t u (deedsF ks t u).length hh) (nu : (u.map Prod.fst).Nodup) (hex : ∃ ys : List Str, ys.Perm ((keysD t u).map Prod.fst) ∧ sortedS ys = true) : eqS hh (u.filter (inW ks)) = true := by
  refine eqS_perm h.nd (perm_of_vG h.nd (nd_filt nu) fun x => ?_)
  rw [h.at_ x, List.take_length, show vG (u.filter (inW ks)) x = _ from vG_filt (fun y => seesF ks (partsF y)) u x]
  by_cases hs : seesF ks (partsF x) = true
  · rw [if_pos hs, if_pos hs]
    by_cases z : x ∈ (deedsF ks t u).map Prod.snd
    · rw [if_pos z]
    · rw [if_neg z]
      by_cases e : vG t x = vG u x
      · exact e
      · exact absurd (deeds_mem hex hs e) z
  · rw [if_neg hs, if_neg hs, if_neg]
    intro z
    obtain ⟨r, h1, h2⟩ := List.mem_map.mp z
    have := (deeds_row h1).1
    rw [h2] at this
    exact hs this
end
end K23

end
section
set_option Elab.async false
set_option linter.all false
set_option maxRecDepth 100000
open PySem PySem.Spec PyProof.Rows L2 Z
/-! short rows -/
local macro_rules | `(tactic| walk_at "zmem") => `(tactic| first
  | exact List.Mem.head _
  | exact List.Mem.tail _ (List.Mem.head _)
  | exact List.Mem.tail _ (List.Mem.tail _ (List.Mem.head _))
  | exact List.Mem.tail _ (List.Mem.tail _ (List.Mem.tail _ (List.Mem.head _)))
  | exact List.Mem.tail _ (List.Mem.tail _ (List.Mem.tail _ (List.Mem.tail _ (List.Mem.head _)))))
local macro_rules | `(tactic| walk_at "zlst") => `(tactic| first | exact lst_F | exact lst_S | exact lst_C (by walk_at "zmem") | assumption)
local macro_rules | `(tactic| walk_at "ztup") => `(tactic| first | exact tup_F | assumption)
local macro_rules | `(tactic| walk_at "zdic") => `(tactic| first | exact dic_F | exact dic_C (by walk_at "zmem") | exact dic_Z (by walk_at "zmem") | assumption)
local macro_rules | `(tactic| walk_at "zside") => `(tactic| first | assumption | decide | (show _ ≤ sizeLine; decide) | omega)
local macro_rules | `(tactic| walk_at "zadd") => `(tactic| first | refine okA_addI ?_ | refine okA_addS (by walk_at "zside") ?_ | refine okA_addL (by walk_at "zlst") (by walk_at "zlst") (by walk_at "zside") ?_)
local macro_rules | `(tactic| walk_at "zsub") => `(tactic| refine ok_rI0 ?_)
local macro_rules | `(tactic| walk_at "zmul") => `(tactic| first | refine okA_mulI (by walk_at "zside") ?_ | refine okA_mulL (by walk_at "zside") (by walk_at "zside") (by walk_at "zside") ?_)
local macro_rules | `(tactic| walk_at "zdiv") => `(tactic| refine ok_rI (by first | assumption | exact ⟨by decide, by decide⟩) ?_)
local macro_rules | `(tactic| walk_at "zmod") => `(tactic| refine ok_rI (by first | assumption | decide) ?_)
local macro_rules | `(tactic| walk_at "zpow") => `(tactic| refine ok_rI (by exact ⟨by decide, by decide, by decide⟩) ?_)
local macro_rules | `(tactic| walk_at "zlt") => `(tactic| refine ok_rI0 ?_)
local macro_rules | `(tactic| walk_at "zeq") => `(tactic| refine okA_eqS rfl ?_)
local macro_rules | `(tactic| walk_at "zne") => `(tactic| refine okA_neS rfl ?_)
local macro_rules | `(tactic| walk_at "zix") => `(tactic| first | refine okA_ixL (by walk_at "zlst") (by rfl) ?_ | refine okA_ixT (by walk_at "ztup") (by rfl) ?_ | refine okA_ixD (by walk_at "zdic") (by assumption) ?_)
local macro_rules | `(tactic| walk_at "zfld") => `(tactic| refine ⟨_, _, _, rfl, by walk_at "zmem", rfl, ?_⟩)
local macro_rules | `(tactic| walk_at "zc_len") => `(tactic| first | refine okA_lenL (by walk_at "zlst") ?_ | refine okA_lenT (by walk_at "ztup") ?_ | refine okA_lenD (by walk_at "zdic") ?_ | refine okA_lenS (by walk_at "zside") ?_)
local macro_rules | `(tactic| walk_at "zc_int") => `(tactic| first | refine ok_intI ?_ | refine ok_intB ?_)
local macro_rules | `(tactic| walk_at "zc_abs") => `(tactic| refine ok_abs ?_)
local macro_rules | `(tactic| walk_at "zc_str") => `(tactic| refine ok_strI (by walk_at "zside") ?_)
local macro_rules | `(tactic| walk_at "zso") => `(tactic| first
  | refine so_L (i := 0) rfl rfl ?_ | refine so_L (i := 1) rfl rfl ?_ | refine so_L (i := 2) rfl rfl ?_ | refine so_L (i := 3) rfl rfl ?_)
local macro_rules | `(tactic| walk_at "zuse") => `(tactic| apply et_use)
local macro_rules | `(tactic| walk_at "zev") => `(tactic| apply ev_use)
local macro_rules | `(tactic| walk_at "zand") => `(tactic| apply etp_and)
local macro_rules | `(tactic| walk_at "zor") => `(tactic| apply etp_or)
local macro_rules | `(tactic| walk_at "znot") => `(tactic| apply etp_not)
namespace K23
open PySem.W (Datum Tup)
open Rep (pr)
theorem sK_drop {K : PySem.W.Frag} (t : TbO) (x : Str) : dP (sK K t) (.inr x) = sK K (t.filter fun e => decide (e.1 ≠ x)) := by
  unfold dP sK
  rw [List.filter_map]
  congr 1
  refine List.filter_congr fun e _ => ?_
  show decide ((Sum.inr e.1 : Key) ≠ Sum.inr x) = decide (e.1 ≠ x)
  exact decide_eq_decide.mpr ⟨fun h z => h (by rw [z]), fun h z => h (inr_injS _ _ z)⟩
abbrev rowP (K : PySem.W.Frag) (r : Str × Str) : Pr := rT K [isS r.1, isS r.2]
noncomputable abbrev LO.rows (o : LO) : List (Str × Str) := deedsF o.ks o.t o.u
abbrev HexO (o : LO) : Prop := ∃ ys : List Str, ys.Perm ((keysD o.t o.u).map Prod.fst) ∧ sortedS ys = true
def GS2 (b : Bn) (ns : List Int) (o : LO) (s he : Addr) (Γ : Gm) : Prop := ∃ x3 x7 x9 x10 x11 x12 x13 x14 x17 x18 x19 : Option Pr, Γ = [some (rLs b.K (ns.map isI)), some (isR o.d), some (rL (o.fs.map fun x => isS x)), x3, some (isR o.w), some (isR o.D1), some (isR o.D2), x7, some (isR s), x9, x10, x11, x12, x13, x14, some (rT b.K (o.rows.map fun r => rT b.K [isS r.1, isS r.2])), some (isR he), x17, x18, x19]
local macro_rules | `(tactic| walk_at "zp") => `(tactic| exact perm_of fun _ c => by (simp only [LS, LB, LO.wi, LO.ks, LW, LD, pInit, pFiles, pFolder, pRoll, pSees, pLsees, pLook, pWith, pWider, pDeeds, p0, List.append_eq, List.nil_append, List.cons_append, List.count_append, List.count_cons, List.count_nil]; omega))
section
variable {b : Bn} {a : Ads} {ns : List Int} {P : Po}
theorem roundG (L : LawT b.K b.mg b.base a) {c Pt : Addr} (M : LamT b a c Pt) (hr : Room 20 b.j.X.A) (own : PassesOwn (model b.j.X.prog b.j.X.w) b.j.X.A b.j.X.env b.j.X.xe) {o : LO} (h : o.Ok) {s : Addr} {Γ : Gm} (g : GS1 b ns o s Γ) (k : ∀ he hh Γ, HexO o → HOk o.ks o.t o.u o.rows.length hh → GS2 b ns o s he Γ → Tr b.j Γ (cD b.K he hh :: LS b a o s) (lRound.drop 16) P) : Tr b.j Γ (LS b a o s) (lRound.drop 14) P := by
  obtain ⟨x3, x7, x9, x10, x11, x12, x13, x14, x15, x16, x17, x18, x19, rfl⟩ := g
  have u1 := hu_of hr
  have u64 := hr.units
  have tl := h.tl
  have ul := h.ul
  -- deeds, here = ..
  refine tr_par 15 16 ?_ rfl ndL (by decide)
  refine ea_cons ?_
  refine ev_meth (G_deeds L M) (hr.mono (by decide)) L.T.cl L.deeds.mt L.deeds.bd ?_
  refine ev_name 4 rfl ?_
  refine ⟨ins_C (fns := ["folders"]) (List.mem_of_getElem? (i := 2) rfl) (by decide +kernel), ?_⟩
  refine ea_cons ?_
  refine ev_name 5 rfl ?_
  refine ea_cons ?_
  refine ev_name 6 rfl ?_
  refine ea_nil ?_
  refine ⟨⟨o.wi, o.D1, o.t, o.D2, o.u⟩, [cD b.K s (tIn o), cDi o.d], ⟨⟨⟨h.nt, by show o.t.length < 60; omega⟩, h.tok⟩, ⟨⟨h.nu, by show o.u.length < 60; omega⟩, h.uok⟩, by show o.t.length + o.u.length < 60; omega⟩, rfl, by walk_at "zp", fun C' ρ z => ?_, fun cls C' z => z.elim⟩
  obtain ⟨⟨⟨D, kk, m, l, rfl⟩, hex⟩, rfl⟩ := z
  have hex : HexO o := hex
  refine ea_cons ?_
  refine ev_callTy call_dictD L.zDict (by decide +kernel) ?_
  refine ea_cons ?_
  refine ev_name 8 rfl ?_ -- seen
  refine ea_nil ?_
  refine ok_dictD (kps := sK b.K (tIn o)) (dic_C (List.mem_of_getElem? (i := 6) rfl)) fun he => ?_
  refine ea_nil ?_
  refine ⟨_, _, rfl, ?_⟩
  show Tr b.j _ [cD b.K he (tIn o), cK D kk, cL m l, cW a.CW o.wi, cFo o.wi, cD b.K o.D1 o.t, cD b.K o.D2 o.u, cD b.K s (tIn o), cDi o.d] _ _
  refine tr_perm (C' := [cK D kk, cL m l] ++ cD b.K he (tIn o) :: LS b a o s) (by walk_at "zp") ?_
  refine tr_less (List.sublist_append_right _ _) ?_
  -- for word, path in deeds:
  have hlen : o.rows.length ≤ o.t.length + o.u.length := deeds_len (ks := o.ks) hex
  refine tr_forU (fun n Γ C => n ≤ o.rows.length ∧ ∃ hh, HOk o.ks o.t o.u n hh ∧ C = cD b.K he hh :: LS b a o s ∧ GS2 b ns o s he Γ) (fun Γ C => ∃ hh, HOk o.ks o.t o.u o.rows.length hh ∧ C = cD b.K he hh :: LS b a o s ∧ GS2 b ns o s he Γ) ?_ (fun Γ C ⟨hh, h1, e, g⟩ => by subst e; exact k he hh Γ hex h1 g) own rfl
  refine sr_T ?_
  refine ev_name 15 rfl ?_
  refine ⟨_, rfl, ⟨Nat.zero_le _, tIn o, hok0 h.nt, rfl, _, _, _, _, _, _, _, _, _, _, _, rfl⟩, fun _ _ _ _ => True.intro, fun n q Γ C hq hI => ?_, fun Γ C hI => ?_⟩
  · obtain ⟨hn, hh, hk, rfl, x3, x7, x9, x10, x11, x12, x13, x14, x17, x18, x19, rfl⟩ := hI
    rw [List.getElem?_map] at hq
    obtain ⟨⟨wd, x⟩, hx, rfl⟩ := Option.map_eq_some_iff.mp hq
    have hnl : n < o.rows.length := (List.getElem?_eq_some_iff.mp hx).1
    obtain ⟨d1, d2, d3⟩ := deeds_row (List.mem_of_getElem? hx)
    have d2 : vG o.t x ≠ vG o.u x := d2
    have d3 : wd = (if (vG o.u x).isSome then ("put" : Str) else "take") := d3
    obtain ⟨a1, _⟩ := hok_at hk hex hx
    refine eg_tup rfl tup_F rfl ?_
    refine egl_cons ?_
    refine eg_name 17 ?_ ndL
    refine egl_cons ?_
    refine eg_name 7 ?_ ndL
    refine egl_nil ?_
    refine tr_if (fun Γ C => (n + 1) ≤ o.rows.length ∧ ∃ hh, HOk o.ks o.t o.u (n + 1) hh ∧ C = cD b.K he hh :: LS b a o s ∧ GS2 b ns o s he Γ) ?_ fun Γ C h => tr_nil h
    refine et_cmp op_eqA rfl ?_
    refine ev_name 17 rfl ?_
    refine ev_str ?_
    refine okA_eqS rfl ?_
    cases hu : vG o.u x with
    | none =>
      rw [hu] at d3
      have d3 : wd = "take" := d3
      subst d3
      refine ⟨_, rfl, fun _ => ?_, fun z => absurd (of_decide_eq_false z) (fun q => q rfl)⟩
      cases ht : vG o.t x with
      | none => exact absurd (by rw [ht, hu]) d2
      | some v =>
        refine tr_expr ?_
        refine ev_dpop1 ?_ ⟨rfl, rfl, rfl, rfl⟩
        refine ev_name 16 rfl ?_
        refine ⟨he, sK b.K hh, rfl, List.Mem.head _, ?_⟩
        refine ev_name 7 rfl ?_
        refine ⟨sK b.K hh, .inr x, 0, pr b.K v, rfl, rfl, by rw [sK_get, a1, ht]; rfl, ?_⟩
        rw [sK_drop]
        exact tr_nil ⟨hnl, _, hok_take hk hex hx hu, rfl, _, _, _, _, _, _, _, _, _, _, _, rfl⟩
    | some v =>
      rw [hu] at d3
      have d3 : wd = "put" := d3
      subst d3
      refine ⟨_, rfl, fun z => absurd (of_decide_eq_true z) (show ¬ V.str "put" = V.str "take" by decide), fun _ => ?_⟩
      refine tr_sput u1 ?_
      refine ev_ix (ix_all u1) ?_
      refine ev_name 6 rfl ?_
      refine ev_name 7 rfl ?_
      refine okA_ixD (k := .inr x) (kps := sK b.K o.u) (dic_C (List.mem_of_getElem? (i := 6) rfl)) (by rw [sK_get, hu]; rfl) ?_
      refine ev_name 16 rfl ?_
      refine ev_name 7 rfl ?_
      refine so_D (i := 0) (k := .inr x) (kps := sK b.K hh) rfl ?_ ?_
      · rw [sK_len]
        have := hk.len
        exact Nat.lt_of_le_of_lt (show _ ≤ 60 by omega) (by decide)
      refine tr_nil ⟨hnl, pG hh x v, hok_put hk hex hx hu, ?_, _, _, _, _, _, _, _, _, _, _, _, rfl⟩
      show [cK he (pP (sK b.K hh) (.inr x) (pr b.K v))] ++ LS b a o s = _
      rw [sK_put]
      rfl
  · obtain ⟨hn, hh, hk, rfl, hg⟩ := hI
    rw [List.length_map] at hk
    exact ⟨hh, hk, rfl, hg⟩
theorem roundH (L : LawT b.K b.mg b.base a) {c Pt : Addr} (M : LamT b a c Pt) (hr : Room 20 b.j.X.A) {o : LO} (h : o.Ok) {s he : Addr} {hh : TbO} (hex : HexO o) (hk : HOk o.ks o.t o.u o.rows.length hh) {Γ : Gm} (g : GS2 b ns o s he Γ) (k : ∀ Γ' C', GamAny Γ' → P.nx Γ' C') : Tr b.j Γ (cD b.K he hh :: LS b a o s) (lRound.drop 16) P := by
  obtain ⟨x3, x7, x9, x10, x11, x12, x13, x14, x17, x18, x19, rfl⟩ := g
  have u1 := hu_of hr
  have u64 := hr.units
  have tl := h.tl
  have ul := h.ul
  have hlen : o.rows.length ≤ o.t.length + o.u.length := deeds_len (ks := o.ks) hex
  refine tr_ifx ?_
  refine et_w ?_
  refine etw_or ?_
  refine et_cmp op_neDd rfl ?_
  refine ev_name 16 rfl ?_ -- here
  refine ev_meth (G_look L M) (hr.mono (by decide)) L.T.cl L.look.mt L.look.bd ?_
  refine ev_name 4 rfl ?_ -- window
  refine ⟨ins_C (fns := ["folders"]) (List.mem_of_getElem? (i := 3) rfl) (by decide +kernel), ?_⟩
  refine ea_cons ?_
  refine ev_name 6 rfl ?_ -- other
  refine ea_nil ?_
  refine ⟨⟨o.wi, o.D2, o.u⟩, [cD b.K he hh, cD b.K s (tIn o), cDi o.d, cD b.K o.D1 o.t], ⟨⟨h.nu, by show o.u.length < 60; omega⟩, h.uok⟩, rfl, by walk_at "zp", fun C' ρ z => ?_, fun cls C' z => z.elim⟩
  obtain ⟨D, rfl, rfl⟩ := z
  refine ok_neD (t := hh) (u := uIn o) (dic_C (List.mem_of_getElem? (i := 4) rfl)) (dic_C (List.mem_of_getElem? (i := 0) rfl)) (dep1 (by decide) u64) ?_
  rw [hok_end hk h.nu hex]
  refine ⟨_, rfl, fun z => absurd z (by decide), fun _ => ?_⟩
  show Etw b.j _ [cD b.K D (uIn o), cW a.CW o.wi, cFo o.wi, cD b.K o.D2 o.u, cD b.K he hh, cD b.K s (tIn o), cDi o.d, cD b.K o.D1 o.t] _ _
  generalize hC : [cD b.K D (uIn o), cW a.CW o.wi, cFo o.wi, cD b.K o.D2 o.u, cD b.K he hh, cD b.K s (tIn o), cDi o.d, cD b.K o.D1 o.t] = CC
  have m1 : cD b.K o.D1 o.t ∈ CC := by rw [← hC]; exact List.mem_of_getElem? (i := 7) rfl
  have m2 : cD b.K o.D2 o.u ∈ CC := by rw [← hC]; exact List.mem_of_getElem? (i := 3) rfl
  clear hC
  refine etw_or ?_
  refine et_cmp op_neA rfl ?_
  refine ev_lcU (own := [("row", 18)]) (g := gName 18) (sr_T ?_) ndL (blkOk_by (by show blkC lN (defScope sLaw) _ _ = true; decide +kernel)) rfl (fun s H Cc cl fp => pg_name ndL rfl (Or.inl rfl) (Or.inr rfl))
  refine ev_name 15 rfl ?_
  refine ⟨_, rfl, fun n C' acc => C' = CC ∧ acc = ((o.rows.take n).map Prod.snd).map fun x => isS x, ⟨rfl, rfl⟩, fun _ _ _ _ => True.intro, ?_, ?_⟩
  · rintro n q Ci acc hq ⟨rfl, rfl⟩
    rw [List.getElem?_map] at hq
    obtain ⟨⟨wd, x⟩, hx, rfl⟩ := Option.map_eq_some_iff.mp hq
    have tk : ((o.rows.take (n + 1)).map Prod.snd).map (fun x => isS x) = ((o.rows.take n).map Prod.snd).map (fun x => isS x) ++ [isS x] := by rw [List.take_add_one, hx, List.map_append, List.map_append]; rfl
    refine ⟨_, tgt_name, ?_⟩
    intro s' H Cc cl fp
    refine eif_no ⟨fun _ => ?_, fun z => nomatch z⟩
    intro s' H Cc cl fp
    refine ev_ix (ix_all (hu_of hr)) ?_
    refine ev_name 18 rfl ?_
    refine ev_int ?_
    refine okA_ixT (ps := [isS wd, isS x]) (q := isS x) tup_F rfl ?_
    refine ⟨?_, rfl, by rw [tk]⟩
    rw [List.length_map, List.length_map]
    exact Nat.lt_of_le_of_lt (Nat.le_trans (List.length_take_le' _ _) hlen) (Nat.lt_of_le_of_lt (show _ ≤ 60 by omega) (by decide))
  rintro Cn acc ⟨hcn, rfl⟩
  rw [hcn]
  clear hcn Cn
  rw [List.length_map, List.take_length]
  refine ev_callB cr_sortedS L.zSorted (by decide +kernel) ?_
  refine ea_cons ?_
  refine ev_lcU (own := [("row", 18)]) (g := gName 18) (sr_T ?_) ndL (blkOk_by (by show blkC lN (defScope sLaw) _ _ = true; decide +kernel)) rfl (fun s H Cc cl fp => pg_name ndL rfl (Or.inl rfl) (Or.inr rfl))
  refine ev_name 15 rfl ?_
  refine ⟨_, rfl, fun n C' acc => C' = CC ∧ acc = ((o.rows.take n).map Prod.snd).map fun x => isS x, ⟨rfl, rfl⟩, fun _ _ _ _ => True.intro, ?_, ?_⟩
  · rintro n q Ci acc hq ⟨rfl, rfl⟩
    rw [List.getElem?_map] at hq
    obtain ⟨⟨wd, x⟩, hx, rfl⟩ := Option.map_eq_some_iff.mp hq
    have tk : ((o.rows.take (n + 1)).map Prod.snd).map (fun x => isS x) = ((o.rows.take n).map Prod.snd).map (fun x => isS x) ++ [isS x] := by rw [List.take_add_one, hx, List.map_append, List.map_append]; rfl
    refine ⟨_, tgt_name, ?_⟩
    intro s' H Cc cl fp
    refine eif_no ⟨fun _ => ?_, fun z => nomatch z⟩
    intro s' H Cc cl fp
    refine ev_ix (ix_all (hu_of hr)) ?_
    refine ev_name 18 rfl ?_
    refine ev_int ?_
    refine okA_ixT (ps := [isS wd, isS x]) (q := isS x) tup_F rfl ?_
    refine ⟨?_, rfl, by rw [tk]⟩
    rw [List.length_map, List.length_map]
    exact Nat.lt_of_le_of_lt (Nat.le_trans (List.length_take_le' _ _) hlen) (Nat.lt_of_le_of_lt (show _ ≤ 60 by omega) (by decide))
  rintro Cn acc ⟨hcn, rfl⟩
  rw [hcn]
  clear hcn Cn
  rw [List.length_map, List.take_length]
  refine ea_nil ?_
  refine ok_sortedL lst_F ?_ fun zs hp hz => ?_
  · rw [List.length_map]
    exact Nat.lt_of_le_of_lt hlen (by omega)
  have hzs := deeds_sorted (ks := o.ks) hex hp hz
  rw [hzs]
  refine okA_neT (α := List Str) (a := o.rows.map Prod.snd) (b := o.rows.map Prod.snd) (dat_F (a := o.rows.map Prod.snd)) (dat_F (a := o.rows.map Prod.snd)) (dep0 (by decide) u64) ?_
  refine ⟨_, rfl, fun z => absurd rfl (of_decide_eq_true z), fun _ => ?_⟩
  refine etw_or1 ?_
  refine et_cmp op_neA rfl ?_
  refine ev_lcU (own := [("row", 18)]) (g := gName 18) (sr_T ?_) ndL (blkOk_by (by show blkC lN (defScope sLaw) _ _ = true; decide +kernel)) rfl (fun s H Cc cl fp => pg_name ndL rfl (Or.inl rfl) (Or.inr rfl))
  refine ev_name 15 rfl ?_
  refine ⟨_, rfl, fun n C' acc => C' = CC ∧ acc = [], ⟨rfl, rfl⟩, fun _ _ _ _ => True.intro, ?_, ?_⟩
  · rintro n q Ci acc hq ⟨rfl, rfl⟩
    rw [List.getElem?_map] at hq
    obtain ⟨⟨wd, x⟩, hx, rfl⟩ := Option.map_eq_some_iff.mp hq
    obtain ⟨d1, d2, d3⟩ := deeds_row (List.mem_of_getElem? hx)
    have d2 : vG o.t x ≠ vG o.u x := d2
    refine ⟨_, tgt_name, ?_⟩
    intro s' H Cc cl fp
    refine eif_one ?_
    refine et_cmp op_eqA rfl ?_
    refine ev_dget1 (hu_of hr) ?_ ⟨rfl, rfl, rfl, rfl⟩
    refine ev_name 5 rfl ?_ -- files
    refine ⟨sK b.K o.t, dic_C m1, ?_⟩
    refine ev_ix (ix_all (hu_of hr)) ?_
    refine ev_name 18 rfl ?_
    refine ev_int ?_
    refine okA_ixT (ps := [isS wd, isS x]) (q := isS x) tup_F rfl ?_
    refine ⟨sK b.K o.t, .inr x, dic_C m1, rfl, ?_⟩
    rw [sK_get, ← pr_opt]
    refine ev_dget1 (hu_of hr) ?_ ⟨rfl, rfl, rfl, rfl⟩
    refine ev_name 6 rfl ?_ -- other
    refine ⟨sK b.K o.u, dic_C m2, ?_⟩
    refine ev_ix (ix_all (hu_of hr)) ?_
    refine ev_name 18 rfl ?_
    refine ev_int ?_
    refine okA_ixT (ps := [isS wd, isS x]) (q := isS x) tup_F rfl ?_
    refine ⟨sK b.K o.u, .inr x, dic_C m2, rfl, ?_⟩
    rw [sK_get, ← pr_opt]
    refine okA_eqT (α := Option (Tup Str)) (a := vG o.t x) (b := vG o.u x) (dat_F (a := vG o.t x)) (dat_F (a := vG o.u x)) (dep0 (by decide) u64) ?_
    exact ⟨_, rfl, fun z => absurd (of_decide_eq_true z) d2, fun _ => ⟨rfl, rfl⟩⟩
  rintro Cn acc ⟨rfl, rfl⟩
  refine ev_lst ?_
  refine ea_nil ?_
  refine ⟨by show 0 ≤ sizeLine; decide, ?_⟩
  refine okA_neT (α := List Str) (a := []) (b := []) (dat_F (a := ([] : List Str))) (dat_F (a := ([] : List Str))) (dep0 (by decide) u64) ?_
  refine ⟨_, rfl, fun z => absurd z (by decide), fun _ => ?_⟩
  exact tr_nil (k _ _ rfl)
end
end K23

end
section
set_option Elab.async false
set_option linter.all false
set_option maxRecDepth 100000
open PySem PySem.Spec PyProof.Rows L2 Z
/-! short rows -/
local macro_rules | `(tactic| walk_at "zmem") => `(tactic| first
  | exact List.Mem.head _
  | exact List.Mem.tail _ (List.Mem.head _)
  | exact List.Mem.tail _ (List.Mem.tail _ (List.Mem.head _))
  | exact List.Mem.tail _ (List.Mem.tail _ (List.Mem.tail _ (List.Mem.head _)))
  | exact List.Mem.tail _ (List.Mem.tail _ (List.Mem.tail _ (List.Mem.tail _ (List.Mem.head _)))))
local macro_rules | `(tactic| walk_at "zlst") => `(tactic| first | exact lst_F | exact lst_S | exact lst_C (by walk_at "zmem") | assumption)
local macro_rules | `(tactic| walk_at "ztup") => `(tactic| first | exact tup_F | assumption)
local macro_rules | `(tactic| walk_at "zdic") => `(tactic| first | exact dic_F | exact dic_C (by walk_at "zmem") | exact dic_Z (by walk_at "zmem") | assumption)
local macro_rules | `(tactic| walk_at "zside") => `(tactic| first | assumption | decide | (show _ ≤ sizeLine; decide) | omega)
local macro_rules | `(tactic| walk_at "zadd") => `(tactic| first | refine okA_addI ?_ | refine okA_addS (by walk_at "zside") ?_ | refine okA_addL (by walk_at "zlst") (by walk_at "zlst") (by walk_at "zside") ?_)
local macro_rules | `(tactic| walk_at "zsub") => `(tactic| refine ok_rI0 ?_)
local macro_rules | `(tactic| walk_at "zmul") => `(tactic| first | refine okA_mulI (by walk_at "zside") ?_ | refine okA_mulL (by walk_at "zside") (by walk_at "zside") (by walk_at "zside") ?_)
local macro_rules | `(tactic| walk_at "zdiv") => `(tactic| refine ok_rI (by first | assumption | exact ⟨by decide, by decide⟩) ?_)
local macro_rules | `(tactic| walk_at "zmod") => `(tactic| refine ok_rI (by first | assumption | decide) ?_)
local macro_rules | `(tactic| walk_at "zpow") => `(tactic| refine ok_rI (by exact ⟨by decide, by decide, by decide⟩) ?_)
local macro_rules | `(tactic| walk_at "zlt") => `(tactic| refine ok_rI0 ?_)
local macro_rules | `(tactic| walk_at "zeq") => `(tactic| refine okA_eqS rfl ?_)
local macro_rules | `(tactic| walk_at "zne") => `(tactic| refine okA_neS rfl ?_)
local macro_rules | `(tactic| walk_at "zix") => `(tactic| first | refine okA_ixL (by walk_at "zlst") (by rfl) ?_ | refine okA_ixT (by walk_at "ztup") (by rfl) ?_ | refine okA_ixD (by walk_at "zdic") (by assumption) ?_)
local macro_rules | `(tactic| walk_at "zfld") => `(tactic| refine ⟨_, _, _, rfl, by walk_at "zmem", rfl, ?_⟩)
local macro_rules | `(tactic| walk_at "zc_len") => `(tactic| first | refine okA_lenL (by walk_at "zlst") ?_ | refine okA_lenT (by walk_at "ztup") ?_ | refine okA_lenD (by walk_at "zdic") ?_ | refine okA_lenS (by walk_at "zside") ?_)
local macro_rules | `(tactic| walk_at "zc_int") => `(tactic| first | refine ok_intI ?_ | refine ok_intB ?_)
local macro_rules | `(tactic| walk_at "zc_abs") => `(tactic| refine ok_abs ?_)
local macro_rules | `(tactic| walk_at "zc_str") => `(tactic| refine ok_strI (by walk_at "zside") ?_)
local macro_rules | `(tactic| walk_at "zso") => `(tactic| first
  | refine so_L (i := 0) rfl rfl ?_ | refine so_L (i := 1) rfl rfl ?_ | refine so_L (i := 2) rfl rfl ?_ | refine so_L (i := 3) rfl rfl ?_)
local macro_rules | `(tactic| walk_at "zuse") => `(tactic| apply et_use)
local macro_rules | `(tactic| walk_at "zev") => `(tactic| apply ev_use)
local macro_rules | `(tactic| walk_at "zand") => `(tactic| apply etp_and)
local macro_rules | `(tactic| walk_at "zor") => `(tactic| apply etp_or)
local macro_rules | `(tactic| walk_at "znot") => `(tactic| apply etp_not)
namespace K23
open PySem.W (Datum Tup)
open Rep (pr)
theorem gam_at {Γ : Gm} : ∀ {n : Nat}, Γ.length = n + 1 → ∃ x Γ', Γ = x :: Γ' ∧ Γ'.length = n := fun {n} h => by
  cases Γ with
  | nil => cases h
  | cons x r => exact ⟨x, r, rfl, by simpa using h⟩
theorem gam20 {Γ : Gm} (h : GamAny Γ) : ∃ x0 x1 x2 x3 x4 x5 x6 x7 x8 x9 x10 x11 x12 x13 x14 x15 x16 x17 x18 x19 : Option Pr, Γ = [x0, x1, x2, x3, x4, x5, x6, x7, x8, x9, x10, x11, x12, x13, x14, x15, x16, x17, x18, x19] := by
  have h : Γ.length = 19 + 1 := h

  obtain ⟨x0, G0, e0, h0⟩ := gam_at h
  obtain ⟨x1, G1, e1, h1⟩ := gam_at h0
  obtain ⟨x2, G2, e2, h2⟩ := gam_at h1
  obtain ⟨x3, G3, e3, h3⟩ := gam_at h2
  obtain ⟨x4, G4, e4, h4⟩ := gam_at h3
  obtain ⟨x5, G5, e5, h5⟩ := gam_at h4
  obtain ⟨x6, G6, e6, h6⟩ := gam_at h5
  obtain ⟨x7, G7, e7, h7⟩ := gam_at h6
  obtain ⟨x8, G8, e8, h8⟩ := gam_at h7
  obtain ⟨x9, G9, e9, h9⟩ := gam_at h8
  obtain ⟨x10, G10, e10, h10⟩ := gam_at h9
  obtain ⟨x11, G11, e11, h11⟩ := gam_at h10
  obtain ⟨x12, G12, e12, h12⟩ := gam_at h11
  obtain ⟨x13, G13, e13, h13⟩ := gam_at h12
  obtain ⟨x14, G14, e14, h14⟩ := gam_at h13
  obtain ⟨x15, G15, e15, h15⟩ := gam_at h14
  obtain ⟨x16, G16, e16, h16⟩ := gam_at h15
  obtain ⟨x17, G17, e17, h17⟩ := gam_at h16
  obtain ⟨x18, G18, e18, h18⟩ := gam_at h17
  obtain ⟨x19, G19, e19, h19⟩ := gam_at h18
  have e : G19 = [] := List.length_eq_zero_iff.mp h19
  exact ⟨_, _, _, _, _, _, _, _, _, _, _, _, _, _, _, _, _, _, _, _, by rw [e0, e1, e2, e3, e4, e5, e6, e7, e8, e9, e10, e11, e12, e13, e14, e15, e16, e17, e18, e19, e]⟩
abbrev pathsL : List Str := ["x", "a/x", "a/b/x", "a/b/c/x", "a/bc/x", "b/x"]
abbrev narK : List (List Str) := dedF ((["a/b"] : List Str).map partsF)
theorem narOk : okL (["a/b"] : List Str) := by decide +kernel
theorem pathsOk : ∀ x ∈ pathsL, okF x = true ∧ x.length ≤ 10000 := by decide +kernel
theorem narIs : pathsL.map (fun p => seesF narK (partsF p)) = [true, true, true, true, false, false] := by decide +kernel
abbrev t0 : TbO := [("a/b", ⟨[]⟩), ("c", ⟨[]⟩)]
abbrev t1 : TbO := [("c", ⟨[]⟩)]
abbrev noK : List (List Str) := dedF (([] : List Str).map partsF)
theorem t0Nd : (t0.map Prod.fst).Nodup := by decide +kernel
theorem t1Nd : (t1.map Prod.fst).Nodup := by decide +kernel
theorem t0Ok : OkT t0 := by
  intro e he
  rcases List.mem_cons.mp he with h | h
  · rw [h]; decide +kernel
  · rw [List.mem_singleton.mp h]; decide +kernel
theorem t0In : t0.filter (inW noK) = t1 := by decide +kernel
def pLaw (K : PySem.W.Frag) : Prom (List Int) := { ps := fun ns => [rLs K (ns.map isI)], R := fun _ _ ρ => ρ = isB true }
abbrev lTail : List Stmt := (defBody sLaw).drop 1
local macro_rules | `(tactic| walk_at "zp") => `(tactic| exact perm_of fun _ c => by (simp only [LS, LB, LO.wi, LO.ks, LW, LD, pInit, pFiles, pFolder, pRoll, pSees, pLsees, pLook, pWith, pWider, pDeeds, p0, List.append_eq, List.nil_append, List.cons_append, List.count_append, List.count_cons, List.count_nil]; omega))
section
variable {b : Bn} {a : Ads} {ns : List Int} {P : Po}
set_option maxHeartbeats 2000000 in
theorem tail_ok (L : LawT b.K b.mg b.base a) {c Pt : Addr} (M : LamT b a c Pt) (hr : Room 20 b.j.X.A) {Γ : Gm} (g : GamAny Γ) (k : ∀ C', P.rt C' (isB true)) : Tr b.j Γ [] lTail P := by
  obtain ⟨x0, x1, x2, x3, x4, x5, x6, x7, x8, x9, x10, x11, x12, x13, x14, x15, x16, x17, x18, x19, rfl⟩ := gam20 g
  have u1 := hu_of hr
  have u64 := hr.units
  -- narrow = Window(['a/b'])
  refine tr_set 19 ?_ ndL
  refine ev_make L.mkW (G_init L M) (hr.mono (by decide)) L.gW L.init.bd ?_
  refine ea_cons ?_
  refine ev_lst ?_
  refine ea_cons ?_
  refine ev_str ?_
  refine ea_nil ?_
  refine ⟨by show 1 ≤ sizeLine; decide, ?_⟩
  refine ea_nil ?_
  intro w
  refine ⟨⟨w, ["a/b"]⟩, [], ⟨narOk, by show 1 ≤ 60; decide⟩, rfl, perm0, ?_, fun _ _ z => z.elim⟩
  rintro C' ρ ⟨rfl, f, rfl⟩
  refine ⟨rfl, ?_⟩
  show Tr b.j _ [cFo ⟨w, f, narK⟩, cW a.CW ⟨w, f, narK⟩] _ _
  refine tr_ret ?_
  refine ev_and ?_
  refine ev_cmp op_eqA rfl ?_
  refine ev_lcU (own := [("path", 7)]) (g := gName 7) (sr_L ?_) ndL (blkOk_by (by show blkC lN (defScope sLaw) _ _ = true; decide +kernel)) rfl (fun s H Cc cl fp => pg_name ndL rfl (Or.inl rfl) (Or.inr rfl))
  refine ev_lst ?_
  refine ea_cons ?_
  refine ev_str ?_
  refine ea_cons ?_
  refine ev_str ?_
  refine ea_cons ?_
  refine ev_str ?_
  refine ea_cons ?_
  refine ev_str ?_
  refine ea_cons ?_
  refine ev_str ?_
  refine ea_cons ?_
  refine ev_str ?_
  refine ea_nil ?_
  refine ⟨by show 6 ≤ sizeLine; decide, ?_⟩
  refine ⟨pathsL.map fun x => isS x, rfl, fun n C' acc => C' = [cFo ⟨w, f, narK⟩, cW a.CW ⟨w, f, narK⟩] ∧ acc = ((pathsL.take n).map fun p => seesF narK (partsF p)).map fun x => isB x, ⟨rfl, rfl⟩, fun _ _ _ _ => True.intro, ?_, ?_⟩
  · rintro n q Ci acc hq ⟨rfl, rfl⟩
    rw [List.getElem?_map] at hq
    obtain ⟨x, hx, rfl⟩ := Option.map_eq_some_iff.mp hq
    have ox := pathsOk x (List.mem_of_getElem? hx)
    have tk : ((pathsL.take (n + 1)).map fun p => seesF narK (partsF p)).map (fun x => isB x) = ((pathsL.take n).map fun p => seesF narK (partsF p)).map (fun x => isB x) ++ [isB (seesF narK (partsF x))] := by rw [List.take_add_one, hx, List.map_append, List.map_append]; rfl
    refine ⟨_, tgt_name, ?_⟩
    intro s' H Cc cl fp
    refine eif_no ⟨fun _ => ?_, fun z => nomatch z⟩
    intro s' H Cc cl fp
    refine ev_methS (G_sees L M) (hr.mono (by decide)) L.T.cl L.sees.mt L.sees.bd ?_
    refine ev_name 19 rfl ?_
    refine ⟨ins_C (fns := ["folders"]) (List.mem_of_getElem? (i := 1) rfl) (by decide +kernel), ?_⟩
    refine ea_cons ?_
    refine ev_name 7 rfl ?_
    refine ea_nil ?_
    refine ⟨⟨⟨w, f, narK⟩, x⟩, [], ox, rfl, List.Perm.swap _ _ _, fun C' ρ ⟨e1, e2⟩ => ⟨e1, ?_⟩, fun cls C' z => z.elim⟩
    subst e2
    refine ⟨?_, rfl, by rw [tk]⟩
    rw [List.length_map, List.length_map]
    exact Nat.lt_of_le_of_lt (List.length_take_le' _ _) (show 6 < sizeLine by decide)
  rintro Cn acc ⟨rfl, rfl⟩
  rw [List.length_map, List.take_length]
  refine ev_lst ?_
  refine ea_cons ?_
  refine ev_bl ?_
  refine ea_cons ?_
  refine ev_bl ?_
  refine ea_cons ?_
  refine ev_bl ?_
  refine ea_cons ?_
  refine ev_bl ?_
  refine ea_cons ?_
  refine ev_bl ?_
  refine ea_cons ?_
  refine ev_bl ?_
  refine ea_nil ?_
  refine ⟨by show 6 ≤ sizeLine; decide, ?_⟩
  refine okA_eqT (α := List Bool) (a := pathsL.map fun p => seesF narK (partsF p)) (b := [true, true, true, true, false, false]) (dat_F (a := pathsL.map fun p => seesF narK (partsF p))) (dat_F (a := ([true, true, true, true, false, false] : List Bool))) (dep0 (by decide) u64) ?_
  refine ⟨_, rfl, fun _ => ?_, fun z => absurd narIs (of_decide_eq_false z)⟩
  -- Window([]).look({..}) == {..}
  refine ev_and ?_
  refine ev_cmp op_eqDd rfl ?_
  refine ev_meth (G_look L M) (hr.mono (by decide)) L.T.cl L.look.mt L.look.bd ?_
  refine ev_make L.mkW (G_init L M) (hr.mono (by decide)) L.gW L.init.bd ?_
  refine ea_cons ?_
  refine ev_lst ?_
  refine ea_nil ?_
  refine ⟨by show 0 ≤ sizeLine; decide, ?_⟩
  refine ea_nil ?_
  intro w2
  refine ⟨⟨w2, []⟩, [cFo ⟨w, f, narK⟩, cW a.CW ⟨w, f, narK⟩], ⟨fun x z => absurd z (by simp), by show 0 ≤ 60; decide⟩, rfl, List.Perm.refl _, ?_, fun _ _ z => z.elim⟩
  rintro C' ρ ⟨rfl, f2, rfl⟩
  refine ⟨rfl, ?_⟩
  refine ⟨ins_C (fns := ["folders"]) (List.mem_of_getElem? (i := 1) rfl) (by decide +kernel), ?_⟩
  refine ea_cons ?_
  refine ev_dispC [(_, _), (_, _)] (fun d => ?_) rfl rfl (fun z => by cases z) (by decide)
  refine ev_str ?_
  refine ev_tup ?_
  refine ea_nil ?_
  refine ⟨by show 0 ≤ sizeLine; decide, .inr "a/b", rfl, ?_⟩
  refine ev_str ?_
  refine ev_tup ?_
  refine ea_nil ?_
  refine ⟨by show 0 ≤ sizeLine; decide, .inr "c", rfl, 0, rfl, ?_⟩
  refine ea_nil ?_
  refine ⟨⟨⟨w2, f2, noK⟩, d, t0⟩, [cFo ⟨w, f, narK⟩, cW a.CW ⟨w, f, narK⟩], ⟨⟨t0Nd, by show 2 < 60; decide⟩, t0Ok⟩, rfl, ?_, fun C' ρ z => ?_, fun cls C' z => z.elim⟩
  · show [cK d (mP [] (sK b.K t0)), cFo ⟨w2, f2, noK⟩, cW a.CW ⟨w2, f2, noK⟩, cFo ⟨w, f, narK⟩, cW a.CW ⟨w, f, narK⟩].Perm ([cW a.CW ⟨w2, f2, noK⟩, cFo ⟨w2, f2, noK⟩, cD b.K d t0] ++ [cFo ⟨w, f, narK⟩, cW a.CW ⟨w, f, narK⟩])
    rw [mP_own t0Nd]
    show [cD b.K d t0, cFo ⟨w2, f2, noK⟩, cW a.CW ⟨w2, f2, noK⟩, cFo ⟨w, f, narK⟩, cW a.CW ⟨w, f, narK⟩].Perm _
    exact perm_of fun _ c => by (simp only [List.append_eq, List.nil_append, List.cons_append, List.count_append, List.count_cons, List.count_nil]; omega)
  obtain ⟨d2, rfl, rfl⟩ := z
  show Ev b.j _ [cD b.K d2 (t0.filter (inW noK)), cW a.CW ⟨w2, f2, noK⟩, cFo ⟨w2, f2, noK⟩, cD b.K d t0, cFo ⟨w, f, narK⟩, cW a.CW ⟨w, f, narK⟩] _ _
  rw [t0In]
  refine ev_dispC [(_, _)] (fun d3 => ?_) rfl rfl (fun z => by cases z) (by decide)
  refine ev_str ?_
  refine ev_tup ?_
  refine ea_nil ?_
  refine ⟨by show 0 ≤ sizeLine; decide, .inr "c", rfl, 0, rfl, ?_⟩
  refine ok_eqD (t := t1) (u := t1) (dic_C (List.mem_of_getElem? (i := 1) rfl)) ?_ (dep1 (by decide) u64) ?_
  · have h0 : DicOk b.j (cK d3 (mP [] (sK b.K t1)) :: [cD b.K d2 t1, cW a.CW ⟨w2, f2, noK⟩, cFo ⟨w2, f2, noK⟩, cD b.K d t0, cFo ⟨w, f, narK⟩, cW a.CW ⟨w, f, narK⟩]) (isR d3) (mP [] (sK b.K t1)) := dic_C (List.Mem.head _)
    rw [mP_own t1Nd] at h0
    have h1 := h0
    have e : mP [] (sK b.K t1) = sK b.K t1 := mP_own t1Nd
    show DicOk b.j (cK d3 (mP [] (sK b.K t1)) :: [cD b.K d2 t1, cW a.CW ⟨w2, f2, noK⟩, cFo ⟨w2, f2, noK⟩, cD b.K d t0, cFo ⟨w, f, narK⟩, cW a.CW ⟨w, f, narK⟩]) _ _
    rw [e]
    exact h1
  rw [eqS_refl t1Nd]
  refine ⟨_, rfl, fun _ => ?_, fun z => absurd z (by decide)⟩
  refine ev_and1 ?_
  refine ev_cmp op_eqA rfl ?_
  refine ev_call (ok_told (Pg := b.Pg) (w := b.w) (base := b.base) (tb := b.tb) L.told.fn L.XE.gE (clo_b L M) (fun _ => rfl)) (hr.mono (by decide)) L.told.g L.told.kp L.told.bd ?_
  refine ea_cons ?_
  refine ev_lam (P := Pt) (lam_in M) rfl (lam_un M) M.TB M.cdv ?_ (lam_fr (e := eB) (by rw [t_b]; decide +kernel))
  refine ea_nil ?_
  refine ⟨(), _, told_pre True.intro rfl (fun cls C' h => by rw [show cls = .ref a.CC from h]; exact L.mCE), rfl, List.Perm.refl _, fun C' ρ h => ?_, fun cls C' z => z.elim⟩
  rcases h with ⟨C2, rfl, h⟩ | ⟨⟨cls, C2, rfl, _⟩, rfl⟩
  · exact h.elim
  refine ev_str ?_
  refine okA_eqS rfl ?_
  rw [show decide (V.str "HostError" = V.str "HostError") = true from decide_eq_true rfl]
  exact k _
end
section
variable {a : Ads} {Pg : Program} {w : World} {K : PySem.W.Frag} {mg : Str → Option Value} {base : Heap}
abbrev lawTb (a : Ads) (Pt : Addr) : Tb := ⟨[(Pt, fun _ _ => ("law" : Str) ++ ".<locals>." ++ "<lambda>"), (a.PC, nmCh), (a.PV, nmWi)]⟩
theorem ok_law (L : LawT K mg base a) {f c Pt : Addr} {dV kV doc pm ct oc : Value} {an od : Option Addr} {osl : Array (Option Value)} (n1 : Pt ≠ a.PC) (n2 : Pt ≠ a.PV)
    (lk : K.lookup f = some ⟨oc, od, .func (PySem.W.fnOf "law" "law" (defArgs sLaw) (defBody sLaw) (defScope sLaw) dV kV doc pm an (.ref c) ct), osl⟩) (hcd : PySem.W.codeIn K (.ref c) "law" = true) (TB : LamX.TabB base mg c Pt) :
    FnOk Pg w K mg base (L2.CX Pg w) 21 f (PySem.W.fnOf "law" "law" (defArgs sLaw) (defBody sLaw) (defScope sLaw) dV kV doc pm an (.ref c) ct) ["script"] ((pLaw K).sp (lawTb a Pt)) := by
  refine def_okC lk hcd scLaw (fun _ => rfl) fun ns A outer s H E _ hr own => ?_
  let b : Bn := ⟨Pg, w, K, mg, base, lawTb a Pt, f, .ref c, A, outer, s, H, E⟩
  have M : LamT b a c Pt := ⟨rfl, rfl, n1, n2, TB⟩
  have hr : Room 20 b.j.X.A := hr
  have GDi : FnOk Pg w K mg base (L2.CX Pg w) 1 a.fDice a.dDice ["cell"] (pDice.sp b.tb) := ok_dice L.dice.fn L.zAbs L.zInt
  have GRd := ok_rounds (Pg := Pg) (w := w) (base := base) (tb := b.tb) L.rounds.fn GDi L.dice.g L.dice.kp L.dice.bd
  show Tr b.j _ _ _ _
  refine tr_forA (κ := Addr × Int × Int × Int) (fun y i Γ C => (i = 0 ∧ (∃ x1 x2 x3 x4 x5 x6 x7 x8 x9 x10 x11 x12 x13 x14 x15 x16 x17 x18 x19 : Option Pr, Γ = [some (rLs K (ns.map isI)), x1, x2, x3, x4, x5, x6, x7, x8, x9, x10, x11, x12, x13, x14, x15, x16, x17, x18, x19]) ∧ C = [cL y.1 [isI y.2.1, isI y.2.2.1, isI y.2.2.2]]) ∨ (i = 1 ∧ GamAny Γ)) (fun Γ C => GamAny Γ) ?_ ?_ own rfl
  · refine ev_call GRd (hr.mono (by decide)) L.rounds.g L.rounds.kp L.rounds.bd ?_
    refine ea_cons ?_
    refine ev_name 0 rfl ?_ -- script
    refine ea_cons ?_
    refine ev_int ?_
    refine ea_nil ?_
    refine ⟨ns, [], True.intro, rfl, List.Perm.nil, ?_, fun _ _ z => z.elim⟩
    rintro C' ρ ⟨d, x, y, z, rfl, rfl⟩
    rw [List.append_nil]
    refine ⟨(d, x, y, z), _, rfl, .inl ⟨rfl, ⟨_, _, _, _, _, _, _, _, _, _, _, _, _, _, _, _, _, _, _, rfl⟩, rfl⟩, fun i q Γ C hi hI => ?_, fun Γ C hI => ?_⟩
    · have hi1 : i = 0 := by
        have := (List.getElem?_eq_some_iff.mp hi).1
        simp only [List.length_singleton] at this
        omega
      subst hi1
      have hq : isR d = q := by simpa using hi
      subst hq
      rcases hI with ⟨_, ⟨x1, x2, x3, x4, x5, x6, x7, x8, x9, x10, x11, x12, x13, x14, x15, x16, x17, x18, x19, rfl⟩, rfl⟩ | ⟨h, _⟩
      · refine eg_name 1 ?_ ndL -- dice
        refine tr_weak (i := 0) (c' := cDi d) rfl rfl di_of ?_
        refine roundA (b := b) (ns := ns) L M hr fun o ok Γ g => ?_
        refine roundB (b := b) (ns := ns) L M hr own ok g fun Γ g => ?_
        refine roundC (b := b) (ns := ns) L M hr ok g fun s Γ g => ?_
        refine roundD (b := b) (ns := ns) L M hr ok g fun Γ g => ?_
        refine roundE (b := b) (ns := ns) L M hr ok g fun Γ g => ?_
        refine roundF (b := b) (ns := ns) L M hr ok g fun Γ g => ?_
        refine roundG (b := b) (ns := ns) L M hr own ok g fun he hh Γ hex hk g => ?_
        exact roundH (b := b) (ns := ns) L M hr ok hex hk g fun Γ' C' h => .inr ⟨rfl, h⟩
      · cases h
    · rcases hI with ⟨h, _⟩ | ⟨_, g⟩
      · cases h
      · exact g
  · intro Γ C g
    refine tr_less (List.nil_sublist _) ?_
    exact tail_ok (b := b) L M hr g fun C' => rfl
end
end K23

end
section
set_option Elab.async false
set_option linter.all false
set_option maxRecDepth 100000
open PySem PySem.Spec PyProof.Rows L2 Z
/-! short rows -/
local macro_rules | `(tactic| walk_at "zmem") => `(tactic| first
  | exact List.Mem.head _
  | exact List.Mem.tail _ (List.Mem.head _)
  | exact List.Mem.tail _ (List.Mem.tail _ (List.Mem.head _))
  | exact List.Mem.tail _ (List.Mem.tail _ (List.Mem.tail _ (List.Mem.head _)))
  | exact List.Mem.tail _ (List.Mem.tail _ (List.Mem.tail _ (List.Mem.tail _ (List.Mem.head _)))))
local macro_rules | `(tactic| walk_at "zlst") => `(tactic| first | exact lst_F | exact lst_S | exact lst_C (by walk_at "zmem") | assumption)
local macro_rules | `(tactic| walk_at "ztup") => `(tactic| first | exact tup_F | assumption)
local macro_rules | `(tactic| walk_at "zdic") => `(tactic| first | exact dic_F | exact dic_C (by walk_at "zmem") | exact dic_Z (by walk_at "zmem") | assumption)
local macro_rules | `(tactic| walk_at "zside") => `(tactic| first | assumption | decide | (show _ ≤ sizeLine; decide) | omega)
local macro_rules | `(tactic| walk_at "zadd") => `(tactic| first | refine okA_addI ?_ | refine okA_addS (by walk_at "zside") ?_ | refine okA_addL (by walk_at "zlst") (by walk_at "zlst") (by walk_at "zside") ?_)
local macro_rules | `(tactic| walk_at "zsub") => `(tactic| refine ok_rI0 ?_)
local macro_rules | `(tactic| walk_at "zmul") => `(tactic| first | refine okA_mulI (by walk_at "zside") ?_ | refine okA_mulL (by walk_at "zside") (by walk_at "zside") (by walk_at "zside") ?_)
local macro_rules | `(tactic| walk_at "zdiv") => `(tactic| refine ok_rI (by first | assumption | exact ⟨by decide, by decide⟩) ?_)
local macro_rules | `(tactic| walk_at "zmod") => `(tactic| refine ok_rI (by first | assumption | decide) ?_)
local macro_rules | `(tactic| walk_at "zpow") => `(tactic| refine ok_rI (by exact ⟨by decide, by decide, by decide⟩) ?_)
local macro_rules | `(tactic| walk_at "zlt") => `(tactic| refine ok_rI0 ?_)
local macro_rules | `(tactic| walk_at "zeq") => `(tactic| refine okA_eqS rfl ?_)
local macro_rules | `(tactic| walk_at "zne") => `(tactic| refine okA_neS rfl ?_)
local macro_rules | `(tactic| walk_at "zix") => `(tactic| first | refine okA_ixL (by walk_at "zlst") (by rfl) ?_ | refine okA_ixT (by walk_at "ztup") (by rfl) ?_ | refine okA_ixD (by walk_at "zdic") (by assumption) ?_)
local macro_rules | `(tactic| walk_at "zfld") => `(tactic| refine ⟨_, _, _, rfl, by walk_at "zmem", rfl, ?_⟩)
local macro_rules | `(tactic| walk_at "zc_len") => `(tactic| first | refine okA_lenL (by walk_at "zlst") ?_ | refine okA_lenT (by walk_at "ztup") ?_ | refine okA_lenD (by walk_at "zdic") ?_ | refine okA_lenS (by walk_at "zside") ?_)
local macro_rules | `(tactic| walk_at "zc_int") => `(tactic| first | refine ok_intI ?_ | refine ok_intB ?_)
local macro_rules | `(tactic| walk_at "zc_abs") => `(tactic| refine ok_abs ?_)
local macro_rules | `(tactic| walk_at "zc_str") => `(tactic| refine ok_strI (by walk_at "zside") ?_)
local macro_rules | `(tactic| walk_at "zso") => `(tactic| first
  | refine so_L (i := 0) rfl rfl ?_ | refine so_L (i := 1) rfl rfl ?_ | refine so_L (i := 2) rfl rfl ?_ | refine so_L (i := 3) rfl rfl ?_)
local macro_rules | `(tactic| walk_at "zuse") => `(tactic| apply et_use)
local macro_rules | `(tactic| walk_at "zev") => `(tactic| apply ev_use)
local macro_rules | `(tactic| walk_at "zand") => `(tactic| apply etp_and)
local macro_rules | `(tactic| walk_at "zor") => `(tactic| apply etp_or)
local macro_rules | `(tactic| walk_at "znot") => `(tactic| apply etp_not)
namespace K23
open PySem.W (Datum Tup)
open Rep (pr)
theorem allInts {F : Hp} : ∀ ns : List Int, AllOn (ns.map fun i => isI i) F (ns.map V.int)
  | [] => .nil
  | _ :: r => .cons rfl (allInts r)
theorem law_sp {K : PySem.W.Frag} {H : Hp} {a Pt PG PV : Addr} {ns : List Int} {nm nm2 nm3 : Nat → Nat → Str} (hS : SqL K H a (ns.map V.int)) (hT : H Pt = some (.tbl #[])) (hG : H PG = some (.tbl #[])) (hV : H PV = some (.tbl #[])) : (pLaw K).sp ⟨[(Pt, nm), (PG, nm2), (PV, nm3)]⟩ [.ref a] H (fun v _ => v = .bl true) fun _ _ _ => False := by
  have tab : ∀ F : Hp, Tab ⟨[(Pt, nm), (PG, nm2), (PV, nm3)]⟩ F H := fun F => ⟨fun p hp => by
    have q : H p.1 = some (.tbl #[]) := by
      rcases List.mem_cons.mp hp with h | h
      · rw [h]; exact hT
      · rcases List.mem_cons.mp h with h | h
        · rw [h]; exact hG
        · rw [List.mem_singleton.mp h]; exact hV
    refine ⟨#[], q, True.intro, fun pos cv hc => ?_⟩
    have z : codeAmong pos [] = some cv := hc
    simp [codeAmong] at z⟩
  rcases hS with h | ⟨o, its, n, h1, h2⟩
  · -- the script is a thing of the heap
    refine ⟨ns, fun b => if b = a then some (.lst (ns.map V.int)) else none, True.intro, .cons ⟨a, ns.map V.int, rfl, .inl (.inl (if_pos rfl)), allInts ns⟩ .nil, ⟨envNil, ⟨fun c hc => (by cases hc), List.nodup_nil⟩, fun b o e => ?_, fun b o e => ?_, tab _, L2.Same.refl _, ⟨fun b o e n => ?_, fun _ _ e => .inr e⟩, fun b o e _ _ => e, fun c hc => (by cases hc), fun b e => e⟩, fun v F' H' C' ρ r _ o => ?_, fun _ _ _ _ _ z _ => z.elim⟩
    · by_cases hb : b = a
      · rw [if_pos hb] at e
        cases e
        rw [hb]
        exact h.imp id fun ⟨ob, e⟩ => ⟨ob, e, _, rfl⟩
      · rw [if_neg hb] at e
        cases e
    · by_cases hb : b = a
      · rw [if_pos hb] at e
        cases e
        exact fine_lst
      · rw [if_neg hb] at e
        cases e
    · have n : (if b = a then some (HO.lst (ns.map V.int)) else none) = none := n
      rw [n] at e
      cases e
    · have r : ρ = isB true := r
      subst r
      exact o
  · -- the script is written
    refine ⟨ns, fun _ => none, True.intro, .cons ⟨a, ns.map V.int, rfl, .inr ⟨o, its, n, h1, h2⟩, allInts ns⟩ .nil, ⟨envNil, ⟨fun c hc => (by cases hc), List.nodup_nil⟩, fun b o e => (by cases e), fun b o e => (by cases e), tab _, L2.Same.refl _, ⟨fun b o e n => (by cases e), fun _ _ e => .inr e⟩, fun b o e _ _ => e, fun c hc => (by cases hc), fun b e => e⟩, fun v F' H' C' ρ r _ o => ?_, fun _ _ _ _ _ z _ => z.elim⟩
    have r : ρ = isB true := r
    subst r
    exact o
theorem all_mk {l : PySem.W.OpenLaw} {w : World} {K : PySem.W.Frag} {h : Heap} {mg : Str → Option Value} {fa : Addr} {CW CE CC : Addr} {tS tD : Tok} {od_dice an_dice : Option Addr} {sl_dice : Array (Option Value)} {oc_dice kV_dice dc_dice pm_dice ct_dice : Value} {cd_dice : Value} {f_dice : Addr} {od_roll an_roll : Option Addr} {sl_roll : Array (Option Value)} {oc_roll kV_roll dc_roll pm_roll ct_roll : Value} {cd_roll : Value} {f_roll : Addr} {od_rounds an_rounds : Option Addr} {sl_rounds : Array (Option Value)} {oc_rounds kV_rounds dc_rounds pm_rounds ct_rounds : Value} {cd_rounds : Value} {f_rounds : Addr} {od_told an_told : Option Addr} {sl_told : Array (Option Value)} {oc_told kV_told dc_told pm_told ct_told : Value} {cd_told : Value} {f_told : Addr} {od_folder an_folder : Option Addr} {sl_folder : Array (Option Value)} {oc_folder kV_folder dc_folder pm_folder ct_folder : Value} {cd_folder : Value} {f_folder : Addr} {od_files an_files : Option Addr} {sl_files : Array (Option Value)} {oc_files kV_files dc_files pm_files ct_files : Value} {cd_files : Value} {f_files : Addr} {od_lsees an_lsees : Option Addr} {sl_lsees : Array (Option Value)} {oc_lsees kV_lsees dc_lsees pm_lsees ct_lsees : Value} {cd_lsees : Value} {f_lsees : Addr} {od_parts an_parts : Option Addr} {sl_parts : Array (Option Value)} {oc_parts kV_parts dc_parts pm_parts ct_parts : Value} {cd_parts : Value} {f_parts : Addr} {od_init an_init : Option Addr} {sl_init : Array (Option Value)} {oc_init kV_init dc_init pm_init ct_init : Value} {cd_init : Value} {f_init : Addr} {od_sees an_sees : Option Addr} {sl_sees : Array (Option Value)} {oc_sees kV_sees dc_sees pm_sees ct_sees : Value} {cd_sees : Value} {f_sees : Addr} {od_look an_look : Option Addr} {sl_look : Array (Option Value)} {oc_look kV_look dc_look pm_look ct_look : Value} {cd_look : Value} {f_look : Addr} {od_wider an_wider : Option Addr} {sl_wider : Array (Option Value)} {oc_wider kV_wider dc_wider pm_wider ct_wider : Value} {cd_wider : Value} {f_wider : Addr} {od_deeds an_deeds : Option Addr} {sl_deeds : Array (Option Value)} {oc_deeds kV_deeds dc_deeds pm_deeds ct_deeds : Value} {cd_deeds : Value} {f_deeds : Addr} {od_law an_law : Option Addr} {sl_law : Array (Option Value)} {oc_law kV_law dc_law pm_law ct_law : Value} {c_law : Addr} {f_law : Addr} {od_ch an_ch : Option Addr} {sl_ch : Array (Option Value)} {oc_ch kV_ch dc_ch pm_ch ct_ch : Value} {c_ch : Addr} {f_ch : Addr} {od_wi an_wi : Option Addr} {sl_wi : Array (Option Value)} {oc_wi kV_wi dc_wi pm_wi ct_wi : Value} {c_wi : Addr} {f_wi : Addr} {Pt PC PV : Addr} (X : K.In h) (G : h.Ns mainGlobals mg) (hfa : mg "law" = some (.ref fa))
    (aW : PySem.W.nsIn K mainGlobals "Window" = some (some (.ref CW)))
    (aE : PySem.W.nsIn K mainGlobals "HostError" = some (some (.ref CE)))
    (aC : PySem.W.nsIn K mainGlobals "ContentError" = some (some (.ref CC)))
    (aS : PySem.W.nsIn K mainGlobals "NAME_SIGNS" = some (some (.str signL tS)))
    (aD : PySem.W.nsIn K mainGlobals "MOST_DEEP" = some (some (.int 8 tD)))
    (a_dice : PySem.W.nsIn K mainGlobals "_law_dice" = some (some (.ref f_dice)))
    (l_dice : K.lookup f_dice = some ⟨oc_dice, od_dice, .func (PySem.W.fnOf "_law_dice" "_law_dice" (defArgs sDice) (defBody sDice) (defScope sDice) .none kV_dice dc_dice pm_dice an_dice cd_dice ct_dice), sl_dice⟩)
    (c_dice : PySem.W.codeIn K cd_dice "_law_dice" = true)
    (k_dice : PySem.W.keepIn K (.ref f_dice) = true)
    (a_roll : PySem.W.nsIn K mainGlobals "_law_roll" = some (some (.ref f_roll)))
    (l_roll : K.lookup f_roll = some ⟨oc_roll, od_roll, .func (PySem.W.fnOf "_law_roll" "_law_roll" (defArgs sRoll) (defBody sRoll) (defScope sRoll) .none kV_roll dc_roll pm_roll an_roll cd_roll ct_roll), sl_roll⟩)
    (c_roll : PySem.W.codeIn K cd_roll "_law_roll" = true)
    (k_roll : PySem.W.keepIn K (.ref f_roll) = true)
    (a_rounds : PySem.W.nsIn K mainGlobals "_law_rounds" = some (some (.ref f_rounds)))
    (l_rounds : K.lookup f_rounds = some ⟨oc_rounds, od_rounds, .func (PySem.W.fnOf "_law_rounds" "_law_rounds" (defArgs sRounds) (defBody sRounds) (defScope sRounds) .none kV_rounds dc_rounds pm_rounds an_rounds cd_rounds ct_rounds), sl_rounds⟩)
    (c_rounds : PySem.W.codeIn K cd_rounds "_law_rounds" = true)
    (k_rounds : PySem.W.keepIn K (.ref f_rounds) = true)
    (a_told : PySem.W.nsIn K mainGlobals "_law_told" = some (some (.ref f_told)))
    (l_told : K.lookup f_told = some ⟨oc_told, od_told, .func (PySem.W.fnOf "_law_told" "_law_told" (defArgs sTold) (defBody sTold) (defScope sTold) .none kV_told dc_told pm_told an_told cd_told ct_told), sl_told⟩)
    (c_told : PySem.W.codeIn K cd_told "_law_told" = true)
    (k_told : PySem.W.keepIn K (.ref f_told) = true)
    (a_folder : PySem.W.nsIn K mainGlobals "_law_folder" = some (some (.ref f_folder)))
    (l_folder : K.lookup f_folder = some ⟨oc_folder, od_folder, .func (PySem.W.fnOf "_law_folder" "_law_folder" (defArgs sFolder) (defBody sFolder) (defScope sFolder) .none kV_folder dc_folder pm_folder an_folder cd_folder ct_folder), sl_folder⟩)
    (c_folder : PySem.W.codeIn K cd_folder "_law_folder" = true)
    (k_folder : PySem.W.keepIn K (.ref f_folder) = true)
    (a_files : PySem.W.nsIn K mainGlobals "_law_files" = some (some (.ref f_files)))
    (l_files : K.lookup f_files = some ⟨oc_files, od_files, .func (PySem.W.fnOf "_law_files" "_law_files" (defArgs sFiles) (defBody sFiles) (defScope sFiles) .none kV_files dc_files pm_files an_files cd_files ct_files), sl_files⟩)
    (c_files : PySem.W.codeIn K cd_files "_law_files" = true)
    (k_files : PySem.W.keepIn K (.ref f_files) = true)
    (a_lsees : PySem.W.nsIn K mainGlobals "_law_sees" = some (some (.ref f_lsees)))
    (l_lsees : K.lookup f_lsees = some ⟨oc_lsees, od_lsees, .func (PySem.W.fnOf "_law_sees" "_law_sees" (defArgs sLsees) (defBody sLsees) (defScope sLsees) .none kV_lsees dc_lsees pm_lsees an_lsees cd_lsees ct_lsees), sl_lsees⟩)
    (c_lsees : PySem.W.codeIn K cd_lsees "_law_sees" = true)
    (k_lsees : PySem.W.keepIn K (.ref f_lsees) = true)
    (a_parts : PySem.W.nsIn K mainGlobals "parts_of_path" = some (some (.ref f_parts)))
    (l_parts : K.lookup f_parts = some ⟨oc_parts, od_parts, .func (PySem.W.fnOf "parts_of_path" "parts_of_path" (defArgs sParts) (defBody sParts) (defScope sParts) .none kV_parts dc_parts pm_parts an_parts cd_parts ct_parts), sl_parts⟩)
    (c_parts : PySem.W.codeIn K cd_parts "parts_of_path" = true)
    (k_parts : PySem.W.keepIn K (.ref f_parts) = true)
    (a_init : PySem.W.findIn K (.ref CW) "__init__" = some (some (.ref f_init)))
    (i_init : PySem.W.isFn K (.ref f_init) = true)
    (l_init : K.lookup f_init = some ⟨oc_init, od_init, .func (PySem.W.fnOf "__init__" "Window.__init__" (defArgs sWInit) (defBody sWInit) (defScope sWInit) .none kV_init dc_init pm_init an_init cd_init ct_init), sl_init⟩)
    (c_init : PySem.W.codeIn K cd_init "Window.__init__" = true)
    (k_init : PySem.W.keepIn K (.ref f_init) = true)
    (a_sees : PySem.W.findIn K (.ref CW) "sees" = some (some (.ref f_sees)))
    (i_sees : PySem.W.isFn K (.ref f_sees) = true)
    (l_sees : K.lookup f_sees = some ⟨oc_sees, od_sees, .func (PySem.W.fnOf "sees" "Window.sees" (defArgs sWSees) (defBody sWSees) (defScope sWSees) .none kV_sees dc_sees pm_sees an_sees cd_sees ct_sees), sl_sees⟩)
    (c_sees : PySem.W.codeIn K cd_sees "Window.sees" = true)
    (k_sees : PySem.W.keepIn K (.ref f_sees) = true)
    (a_look : PySem.W.findIn K (.ref CW) "look" = some (some (.ref f_look)))
    (i_look : PySem.W.isFn K (.ref f_look) = true)
    (l_look : K.lookup f_look = some ⟨oc_look, od_look, .func (PySem.W.fnOf "look" "Window.look" (defArgs sWLook) (defBody sWLook) (defScope sWLook) .none kV_look dc_look pm_look an_look cd_look ct_look), sl_look⟩)
    (c_look : PySem.W.codeIn K cd_look "Window.look" = true)
    (k_look : PySem.W.keepIn K (.ref f_look) = true)
    (a_wider : PySem.W.findIn K (.ref CW) "wider" = some (some (.ref f_wider)))
    (i_wider : PySem.W.isFn K (.ref f_wider) = true)
    (l_wider : K.lookup f_wider = some ⟨oc_wider, od_wider, .func (PySem.W.fnOf "wider" "Window.wider" (defArgs sWWider) (defBody sWWider) (defScope sWWider) .none kV_wider dc_wider pm_wider an_wider cd_wider ct_wider), sl_wider⟩)
    (c_wider : PySem.W.codeIn K cd_wider "Window.wider" = true)
    (k_wider : PySem.W.keepIn K (.ref f_wider) = true)
    (a_deeds : PySem.W.findIn K (.ref CW) "deeds_between" = some (some (.ref f_deeds)))
    (i_deeds : PySem.W.isFn K (.ref f_deeds) = true)
    (l_deeds : K.lookup f_deeds = some ⟨oc_deeds, od_deeds, .func (PySem.W.fnOf "deeds_between" "Window.deeds_between" (defArgs sWDeeds) (defBody sWDeeds) (defScope sWDeeds) .none kV_deeds dc_deeds pm_deeds an_deeds cd_deeds ct_deeds), sl_deeds⟩)
    (c_deeds : PySem.W.codeIn K cd_deeds "Window.deeds_between" = true)
    (k_deeds : PySem.W.keepIn K (.ref f_deeds) = true)
    (a_law : PySem.W.nsIn K mainGlobals "law" = some (some (.ref f_law)))
    (l_law : K.lookup f_law = some ⟨oc_law, od_law, .func (PySem.W.fnOf "law" "law" (defArgs sLaw) (defBody sLaw) (defScope sLaw) .none kV_law dc_law pm_law an_law (.ref c_law) ct_law), sl_law⟩)
    (c_law_h : PySem.W.codeIn K (.ref c_law) "law" = true)
    (k_law : PySem.W.keepIn K (.ref f_law) = true)
    (a_ch : PySem.W.nsIn K mainGlobals "check_name" = some (some (.ref f_ch)))
    (l_ch : K.lookup f_ch = some ⟨oc_ch, od_ch, .func (PySem.W.fnOf "check_name" "check_name" (defArgs sCheck) (defBody sCheck) (defScope sCheck) .none kV_ch dc_ch pm_ch an_ch (.ref c_ch) ct_ch), sl_ch⟩)
    (c_ch_h : PySem.W.codeIn K (.ref c_ch) "check_name" = true)
    (k_ch : PySem.W.keepIn K (.ref f_ch) = true)
    (a_wi : PySem.W.findIn K (.ref CW) "with_changes" = some (some (.ref f_wi)))
    (i_wi : PySem.W.isFn K (.ref f_wi) = true)
    (l_wi : K.lookup f_wi = some ⟨oc_wi, od_wi, .func (PySem.W.fnOf "with_changes" "Window.with_changes" (defArgs sWWith) (defBody sWWith) (defScope sWWith) .none kV_wi dc_wi pm_wi an_wi (.ref c_wi) ct_wi), sl_wi⟩)
    (c_wi_h : PySem.W.codeIn K (.ref c_wi) "Window.with_changes" = true)
    (k_wi : PySem.W.keepIn K (.ref f_wi) = true)
    (pgCW : PySem.W.plainGet K CW Str.empty = true)
    (hdCW : PySem.W.hasDictIn K CW = true)
    (poCW : PySem.W.plainOver K CW = true)
    (saCW : PySem.W.findIn K (.ref CW) "__setattr__" = some (some (.builtin "object.__setattr__")))
    (mkCW : PySem.W.makesIn K CW = true)
    (kcCW : PySem.W.keepIn K (.ref CW) = true)
    (nW : PySem.W.findIn K (.ref CW) "folders" = some none)
    (kCE : PySem.W.keepIn K (.ref CE) = true)
    (xCE : PySem.W.excIn K CE [.type "ValueError", .type "Exception", .type "BaseException", .type "object"] "ValueError.__new__" = true)
    (bCE : PySem.W.subIn K (.ref CE) (.type "BaseException") = some true)
    (tCE : PySem.W.typeIn K (.ref CE) = some (.type "type"))
    (mCE : PySem.W.exmOne K (.ref CE) (.ref CE) = some true)
    (kCC : PySem.W.keepIn K (.ref CC) = true)
    (xCC : PySem.W.excIn K CC [.type "ValueError", .type "Exception", .type "BaseException", .type "object"] "ValueError.__new__" = true)
    (bCC : PySem.W.subIn K (.ref CC) (.type "BaseException") = some true)
    (tCC : PySem.W.typeIn K (.ref CC) = some (.type "type"))
    (mCC : PySem.W.exmOne K (.ref CC) (.ref CE) = some true)
    (z_abs : PySem.W.nsIn K mainGlobals "abs" = some none)
    (z_int : PySem.W.nsIn K mainGlobals "int" = some none)
    (z_range : PySem.W.nsIn K mainGlobals "range" = some none)
    (z_len : PySem.W.nsIn K mainGlobals "len" = some none)
    (z_dict : PySem.W.nsIn K mainGlobals "dict" = some none)
    (z_tuple : PySem.W.nsIn K mainGlobals "tuple" = some none)
    (z_list : PySem.W.nsIn K mainGlobals "list" = some none)
    (z_sorted : PySem.W.nsIn K mainGlobals "sorted" = some none)
    (z_any : PySem.W.nsIn K mainGlobals "any" = some none)
    (z_str : PySem.W.nsIn K mainGlobals "str" = some none)
    (n1 : Pt ≠ PC)
    (n2 : Pt ≠ PV)
    (n3 : PC ≠ PV)
    (hT : PySem.W.codeHdIn K c_law Pt = true)
    (nT : K.lookup Pt = none)
    (hC : PySem.W.codeHdIn K c_ch PC = true)
    (nC : K.lookup PC = none)
    (hV : PySem.W.codeHdIn K c_wi PV = true)
    (nV : K.lookup PV = none)
    (gT : h.get? Pt = some { cls := .none, data := .fields #[] })
    (gC : h.get? PC = some { cls := .none, data := .fields #[] })
    (gV : h.get? PV = some { cls := .none, data := .fields #[] }) :
    LamX.LawAtS l w K (L2.CX l.prog w) 21 63 "script" mg fa h := by
  have e := hfa.symm.trans (PySem.W.mg_of X G a_law)
  cases e
  have F_dice := fun_mk (st := sDice) l_dice c_dice k_dice
  have b_dice := F_dice.binds (ps := ["cell"]) fun _ _ _ _ _ _ us hl => match us, hl with | [_], _ => rfl
  have F_roll := fun_mk (st := sRoll) l_roll c_roll k_roll
  have b_roll := F_roll.binds (ps := ["dice", "many"]) fun _ _ _ _ _ _ us hl => match us, hl with | [_, _], _ => rfl
  have F_rounds := fun_mk (st := sRounds) l_rounds c_rounds k_rounds
  have b_rounds := F_rounds.binds (ps := ["script", "most"]) fun _ _ _ _ _ _ us hl => match us, hl with | [_, _], _ => rfl
  have F_told := fun_mk (st := sTold) l_told c_told k_told
  have b_told := F_told.binds (ps := ["what"]) fun _ _ _ _ _ _ us hl => match us, hl with | [_], _ => rfl
  have F_folder := fun_mk (st := sFolder) l_folder c_folder k_folder
  have b_folder := F_folder.binds (ps := ["dice"]) fun _ _ _ _ _ _ us hl => match us, hl with | [_], _ => rfl
  have F_files := fun_mk (st := sFiles) l_files c_files k_files
  have b_files := F_files.binds (ps := ["dice"]) fun _ _ _ _ _ _ us hl => match us, hl with | [_], _ => rfl
  have F_lsees := fun_mk (st := sLsees) l_lsees c_lsees k_lsees
  have b_lsees := F_lsees.binds (ps := ["folders", "path"]) fun _ _ _ _ _ _ us hl => match us, hl with | [_, _], _ => rfl
  have F_parts := fun_mk (st := sParts) l_parts c_parts k_parts
  have b_parts := F_parts.binds (ps := ["path"]) fun _ _ _ _ _ _ us hl => match us, hl with | [_], _ => rfl
  have F_init := fun_mk (st := sWInit) l_init c_init k_init
  have b_init := F_init.binds (ps := ["self", "folders"]) fun _ _ _ _ _ _ us hl => match us, hl with | [_, _], _ => rfl
  have F_sees := fun_mk (st := sWSees) l_sees c_sees k_sees
  have b_sees := F_sees.binds (ps := ["self", "path"]) fun _ _ _ _ _ _ us hl => match us, hl with | [_, _], _ => rfl
  have F_look := fun_mk (st := sWLook) l_look c_look k_look
  have b_look := F_look.binds (ps := ["self", "files"]) fun _ _ _ _ _ _ us hl => match us, hl with | [_, _], _ => rfl
  have F_wider := fun_mk (st := sWWider) l_wider c_wider k_wider
  have b_wider := F_wider.binds (ps := ["self", "folders"]) fun _ _ _ _ _ _ us hl => match us, hl with | [_, _], _ => rfl
  have F_deeds := fun_mk (st := sWDeeds) l_deeds c_deeds k_deeds
  have b_deeds := F_deeds.binds (ps := ["self", "before", "after"]) fun _ _ _ _ _ _ us hl => match us, hl with | [_, _, _], _ => rfl
  have F_ch := fun_mk (st := sCheck) l_ch c_ch_h k_ch
  have b_ch := F_ch.binds (ps := ["name"]) fun _ _ _ _ _ _ us hl => match us, hl with | [_], _ => rfl
  have F_wi := fun_mk (st := sWWith) l_wi c_wi_h k_wi
  have b_wi := F_wi.binds (ps := ["self", "files", "seen"]) fun _ _ _ _ _ _ us hl => match us, hl with | [_, _, _], _ => rfl
  have L : ∀ base : Heap, LamX.TabB base mg c_ch PC → LamX.TabB base mg c_wi PV → LawT K mg base ⟨CW, CE, CC, c_ch, PC, c_wi, PV, f_dice, f_roll, f_rounds, f_told, f_folder, f_files, f_lsees, f_ch, f_parts, f_init, f_sees, f_look, f_wi, f_wider, f_deeds, _, _, _, _, _, _, _, _, _, _, _, _, _, _, _⟩ := fun base hTC hTV => { T := ⟨⟨pgCW, hdCW, poCW, saCW⟩, nW⟩, XE := ⟨PySem.W.mg_of X G aE, kCE, xCE, bCE, tCE⟩, XC := ⟨PySem.W.mg_of X G aC, kCC, xCC, bCC, tCC⟩, mEE := mCE, mCE := mCC, mkW := ⟨mkCW, a_init, i_init, kcCW⟩, gW := PySem.W.mg_of X G aW, sgn := ⟨_, PySem.W.mg_of X G aS⟩, deep := ⟨_, PySem.W.mg_of X G aD⟩, dice := ⟨F_dice, PySem.W.mg_of X G a_dice, k_dice, b_dice⟩, roll := ⟨F_roll, PySem.W.mg_of X G a_roll, k_roll, b_roll⟩, rounds := ⟨F_rounds, PySem.W.mg_of X G a_rounds, k_rounds, b_rounds⟩, told := ⟨F_told, PySem.W.mg_of X G a_told, k_told, b_told⟩, folder := ⟨F_folder, PySem.W.mg_of X G a_folder, k_folder, b_folder⟩, files := ⟨F_files, PySem.W.mg_of X G a_files, k_files, b_files⟩, lsees := ⟨F_lsees, PySem.W.mg_of X G a_lsees, k_lsees, b_lsees⟩, parts := ⟨F_parts, PySem.W.mg_of X G a_parts, k_parts, b_parts⟩, init := ⟨F_init, ⟨a_init, i_init, k_init⟩, b_init⟩, sees := ⟨F_sees, ⟨a_sees, i_sees, k_sees⟩, b_sees⟩, look := ⟨F_look, ⟨a_look, i_look, k_look⟩, b_look⟩, wider := ⟨F_wider, ⟨a_wider, i_wider, k_wider⟩, b_wider⟩, deeds := ⟨F_deeds, ⟨a_deeds, i_deeds, k_deeds⟩, b_deeds⟩, chG := PySem.W.mg_of X G a_ch, chK := k_ch, chB := b_ch, ch := ⟨_, _, _, _, _, _, _, _, _, rfl, l_ch⟩, chC := c_ch_h, chT := hTC, wiM := ⟨a_wi, i_wi, k_wi⟩, wiB := b_wi, wi := ⟨_, _, _, _, _, _, _, _, _, rfl, l_wi⟩, wiC := c_wi_h, wiT := hTV, neP := n3, zAbs := PySem.W.mg_none_of X G z_abs, zInt := PySem.W.mg_none_of X G z_int, zRange := PySem.W.mg_none_of X G z_range, zLen := PySem.W.mg_none_of X G z_len, zDict := PySem.W.mg_none_of X G z_dict, zTuple := PySem.W.mg_none_of X G z_tuple, zList := PySem.W.mg_none_of X G z_list, zSorted := PySem.W.mg_none_of X G z_sorted, zAny := PySem.W.mg_none_of X G z_any, zStr := PySem.W.mg_none_of X G z_str }
  refine ⟨_, [(c_law, Pt), (c_ch, PC), (c_wi, PV)], (pLaw K).sp (lawTb ⟨CW, CE, CC, c_ch, PC, c_wi, PV, f_dice, f_roll, f_rounds, f_told, f_folder, f_files, f_lsees, f_ch, f_parts, f_init, f_sees, f_look, f_wi, f_wider, f_deeds, _, _, _, _, _, _, _, _, _, _, _, _, _, _, _⟩ Pt), fun p hp => ?_, fun p hp => ?_, fun p hp => ?_, fun s u => .of_eq rfl, fun H a ns hl _ hH hS => ?_, fun base _ _ hTB => ok_law (L base (hTB _ (List.Mem.tail _ (List.Mem.head _))) (hTB _ (List.Mem.tail _ (List.Mem.tail _ (List.Mem.head _))))) n1 n2 l_law c_law_h (hTB _ (List.Mem.head _))⟩
  · rcases List.mem_cons.mp hp with rfl | hp
    · exact gT
    · rcases List.mem_cons.mp hp with rfl | hp
      · exact gC
      · rw [List.mem_singleton.mp hp]
        exact gV
  · rcases List.mem_cons.mp hp with rfl | hp
    · exact nT
    · rcases List.mem_cons.mp hp with rfl | hp
      · exact nC
      · rw [List.mem_singleton.mp hp]
        exact nV
  · rcases List.mem_cons.mp hp with rfl | hp
    · exact PySem.W.codeHd_of_K X hT
    · rcases List.mem_cons.mp hp with rfl | hp
      · exact PySem.W.codeHd_of_K X hC
      · rw [List.mem_singleton.mp hp]
        exact PySem.W.codeHd_of_K X hV
  · exact law_sp hS (hH _ (List.Mem.head _)) (hH _ (List.Mem.tail _ (List.Mem.head _))) (hH _ (List.Mem.tail _ (List.Mem.tail _ (List.Mem.head _))))
end K23

end
section
open PySem PySem.W PyProof.Rows
set_option Elab.async false
set_option linter.all false
set_option maxRecDepth 100000
set_option pp.deepTerms false
set_option pp.maxSteps 800
/-! the head is asked for the tables of the two too -/
local macro_rules
  | `(tactic| o_head ($_:ident $K $as $e $_)) => `(tactic| o_head ((PySem.W.kmHook) $K $as $e [146, 41, 81]))
set_option maxHeartbeats 0 in
theorem PySem.Challenge.cw_landstack_k23_windows_on_a_part_holds : PySem.Challenge.rw_landstack_k23_windows_on_a_part.Holds := by
  w_on; o_law; k_head; (case hw => w_witness2)
  k_fill
  refine LamX.walk_ofTs (l := PySem.Challenge.rw_landstack_k23_windows_on_a_part) (n := 63) (k := 21) (x := "script") (CX := fun w => L2.CX PySem.Challenge.rw_landstack_k23_windows_on_a_part.prog w) rfl (by decide) rfl ⟨rfl, by decide, by decide⟩ (fun w h Y => PySem.W.km_in_of Y) ?F (fun w H s e s' ⟨_,_,_,_,_,_,_,_,_,_,_,_,z⟩ => z)
  case F =>
    intro w mg fa h Y KX G hmg
    refine' K23.all_mk (Pt := 146) (PC := 41) (PV := 81) KX G hmg ?aW ?aE ?aC ?aS ?aD ?a_dice ?l_dice ?c_dice ?k_dice ?a_roll ?l_roll ?c_roll ?k_roll ?a_rounds ?l_rounds ?c_rounds ?k_rounds ?a_told ?l_told ?c_told ?k_told ?a_folder ?l_folder ?c_folder ?k_folder ?a_files ?l_files ?c_files ?k_files ?a_lsees ?l_lsees ?c_lsees ?k_lsees ?a_parts ?l_parts ?c_parts ?k_parts ?a_init ?i_init ?l_init ?c_init ?k_init ?a_sees ?i_sees ?l_sees ?c_sees ?k_sees ?a_look ?i_look ?l_look ?c_look ?k_look ?a_wider ?i_wider ?l_wider ?c_wider ?k_wider ?a_deeds ?i_deeds ?l_deeds ?c_deeds ?k_deeds ?a_law ?l_law ?c_law_h ?k_law ?a_ch ?l_ch ?c_ch_h ?k_ch ?a_wi ?i_wi ?l_wi ?c_wi_h ?k_wi ?pgCW ?hdCW ?poCW ?saCW ?mkCW ?kcCW ?nW ?kCE ?xCE ?bCE ?tCE ?mCE ?kCC ?xCC ?bCC ?tCC ?mCC ?z_abs ?z_int ?z_range ?z_len ?z_dict ?z_tuple ?z_list ?z_sorted ?z_any ?z_str ?n1 ?n2 ?n3 ?hT ?nT ?hC ?nC ?hV ?nV ?gT ?gC ?gV
    (case aW => k_is)
    (case aE => k_is)
    (case aC => k_is)
    (case aS => k_is)
    (case aD => k_is)
    (case a_dice => k_is)
    (case l_dice => k_is)
    (case c_dice => k_is)
    (case k_dice => k_is)
    (case a_roll => k_is)
    (case l_roll => k_is)
    (case c_roll => k_is)
    (case k_roll => k_is)
    (case a_rounds => k_is)
    (case l_rounds => k_is)
    (case c_rounds => k_is)
    (case k_rounds => k_is)
    (case a_told => k_is)
    (case l_told => k_is)
    (case c_told => k_is)
    (case k_told => k_is)
    (case a_folder => k_is)
    (case l_folder => k_is)
    (case c_folder => k_is)
    (case k_folder => k_is)
    (case a_files => k_is)
    (case l_files => k_is)
    (case c_files => k_is)
    (case k_files => k_is)
    (case a_lsees => k_is)
    (case l_lsees => k_is)
    (case c_lsees => k_is)
    (case k_lsees => k_is)
    (case a_parts => k_is)
    (case l_parts => k_is)
    (case c_parts => k_is)
    (case k_parts => k_is)
    (case a_init => k_is)
    (case i_init => k_is)
    (case l_init => k_is)
    (case c_init => k_is)
    (case k_init => k_is)
    (case a_sees => k_is)
    (case i_sees => k_is)
    (case l_sees => k_is)
    (case c_sees => k_is)
    (case k_sees => k_is)
    (case a_look => k_is)
    (case i_look => k_is)
    (case l_look => k_is)
    (case c_look => k_is)
    (case k_look => k_is)
    (case a_wider => k_is)
    (case i_wider => k_is)
    (case l_wider => k_is)
    (case c_wider => k_is)
    (case k_wider => k_is)
    (case a_deeds => k_is)
    (case i_deeds => k_is)
    (case l_deeds => k_is)
    (case c_deeds => k_is)
    (case k_deeds => k_is)
    (case a_law => k_is)
    (case l_law => k_is)
    (case c_law_h => k_is)
    (case k_law => k_is)
    (case a_ch => k_is)
    (case l_ch => k_is)
    (case c_ch_h => k_is)
    (case k_ch => k_is)
    (case a_wi => k_is)
    (case i_wi => k_is)
    (case l_wi => k_is)
    (case c_wi_h => k_is)
    (case k_wi => k_is)
    (case pgCW => k_is)
    (case hdCW => k_is)
    (case poCW => k_is)
    (case saCW => k_is)
    (case mkCW => k_is)
    (case kcCW => k_is)
    (case nW => k_is)
    (case kCE => k_is)
    (case xCE => kernel_rfl)
    (case bCE => k_is)
    (case tCE => k_is)
    (case mCE => kernel_rfl)
    (case kCC => k_is)
    (case xCC => kernel_rfl)
    (case bCC => k_is)
    (case tCC => k_is)
    (case mCC => kernel_rfl)
    (case z_abs => k_is)
    (case z_int => k_is)
    (case z_range => k_is)
    (case z_len => k_is)
    (case z_dict => k_is)
    (case z_tuple => k_is)
    (case z_list => k_is)
    (case z_sorted => k_is)
    (case z_any => k_is)
    (case z_str => k_is)
    (case n1 => decide)
    (case n2 => decide)
    (case n3 => decide)
    (case hT => kernel_rfl)
    (case nT => kernel_rfl)
    (case hC => kernel_rfl)
    (case nC => kernel_rfl)
    (case hV => kernel_rfl)
    (case nV => kernel_rfl)
    (case gT => exact PySem.W.km_tabs_of Y _ (by k_mem))
    (case gC => exact PySem.W.km_tabs_of Y _ (by k_mem))
    (case gV => exact PySem.W.km_tabs_of Y _ (by k_mem))

end
