import PyProof.Rows.All
import Wide.All
import OpenK.AllK
import Wide.FinOn
import KE.KStateDown
import HandS.Head0
import HandS.Head1
import HandS.Head2
import HandS.HeadEnd
import HandS.HeadNt
import HandS.ForMost
import HandS.Flow
import HandS.IsInst
import HandS.Walk
import HandS.Star
import HandS.TupAny
import HandS.Zip
import HandS.FStr
import KE.DataEq
import KE.SortCalls
import KE.GoesEnum
import HandS.DictComp
import KE.KTupSum
import HandS.Defaults
import PySem.Challenge.RW_latecharge_k15_whole_books_and_objects
import KE.SortData
import HandS.Text
import HandS.OwnEq
import HandS.Property
import HandS.ClsMeth
import KE.KOpsOwn
import KE.KCallOwn
import KE.KOwnIter
import PyProof.InstEq
import OpenK.KMeth
import HandS.IterVal
import HandS.CallLocal
import PyProof.CallStr
import HandS.Codes
import HandS.TupSets
import HandS.GenList
import HandS.TupMul
set_option Elab.async false
set_option linter.all false
set_option maxRecDepth 100000
set_option maxHeartbeats 4000000
section
/-! Lc, part A: entities, environments of entities, the judgements. -/
namespace Lc
open PySem L2
abbrev D := PyData

/-! ### Dp is kept -/
theorem seqT_same {K : PySem.W.Frag} {H H' : Hp} {a : Addr} {xs : List V} (e : Same H H') (h : SqT K H a xs) : SqT K H' a xs := by
  rcases h with (h | ⟨o, h⟩) | h
  · exact .inl (.inl (e _ _ h))
  · exact .inl (.inr ⟨o, e _ _ h⟩)
  · exact .inr h
mutual
theorem dp_mono {K : PySem.W.Frag} {H H' : Hp} (e : Same H H') : ∀ {v : V} {d : D}, Dp K H v d → Dp K H' v d
  | _, _, .non => .non
  | _, _, .bl b => .bl b
  | _, _, .int i => .int i
  | _, _, .str x => .str x
  | _, _, .lst h t => .lst (e.seq h) (dpAll_mono e t)
  | _, _, .tup h t => .tup (seqT_same e h) (dpAll_mono e t)
theorem dpAll_mono {K : PySem.W.Frag} {H H' : Hp} (e : Same H H') : ∀ {vs : List V} {ds : List D}, DpAll K H vs ds → DpAll K H' vs ds
  | _, _, .nil => .nil
  | _, _, .cons h t => .cons (dp_mono e h) (dpAll_mono e t)
end
theorem Same.new {H : Hp} {p : Addr} {o : HO} (h : H p = none) : Same H (upd H p o) := fun b u e => by
  rw [upd_ne (ne_of_none e h)]
  exact e

/-! ### entities -/
/-- what is known of a value: it stays known while the heap grows -/
structure Ent where
  is : V → Hp → Prop
  mono : ∀ {v : V} {H H' : Hp}, Same H H' → is v H → is v H'
/-- data -/
def dat (K : PySem.W.Frag) (d : D) : Ent := ⟨fun v H => Dp K H v d, fun e h => dp_mono e h⟩
/-- just this value -/
def val (v : V) : Ent := ⟨fun w _ => w = v, fun _ h => h⟩
/-- data with a bound on nothing: any value -/
def anyE : Ent := ⟨fun _ _ => True, fun _ _ => True.intro⟩
abbrev Rho := List (Option Ent)
def EnvOk (σ : L2.St) (H : Hp) (ρ : Rho) : Prop := ∀ (i : Nat) (E : Ent), ρ[i]? = some (some E) → ∃ v, σ[i]? = some (some v) ∧ E.is v H
theorem EnvOk.mono {σ : L2.St} {H H' : Hp} {ρ : Rho} (h : EnvOk σ H ρ) (e : Same H H') : EnvOk σ H' ρ := fun i E q => by
  obtain ⟨v, h1, h2⟩ := h i E q
  exact ⟨v, h1, E.mono e h2⟩
theorem EnvOk.set {σ : L2.St} {H : Hp} {ρ : Rho} (h : EnvOk σ H ρ) {i : Nat} {v : V} {E : Ent} (hi : i < σ.length) (hv : E.is v H) : EnvOk (σ.set i (some v)) H (ρ.set i (some E)) := fun j F q => by
  by_cases hj : i = j
  · subst hj
    by_cases hl : i < ρ.length
    · rw [List.getElem?_set_self hl] at q
      cases q
      exact ⟨v, List.getElem?_set_self hi, hv⟩
    · rw [List.getElem?_eq_none (by simpa using hl)] at q
      cases q
  · rw [List.getElem?_set_ne hj] at q ⊢
    exact h j F q
/-- slot i forgotten -/
theorem EnvOk.drop {σ : L2.St} {H : Hp} {ρ : Rho} (h : EnvOk σ H ρ) {i : Nat} {x : Option V} : EnvOk (σ.set i x) H (ρ.set i none) := fun j F q => by
  by_cases hj : i = j
  · subst hj
    by_cases hl : i < ρ.length
    · rw [List.getElem?_set_self hl] at q
      cases q
    · rw [List.getElem?_eq_none (by simpa using hl)] at q
      cases q
  · rw [List.getElem?_set_ne hj] at q ⊢
    exact h j F q
/-- a list of values by a list of entities -/
inductive All2 (H : Hp) : List V → List Ent → Prop
  | nil : All2 H [] []
  | cons {v : V} {vs : List V} {E : Ent} {Es : List Ent} : E.is v H → All2 H vs Es → All2 H (v :: vs) (E :: Es)
theorem All2.mono {H H' : Hp} (e : Same H H') : ∀ {vs : List V} {Es : List Ent}, All2 H vs Es → All2 H' vs Es
  | _, _, .nil => .nil
  | _, _, .cons h t => .cons (Ent.mono _ e h) (All2.mono e t)
theorem All2.length {H : Hp} : ∀ {vs : List V} {Es : List Ent}, All2 H vs Es → vs.length = Es.length
  | _, _, .nil => rfl
  | _, _, .cons _ t => by rw [List.length_cons, List.length_cons, All2.length t]
theorem All2.append {H : Hp} : ∀ {vs ws : List V} {Es Fs : List Ent}, All2 H vs Es → All2 H ws Fs → All2 H (vs ++ ws) (Es ++ Fs)
  | _, _, _, _, .nil, t => t
  | _, _, _, _, .cons h s, t => .cons h (All2.append s t)
theorem All2.get {H : Hp} : ∀ {vs : List V} {Es : List Ent} {i : Nat} {E : Ent}, All2 H vs Es → Es[i]? = some E → ∃ v, vs[i]? = some v ∧ E.is v H
  | _, _, _, _, .nil, e => by simp at e
  | _, _, 0, _, .cons h _, e => by simp at e; subst e; exact ⟨_, rfl, h⟩
  | _, _, i + 1, E, .cons _ t, e => by
    obtain ⟨v, h1, h2⟩ := All2.get (i := i) (E := E) t (by simpa using e)
    exact ⟨v, by simpa using h1, h2⟩
theorem all2_dp {K : PySem.W.Frag} {H : Hp} : ∀ {vs : List V} {ds : List D}, DpAll K H vs ds → All2 H vs (ds.map (dat K))
  | _, _, .nil => .nil
  | _, _, .cons h t => .cons h (all2_dp t)
theorem dp_all2 {K : PySem.W.Frag} {H : Hp} : ∀ {ds : List D} {vs : List V}, All2 H vs (ds.map (dat K)) → DpAll K H vs ds
  | [], _, .nil => .nil
  | _ :: _, _, .cons h t => .cons h (dp_all2 t)

/-! ### the judgements' readings -/
def tD (ρ : Rho) (E : Ent) : TE := fun σ H Q => EnvOk σ H ρ ∧ ∀ v H', Same H H' → E.is v H' → Q v H'
def tDT (ρ : Rho) (b : Bool) : TT := fun σ H Q => EnvOk σ H ρ ∧ ∀ H', Same H H' → Q b H'
def tDA (ρ : Rho) (Es : List Ent) : TA := fun σ H Q => EnvOk σ H ρ ∧ ∀ vs H', Same H H' → All2 H' vs Es → Q vs H'
/-- a statement that goes on, with ρ' behind it -/
def tDS (ρ ρ' : Rho) : TS := fun D σ H => EnvOk σ H ρ ∧ ∀ σ' H', Same H H' → σ'.length = σ.length → EnvOk σ' H' ρ' → D.nx σ' H'
/-- a block that hands back E -/
def tDR (ρ : Rho) (E : Ent) : TS := fun D σ H => EnvOk σ H ρ ∧ ∀ v H', Same H H' → E.is v H' → D.rt v H'
/-- what is walked: n turns, the i-th gives Es[i] -/
structure Wk (J : It) (H0 : Hp) (Es : List Ent) : Prop where
  goes : ∀ i H, i < Es.length → Same H0 H → J.go i H
  stops : ∀ H, Same H0 H → J.stop Es.length H
  yields : ∀ i H x H', i < Es.length → Same H0 H → J.yld i H x H' → Same H H' ∧ ∀ E, Es[i]? = some E → E.is x H'
def tDI (ρ : Rho) (Es : List Ent) : TI := fun σ H R => EnvOk σ H ρ ∧ ∀ J H', Same H H' → Wk J H' Es → R J H'
/-- a target: what it binds -/
def tDG (E : Ent) (f : Rho → Rho) : TG := fun v σ H Q => E.is v H ∧ ∀ σ' H', Same H H' → σ'.length = σ.length → (∀ ρ H0, Same H0 H → EnvOk σ H0 ρ → EnvOk σ' H' (f ρ)) → Q σ' H'

theorem PE.imp {X : Cx} {e : Expr} {t t' : TE} (h : PE X e t) (w : ∀ σ H Q, σ.length = X.N.length → t' σ H Q → t σ H Q) : PE X e t' := ⟨fun pins s σ H Q I q => h.run pins s σ H Q I (w σ H Q I.len q)⟩
theorem PT.imp {X : Cx} {e : Expr} {t t' : TT} (h : PT X e t) (w : ∀ σ H Q, σ.length = X.N.length → t' σ H Q → t σ H Q) : PT X e t' := ⟨fun pins s σ H Q I q => h.run pins s σ H Q I (w σ H Q I.len q)⟩
theorem PA.imp {X : Cx} {e : List Expr} {t t' : TA} (h : PA X e t) (w : ∀ σ H Q, σ.length = X.N.length → t' σ H Q → t σ H Q) : PA X e t' := ⟨fun pos pins s σ H Q I q => h.run pos pins s σ H Q I (w σ H Q I.len q)⟩
theorem PS.imp {X : Cx} {e : Stmt} {t t' : TS} (h : PS X e t) (w : ∀ D σ H, σ.length = X.N.length → t' D σ H → t D σ H) : PS X e t' := ⟨fun pins s σ H D I q => h.run pins s σ H D I (w D σ H I.len q)⟩
theorem PSs.imp {X : Cx} {e : List Stmt} {t t' : TS} (h : PSs X e t) (w : ∀ D σ H, σ.length = X.N.length → t' D σ H → t D σ H) : PSs X e t' := ⟨fun pins s σ H D I q => h.run pins s σ H D I (w D σ H I.len q)⟩
theorem PI.imp {X : Cx} {tg e : Expr} {t t' : TI} (h : PI X tg e t) (w : ∀ σ H Q, σ.length = X.N.length → t' σ H Q → t σ H Q) : PI X tg e t' := ⟨fun pins s σ H R I q => h.run pins s σ H R I (w σ H R I.len q)⟩
theorem PG.imp {X : Cx} {tg : Expr} {t t' : TG} (h : PG X tg t) (w : ∀ v σ H Q, σ.length = X.N.length → t' v σ H Q → t v σ H Q) : PG X tg t' := ⟨fun pins s σ H v u Q I r q => h.run pins s σ H v u Q I r (w v σ H Q I.len q)⟩

abbrev DE (X : Cx) (ρ : Rho) (e : Expr) (E : Ent) : Prop := PE X e (tD ρ E)
abbrev DT (X : Cx) (ρ : Rho) (e : Expr) (b : Bool) : Prop := PT X e (tDT ρ b)
abbrev DA (X : Cx) (ρ : Rho) (es : List Expr) (Es : List Ent) : Prop := PA X es (tDA ρ Es)
abbrev DS (X : Cx) (ρ : Rho) (st : Stmt) (ρ' : Rho) : Prop := PS X st (tDS ρ ρ')
abbrev DR (X : Cx) (ρ : Rho) (sts : List Stmt) (E : Ent) : Prop := PSs X sts (tDR ρ E)
abbrev DN (X : Cx) (ρ : Rho) (sts : List Stmt) (ρ' : Rho) : Prop := PSs X sts (tDS ρ ρ')
abbrev DI (X : Cx) (ρ : Rho) (tg e : Expr) (Es : List Ent) : Prop := PI X tg e (tDI ρ Es)
abbrev DG (X : Cx) (tg : Expr) (E : Ent) (f : Rho → Rho) : Prop := PG X tg (tDG E f)

/-- the context's facts -/
structure Gx (X : Cx) (k : Nat) : Prop where
  calm : X.calm = true
  room : Room k X.A
  nd : X.N.Nodup
theorem Gx.mono {X : Cx} {j k : Nat} (g : Gx X k) (h : j ≤ k) : Gx X j := ⟨g.calm, g.room.mono h, g.nd⟩
theorem Gx.blk {X : Cx} {k : Nat} (g : Gx X k) (s : Shared) (H : Hp) (scope : Scope) (cenv : Env) (fp : List Addr) : Gx (X.blk s H scope cenv fp) k := ⟨g.calm, g.room, g.nd⟩

section
variable {X : Cx} {ρ ρ' : Rho} {a b c e : Expr} {E F G : Ent} {pos : Pos}

/-! ### constants, names -/
theorem de_imp (h : DE X ρ e E) (w : ∀ v H, E.is v H → F.is v H) : DE X ρ e F := PE.imp h fun _ _ _ _ q => ⟨q.1, fun v H' s i => q.2 v H' s (w v H' i)⟩
theorem de_int {i : Int} {j} : DE X ρ (.Constant (.int i) j pos) (dat X.K (.int i)) := PE.imp pe_int fun _ H _ _ q => q.2 _ H (Same.refl H) (.int i)
theorem de_bl {i : Bool} {j} : DE X ρ (.Constant (.bool i) j pos) (dat X.K (.bool i)) := PE.imp pe_bl fun _ H _ _ q => q.2 _ H (Same.refl H) (.bl i)
theorem de_non {j} : DE X ρ (.Constant .none j pos) (dat X.K .none) := PE.imp pe_non fun _ H _ _ q => q.2 _ H (Same.refl H) .non
theorem de_str {x : Str} {j} : DE X ρ (.Constant (.str x) j pos) (dat X.K (.str x)) := PE.imp pe_str fun _ H _ _ q => q.2 _ H (Same.refl H) (.str x)
theorem de_var (i : Nat) {x : Str} (hρ : ρ[i]? = some (some E) := by rfl) (hN : X.N[i]? = some x := by rfl) (hv : Vis X.env.scope x := by first | exact Or.inl rfl | exact Or.inr (Or.inl rfl) | exact Or.inr (Or.inr rfl)) (hd : (x == ("__debug__" : Str)) = false := by decide)
    (hcd : (x == ("__classdict__" : Str)) = false := by decide) : DE X ρ (.Name x pos) E := PE.imp (pe_var hN hv hd hcd) fun σ H Q _ q => by
  obtain ⟨v, h1, h2⟩ := q.1 i E hρ
  exact ⟨v, h1, q.2 v H (Same.refl H) h2⟩
theorem de_gstr {x : Str} {z : Str} {t : Tok} (hg : Gl X x) (hm : X.mg x = some (.str z t)) (hd : (x == ("__debug__" : Str)) = false := by decide) : DE X ρ (.Name x pos) (dat X.K (.str z)) :=
  PE.imp (pe_glob (v := .str z) hg hm ⟨t, rfl⟩ hd) fun _ H _ _ q => q.2 _ H (Same.refl H) (.str z)
theorem de_gint {x : Str} {z : Int} {t : Tok} (hg : Gl X x) (hm : X.mg x = some (.int z t)) (hd : (x == ("__debug__" : Str)) = false := by decide) : DE X ρ (.Name x pos) (dat X.K (.int z)) :=
  PE.imp (pe_glob (v := .int z) hg hm ⟨t, rfl⟩ hd) fun _ H _ _ q => q.2 _ H (Same.refl H) (.int z)

/-! ### two places -/
theorem de_op2 {op : Operator} {r : R2} (ho : OpR X (binaryOp op) r) (ha : DE X ρ a E) (hb : DE X ρ b F)
    (hr : ∀ (x y : V) (H : Hp) (Q : VK), E.is x H → F.is y H → (∀ v H', Same H H' → G.is v H' → Q v H') → r x y H Q) : DE X ρ (.BinOp a op b pos) G :=
  PE.imp (pe_op ho ha hb) fun σ H Q _ q => ⟨q.1, fun x H1 s1 i1 => ⟨q.1.mono s1, fun y H2 s2 i2 => hr x y H2 Q (E.mono s2 i1) i2 fun v H3 s3 i3 => q.2 v H3 ((s1.trans s2).trans s3) i3⟩⟩
theorem PC.imp {X : Cx} {op : CmpOp} {a b : Expr} {t t' : TE} (h : PC X op a b t) (w : ∀ σ H Q, σ.length = X.N.length → t' σ H Q → t σ H Q) : PC X op a b t' := ⟨fun pins s σ H Q I q => h.run pins s σ H Q I (w σ H Q I.len q)⟩
/-- a comparison of a and b -/
abbrev DC (X : Cx) (ρ : Rho) (op : CmpOp) (a b : Expr) (E : Ent) : Prop := PC X op a b (tD ρ E)
theorem dc_cmp2 {op : CmpOp} {r : R2} (ho : OpR X (compareOp op) r) (ha : DE X ρ a E) (hb : DE X ρ b F)
    (hr : ∀ (x y : V) (H : Hp) (Q : VK), E.is x H → F.is y H → (∀ v H', Same H H' → G.is v H' → Q v H') → r x y H Q) : DC X ρ op a b G := by
  refine ⟨fun pins s σ H Q I q => ?_⟩
  refine thn (ha.run pins s σ H (fun x H1 => Same H H1 ∧ E.is x H1) I ⟨q.1, fun x H1 s1 i1 => ⟨s1, i1⟩⟩) fun v s1 ⟨x, H1, I1, r1, q1⟩ => ?_
  refine thn (hb.run pins s1 σ H1 (fun x H2 => Same H1 H2 ∧ F.is x H2) I1 ⟨q.1.mono q1.1, fun x H1 s1 i1 => ⟨s1, i1⟩⟩) fun u s2 ⟨y, H2, I2, r2, q2⟩ => ?_
  exact ho pins s2 σ H2 x y v u Q I2 r1 r2 (hr x y H2 Q (E.mono q2.1 q1.2) q2.2 fun v H3 s3 i3 => q.2 v H3 ((q1.1.trans q2.1).trans s3) i3)
theorem de_c {op : CmpOp} (h : DC X ρ op a b E) (hm : behindInMarks op b = false := by first | exact nobehind _ (by decide) (by decide) | rfl) : DE X ρ (.Compare a [op] [b] pos) E := pe_cmp h hm
theorem dt_c {k : Bool} {op : CmpOp} (h : DC X ρ op a b (dat X.K (.bool k))) (hm : behindInMarks op b = false := by first | exact nobehind _ (by decide) (by decide) | rfl) : DT X ρ (.Compare a [op] [b] pos) k :=
  PT.imp (pt_cmp h hm) fun σ H Q _ q => ⟨q.1, fun x H1 s1 i1 => by
    cases i1
    exact ⟨k, rfl, q.2 H1 s1⟩⟩
theorem ri0 {K : PySem.W.Frag} {f : Int → Int → V} {g : Int → Int → D} {i j : Int} (hfg : ∀ H, Dp K H (f i j) (g i j)) : ∀ (x y : V) (H : Hp) (Q : VK), (dat K (.int i)).is x H → (dat K (.int j)).is y H → (∀ v H', Same H H' → (dat K (g i j)).is v H' → Q v H') → rI0 f x y H Q := by
  intro x y H Q hx hy q
  cases hx
  cases hy
  exact ⟨i, j, rfl, rfl, q _ H (Same.refl H) (hfg H)⟩
variable {i j : Int}
theorem de_add (ha : DE X ρ a (dat X.K (.int i))) (hb : DE X ρ b (dat X.K (.int j))) : DE X ρ (.BinOp a .Add b pos) (dat X.K (.int (i + j))) := de_op2 op_add ha hb (ri0 (g := fun i j => .int (i + j)) fun _ => .int _)
theorem de_sub (ha : DE X ρ a (dat X.K (.int i))) (hb : DE X ρ b (dat X.K (.int j))) : DE X ρ (.BinOp a .Sub b pos) (dat X.K (.int (i - j))) := de_op2 op_sub ha hb (ri0 (g := fun i j => .int (i - j)) fun _ => .int _)
theorem dc_lt (ha : DE X ρ a (dat X.K (.int i))) (hb : DE X ρ b (dat X.K (.int j))) : DC X ρ .Lt a b (dat X.K (.bool (decide (i < j)))) := dc_cmp2 op_lt ha hb (ri0 (g := fun i j => .bool (decide (i < j))) fun _ => .bl _)
theorem dc_le (ha : DE X ρ a (dat X.K (.int i))) (hb : DE X ρ b (dat X.K (.int j))) : DC X ρ .LtE a b (dat X.K (.bool (decide (i ≤ j)))) := dc_cmp2 op_le ha hb (ri0 (g := fun i j => .bool (decide (i ≤ j))) fun _ => .bl _)
theorem dc_ge (ha : DE X ρ a (dat X.K (.int i))) (hb : DE X ρ b (dat X.K (.int j))) : DC X ρ .GtE a b (dat X.K (.bool (decide (j ≤ i)))) := dc_cmp2 op_ge ha hb (ri0 (g := fun i j => .bool (decide (j ≤ i))) fun _ => .bl _)
theorem dc_gt (ha : DE X ρ a (dat X.K (.int i))) (hb : DE X ρ b (dat X.K (.int j))) : DC X ρ .Gt a b (dat X.K (.bool (decide (j < i)))) := dc_cmp2 op_gt ha hb (ri0 (g := fun i j => .bool (decide (j < i))) fun _ => .bl _)
end
end Lc
end
section
/-! Lc, part B: rules for expressions. -/
namespace Lc
open PySem L2

/-! ### data helpers -/
theorem dpAll_ints {K : PySem.W.Frag} {H : Hp} : ∀ {vs : List V} {ns : List Int}, DpAll K H vs (ns.map PyData.int) → vs = ns.map V.int
  | _, [], .nil => rfl
  | _, n :: ns, .cons h t => by cases h; rw [List.map_cons, dpAll_ints t]
theorem dpAll_strs {K : PySem.W.Frag} {H : Hp} : ∀ {vs : List V} {ns : List Str}, DpAll K H vs (ns.map PyData.str) → vs = ns.map V.str
  | _, [], .nil => rfl
  | _, n :: ns, .cons h t => by cases h; rw [List.map_cons, dpAll_strs t]
theorem dpAll_bls {K : PySem.W.Frag} {H : Hp} : ∀ {vs : List V} {ns : List Bool}, DpAll K H vs (ns.map PyData.bool) → vs = ns.map V.bl
  | _, [], .nil => rfl
  | _, n :: ns, .cons h t => by cases h; rw [List.map_cons, dpAll_bls t]
theorem dpAll_ofStrs {K : PySem.W.Frag} {H : Hp} : ∀ (ns : List Str), DpAll K H (ns.map V.str) (ns.map PyData.str)
  | [] => .nil
  | _ :: ns => .cons (.str _) (dpAll_ofStrs ns)
theorem dpAll_ofInts {K : PySem.W.Frag} {H : Hp} : ∀ (ns : List Int), DpAll K H (ns.map V.int) (ns.map PyData.int)
  | [] => .nil
  | _ :: ns => .cons (.int _) (dpAll_ofInts ns)
theorem dpAll_get {K : PySem.W.Frag} {H : Hp} : ∀ {vs : List V} {ds : List D} {i : Nat} {d : D}, DpAll K H vs ds → ds[i]? = some d → ∃ v, vs[i]? = some v ∧ Dp K H v d
  | _, _, _, _, .nil, e => by simp at e
  | _, _, 0, _, .cons h _, e => by simp at e; subst e; exact ⟨_, rfl, h⟩
  | _, _, i + 1, d, .cons _ t, e => by
    obtain ⟨v, h1, h2⟩ := dpAll_get (i := i) (d := d) t (by simpa using e)
    exact ⟨v, by simpa using h1, h2⟩
theorem dpAll_len {K : PySem.W.Frag} {H : Hp} : ∀ {vs : List V} {ds : List D}, DpAll K H vs ds → vs.length = ds.length
  | _, _, .nil => rfl
  | _, _, .cons _ t => by rw [List.length_cons, List.length_cons, dpAll_len t]
theorem dpAll_app {K : PySem.W.Frag} {H : Hp} : ∀ {vs ws : List V} {ds es : List D}, DpAll K H vs ds → DpAll K H ws es → DpAll K H (vs ++ ws) (ds ++ es)
  | _, _, _, _, .nil, t => t
  | _, _, _, _, .cons h s, t => .cons h (dpAll_app s t)
theorem dpAll_take {K : PySem.W.Frag} {H : Hp} : ∀ {vs : List V} {ds : List D} (n : Nat), DpAll K H vs ds → DpAll K H (vs.take n) (ds.take n)
  | _, _, 0, _ => .nil
  | _, _, _ + 1, .nil => .nil
  | _, _, n + 1, .cons h t => .cons h (dpAll_take n t)
theorem dpAll_drop {K : PySem.W.Frag} {H : Hp} : ∀ {vs : List V} {ds : List D} (n : Nat), DpAll K H vs ds → DpAll K H (vs.drop n) (ds.drop n)
  | _, _, 0, h => h
  | _, _, _ + 1, .nil => .nil
  | _, _, n + 1, .cons _ t => dpAll_drop n t
/-- a list or a tuple of these data stands at a -/
def SqD (K : PySem.W.Frag) (H : Hp) (v : V) (ds : List D) : Prop := ∃ a xs, v = .ref a ∧ (SqL K H a xs ∨ SqT K H a xs) ∧ DpAll K H xs ds
theorem dp_list {K : PySem.W.Frag} {H : Hp} {v : V} {ds : List D} (h : Dp K H v (.list ds)) : ∃ a xs, v = .ref a ∧ SqL K H a xs ∧ DpAll K H xs ds := by
  cases h with
  | lst h t => exact ⟨_, _, rfl, h, t⟩
theorem dp_tuple {K : PySem.W.Frag} {H : Hp} {v : V} {ds : List D} (h : Dp K H v (.tuple ds)) : ∃ a xs, v = .ref a ∧ SqT K H a xs ∧ DpAll K H xs ds := by
  cases h with
  | tup h t => exact ⟨_, _, rfl, h, t⟩
theorem dp_newL {K : PySem.W.Frag} {H : Hp} {p : Addr} {xs : List V} {ds : List D} (hp : H p = none) (t : DpAll K H xs ds) : Dp K (upd H p (.lst xs)) (.ref p) (.list ds) := .lst (SqL.of upd_same) (dpAll_mono (Same.new hp) t)
theorem dp_newT {K : PySem.W.Frag} {H : Hp} {p : Addr} {xs : List V} {ds : List D} (hp : H p = none) (t : DpAll K H xs ds) : Dp K (upd H p (.tup xs)) (.ref p) (.tuple ds) := .tup (SqT.of upd_same) (dpAll_mono (Same.new hp) t)

/-! ### data without truth values: == is equality -/
mutual
def nb : D → Bool
  | .none | .int _ | .str _ => true
  | .bool _ => false
  | .tuple xs => nbAll xs
  | .list xs => nbAll xs
  | .dict _ => false
def nbAll : List D → Bool
  | [] => true
  | x :: xs => nb x && nbAll xs
end
mutual
theorem nb_plain : ∀ d : D, nb d = true → d.plain = true
  | .none, _ => rfl
  | .int _, _ => rfl
  | .str _, _ => rfl
  | .bool _, h => by simp [nb] at h
  | .tuple xs, h => by simp only [PyData.plain]; exact nbAll_plain xs (by simpa [nb] using h)
  | .list xs, h => by simp only [PyData.plain]; exact nbAll_plain xs (by simpa [nb] using h)
  | .dict _, h => by simp [nb] at h
theorem nbAll_plain : ∀ xs : List D, nbAll xs = true → PyData.plainAll xs = true
  | [], _ => rfl
  | x :: xs, h => by
    simp only [nbAll, Bool.and_eq_true] at h
    simp only [PyData.plainAll, Bool.and_eq_true]
    exact ⟨nb_plain x h.1, nbAll_plain xs h.2⟩
end
mutual
theorem nb_eqv : ∀ d e : D, nb d = true → nb e = true → PyData.eqv d e = true → d = e
  | .none, .none, _, _, _ => rfl
  | .int i, .int j, _, _, h => by simp [PyData.eqv] at h; rw [h]
  | .str i, .str j, _, _, h => by simp [PyData.eqv] at h; rw [h]
  | .tuple xs, .tuple ys, h1, h2, h => by rw [nbAll_eqv xs ys (by simpa [nb] using h1) (by simpa [nb] using h2) (by simpa [PyData.eqv] using h)]
  | .list xs, .list ys, h1, h2, h => by rw [nbAll_eqv xs ys (by simpa [nb] using h1) (by simpa [nb] using h2) (by simpa [PyData.eqv] using h)]
  | .none, .int _, _, _, h | .none, .str _, _, _, h | .none, .tuple _, _, _, h | .none, .list _, _, _, h => by simp [PyData.eqv] at h
  | .int _, .none, _, _, h | .int _, .str _, _, _, h | .int _, .tuple _, _, _, h | .int _, .list _, _, _, h => by simp [PyData.eqv] at h
  | .str _, .none, _, _, h | .str _, .int _, _, _, h | .str _, .tuple _, _, _, h | .str _, .list _, _, _, h => by simp [PyData.eqv] at h
  | .tuple _, .none, _, _, h | .tuple _, .int _, _, _, h | .tuple _, .str _, _, _, h | .tuple _, .list _, _, _, h => by simp [PyData.eqv] at h
  | .list _, .none, _, _, h | .list _, .int _, _, _, h | .list _, .str _, _, _, h | .list _, .tuple _, _, _, h => by simp [PyData.eqv] at h
  | .bool _, _, h, _, _ | .dict _, _, h, _, _ => by simp [nb] at h
  | _, .bool _, _, h, _ | _, .dict _, _, h, _ => by simp [nb] at h
theorem nbAll_eqv : ∀ xs ys : List D, nbAll xs = true → nbAll ys = true → PyData.eqvAll xs ys = true → xs = ys
  | [], [], _, _, _ => rfl
  | [], _ :: _, _, _, h | _ :: _, [], _, _, h => by simp [PyData.eqvAll] at h
  | x :: xs, y :: ys, h1, h2, h => by
    simp only [nbAll, Bool.and_eq_true] at h1 h2
    simp only [PyData.eqvAll, Bool.and_eq_true] at h
    rw [nb_eqv x y h1.1 h2.1 h.1, nbAll_eqv xs ys h1.2 h2.2 h.2]
end
open Classical in
theorem nb_dec {d e : D} (hd : nb d = true) (he : nb e = true) : PyData.eqv d e = decide (d = e) := by
  rw [Bool.eq_iff_iff]
  simp only [decide_eq_true_eq]
  refine ⟨nb_eqv d e hd he, fun q => ?_⟩
  subst q
  exact PySem.SeqAt.eqv_refl_plain d (nb_plain d hd)
/-- a datum that == tells apart as equality does, not too deep -/
def Pl (d : D) : Prop := nb d = true ∧ d.depth ≤ 60
theorem nbAll_map {α : Type} (f : α → D) : ∀ l : List α, (∀ x ∈ l, nb (f x) = true) → nbAll (l.map f) = true
  | [], _ => rfl
  | x :: xs, h => by
    simp only [List.map_cons, nbAll, Bool.and_eq_true]
    exact ⟨h x (by simp), nbAll_map f xs fun y hy => h y (by simp [hy])⟩
theorem depthAll_map {α : Type} (f : α → D) (n : Nat) : ∀ l : List α, (∀ x ∈ l, (f x).depth ≤ n) → PyData.depthAll (l.map f) ≤ n
  | [], _ => Nat.zero_le _
  | x :: xs, h => by
    simp only [List.map_cons, PyData.depthAll]
    exact Nat.max_le.mpr ⟨h x (by simp), depthAll_map f n xs fun y hy => h y (by simp [hy])⟩
end Lc
end
section
/-! Lc, part C: comparisons, tests, subscripts, displays, calls of built-ins. -/
namespace Lc
open PySem L2
section
variable {X : Cx} {ρ ρ' : Rho} {a b c e : Expr} {E F G : Ent} {pos : Pos} {i j : Int} {d d' : D}

/-! ### comparisons by data -/
def rEqP (K : PySem.W.Frag) : R2 := fun x y H Q => ∃ d e, Dp K H x d ∧ Dp K H y e ∧ Pl d ∧ Pl e ∧ Q (.bl (PyData.eqv d e)) H
def rNeP (K : PySem.W.Frag) : R2 := fun x y H Q => ∃ d e, Dp K H x d ∧ Dp K H y e ∧ Pl d ∧ Pl e ∧ Q (.bl (!PyData.eqv d e)) H
theorem op_eqP (hu : X.A.units + 64 < cLine) : OpR X (compareOp .Eq) (rEqP X.K) := by
  intro pins s σ H x y v u Q I rx ry h
  obtain ⟨d, e, hd, he, sd, se, q⟩ := h
  obtain ⟨as, r1⟩ := Dp.reads I d x v hd rx
  obtain ⟨bs, r2⟩ := Dp.reads I e y u he ry
  exact PySem.SeqAt.eq_plain r1 r2 (nb_plain _ sd.1) (nb_plain _ se.1) (by have := sd.2; omega) ⟨.bl _, H, I, rfl, q⟩
theorem op_neP (hu : X.A.units + 64 < cLine) : OpR X (compareOp .NotEq) (rNeP X.K) := by
  intro pins s σ H x y v u Q I rx ry h
  obtain ⟨d, e, hd, he, sd, se, q⟩ := h
  obtain ⟨as, r1⟩ := Dp.reads I d x v hd rx
  obtain ⟨bs, r2⟩ := Dp.reads I e y u he ry
  exact PySem.SeqAt.ne_plain r1 r2 (nb_plain _ sd.1) (nb_plain _ se.1) (by have := sd.2; omega) ⟨.bl _, H, I, rfl, q⟩
variable {k : Nat}
open Classical in
theorem dc_eq (g : Gx X k) (ha : DE X ρ a (dat X.K d)) (hb : DE X ρ b (dat X.K d')) (h1 : Pl d) (h2 : Pl d') : DC X ρ .Eq a b (dat X.K (.bool (decide (d = d')))) :=
  dc_cmp2 (op_eqP g.room.units) ha hb fun x y H Q hx hy q => ⟨d, d', hx, hy, h1, h2, q _ H (Same.refl H) (by rw [nb_dec h1.1 h2.1]; exact .bl _)⟩
open Classical in
theorem dc_ne (g : Gx X k) (ha : DE X ρ a (dat X.K d)) (hb : DE X ρ b (dat X.K d')) (h1 : Pl d) (h2 : Pl d') : DC X ρ .NotEq a b (dat X.K (.bool (decide (d ≠ d')))) :=
  dc_cmp2 (op_neP g.room.units) ha hb fun x y H Q hx hy q => ⟨d, d', hx, hy, h1, h2, q _ H (Same.refl H) (by rw [nb_dec h1.1 h2.1]; simp only [ne_eq, decide_not]; exact .bl _)⟩
theorem pl_int {i : Int} : Pl (.int i) := ⟨rfl, Nat.zero_le _⟩
theorem pl_str {i : Str} : Pl (.str i) := ⟨rfl, Nat.zero_le _⟩
theorem pl_none : Pl .none := ⟨rfl, Nat.zero_le _⟩
open Classical in
theorem dc_eqT (g : Gx X k) (ha : DE X ρ a (dat X.K d)) (hb : DE X ρ b (dat X.K d')) (h1 : Pl d) (e : d = d') : DC X ρ .Eq a b (dat X.K (.bool true)) := by
  have h := dc_eq g ha hb h1 (e ▸ h1)
  rw [decide_eq_true e] at h
  exact h
open Classical in
theorem dc_eqF (g : Gx X k) (ha : DE X ρ a (dat X.K d)) (hb : DE X ρ b (dat X.K d')) (h1 : Pl d) (h2 : Pl d') (e : d ≠ d') : DC X ρ .Eq a b (dat X.K (.bool false)) := by
  have h := dc_eq g ha hb h1 h2
  rw [decide_eq_false e] at h
  exact h
open Classical in
theorem dc_neF (g : Gx X k) (ha : DE X ρ a (dat X.K d)) (hb : DE X ρ b (dat X.K d')) (h1 : Pl d) (e : d = d') : DC X ρ .NotEq a b (dat X.K (.bool false)) := by
  have h := dc_ne g ha hb h1 (e ▸ h1)
  rw [decide_eq_false (fun q => q e)] at h
  exact h
open Classical in
theorem dc_neT (g : Gx X k) (ha : DE X ρ a (dat X.K d)) (hb : DE X ρ b (dat X.K d')) (h1 : Pl d) (h2 : Pl d') (e : d ≠ d') : DC X ρ .NotEq a b (dat X.K (.bool true)) := by
  have h := dc_ne g ha hb h1 h2
  rw [decide_eq_true e] at h
  exact h
theorem vint_dec {i j : Int} : decide (V.int i = V.int j) = decide (i = j) := decide_eq_decide.mpr ⟨V.int.inj, fun q => by rw [q]⟩
theorem vstr_dec {i j : Str} : decide (V.str i = V.str j) = decide (i = j) := decide_eq_decide.mpr ⟨V.str.inj, fun q => by rw [q]⟩
theorem dc_eqI (ha : DE X ρ a (dat X.K (.int i))) (hb : DE X ρ b (dat X.K (.int j))) : DC X ρ .Eq a b (dat X.K (.bool (decide (i = j)))) :=
  dc_cmp2 op_eq ha hb fun x y H Q hx hy z => by
    cases hx
    cases hy
    exact ⟨rfl, z _ H (Same.refl H) (by rw [vint_dec]; exact .bl _)⟩
theorem dc_neI (ha : DE X ρ a (dat X.K (.int i))) (hb : DE X ρ b (dat X.K (.int j))) : DC X ρ .NotEq a b (dat X.K (.bool (!decide (i = j)))) :=
  dc_cmp2 op_ne ha hb fun x y H Q hx hy z => by
    cases hx
    cases hy
    exact ⟨rfl, z _ H (Same.refl H) (by rw [vint_dec]; exact .bl _)⟩
theorem dc_eqS {i j : Str} (ha : DE X ρ a (dat X.K (.str i))) (hb : DE X ρ b (dat X.K (.str j))) : DC X ρ .Eq a b (dat X.K (.bool (decide (i = j)))) :=
  dc_cmp2 op_eq ha hb fun x y H Q hx hy z => by
    cases hx
    cases hy
    exact ⟨rfl, z _ H (Same.refl H) (by rw [vstr_dec]; exact .bl _)⟩
theorem dc_neS {i j : Str} (ha : DE X ρ a (dat X.K (.str i))) (hb : DE X ρ b (dat X.K (.str j))) : DC X ρ .NotEq a b (dat X.K (.bool (!decide (i = j)))) :=
  dc_cmp2 op_ne ha hb fun x y H Q hx hy z => by
    cases hx
    cases hy
    exact ⟨rfl, z _ H (Same.refl H) (by rw [vstr_dec]; exact .bl _)⟩
/-- == of truth values -/
theorem dc_eqB {p q : Bool} (ha : DE X ρ a (dat X.K (.bool p))) (hb : DE X ρ b (dat X.K (.bool q))) : DC X ρ .Eq a b (dat X.K (.bool (p == q))) :=
  dc_cmp2 op_eq ha hb fun x y H Q hx hy z => by
    cases hx
    cases hy
    exact ⟨rfl, z _ H (Same.refl H) (by rw [dec_bl]; exact .bl _)⟩
theorem dc_neB {p q : Bool} (ha : DE X ρ a (dat X.K (.bool p))) (hb : DE X ρ b (dat X.K (.bool q))) : DC X ρ .NotEq a b (dat X.K (.bool (p != q))) :=
  dc_cmp2 op_ne ha hb fun x y H Q hx hy z => by
    cases hx
    cases hy
    exact ⟨rfl, z _ H (Same.refl H) (by rw [dec_bl]; exact .bl _)⟩
theorem dc_ltS {p q : Str} (ha : DE X ρ a (dat X.K (.str p))) (hb : DE X ρ b (dat X.K (.str q))) : DC X ρ .Lt a b (dat X.K (.bool (decide (p.cps.toList < q.cps.toList)))) :=
  dc_cmp2 op_lt_str ha hb fun x y H Q hx hy z => by
    cases hx
    cases hy
    exact ⟨_, _, rfl, rfl, z _ H (Same.refl H) (.bl _)⟩
/-- is None -/
theorem dc_isN {j : Nat} {pos' : Pos} (ha : DE X ρ a (dat X.K d)) : DC X ρ .Is a (.Constant .none j pos') (dat X.K (.bool (match d with | .none => true | _ => false))) :=
  PC.imp (pc_isN ha) fun σ H Q _ q => ⟨q.1, fun x H1 s1 i1 => q.2 _ H1 s1 (by
    cases i1 <;> exact .bl _)⟩
theorem dc_notN {j : Nat} {pos' : Pos} (ha : DE X ρ a (dat X.K d)) : DC X ρ .IsNot a (.Constant .none j pos') (dat X.K (.bool (match d with | .none => false | _ => true))) :=
  PC.imp (pc_notN ha) fun σ H Q _ q => ⟨q.1, fun x H1 s1 i1 => q.2 _ H1 s1 (by
    cases i1 <;> exact .bl _)⟩
/-- in -/
def rInP (K : PySem.W.Frag) : R2 := fun x y H Q => ∃ d ds, Dp K H x d ∧ (Dp K H y (.tuple ds) ∨ Dp K H y (.list ds)) ∧ Pl d ∧ nbAll ds = true ∧ Q (.bl (ds.any fun z => PyData.eqv z d)) H
def rNotInP (K : PySem.W.Frag) : R2 := fun x y H Q => ∃ d ds, Dp K H x d ∧ (Dp K H y (.tuple ds) ∨ Dp K H y (.list ds)) ∧ Pl d ∧ nbAll ds = true ∧ Q (.bl (!ds.any fun z => PyData.eqv z d)) H
theorem op_inP (hu : X.A.units + 64 < cLine) : OpR X (compareOp .In) (rInP X.K) := by
  intro pins s σ H x y v u Q I rx ry h
  obtain ⟨d, ds, hd, he, sd, se, q⟩ := h
  obtain ⟨as, r1⟩ := Dp.reads I d x v hd rx
  rcases he with he | he
  · obtain ⟨bs, r2⟩ := Dp.reads I _ y u he ry
    exact PySem.SeqAt.in_tuple_data r2 r1 (nbAll_plain _ se) (nb_plain _ sd.1) (by have := sd.2; omega) ⟨.bl _, H, I, rfl, q⟩
  · obtain ⟨bs, r2⟩ := Dp.reads I _ y u he ry
    exact PySem.SeqAt.in_list_data r2 r1 (nbAll_plain _ se) (nb_plain _ sd.1) (by have := sd.2; omega) ⟨.bl _, H, I, rfl, q⟩
theorem op_notInP (hu : X.A.units + 64 < cLine) : OpR X (compareOp .NotIn) (rNotInP X.K) := by
  intro pins s σ H x y v u Q I rx ry h
  obtain ⟨d, ds, hd, he, sd, se, q⟩ := h
  obtain ⟨as, r1⟩ := Dp.reads I d x v hd rx
  rcases he with he | he
  · obtain ⟨bs, r2⟩ := Dp.reads I _ y u he ry
    exact PySem.SeqAt.notIn_tuple_data r2 r1 (nbAll_plain _ se) (nb_plain _ sd.1) (by have := sd.2; omega) ⟨.bl _, H, I, rfl, q⟩
  · obtain ⟨bs, r2⟩ := Dp.reads I _ y u he ry
    exact PySem.SeqAt.notIn_list_data r2 r1 (nbAll_plain _ se) (nb_plain _ sd.1) (by have := sd.2; omega) ⟨.bl _, H, I, rfl, q⟩
open Classical in
theorem any_mem {ds : List D} (h1 : Pl d) (h2 : nbAll ds = true) : (ds.any fun z => PyData.eqv z d) = decide (d ∈ ds) := by
  induction ds with
  | nil => simp
  | cons x xs ih =>
    simp only [nbAll, Bool.and_eq_true] at h2
    rw [List.any_cons, ih h2.2, nb_dec h2.1 h1.1, Bool.eq_iff_iff]
    simp only [Bool.or_eq_true, decide_eq_true_eq, List.mem_cons]
    constructor
    · rintro (h | h)
      · exact .inl h.symm
      · exact .inr h
    · rintro (h | h)
      · exact .inl h.symm
      · exact .inr h
open Classical in
theorem dc_inT {ds : List D} (g : Gx X k) (ha : DE X ρ a (dat X.K d)) (hb : DE X ρ b (dat X.K (.tuple ds))) (h1 : Pl d) (h2 : nbAll ds = true) : DC X ρ .In a b (dat X.K (.bool (decide (d ∈ ds)))) :=
  dc_cmp2 (op_inP g.room.units) ha hb fun x y H Q hx hy q => ⟨d, ds, hx, .inl hy, h1, h2, q _ H (Same.refl H) (by rw [any_mem h1 h2]; exact .bl _)⟩
open Classical in
theorem dc_inL {ds : List D} (g : Gx X k) (ha : DE X ρ a (dat X.K d)) (hb : DE X ρ b (dat X.K (.list ds))) (h1 : Pl d) (h2 : nbAll ds = true) : DC X ρ .In a b (dat X.K (.bool (decide (d ∈ ds)))) :=
  dc_cmp2 (op_inP g.room.units) ha hb fun x y H Q hx hy q => ⟨d, ds, hx, .inr hy, h1, h2, q _ H (Same.refl H) (by rw [any_mem h1 h2]; exact .bl _)⟩
open Classical in
theorem dc_niT {ds : List D} (g : Gx X k) (ha : DE X ρ a (dat X.K d)) (hb : DE X ρ b (dat X.K (.tuple ds))) (h1 : Pl d) (h2 : nbAll ds = true) : DC X ρ .NotIn a b (dat X.K (.bool (decide (d ∉ ds)))) :=
  dc_cmp2 (op_notInP g.room.units) ha hb fun x y H Q hx hy q => ⟨d, ds, hx, .inl hy, h1, h2, q _ H (Same.refl H) (by rw [any_mem h1 h2]; simp only [decide_not]; exact .bl _)⟩
open Classical in
theorem dc_niL {ds : List D} (g : Gx X k) (ha : DE X ρ a (dat X.K d)) (hb : DE X ρ b (dat X.K (.list ds))) (h1 : Pl d) (h2 : nbAll ds = true) : DC X ρ .NotIn a b (dat X.K (.bool (decide (d ∉ ds)))) :=
  dc_cmp2 (op_notInP g.room.units) ha hb fun x y H Q hx hy q => ⟨d, ds, hx, .inr hy, h1, h2, q _ H (Same.refl H) (by rw [any_mem h1 h2]; simp only [decide_not]; exact .bl _)⟩
theorem dc_inS {x : Nat} {z : Str} (ha : DE X ρ a (dat X.K (.str ⟨#[x]⟩))) (hb : DE X ρ b (dat X.K (.str z))) : DC X ρ .In a b (dat X.K (.bool (decide (x ∈ z.cps.toList)))) :=
  dc_cmp2 op_in_sign ha hb fun p q H Q hp hq w => by
    cases hp
    cases hq
    exact ⟨x, z, rfl, rfl, w _ H (Same.refl H) (.bl _)⟩

/-! ### tests -/
theorem dt_val {t : Bool} (h : DE X ρ e (dat X.K (.bool t))) (he : ∀ whole, isTrue e X.env whole = (do let v ← whole; standAt e.pos; holding [v] (truthy v)) := by intro _; rfl) : DT X ρ e t :=
  PT.imp (pt_val h he) fun σ H Q _ q => ⟨q.1, fun x H1 s1 i1 => by
    cases i1
    exact ⟨t, rfl, q.2 H1 s1⟩⟩
end
end Lc
end
section
/-! Lc, part D: and, or, not, if; subscripts, displays, built-ins, texts. -/
namespace Lc
open PySem L2
section
variable {X : Cx} {ρ ρ' : Rho} {a b c e : Expr} {rest es : List Expr} {E F G : Ent} {pos : Pos} {i j : Int} {d d' : D} {p q t : Bool} {k : Nat}

/-! ### and, or, not, if .. else -/
abbrev DW (X : Cx) (ρ : Rho) (e : Expr) (b : Bool) : Prop := PW X e (tDT ρ b)
theorem PW.imp {X : Cx} {e : Expr} {t t' : TT} (h : PW X e t) (w : ∀ σ H Q, σ.length = X.N.length → t' σ H Q → t σ H Q) : PW X e t' := ⟨fun wh pins s σ H Q I q => h.run wh pins s σ H Q I (w σ H Q I.len q)⟩
theorem dt_w (h : DW X ρ e p) : DT X ρ e p := h.pt
theorem dw_and1 (h : DT X ρ a p) : DW X ρ (.BoolOp .And [a] pos) p := pw_and1 h
theorem dw_or1 (h : DT X ρ a p) : DW X ρ (.BoolOp .Or [a] pos) p := pw_or1 h
/-- the second is asked only where the first is true -/
theorem dw_andT (ha : DT X ρ a true) (hb : DW X ρ (.BoolOp .And (b :: rest) pos) q) : DW X ρ (.BoolOp .And (a :: b :: rest) pos) q :=
  PW.imp (pw_and ha hb) fun σ H Q _ z => ⟨z.1, fun H1 s1 => iteT (⟨z.1.mono s1, fun H2 s2 => z.2 H2 (s1.trans s2)⟩)⟩
theorem dw_andF (ha : DT X ρ a false) : DW X ρ (.BoolOp .And (a :: b :: rest) pos) false :=
  PW.imp (pw_and (tB' := fun _ _ _ => False) ha ⟨fun _ _ _ _ _ _ _ h => h.elim⟩) fun σ H Q _ z => ⟨z.1, fun H1 s1 => iteF (z.2 H1 s1)⟩
theorem dw_and (ha : DT X ρ a p) (hb : p = true → DW X ρ (.BoolOp .And (b :: rest) pos) q) : DW X ρ (.BoolOp .And (a :: b :: rest) pos) (p && q) := by
  cases p with
  | true => exact dw_andT ha (hb rfl)
  | false => exact dw_andF ha
theorem dw_orF (ha : DT X ρ a false) (hb : DW X ρ (.BoolOp .Or (b :: rest) pos) q) : DW X ρ (.BoolOp .Or (a :: b :: rest) pos) q :=
  PW.imp (pw_or ha hb) fun σ H Q _ z => ⟨z.1, fun H1 s1 => iteF (⟨z.1.mono s1, fun H2 s2 => z.2 H2 (s1.trans s2)⟩)⟩
theorem dw_orT (ha : DT X ρ a true) : DW X ρ (.BoolOp .Or (a :: b :: rest) pos) true :=
  PW.imp (pw_or (tB' := fun _ _ _ => False) ha ⟨fun _ _ _ _ _ _ _ h => h.elim⟩) fun σ H Q _ z => ⟨z.1, fun H1 s1 => iteT (z.2 H1 s1)⟩
theorem dw_or (ha : DT X ρ a p) (hb : p = false → DW X ρ (.BoolOp .Or (b :: rest) pos) q) : DW X ρ (.BoolOp .Or (a :: b :: rest) pos) (p || q) := by
  cases p with
  | true => exact dw_orT ha
  | false => exact dw_orF ha (hb rfl)
theorem dt_not (h : DT X ρ a p) : DT X ρ (.UnaryOp .Not a pos) (!p) := PT.imp (pt_not h) fun σ H Q _ z => ⟨z.1, fun H1 s1 => z.2 H1 s1⟩
theorem de_one {op} (h : DE X ρ a E) : DE X ρ (.BoolOp op [a] pos) E := pe_one h
theorem de_andT (ha : DE X ρ a (dat X.K (.bool true))) (hb : DE X ρ (.BoolOp .And (b :: rest) pos) E) : DE X ρ (.BoolOp .And (a :: b :: rest) pos) E :=
  PE.imp (pe_and ha hb) fun σ H Q _ z => ⟨z.1, fun x H1 s1 i1 => by
    cases i1
    refine ⟨true, rfl, ?_⟩
    exact iteT (⟨z.1.mono s1, fun v H2 s2 i2 => z.2 v H2 (s1.trans s2) i2⟩)⟩
theorem de_andF (ha : DE X ρ a (dat X.K (.bool false))) : DE X ρ (.BoolOp .And (a :: b :: rest) pos) (dat X.K (.bool false)) :=
  PE.imp (pe_and (tb := fun _ _ _ => False) ha ⟨fun _ _ _ _ _ _ h => h.elim⟩) fun σ H Q _ z => ⟨z.1, fun x H1 s1 i1 => by
    cases i1
    refine ⟨false, rfl, ?_⟩
    exact iteF (z.2 _ H1 s1 (.bl _))⟩
theorem de_and (ha : DE X ρ a (dat X.K (.bool p))) (hb : p = true → DE X ρ (.BoolOp .And (b :: rest) pos) (dat X.K (.bool q))) : DE X ρ (.BoolOp .And (a :: b :: rest) pos) (dat X.K (.bool (p && q))) := by
  cases p with
  | true => exact de_andT ha (hb rfl)
  | false => exact de_andF ha
theorem de_orF (ha : DE X ρ a (dat X.K (.bool false))) (hb : DE X ρ (.BoolOp .Or (b :: rest) pos) E) : DE X ρ (.BoolOp .Or (a :: b :: rest) pos) E :=
  PE.imp (pe_or ha hb) fun σ H Q _ z => ⟨z.1, fun x H1 s1 i1 => by
    cases i1
    refine ⟨false, rfl, ?_⟩
    exact iteF (⟨z.1.mono s1, fun v H2 s2 i2 => z.2 v H2 (s1.trans s2) i2⟩)⟩
theorem de_orT (ha : DE X ρ a (dat X.K (.bool true))) : DE X ρ (.BoolOp .Or (a :: b :: rest) pos) (dat X.K (.bool true)) :=
  PE.imp (pe_or (tb := fun _ _ _ => False) ha ⟨fun _ _ _ _ _ _ h => h.elim⟩) fun σ H Q _ z => ⟨z.1, fun x H1 s1 i1 => by
    cases i1
    refine ⟨true, rfl, ?_⟩
    exact iteT (z.2 _ H1 s1 (.bl _))⟩
theorem de_or (ha : DE X ρ a (dat X.K (.bool p))) (hb : p = false → DE X ρ (.BoolOp .Or (b :: rest) pos) (dat X.K (.bool q))) : DE X ρ (.BoolOp .Or (a :: b :: rest) pos) (dat X.K (.bool (p || q))) := by
  cases p with
  | true => exact de_orT ha
  | false => exact de_orF ha (hb rfl)
theorem de_not (h : DE X ρ a (dat X.K (.bool p))) : DE X ρ (.UnaryOp .Not a pos) (dat X.K (.bool (!p))) := PE.imp (L2.pe_not h) fun σ H Q _ z => ⟨z.1, fun x H1 s1 i1 => by
  cases i1
  exact ⟨p, rfl, z.2 _ H1 s1 (.bl _)⟩⟩
theorem de_ifT (hc : DT X ρ c true) (ha : DE X ρ a E) : DE X ρ (.IfExp c a b pos) E :=
  PE.imp (pe_ifExp (tb := fun _ _ _ => False) hc ha ⟨fun _ _ _ _ _ _ h => h.elim⟩) fun σ H Q _ z => ⟨z.1, fun H1 s1 => iteT (⟨z.1.mono s1, fun v H2 s2 i2 => z.2 v H2 (s1.trans s2) i2⟩)⟩
theorem de_ifF (hc : DT X ρ c false) (hb : DE X ρ b E) : DE X ρ (.IfExp c a b pos) E :=
  PE.imp (pe_ifExp (ta := fun _ _ _ => False) hc ⟨fun _ _ _ _ _ _ h => h.elim⟩ hb) fun σ H Q _ z => ⟨z.1, fun H1 s1 => iteF (⟨z.1.mono s1, fun v H2 s2 i2 => z.2 v H2 (s1.trans s2) i2⟩)⟩
theorem de_if (hc : DT X ρ c p) (ha : p = true → DE X ρ a E) (hb : p = false → DE X ρ b E) : DE X ρ (.IfExp c a b pos) E := by
  cases p with
  | true => exact de_ifT hc (ha rfl)
  | false => exact de_ifF hc (hb rfl)

/-! ### subscripts -/
variable {ds : List D} {n : Nat}
theorem de_ixT (ha : DE X ρ a (dat X.K (.tuple ds))) (hb : DE X ρ b (dat X.K (.int (n : Int)))) (h : ds[n]? = some d) (hs : PlainIx b := by exact fun _ _ => rfl) : DE X ρ (.Subscript a b pos) (dat X.K d) :=
  PE.imp (pe_ix ix_tup ha hb hs) fun σ H Q _ z => ⟨z.1, fun x H1 s1 i1 => ⟨z.1.mono s1, fun y H2 s2 i2 => by
    obtain ⟨p, xs, rfl, hx, hd⟩ := dp_tuple (dp_mono s2 i1)
    cases i2
    obtain ⟨v, hv, dv⟩ := dpAll_get hd h
    exact ⟨p, xs, _, v, rfl, rfl, hx, atI_nat hv, z.2 v H2 (s1.trans s2) dv⟩⟩⟩
theorem de_ixL (ha : DE X ρ a (dat X.K (.list ds))) (hb : DE X ρ b (dat X.K (.int (n : Int)))) (h : ds[n]? = some d) (hs : PlainIx b := by exact fun _ _ => rfl) : DE X ρ (.Subscript a b pos) (dat X.K d) :=
  PE.imp (pe_ix ix_list ha hb hs) fun σ H Q _ z => ⟨z.1, fun x H1 s1 i1 => ⟨z.1.mono s1, fun y H2 s2 i2 => by
    obtain ⟨p, xs, rfl, hx, hd⟩ := dp_list (dp_mono s2 i1)
    cases i2
    obtain ⟨v, hv, dv⟩ := dpAll_get hd h
    exact ⟨p, xs, _, v, rfl, rfl, hx, atI_nat hv, z.2 v H2 (s1.trans s2) dv⟩⟩⟩
theorem de_ixS {z : Str} {x : Nat} (hz : z.length ≤ 1000000) (ha : DE X ρ a (dat X.K (.str z))) (hb : DE X ρ b (dat X.K (.int (n : Int)))) (h : z.cps.toList[n]? = some x) (hs : PlainIx b := by exact fun _ _ => rfl) : DE X ρ (.Subscript a b pos) (dat X.K (.str ⟨#[x]⟩)) :=
  PE.imp (pe_ix ix_str ha hb hs) fun σ H Q _ w => ⟨w.1, fun x H1 s1 i1 => ⟨w.1.mono s1, fun y H2 s2 i2 => by
    cases i1
    cases i2
    exact ⟨_, _, _, rfl, rfl, Nat.le_trans hz (by decide), atI_nat h, w.2 _ H2 (s1.trans s2) (.str _)⟩⟩⟩
/-- a part of a slice -/
def tDO (ρ : Rho) (o : Option Int) : TO := fun σ H Q => EnvOk σ H ρ ∧ ∀ H', Same H H' → Q o H'
abbrev DO (X : Cx) (ρ : Rho) (e : Option Expr) (o : Option Int) : Prop := PO X e (tDO ρ o)
theorem PO.imp {X : Cx} {e : Option Expr} {t t' : TO} (h : PO X e t) (w : ∀ σ H Q, t' σ H Q → t σ H Q) : PO X e t' := ⟨fun pins s σ H Q I q => h.run pins s σ H Q I (w σ H Q q)⟩
theorem do_none : DO X ρ none none := PO.imp po_none fun σ H Q z => z.2 H (Same.refl H)
theorem do_some (h : DE X ρ e (dat X.K (.int i))) : DO X ρ (some e) (some i) := PO.imp (po_some h) fun σ H Q z => ⟨z.1, fun x H1 s1 i1 => by
  cases i1
  exact ⟨i, rfl, z.2 H1 s1⟩⟩
def cutD (ds : List D) (lo hi : Option Int) : List D := (ds.drop (HT.sIx ds.length 0 lo)).take (HT.sIx ds.length ds.length hi - HT.sIx ds.length 0 lo)
theorem dpAll_cut {K : PySem.W.Frag} {H : Hp} {vs : List V} {lo hi : Option Int} (h : DpAll K H vs ds) : DpAll K H (cutV vs lo hi) (cutD ds lo hi) := by
  unfold cutV cutD
  rw [dpAll_len h]
  exact dpAll_take _ (dpAll_drop _ h)
theorem de_slT {lo hi : Option Expr} {l u : Option Int} {p2 : Pos} (ha : DE X ρ a (dat X.K (.tuple ds))) (hl : DO X ρ lo l) (hu : DO X ρ hi u) : DE X ρ (.Subscript a (.Slice lo hi none p2) pos) (dat X.K (.tuple (cutD ds l u))) :=
  PE.imp (pe_slice sl_tupA ha hl hu) fun σ H Q _ z => ⟨z.1, fun x H1 s1 i1 => ⟨z.1.mono s1, fun H2 s2 => ⟨z.1.mono (s1.trans s2), fun H3 s3 => by
    obtain ⟨p, xs, rfl, hx, hd⟩ := dp_tuple (dp_mono (s2.trans s3) i1)
    refine ⟨p, xs, rfl, hx, fun hw => z.2 _ H3 ((s1.trans s2).trans s3) ?_, fun hw np hp => z.2 _ _ (((s1.trans s2).trans s3).trans (Same.new hp)) (dp_newT hp (dpAll_cut hd))⟩
    have e : cutD ds l u = ds := by
      unfold cutD
      rw [← dpAll_len hd, hw.1, hw.2, dpAll_len hd]
      simp
    rw [e]
    exact .tup hx hd⟩⟩⟩
theorem de_slL {lo hi : Option Expr} {l u : Option Int} {p2 : Pos} (ha : DE X ρ a (dat X.K (.list ds))) (hl : DO X ρ lo l) (hu : DO X ρ hi u) : DE X ρ (.Subscript a (.Slice lo hi none p2) pos) (dat X.K (.list (cutD ds l u))) :=
  PE.imp (pe_slice sl_list ha hl hu) fun σ H Q _ z => ⟨z.1, fun x H1 s1 i1 => ⟨z.1.mono s1, fun H2 s2 => ⟨z.1.mono (s1.trans s2), fun H3 s3 => by
    obtain ⟨p, xs, rfl, hx, hd⟩ := dp_list (dp_mono (s2.trans s3) i1)
    exact ⟨p, xs, rfl, hx, fun np hp => z.2 _ _ (((s1.trans s2).trans s3).trans (Same.new hp)) (dp_newL hp (dpAll_cut hd))⟩⟩⟩⟩
theorem de_slS {z : Str} {lo hi : Option Expr} {l u : Option Int} {p2 : Pos} (hz : z.length ≤ 1000000) (ha : DE X ρ a (dat X.K (.str z))) (hl : DO X ρ lo l) (hu : DO X ρ hi u) : DE X ρ (.Subscript a (.Slice lo hi none p2) pos) (dat X.K (.str (cutS z l u))) :=
  PE.imp (pe_slice sl_str ha hl hu) fun σ H Q _ w => ⟨w.1, fun x H1 s1 i1 => ⟨w.1.mono s1, fun H2 s2 => ⟨w.1.mono (s1.trans s2), fun H3 s3 => by
    cases i1
    exact ⟨z, rfl, Nat.le_trans hz (by decide), w.2 _ H3 ((s1.trans s2).trans s3) (.str _)⟩⟩⟩⟩

/-! ### arguments, displays -/
variable {Es : List Ent}
theorem da_nil : DA X ρ [] [] := PA.imp pa_nil fun σ H Q _ z => z.2 [] H (Same.refl H) .nil
theorem da_cons (he : DE X ρ e E) (hr : DA X ρ es Es) (hs : starEach (e :: es) X.env = (false, eval e X.env) :: starEach es X.env := by rfl) : DA X ρ (e :: es) (E :: Es) :=
  PA.imp (pa_cons he hr hs) fun σ H Q _ z => ⟨z.1, fun x H1 s1 i1 => ⟨z.1.mono s1, fun vs H2 s2 i2 => z.2 (x :: vs) H2 (s1.trans s2) (.cons (E.mono s2 i1) i2)⟩⟩
/-- data arguments -/
abbrev DD (X : Cx) (ρ : Rho) (es : List Expr) (ds : List D) : Prop := DA X ρ es (ds.map (dat X.K))
theorem dd_nil : DD X ρ [] [] := da_nil
theorem dd_cons (he : DE X ρ e (dat X.K d)) (hr : DD X ρ es ds) (hs : starEach (e :: es) X.env = (false, eval e X.env) :: starEach es X.env := by rfl) : DD X ρ (e :: es) (d :: ds) := da_cons he hr hs
theorem dd_starT {ds' : List D} (he : DE X ρ e (dat X.K (.tuple ds))) (hr : DD X ρ es ds') (hs : starEach (.Starred e pos :: es) X.env = (true, eval e X.env) :: starEach es X.env := by rfl) : DD X ρ (.Starred e pos :: es) (ds ++ ds') :=
  PA.imp (StX.pa_star he hr hs) fun σ H Q _ z => ⟨z.1, fun x H1 s1 i1 => by
    obtain ⟨p, xs, rfl, hx, hd⟩ := dp_tuple i1
    refine ⟨p, xs, rfl, .inl hx, z.1.mono s1, fun vs H2 s2 i2 => z.2 (xs ++ vs) H2 (s1.trans s2) ?_⟩
    rw [List.map_append]
    exact (all2_dp (dpAll_mono s2 hd)).append i2⟩
theorem dd_starL {ds' : List D} (he : DE X ρ e (dat X.K (.list ds))) (hr : DD X ρ es ds') (hs : starEach (.Starred e pos :: es) X.env = (true, eval e X.env) :: starEach es X.env := by rfl) : DD X ρ (.Starred e pos :: es) (ds ++ ds') :=
  PA.imp (StX.pa_star he hr hs) fun σ H Q _ z => ⟨z.1, fun x H1 s1 i1 => by
    obtain ⟨p, xs, rfl, hx, hd⟩ := dp_list i1
    refine ⟨p, xs, rfl, .inr hx, z.1.mono s1, fun vs H2 s2 i2 => z.2 (xs ++ vs) H2 (s1.trans s2) ?_⟩
    rw [List.map_append]
    exact (all2_dp (dpAll_mono s2 hd)).append i2⟩
theorem de_tup {x1} (h : DD X ρ es ds) (hl : ds.length ≤ 1000000 := by exact Nat.le_of_ble_eq_true rfl) : DE X ρ (.Tuple es x1 pos) (dat X.K (.tuple ds)) :=
  PE.imp (pe_tup h) fun σ H Q _ z => ⟨z.1, fun vs H1 s1 i1 => by
    have hd := dp_all2 i1
    exact ⟨by rw [dpAll_len hd]; exact Nat.le_trans hl (by decide), fun p hp => z.2 _ _ (s1.trans (Same.new hp)) (dp_newT hp hd)⟩⟩
theorem de_lst (h : DD X ρ es ds) (hl : ds.length ≤ 1000000 := by exact Nat.le_of_ble_eq_true rfl) : DE X ρ (.List es pos) (dat X.K (.list ds)) :=
  PE.imp (pe_lst h) fun σ H Q _ z => ⟨z.1, fun vs H1 s1 i1 => by
    have hd := dp_all2 i1
    exact ⟨by rw [dpAll_len hd]; exact Nat.le_trans hl (by decide), fun p hp => z.2 _ _ (s1.trans (Same.new hp)) (dp_newL hp hd)⟩⟩

/-! ### calls of built-ins -/
theorem de_callB {r : List V → Hp → VK → Prop} {id : String} {x : Str} {pp : Pos} (hc : CallR X (.builtin id) r) (hg : Gl X x) (hm : X.mg x = none) (hv : bootBuiltins x = some (.builtin id)) (ha : DA X ρ (e :: es) Es)
    (hr : ∀ (vs : List V) (H : Hp) (Q : VK), All2 H vs Es → (∀ v H', Same H H' → G.is v H' → Q v H') → r vs H Q) (hn : x ≠ "__name__" := by decide) (hdb : (x == ("__debug__" : Str)) = false := by decide)
    (he : starEach (e :: es) X.env = (false, eval e X.env) :: starEach es X.env := by rfl) (hpl : (backTo pos (starEach es X.env)).any (·.1) = false := by rfl) : DE X ρ (.Call (.Name x pp) (e :: es) [] pos) G :=
  PE.imp (pe_callB hc hg hm hv ha hn hdb he hpl) fun σ H Q _ z => ⟨z.1, fun vs H1 s1 i1 => hr vs H1 Q i1 fun v H2 s2 i2 => z.2 v H2 (s1.trans s2) i2⟩
theorem de_callTy {r : List V → Hp → VK → Prop} {T : String} {x : Str} {pp : Pos} (hc : CallR X (.type T) r) (hg : Gl X x) (hm : X.mg x = none) (hv : bootBuiltins x = some (.type T)) (ha : DA X ρ (e :: es) Es)
    (hr : ∀ (vs : List V) (H : Hp) (Q : VK), All2 H vs Es → (∀ v H', Same H H' → G.is v H' → Q v H') → r vs H Q) (hn : x ≠ "__name__" := by decide) (hdb : (x == ("__debug__" : Str)) = false := by decide)
    (he : starEach (e :: es) X.env = (false, eval e X.env) :: starEach es X.env := by rfl) (hpl : (backTo pos (starEach es X.env)).any (·.1) = false := by rfl) : DE X ρ (.Call (.Name x pp) (e :: es) [] pos) G :=
  PE.imp (pe_callTy hc hg hm hv ha hn hdb he hpl) fun σ H Q _ z => ⟨z.1, fun vs H1 s1 i1 => hr vs H1 Q i1 fun v H2 s2 i2 => z.2 v H2 (s1.trans s2) i2⟩
theorem a1 {H : Hp} {vs : List V} (h : All2 H vs [E]) : ∃ v, vs = [v] ∧ E.is v H := by
  cases h with
  | cons h t => cases t; exact ⟨_, rfl, h⟩
theorem a2 {H : Hp} {vs : List V} (h : All2 H vs [E, F]) : ∃ v w, vs = [v, w] ∧ E.is v H ∧ F.is w H := by
  cases h with
  | cons h t => cases t with
    | cons h' t => cases t; exact ⟨_, _, rfl, h, h'⟩
/-- the names of built-ins that the module does not bind -/
structure Bt (mg : Str → Option Value) : Prop where
  len : mg "len" = none
  all : mg "all" = none
  any : mg "any" = none
  sum : mg "sum" = none
  tuple : mg "tuple" = none
  list : mg "list" = none
  isinstance : mg "isinstance" = none
  int : mg "int" = none
  bool : mg "bool" = none
  str : mg "str" = none
  range : mg "range" = none
  zip : mg "zip" = none
  enumerate : mg "enumerate" = none
  sorted : mg "sorted" = none
  set : mg "set" = none
  iter : mg "iter" = none
variable {pp : Pos} (B : Bt X.mg)
include B
theorem de_lenT (ha : DE X ρ a (dat X.K (.tuple ds))) (hg : Gl X "len" := by rfl) (hs : starEach [a] X.env = (false, eval a X.env) :: starEach [] X.env := by rfl) : DE X ρ (.Call (.Name "len" pp) [a] [] pos) (dat X.K (.int (ds.length : Nat))) :=
  de_callB call_len hg B.len boot_len (da_cons ha da_nil hs) (he := hs) fun vs H Q h z => by
    obtain ⟨v, rfl, hv⟩ := a1 h
    obtain ⟨p, xs, rfl, hx, hd⟩ := dp_tuple hv
    exact ⟨_, ds.length, rfl, .inr ⟨xs, hx, (dpAll_len hd).symm⟩, z _ H (Same.refl H) (.int _)⟩
theorem de_lenL (ha : DE X ρ a (dat X.K (.list ds))) (hg : Gl X "len" := by rfl) (hs : starEach [a] X.env = (false, eval a X.env) :: starEach [] X.env := by rfl) : DE X ρ (.Call (.Name "len" pp) [a] [] pos) (dat X.K (.int (ds.length : Nat))) :=
  de_callB call_len hg B.len boot_len (da_cons ha da_nil hs) (he := hs) fun vs H Q h z => by
    obtain ⟨v, rfl, hv⟩ := a1 h
    obtain ⟨p, xs, rfl, hx, hd⟩ := dp_list hv
    exact ⟨_, ds.length, rfl, .inl ⟨xs, hx, (dpAll_len hd).symm⟩, z _ H (Same.refl H) (.int _)⟩
theorem de_lenS {y : Str} (hy : y.length ≤ 1000000) (ha : DE X ρ a (dat X.K (.str y))) (hg : Gl X "len" := by rfl) (hs : starEach [a] X.env = (false, eval a X.env) :: starEach [] X.env := by rfl) : DE X ρ (.Call (.Name "len" pp) [a] [] pos) (dat X.K (.int (y.length : Nat))) :=
  de_callB call_len hg B.len boot_len (da_cons ha da_nil hs) (he := hs) fun vs H Q h z => by
    obtain ⟨v, rfl, hv⟩ := a1 h
    cases hv
    exact ⟨_, y.length, rfl, ⟨Nat.le_trans hy (by decide), rfl⟩, z _ H (Same.refl H) (.int _)⟩
theorem de_all {bs : List Bool} (g : Gx X k) (ha : DE X ρ a (dat X.K (.list (bs.map PyData.bool)))) (hg : Gl X "all" := by rfl) (hs : starEach [a] X.env = (false, eval a X.env) :: starEach [] X.env := by rfl) : DE X ρ (.Call (.Name "all" pp) [a] [] pos) (dat X.K (.bool (bs.all id))) :=
  de_callB (cr_all g.calm) hg B.all (by decide +kernel) (da_cons ha da_nil hs) (he := hs) fun vs H Q h z => by
    obtain ⟨v, rfl, hv⟩ := a1 h
    obtain ⟨p, xs, rfl, hx, hd⟩ := dp_list hv
    cases dpAll_bls hd
    exact ⟨_, bs, rfl, hx, z _ H (Same.refl H) (.bl _)⟩
theorem de_any {bs : List Bool} (g : Gx X k) (ha : DE X ρ a (dat X.K (.list (bs.map PyData.bool)))) (hg : Gl X "any" := by rfl) (hs : starEach [a] X.env = (false, eval a X.env) :: starEach [] X.env := by rfl) : DE X ρ (.Call (.Name "any" pp) [a] [] pos) (dat X.K (.bool (bs.any id))) :=
  de_callB (cr_any g.calm) hg B.any (by decide +kernel) (da_cons ha da_nil hs) (he := hs) fun vs H Q h z => by
    obtain ⟨v, rfl, hv⟩ := a1 h
    obtain ⟨p, xs, rfl, hx, hd⟩ := dp_list hv
    cases dpAll_bls hd
    exact ⟨_, bs, rfl, hx, z _ H (Same.refl H) (.bl _)⟩
theorem de_sum {ns : List Int} (g : Gx X k) (ha : DE X ρ a (dat X.K (.list (ns.map PyData.int)))) (hg : Gl X "sum" := by rfl) (hs : starEach [a] X.env = (false, eval a X.env) :: starEach [] X.env := by rfl) : DE X ρ (.Call (.Name "sum" pp) [a] [] pos) (dat X.K (.int ns.sum)) :=
  de_callB (cr_sum g.calm) hg B.sum (by decide +kernel) (da_cons ha da_nil hs) (he := hs) fun vs H Q h z => by
    obtain ⟨v, rfl, hv⟩ := a1 h
    obtain ⟨p, xs, rfl, hx, hd⟩ := dp_list hv
    cases dpAll_ints hd
    exact ⟨_, ns, rfl, hx, z _ H (Same.refl H) (.int _)⟩
theorem de_tupleL (ha : DE X ρ a (dat X.K (.list ds))) (hg : Gl X "tuple" := by rfl) (hs : starEach [a] X.env = (false, eval a X.env) :: starEach [] X.env := by rfl) : DE X ρ (.Call (.Name "tuple" pp) [a] [] pos) (dat X.K (.tuple ds)) :=
  de_callTy call_tuple_of hg B.tuple (by decide +kernel) (da_cons ha da_nil hs) (he := hs) fun vs H Q h z => by
    obtain ⟨v, rfl, hv⟩ := a1 h
    obtain ⟨p, xs, rfl, hx, hd⟩ := dp_list hv
    exact ⟨p, xs, rfl, .inl ⟨hx, fun l hl => z _ _ (Same.new hl) (dp_newT hl hd)⟩⟩
theorem de_listT (ha : DE X ρ a (dat X.K (.tuple ds))) (hg : Gl X "list" := by rfl) (hs : starEach [a] X.env = (false, eval a X.env) :: starEach [] X.env := by rfl) : DE X ρ (.Call (.Name "list" pp) [a] [] pos) (dat X.K (.list ds)) :=
  de_callTy call_list_of hg B.list (by decide +kernel) (da_cons ha da_nil hs) (he := hs) fun vs H Q h z => by
    obtain ⟨v, rfl, hv⟩ := a1 h
    obtain ⟨p, xs, rfl, hx, hd⟩ := dp_tuple hv
    exact ⟨p, xs, rfl, .inr hx, fun l hl => z _ _ (Same.new hl) (dp_newL hl hd)⟩
theorem de_intI (ha : DE X ρ a (dat X.K (.int i))) (hg : Gl X "int" := by rfl) (hs : starEach [a] X.env = (false, eval a X.env) :: starEach [] X.env := by rfl) : DE X ρ (.Call (.Name "int" pp) [a] [] pos) (dat X.K (.int i)) :=
  de_callTy call_int1 hg B.int (by decide +kernel) (da_cons ha da_nil hs) (he := hs) fun vs H Q h z => by
    obtain ⟨v, rfl, hv⟩ := a1 h
    cases hv
    exact .inl ⟨i, rfl, z _ H (Same.refl H) (.int _)⟩
theorem de_intS {y : Str} (hn : PySem.intText? y = some i) (hy : y.length ≤ 640) (ha : DE X ρ a (dat X.K (.str y))) (hg : Gl X "int" := by rfl) (hs : starEach [a] X.env = (false, eval a X.env) :: starEach [] X.env := by rfl) : DE X ρ (.Call (.Name "int" pp) [a] [] pos) (dat X.K (.int i)) :=
  de_callTy call_int_str hg B.int (by decide +kernel) (da_cons ha da_nil hs) (he := hs) fun vs H Q h z => by
    obtain ⟨v, rfl, hv⟩ := a1 h
    cases hv
    exact ⟨y, i, rfl, hn, hy, z _ H (Same.refl H) (.int _)⟩
end
end Lc
end
section
/-! Lc, part E: texts, isinstance, index, tuples glued; statements. -/
namespace Lc
open PySem L2
section
variable {X : Cx} {ρ ρ' ρ'' : Rho} {a b c e o : Expr} {rest es : List Expr} {E F G : Ent} {pos : Pos} {i j : Int} {d d' : D} {p q t : Bool} {k : Nat} {ds ds' : List D}

/-! ### texts -/
theorem de_join {apos : Pos} {z : Str} {ys : List Str} (hz : (ys.map (·.length)).sum + ys.length * z.length ≤ 1000000) (ho : DE X ρ o (dat X.K (.str z))) (he : DE X ρ e (dat X.K (.list (ys.map PyData.str)))) (hs : starEach [e] X.env = [(false, eval e X.env)] := by rfl)
    (hbase : attributeBase o "join" X.env (eval o X.env) = eval o X.env := by rfl) (hline : (apos.endLine == pos.line) = true := by rfl) : DE X ρ (.Call (.Attribute o "join" apos) [e] [] pos) (dat X.K (.str (Txt.join z ys))) :=
  PE.imp (pe_join ho he hs hbase hline) fun σ H Q _ w => ⟨w.1, fun x H1 s1 i1 => ⟨by cases i1; exact ⟨z, rfl⟩, w.1.mono s1, fun y H2 s2 i2 => by
    cases i1
    obtain ⟨p, xs, rfl, hx, hd⟩ := dp_list i2
    cases dpAll_strs hd
    exact ⟨z, p, ys, rfl, rfl, .inl hx, by omega, w.2 _ H2 (s1.trans s2) (.str _)⟩⟩⟩
theorem de_split {apos : Pos} {z y : Str} (hy : (y.length == 0) = false) (hz : z.length ≤ 1000000) (ho : DE X ρ o (dat X.K (.str z))) (he : DE X ρ e (dat X.K (.str y))) (hs : starEach [e] X.env = [(false, eval e X.env)] := by rfl)
    (hbase : attributeBase o "split" X.env (eval o X.env) = eval o X.env := by rfl) (hline : (apos.endLine == pos.line) = true := by rfl) : DE X ρ (.Call (.Attribute o "split" apos) [e] [] pos) (dat X.K (.list ((Txt.split z y).map PyData.str))) :=
  PE.imp (pe_split ho he hs hbase hline) fun σ H Q _ w => ⟨w.1, fun x H1 s1 i1 => ⟨by cases i1; exact ⟨z, rfl⟩, w.1.mono s1, fun y' H2 s2 i2 => by
    cases i1
    cases i2
    exact ⟨z, y, rfl, rfl, hy, Nat.le_trans (Nat.add_le_add_right hz 2) (by decide), fun l hl => w.2 _ _ ((s1.trans s2).trans (Same.new hl)) (dp_newL hl (dpAll_ofStrs _))⟩⟩⟩
theorem de_fmtS {z : Str} (hz : z.length ≤ 1000000) (h : DE X ρ e (dat X.K (.str z))) : DE X ρ (.FormattedValue e (-1) none pos) (dat X.K (.str z)) :=
  PE.imp (pe_fmt h) fun σ H Q _ w => ⟨w.1, fun x H1 s1 i1 => by
    cases i1
    exact .inl ⟨z, rfl, Nat.le_trans hz (by decide), w.2 _ H1 s1 (.str _)⟩⟩
theorem de_fmtI (hi : i.natAbs.log2 < 1920) (h : DE X ρ e (dat X.K (.int i))) : DE X ρ (.FormattedValue e (-1) none pos) (dat X.K (.str (toString i))) :=
  PE.imp (pe_fmt h) fun σ H Q _ w => ⟨w.1, fun x H1 s1 i1 => by
    cases i1
    exact .inr ⟨i, rfl, hi, w.2 _ H1 s1 (.str _)⟩⟩
theorem de_fs1 (h : DE X ρ e E) : DE X ρ (.JoinedStr [e] pos) E := pe_joined1 h
/-- the parts of an f-string -/
inductive DJ (X : Cx) (ρ : Rho) : List Expr → List Str → Prop where
  | nil : DJ X ρ [] []
  | cons {e : Expr} {z : Str} {es : List Expr} {zs : List Str} (h : DE X ρ e (dat X.K (.str z))) (r : DJ X ρ es zs) : DJ X ρ (e :: es) (z :: zs)
theorem dj_pj : ∀ {es : List Expr} {zs : List Str}, DJ X ρ es zs → PJ X es (zs.map fun z => tD ρ (dat X.K (.str z)))
  | _, _, .nil => .nil
  | _, _, .cons h r => .cons h (dj_pj r)
def glue (zs : List Str) (acc : Str) : Str := zs.foldl (· ++ ·) acc
theorem len_app (x y : Str) : (x ++ y).length = x.length + y.length := by
  show (x.cps ++ y.cps).size = x.cps.size + y.cps.size
  exact Array.size_append
theorem dj_run : ∀ (zs : List Str) (acc : Str) (σ : L2.St) (H : Hp) (Q : Str → Hp → Prop), acc.length + (zs.map (·.length)).sum ≤ 1000000 → EnvOk σ H ρ → (∀ H', Same H H' → Q (glue zs acc) H') → tJs (zs.map fun z => tD ρ (dat X.K (.str z))) acc σ H Q
  | [], acc, σ, H, Q, _, _, q => q H (Same.refl H)
  | z :: zs, acc, σ, H, Q, hz, hE, q => ⟨hE, fun x H1 s1 i1 => by
    cases i1
    rw [List.map_cons, List.sum_cons] at hz
    refine ⟨z, rfl, ?_, dj_run zs (acc ++ z) σ H1 Q ?_ (hE.mono s1) fun H2 s2 => q H2 (s1.trans s2)⟩
    · rw [len_app]; exact Nat.le_trans (by omega) (show 1000000 ≤ sizeLine by decide)
    · rw [len_app]; omega⟩
theorem de_fs {v1 v2 : Expr} {zs : List Str} (h : DJ X ρ (v1 :: v2 :: rest) zs) (hz : (zs.map (·.length)).sum ≤ 1000000) : DE X ρ (.JoinedStr (v1 :: v2 :: rest) pos) (dat X.K (.str (glue zs Str.empty))) :=
  PE.imp (pe_joined (dj_pj h)) fun σ H Q _ w => dj_run zs Str.empty σ H _ (by show 0 + _ ≤ _; omega) w.1 fun H' s => w.2 _ H' s (.str _)

/-! ### isinstance -/
def dty : D → String
  | .none => "NoneType"
  | .bool _ => "bool"
  | .int _ => "int"
  | .str _ => "str"
  | .list _ => "list"
  | .tuple _ => "tuple"
  | .dict _ => "dict"
theorem tyx_dp {K : PySem.W.Frag} {H : Hp} {v : V} (h : Dp K H v d) : TyX K H v (.type (dty d)) := by
  cases h with
  | non => exact .base .non
  | bl b => exact .base (.bl b)
  | int b => exact .base (.int b)
  | str b => exact .base (.str b)
  | lst hs _ =>
    rcases hs with (hs | ⟨o, hs⟩) | ⟨o, _, _, hk, hc, _⟩
    · exact .base (.lst hs)
    · exact .base (.frz hs)
    · exact .kList hk hc
  | tup hs _ =>
    rcases hs with (hs | ⟨o, hs⟩) | ⟨o, _, _, hk, hc, _⟩
    · exact .base (.tup hs)
    · exact .fTuple hs
    · exact .kTuple hk hc
/-- a built-in class as a value -/
theorem de_ty {x : Str} {T : String} (hg : Gl X x) (hm : X.mg x = none) (hv : bootBuiltins x = some (.type T)) (hn : x ≠ "__name__" := by decide) (hd : (x == ("__debug__" : Str)) = false := by decide) : DE X ρ (.Name x pos) (val (.ty T)) :=
  PE.imp (pe_bltn (v := .ty T) hg hm hv rfl hn hd) fun _ H _ _ q => q.2 _ H (Same.refl H) rfl
theorem de_isi (B : Bt X.mg) {pp : Pos} {T : String} (ha : DE X ρ a (dat X.K d)) (hb : DE X ρ b (val (.ty T))) (hk : kitB (dty d) T = some p) (hg : Gl X "isinstance" := by rfl)
    (hs : starEach [a, b] X.env = (false, eval a X.env) :: starEach [b] X.env := by rfl) (hs2 : starEach [b] X.env = (false, eval b X.env) :: starEach [] X.env := by rfl) (hpl : (backTo pos (starEach [b] X.env)).any (·.1) = false := by rfl) :
    DE X ρ (.Call (.Name "isinstance" pp) [a, b] [] pos) (dat X.K (.bool p)) :=
  de_callB call_isi hg B.isinstance (by decide +kernel) (da_cons ha (da_cons hb da_nil hs2) hs) (he := hs) (hpl := hpl) fun vs H Q h z => by
    obtain ⟨v, w, rfl, hv, hw⟩ := a2 h
    cases hw
    exact ⟨v, .ty T, _, _, p, rfl, .ty T, tyx_dp hv, kit_ty hk, z _ H (Same.refl H) (.bl _)⟩

/-! ### tuples glued, repeated; list.index -/
theorem de_catT (hl : ds.length + ds'.length ≤ 1000000) (ha : DE X ρ a (dat X.K (.tuple ds))) (hb : DE X ρ b (dat X.K (.tuple ds'))) : DE X ρ (.BinOp a .Add b pos) (dat X.K (.tuple (ds ++ ds'))) :=
  de_op2 op_catA ha hb fun x y H Q hx hy z => by
    obtain ⟨p, xs, rfl, hpx, hd⟩ := dp_tuple hx
    obtain ⟨q, ys, rfl, hqy, he⟩ := dp_tuple hy
    refine ⟨p, q, xs, ys, rfl, rfl, hpx, hqy, by rw [dpAll_len hd, dpAll_len he]; exact Nat.le_trans hl (by decide), fun e => ?_, fun _ e => ?_, fun _ _ l hl => z _ _ (Same.new hl) (dp_newT hl (dpAll_app hd he))⟩
    · subst e
      cases hd
      exact z _ H (Same.refl H) (.tup hqy he)
    · subst e
      cases he
      rw [List.append_nil] at z
      exact z _ H (Same.refl H) (.tup hpx hd)
/-- a list of the run's own -/
def lstE (K : PySem.W.Frag) (ds : List D) : Ent := ⟨fun v H => ∃ p xs, v = .ref p ∧ H p = some (.lst xs) ∧ DpAll K H xs ds, fun e h => by
  obtain ⟨p, xs, h1, h2, h3⟩ := h
  exact ⟨p, xs, h1, e _ _ h2, dpAll_mono e h3⟩⟩
theorem lst_dat {K : PySem.W.Frag} {v : V} {H : Hp} (h : (lstE K ds).is v H) : (dat K (.list ds)).is v H := by
  obtain ⟨p, xs, rfl, h2, h3⟩ := h
  exact .lst (SqL.of h2) h3
theorem de_ld (h : DE X ρ e (lstE X.K ds)) : DE X ρ e (dat X.K (.list ds)) := de_imp h fun _ _ => lst_dat
theorem de_catL (hl : ds.length + ds'.length ≤ 1000000) (ha : DE X ρ a (lstE X.K ds)) (hb : DE X ρ b (lstE X.K ds')) : DE X ρ (.BinOp a .Add b pos) (dat X.K (.list (ds ++ ds'))) :=
  de_op2 op_cat ha hb fun x y H Q hx hy z => by
    obtain ⟨p, xs, rfl, hpx, hd⟩ := hx
    obtain ⟨q, ys, rfl, hqy, he⟩ := hy
    exact ⟨p, q, xs, ys, rfl, rfl, hpx, hqy, by rw [dpAll_len hd, dpAll_len he]; exact Nat.le_trans hl (by decide), fun l hl => z _ _ (Same.new hl) (dp_newL hl (dpAll_app hd he))⟩
theorem de_catS {z y : Str} (hl : z.length + y.length ≤ 1000000) (ha : DE X ρ a (dat X.K (.str z))) (hb : DE X ρ b (dat X.K (.str y))) : DE X ρ (.BinOp a .Add b pos) (dat X.K (.str (z ++ y))) :=
  de_op2 op_add_str ha hb fun x y H Q hx hy w => by
    cases hx
    cases hy
    exact ⟨_, _, rfl, rfl, Nat.le_trans hl (by decide), w _ H (Same.refl H) (.str _)⟩

/-! ### targets -/
/-- what a target's reading does with a value of E: slots outside js stay, what is known goes from ρ to f ρ -/
def GB (n : Nat) (g : TG) (E : Ent) (js : List Nat) (f : Rho → Rho) : Prop := ∀ (v : V) (σ : L2.St) (H : Hp) (Q : L2.St → Hp → Prop), σ.length = n → E.is v H →
  (∀ σ', σ'.length = σ.length → (∀ j, j ∉ js → σ'[j]? = σ[j]?) → (∀ ρ, EnvOk σ H ρ → EnvOk σ' H (f ρ)) → Q σ' H) → g v σ H Q
theorem gb_name {n j : Nat} (hj : j < n) : GB n (gName j) E [j] (fun ρ => ρ.set j (some E)) := fun v σ H Q hn hv q => q _ (by simp) (fun m hm => List.getElem?_set_ne (by simpa [eq_comm] using hm)) fun ρ h => h.set (by omega) hv
def GBs (K : PySem.W.Frag) (n : Nat) (g : TGs) (ds : List D) (js : List Nat) (f : Rho → Rho) : Prop := ∀ (vs : List V) (σ : L2.St) (H : Hp) (Q : L2.St → Hp → Prop), σ.length = n → DpAll K H vs ds →
  (∀ σ', σ'.length = σ.length → (∀ j, j ∉ js → σ'[j]? = σ[j]?) → (∀ ρ, EnvOk σ H ρ → EnvOk σ' H (f ρ)) → Q σ' H) → g vs σ H Q
theorem gbs_nil {K : PySem.W.Frag} {n : Nat} : GBs K n gNil [] [] (fun ρ => ρ) := fun vs σ H Q hn hv q => by
  cases hv
  exact ⟨rfl, q σ rfl (fun _ _ => rfl) fun _ h => h⟩
theorem gbs_cons {K : PySem.W.Frag} {n : Nat} {g : TG} {u : TGs} {js ks : List Nat} {f h : Rho → Rho} (h1 : GB n g (dat K d) js f) (h2 : GBs K n u ds ks h) : GBs K n (gCons g u) (d :: ds) (js ++ ks) (fun ρ => h (f ρ)) := fun vs σ H Q hn hv q => by
  cases hv with
  | cons hd ht =>
    refine ⟨_, _, rfl, h1 _ σ H _ hn hd fun σ1 l1 o1 e1 => h2 _ σ1 H Q (l1.trans hn) ht fun σ2 l2 o2 e2 => q σ2 (l2.trans l1) (fun j hj => ?_) fun ρ hρ => e2 _ (e1 ρ hρ)⟩
    rw [List.mem_append, not_or] at hj
    rw [o2 j hj.2, o1 j hj.1]
theorem gb_tup {K : PySem.W.Frag} {n m : Nat} {u : TGs} {js : List Nat} {f : Rho → Rho} (h : GBs K n u ds js f) (hl : ds.length = m) : GB n (gTup K m u) (dat K (.tuple ds)) js f := fun v σ H Q hn hv q => by
  obtain ⟨a, xs, rfl, hx, hd⟩ := dp_tuple hv
  exact ⟨a, xs, rfl, hx, by rw [dpAll_len hd, hl], h xs σ H Q hn hd q⟩
/-- a name of a target, its place -/
theorem gbn {n : Nat} (j : Nat) (hj : j < n := by exact Nat.le_of_ble_eq_true rfl) : GB n (gName j) E [j] (fun ρ => ρ.set j (some E)) := gb_name hj

/-- a tuple of targets, the written part named -/
theorem pg_tupK {K : PySem.W.Frag} {es : List Expr} {k m : Nat} {u : TGs} (hc : X.calm = true) (h : PGs X es u) (hK : X.K = K := by rfl) (hn : (assignEach es X.env).length = m := by rfl) (hst : (assignEach es X.env).findIdx? (·.1) = none := by rfl) : PG X (.Tuple es k pos) (gTup K m u) := by
  subst hK
  exact pg_tup hc h hn hst
/-! ### statements -/
variable {st : Stmt} {sts : List Stmt}
theorem ds_set (g : Gx X k) (n : Nat) {x : Str} {pos' : Pos} (he : DE X ρ e E) (hi : X.N[n]? = some x := by rfl) (hx : Loc X.env.scope x := by first | exact .inl rfl | exact .inr rfl) (hs : swapsWith e (some (.Name x pos')) pos.line X.env = pure false := by rfl)
    (hf : X.fn x = true ∨ X.env.scope.names.lookup x = some .local := by first | exact .inl rfl | exact .inr rfl) : DS X ρ (.Assign [.Name x pos'] e pos) (ρ.set n (some E)) :=
  PS.imp (ps_set (i := n) g.nd hi hx he hs hf) fun D σ H hl z => ⟨z.1, fun v H1 s1 i1 => z.2 _ H1 s1 (by simp) ((z.1.mono s1).set (by rw [hl]; exact (List.getElem?_eq_some_iff.mp hi).1) i1)⟩
theorem ds_asg {tg : Expr} {gg : TG} {js : List Nat} {f : Rho → Rho} (he : DE X ρ e E) (hg : PG X tg gg) (gb : GB X.N.length gg E js f) (hs : swapsWithSole [tg] e pos.line X.env = pure false := by rfl) (hw : swappedStores [tg] e X.env = pure none := by rfl)
    (h1 : (assignEach [tg] X.env).map (·.2) = [assign tg X.env] := by rfl) : DS X ρ (.Assign [tg] e pos) (f ρ) :=
  PS.imp (ps_asg he hg hs hw h1) fun D σ H hl z => ⟨z.1, fun v H1 s1 i1 => gb v σ H1 _ hl i1 fun σ' l' _ e' => z.2 σ' H1 s1 l' (e' ρ (z.1.mono s1))⟩
theorem ds_expr (he : DE X ρ e E) (hs : swapsWith e none pos.line X.env = pure false := by rfl) : DS X ρ (.Expr e pos) ρ :=
  PS.imp (ps_expr he hs) fun D σ H _ z => ⟨z.1, fun v H1 s1 _ => z.2 σ H1 s1 rfl (z.1.mono s1)⟩
theorem ds_pass : DS X ρ (.Pass pos) ρ := PS.imp ps_pass fun D σ H _ z => z.2 σ H (Same.refl H) rfl z.1
theorem dn_nil : DN X ρ [] ρ := PSs.imp pss_nil fun D σ H _ z => z.2 σ H (Same.refl H) rfl z.1
theorem dn_one (h : DS X ρ st ρ') : DN X ρ [st] ρ' := pss_one h
theorem dn_cons (h : DS X ρ st ρ') (r : DN X ρ' sts ρ'') : DN X ρ (st :: sts) ρ'' :=
  PSs.imp (pss_cons h r) fun D σ H _ z => ⟨z.1, fun σ1 H1 s1 l1 e1 => ⟨e1, fun σ2 H2 s2 l2 e2 => z.2 σ2 H2 (s1.trans s2) (l2.trans l1) e2⟩⟩
theorem dr_cons (h : DS X ρ st ρ') (r : DR X ρ' sts E) : DR X ρ (st :: sts) E :=
  PSs.imp (pss_cons h r) fun D σ H _ z => ⟨z.1, fun σ1 H1 s1 l1 e1 => ⟨e1, fun v H2 s2 i2 => z.2 v H2 (s1.trans s2) i2⟩⟩
theorem dr_imp (h : DR X ρ sts E) (w : ∀ v H, E.is v H → F.is v H) : DR X ρ sts F := PSs.imp h fun _ _ _ _ q => ⟨q.1, fun v H' s i => q.2 v H' s (w v H' i)⟩
/-- return e, whatever stands behind -/
theorem dr_ret (he : DE X ρ e E) : DR X ρ (.Return (some e) pos :: sts) E := by
  refine ⟨fun pins s σ H D I h => ?_⟩
  refine wpAny_execs_cons (thn ((ps_ret he).run pins s σ H { D with nx := fun _ _ => False } I ⟨h.1, fun v H1 s1 i1 => h.2 v H1 s1 i1⟩) fun f s1 q => ?_)
  cases f with
  | next => obtain ⟨_, _, _, z⟩ := q; exact z.elim
  | ret v => exact q
  | brk => exact q
  | cont => exact q
theorem ds_ifT {A B : List Stmt} (hc : DT X ρ c true) (h : DN X ρ A ρ') : DS X ρ (.If c A B pos) ρ' :=
  PS.imp (ps_if (u := tNever) hc h pss_never) fun D σ H _ z => ⟨z.1, fun H1 s1 => iteT ⟨z.1.mono s1, fun σ2 H2 s2 l2 e2 => z.2 σ2 H2 (s1.trans s2) l2 e2⟩⟩
theorem ds_ifF {A B : List Stmt} (hc : DT X ρ c false) (h : DN X ρ B ρ') : DS X ρ (.If c A B pos) ρ' :=
  PS.imp (ps_if (t := tNever) hc pss_never h) fun D σ H _ z => ⟨z.1, fun H1 s1 => iteF ⟨z.1.mono s1, fun σ2 H2 s2 l2 e2 => z.2 σ2 H2 (s1.trans s2) l2 e2⟩⟩
/-- if c: return .. where c does not hold -/
theorem ds_skip {A : List Stmt} (hc : DT X ρ c false) : DS X ρ (.If c A [] pos) ρ := ds_ifF hc dn_nil
theorem dr_ifT {A B : List Stmt} (hc : DT X ρ c true) (h : DR X ρ A E) : DR X ρ (.If c A B pos :: sts) E := by
  refine ⟨fun pins s σ H D I h' => ?_⟩
  have hp : PS X (.If c A B pos) (tDR ρ E) := PS.imp (ps_if (u := tNever) hc h pss_never) fun D σ H _ z => ⟨z.1, fun H1 s1 => iteT ⟨z.1.mono s1, fun v H2 s2 i2 => z.2 v H2 (s1.trans s2) i2⟩⟩
  refine wpAny_execs_cons (thn (hp.run pins s σ H { D with nx := fun _ _ => False } I ⟨h'.1, fun v H1 s1 i1 => h'.2 v H1 s1 i1⟩) fun f s1 q => ?_)
  cases f with
  | next => obtain ⟨_, _, _, z⟩ := q; exact z.elim
  | ret v => exact q
  | brk => exact q
  | cont => exact q
theorem dr_if {A : List Stmt} (hc : DT X ρ c p) (h : p = true → DR X ρ A E) (h' : p = false → DR X ρ sts E) : DR X ρ (.If c A [] pos :: sts) E := by
  cases p with
  | true => exact dr_ifT hc (h rfl)
  | false => exact dr_cons (ds_skip hc) (h' rfl)
theorem dn_weak (h : DN X ρ sts ρ') (w : ∀ σ H, EnvOk σ H ρ' → EnvOk σ H ρ'') : DN X ρ sts ρ'' := PSs.imp h fun D σ H _ z => ⟨z.1, fun σ1 H1 s1 l1 e1 => z.2 σ1 H1 s1 l1 (w σ1 H1 e1)⟩
/-- less known -/
inductive Le : Rho → Rho → Prop
  | nil : Le [] []
  | keep {x : Option Ent} {ρ ρ' : Rho} : Le ρ ρ' → Le (x :: ρ) (x :: ρ')
  | drop {x : Option Ent} {ρ ρ' : Rho} : Le ρ ρ' → Le (x :: ρ) (none :: ρ')
theorem Le.at : ∀ {ρ ρ' : Rho}, Le ρ ρ' → ∀ {i : Nat} {E : Ent}, ρ'[i]? = some (some E) → ρ[i]? = some (some E)
  | _, _, .nil, i, E, h => h
  | _, _, .keep l, 0, E, h => h
  | _, _, .keep l, i + 1, E, h => by simpa using Le.at l (i := i) (by simpa using h)
  | _, _, .drop l, 0, E, h => by simp at h
  | _, _, .drop l, i + 1, E, h => by simpa using Le.at l (i := i) (by simpa using h)
theorem EnvOk.le {σ : L2.St} {H : Hp} (h : EnvOk σ H ρ) (l : Le ρ ρ') : EnvOk σ H ρ' := fun i E q => h i E (l.at q)
theorem Le.refl : ∀ ρ : Rho, Le ρ ρ
  | [] => .nil
  | _ :: ρ => .keep (Le.refl ρ)
end
end Lc
end
section
/-! Lc, part F: what is walked. -/
namespace Lc
open PySem L2

/-! ### enumerate of a tuple -/
theorem meets_enumB {v : Value} {o : Obj} {W : Heap → Prop} (B : Begins v o W) :
    Meets (Builtin.«enumerate.__new__» ⟨[.type "enumerate", v], []⟩) (fun _ R s => W s.heap ∧
      R (.ok (.ret (.ref (s.heap.push o).objs.size))) { s with heap := (s.heap.push o).push { cls := .type "enumerate", data := .fields #[.none, .bool false, .ref s.heap.objs.size, rawInt 0, .none, .none] } }) :=
  .of_wp fun prog w A R s hh => by
    obtain ⟨hp, gn, dr, tk, os⟩ := s
    obtain ⟨hW, hR⟩ := hh
    have hsub := sub_enumerate
    have start : ∀ {A' : Around} {E : Value → Shared → Prop} {Q : Value → Shared → Prop}, Q (.ref hp.objs.size) ⟨hp.push o, gn, dr, tk, os⟩ → wpAny (model prog w) A' (pyIter v) Q E ⟨hp, gn, dr, tk, os⟩ :=
      fun q => B.iter prog w _ _ ⟨hp, gn, dr, tk, os⟩ _ hW q
    wp_walk using start
    refine wpAny_stack_any fun stk => wpAny_pure ?_
    split
    · rename_i c _ _ _ _ _
      cases (c == Value.type "enumerate") <;> (wp_walk using start; exact ⟨_, rfl, hR⟩)
    · (wp_walk using start; exact ⟨_, rfl, hR⟩)
theorem call_enumB {prog : Program} {w : World} {A : Around} {E : Value → Shared → Prop} {s : Shared} {v : Value} {o : Obj} {W : Heap → Prop} {Q : Value → Shared → Prop} (B : Begins v o W) (hW : W s.heap)
    (hQ : ∀ h', IsEnum h' (s.heap.objs.size + 1) s.heap.objs.size 0 .none → h'.get? s.heap.objs.size = some o →
      (∀ b o, s.heap.get? b = some o → h'.get? b = some o) → Q (.ref (s.heap.objs.size + 1)) { s with heap := h' }) :
    wpAny (model prog w) A (call (.type "enumerate") [v]) Q E s := by
  refine callType_new F.called_enumerate (by decide) (F.typeCall_enumerate_1 _) (F.newCall_enumerate_1 _) (fun obj => F.args_object_init_2 obj _) F.entry_enumerate_new (meets_enumB B) ⟨hW, ?_⟩
  have hz : (s.heap.push o).objs.size = s.heap.objs.size + 1 := Heap.size_push ..
  have he := Heap.get?_push_size (s.heap.push o) (o := { cls := .type "enumerate", data := .fields #[.none, .bool false, .ref s.heap.objs.size, rawInt 0, .none, .none] }) rfl
  show _ ∧ _
  rw [hz] at he ⊢
  exact ⟨⟨_, he, rfl⟩, hQ _ he (Heap.get?_push_of_some _ (Heap.get?_push_size _ B.free)) fun b o x => Heap.get?_push_of_some _ (Heap.get?_push_of_some _ x)⟩
/-- the tuple at a, each item behind its place in a new pair -/
def ItEt (K : PySem.W.Frag) (a : Addr) : It :=
  ⟨fun i H => ∃ (xs : List V) (x : V), SqT K H a xs ∧ xs[i]? = some x, fun i H v H' => ∃ T x, v = .ref T ∧ H T = none ∧ H' = upd H T (.tup [.int (i : Nat), x]) ∧ ∀ xs, SqT K H a xs → xs[i]? = some x, fun i H => ∃ xs : List V, SqT K H a xs ∧ xs.length = i⟩
theorem turn_enumT {P : Program} {w : World} {K : PySem.W.Frag} {elts : List Expr} {kk : Nat} {tpos : Pos} (a e it : Addr) :
    Turn P w K (.Tuple elts kk tpos) (ItEt K a) [e, it] e (fun i h => (∃ old, IsEnum h e it ((i : Nat) : Int) old) ∧ h.IsTupleIter it a i ∧ e ≠ it ∧ a ≠ it ∧ a ≠ e) where
  mem := by simp
  obj := fun i h st b hb => by
    obtain ⟨⟨old, he⟩, ⟨o, ho, _, hd⟩, _⟩ := st
    simp only [List.mem_cons, List.not_mem_nil, or_false] at hb
    rcases hb with rfl | rfl
    · exact ⟨_, he, fun v q => nomatch q⟩
    · exact ⟨o, ho, fun v q => by rw [hd] at q; cases q⟩
  keep := fun i h h' st k => by
    obtain ⟨⟨old, he⟩, hi, hne⟩ := st
    exact ⟨⟨old, k e (by simp) _ he⟩, hi.at fun o q => k it (by simp) o q, hne⟩
  item := by
    intro X hP hw hK hc i pins s σ H E I hf st hg
    subst hP hw hK
    obtain ⟨⟨old, he⟩, hit, hne, hai, hae⟩ := st
    obtain ⟨xs, x, hq, hx⟩ := hg
    obtain ⟨its, rv, p, hz⟩ := I.tuple hq
    obtain ⟨u, hu, ru⟩ := rv.get hx
    have hlt : i < its.toArray.size := by
      have := (List.getElem?_eq_some_iff.mp hu).1
      simpa using this
    have hel : e < s.heap.objs.size := Heap.lt_size he
    have hil : it < s.heap.objs.size := by
      obtain ⟨_, q, _⟩ := hit
      exact Heap.lt_size q
    refine wpAny_pyNext_enum_itemD (Draws.tuple (A := X.A.in1) (show X.A.in1.handled = none from I.ok.hd hc) it a hai its.toArray) he ⟨hit, p⟩ hlt hne (by simp [hne, Ne.symm hae]) fun y h' tk hy ho hst' hT hsz hk => ?_
    have ey : y = u := by
      have hu' : its.toArray[i]? = some u := by simpa using hu
      rw [hu'] at hy
      exact (Option.some.inj hy).symm
    subst ey
    refine ⟨_, rfl, wpAny_letOwnedTupleGo_enum (s := { s with heap := h', toks := tk + 1 }) ho fun h'' he' sb => ?_⟩
    have hT2 : h''.get? s.heap.objs.size = some { cls := .type "tuple", data := .seq #[.int i tk, y] } := (sb.2 _ (Nat.ne_of_gt hel)).trans hT
    have new : ObjOk X.prog X.w (upd H s.heap.objs.size (.tup [.int (i : Nat), x])) h'' s.heap.objs.size (.tup [.int (i : Nat), x]) :=
      ⟨by show 2 ≤ sizeLine; decide, [.int i tk, y], .cons ⟨_, rfl⟩ (.cons ru .nil), ⟨_, hT2, rfl, _, rfl⟩⟩
    have I1 : Inv X pins σ (upd H s.heap.objs.size (.tup [.int (i : Nat), x])) { s with heap := h'', toks := tk + 1 } :=
      I.turnedNew (ch := [e, it]) (fun b ob hb q => (sb.2 b (fun z => hb (by simp [z]))).trans (hk b ob (fun z => hb (by simp [z])) (fun z => hb (by simp [z])) q)) hf (Nat.le_refl _) new
    refine ⟨.ref s.heap.objs.size, _, I1, rfl, ⟨_, x, rfl, I.hok.fresh (Nat.le_refl _), rfl, fun ys hy => by rw [I.tuple_inj hy hq]; exact hx⟩, ⟨⟨y, ?_⟩, hst'.1.at fun o q => (sb.2 it (Ne.symm hne)).trans q, hne, hai, hae⟩, fun b hb => ?_⟩
    · rw [show ((i + 1 : Nat) : Int) = (i : Int) + 1 by omega]
      exact he'
    · have hb0 := hb
      simp only [List.mem_cons, List.not_mem_nil, or_false] at hb
      have hb' : b < s.heap.objs.size := by
        rcases hb with z | z
        · rw [z]; exact hel
        · rw [z]; exact hil
      rw [upd_ne (Nat.ne_of_lt hb')]
      exact (hf b hb0).1
  done := by
    intro X hP hw hK hc i pins s σ H E I hf st hg
    subst hP hw hK
    obtain ⟨⟨old, he⟩, hit, hne, hai, hae⟩ := st
    obtain ⟨xs, hq, hx⟩ := hg
    obtain ⟨its, rv, p, hz⟩ := I.tuple hq
    obtain ⟨f0, f1, f2, f3, f4, f5⟩ := hf it (by simp)
    have hl := rv.length
    have hi : its.toArray.size = i := by simp; omega
    refine wpAny_pyNext_enum_endD (Draws.tuple (A := X.A.in1) (show X.A.in1.handled = none from I.ok.hd hc) it a hai its.toArray) he (by rw [hi]; exact ⟨hit, p⟩) fun h' eb => ⟨rfl, I.turned (t' := s.toks) (fun b o hb q => eb b o hb q) f0 f1 f3 f4 f5⟩
  self := fun A i s Q E st h => by
    obtain ⟨⟨_, he⟩, _⟩ := st
    exact wpAny_pyIter_enum he h
end Lc
end
section
/-! Lc, part G: the iterables. -/
namespace Lc
open PySem L2
section
variable {X : Cx} {ρ : Rho} {a b c e tg : Expr} {es : List Expr} {pos pp : Pos} {ds ds' : List D} {k : Nat}

/-- data that are walked -/
abbrev DID (X : Cx) (ρ : Rho) (tg e : Expr) (ds : List D) : Prop := DI X ρ tg e (ds.map (dat X.K))
theorem get_map_dat {K : PySem.W.Frag} {i : Nat} {E : Ent} (h : (ds.map (dat K))[i]? = some E) : ∃ d, ds[i]? = some d ∧ E = dat K d := by
  rw [List.getElem?_map] at h
  cases e : ds[i]? with
  | none => rw [e] at h; cases h
  | some d => rw [e] at h; exact ⟨d, rfl, (Option.some.inj h).symm⟩
theorem wk_seq {K : PySem.W.Frag} {J : It} {H0 : Hp} {xs : List V} (hd : DpAll K H0 xs ds) (goes : ∀ i H, i < xs.length → Same H0 H → J.go i H) (stops : ∀ H, Same H0 H → J.stop xs.length H)
    (yields : ∀ i H x H', i < xs.length → Same H0 H → J.yld i H x H' → H' = H ∧ xs[i]? = some x) : Wk J H0 (ds.map (dat K)) := by
  have hl := dpAll_len hd
  refine ⟨fun i H hi s => goes i H (by simpa [hl] using hi) s, fun H s => by rw [List.length_map, ← hl]; exact stops H s, fun i H x H' hi s y => ?_⟩
  obtain ⟨rfl, hx⟩ := yields i H x H' (by simpa [hl] using hi) s y
  refine ⟨Same.refl _, fun E hE => ?_⟩
  obtain ⟨d, h1, rfl⟩ := get_map_dat hE
  obtain ⟨v, h2, h3⟩ := dpAll_get hd h1
  rw [hx] at h2
  cases h2
  exact dp_mono s h3
theorem di_T (h : DE X ρ e (dat X.K (.tuple ds))) : DID X ρ tg e ds :=
  PI.imp (pi_tup h) fun σ H R _ z => ⟨z.1, fun x H1 s1 i1 => by
    obtain ⟨p, xs, rfl, hx, hd⟩ := dp_tuple i1
    exact ⟨p, rfl, ⟨xs, hx⟩, z.2 _ H1 s1 (wk_seq hd (fun i H hi s => ⟨xs, xs[i], seqT_same s hx, by simp [hi]⟩) (fun H s => ⟨xs, seqT_same s hx, Nat.le_refl _⟩) fun i H x H' _ s y => ⟨y.1, y.2 xs (seqT_same s hx)⟩)⟩⟩
theorem di_L (h : DE X ρ e (dat X.K (.list ds))) : DID X ρ tg e ds :=
  PI.imp (pi_list h) fun σ H R _ z => ⟨z.1, fun x H1 s1 i1 => by
    obtain ⟨p, xs, rfl, hx, hd⟩ := dp_list i1
    exact ⟨p, rfl, ⟨xs, hx⟩, z.2 _ H1 s1 (wk_seq hd (fun i H hi s => ⟨xs, xs[i], s.seq hx, by simp [hi]⟩) (fun H s => ⟨xs, s.seq hx, Nat.le_refl _⟩) fun i H x H' _ s y => ⟨y.1, y.2 xs (s.seq hx)⟩)⟩⟩
theorem get_map_range {α : Type} {n i : Nat} {f : Nat → α} {E : α} (h : ((List.range n).map f)[i]? = some E) : i < n ∧ E = f i := by
  rw [List.getElem?_map] at h
  by_cases hi : i < n
  · rw [List.getElem?_range hi] at h
    exact ⟨hi, (Option.some.inj h).symm⟩
  · rw [List.getElem?_eq_none (by simpa using hi)] at h
    cases h
/-- lo, lo + c, .. -/
def rangeD (lo c : Int) (n : Nat) : List D := (List.range n).map fun i => .int (lo + (i : Nat) * c)
theorem wk_range {K : PySem.W.Frag} {J : It} {H0 : Hp} {lo c : Int} {n : Nat} (goes : ∀ i H, i < n → J.go i H) (stops : ∀ H, J.stop n H) (yields : ∀ i H x H', J.yld i H x H' → H' = H ∧ x = .int (lo + (i : Nat) * c)) : Wk J H0 ((rangeD lo c n).map (dat K)) := by
  have hl : ((rangeD lo c n).map (dat K)).length = n := by simp [rangeD]
  refine ⟨fun i H hi s => goes i H (by rw [hl] at hi; exact hi), fun H s => by rw [hl]; exact stops H, fun i H x H' hi s y => ?_⟩
  obtain ⟨rfl, rfl⟩ := yields i H x H' y
  refine ⟨Same.refl _, fun E hE => ?_⟩
  obtain ⟨d, h1, rfl⟩ := get_map_dat hE
  obtain ⟨_, rfl⟩ := get_map_range h1
  exact .int _
variable (B : Bt X.mg)
include B
theorem di_range1 {n : Nat} (hn : n ≤ 1000000) (ha : DE X ρ a (dat X.K (.int (n : Int)))) (hg : Gl X "range" := by rfl) (hs : starEach [a] X.env = [(false, eval a X.env)] := by rfl) : DID X ρ tg (.Call (.Name "range" pp) [a] [] pos) (rangeD 0 1 n) :=
  PI.imp (pi_range1 hg B.range (da_cons ha da_nil (by rw [hs] <;> rfl)) hs) fun σ H R _ z => ⟨z.1, fun vs H1 s1 i1 => by
    obtain ⟨v, rfl, hv⟩ := a1 i1
    cases hv
    refine ⟨n, rfl, by omega, by omega, z.2 _ H1 s1 (wk_range (fun i H hi => ?_) (fun H => ?_) fun i H x H' y => ⟨y.1, by rw [y.2]; congr 1; omega⟩)⟩
    · show i < (n : Int).toNat; omega
    · show (n : Int).toNat ≤ n; omega⟩
theorem di_range2 {lo hi : Int} {n : Nat} (h1 : -1000000 ≤ lo) (h2 : lo ≤ 1000000) (h3 : -1000000 ≤ hi) (h4 : hi ≤ 1000000) (hn : (hi - lo).toNat = n) (ha : DE X ρ a (dat X.K (.int lo))) (hb : DE X ρ b (dat X.K (.int hi))) (hg : Gl X "range" := by rfl)
    (hs : starEach [a, b] X.env = [(false, eval a X.env), (false, eval b X.env)] := by rfl) (hs2 : starEach [b] X.env = [(false, eval b X.env)] := by rfl) : DID X ρ tg (.Call (.Name "range" pp) [a, b] [] pos) (rangeD lo 1 n) :=
  PI.imp (pi_range2 hg B.range (da_cons ha (da_cons hb da_nil (by rw [hs2] <;> rfl)) (by rw [hs, hs2])) hs hs2) fun σ H R _ z => ⟨z.1, fun vs H1 s1 i1 => by
    obtain ⟨v, w, rfl, hv, hw⟩ := a2 i1
    cases hv
    cases hw
    subst hn
    exact ⟨lo, hi, rfl, ⟨by omega, by omega, by omega, by omega⟩, z.2 _ H1 s1 (wk_range (fun i H hi => hi) (fun H => Nat.le_refl _) fun i H x H' y => ⟨y.1, by rw [y.2]; congr 1; omega⟩)⟩⟩
theorem di_range3 {lo hi c' : Int} {n : Nat} (hr : RgC lo hi c' n) (ha : DE X ρ a (dat X.K (.int lo))) (hb : DE X ρ b (dat X.K (.int hi))) (hc : DE X ρ c (dat X.K (.int c'))) (hg : Gl X "range" := by rfl)
    (hs : starEach [a, b, c] X.env = (false, eval a X.env) :: starEach [b, c] X.env := by rfl) (hs2 : starEach [b, c] X.env = (false, eval b X.env) :: starEach [c] X.env := by rfl) (hs3 : starEach [c] X.env = (false, eval c X.env) :: starEach [] X.env := by rfl) (hpl : (backTo pos (starEach [b, c] X.env)).any (·.1) = false := by rfl) :
    DID X ρ tg (.Call (.Name "range" pp) [a, b, c] [] pos) (rangeD lo c' n) :=
  PI.imp (pi_range3 hg B.range (da_cons ha (da_cons hb (da_cons hc da_nil hs3) hs2) hs) hs hpl) fun σ H R _ z => ⟨z.1, fun vs H1 s1 i1 => by
    cases i1 with
    | cons h1 t =>
      obtain ⟨v, w, rfl, hv, hw⟩ := a2 t
      cases h1
      cases hv
      cases hw
      exact ⟨lo, hi, c', n, rfl, hr, z.2 _ H1 s1 (wk_range (fun i H hi => hi) (fun H => Nat.le_refl _) fun i H x H' y => ⟨y.1, y.2⟩)⟩⟩
omit B in
theorem di_S {z : Str} (h : DE X ρ e (dat X.K (.str z))) : DID X ρ tg e (z.cps.toList.map fun c => .str ⟨#[c]⟩) :=
  PI.imp (pi_str h) fun σ H R _ w => ⟨w.1, fun x H1 s1 i1 => by
    cases i1
    refine ⟨z, rfl, w.2 _ H1 s1 ⟨fun i H hi s => by show i < z.cps.size; simpa using hi, fun H s => by show z.cps.size ≤ _; simp, fun i H x H' hi s y => ?_⟩⟩
    obtain ⟨rfl, c, hc, rfl⟩ := y
    refine ⟨Same.refl _, fun E hE => ?_⟩
    obtain ⟨d, h1, rfl⟩ := get_map_dat hE
    rw [List.getElem?_map, Array.getElem?_toList, hc] at h1
    cases h1
    exact .str _⟩
/-- (i, ds[i]) -/
def enumD (ds : List D) : List D := ds.zipIdx.map fun p => .tuple [.int (p.2 : Nat), p.1]
omit B in
theorem wk_pair {K : PySem.W.Frag} {J : It} {H0 : Hp} {n : Nat} {es : List D} (hl : es.length = n) (goes : ∀ i H, i < n → Same H0 H → J.go i H) (stops : ∀ H, Same H0 H → J.stop n H)
    (yields : ∀ i H v H', i < n → Same H0 H → J.yld i H v H' → ∃ T x y p q, v = .ref T ∧ H T = none ∧ H' = upd H T (.tup [x, y]) ∧ Dp K H x p ∧ Dp K H y q ∧ es[i]? = some (.tuple [p, q])) : Wk J H0 (es.map (dat K)) := by
  refine ⟨fun i H hi s => goes i H (by simpa [hl] using hi) s, fun H s => by rw [List.length_map, hl]; exact stops H s, fun i H v H' hi s y => ?_⟩
  obtain ⟨T, x, y', p, q, rfl, hT, rfl, dx, dy, he⟩ := yields i H v H' (by simpa [hl] using hi) s y
  refine ⟨Same.new hT, fun E hE => ?_⟩
  obtain ⟨d, h1, rfl⟩ := get_map_dat hE
  rw [he] at h1
  cases h1
  exact dp_newT hT (.cons dx (.cons dy .nil))
omit B in
theorem enumD_get {i : Nat} {d : D} (h : ds[i]? = some d) : (enumD ds)[i]? = some (.tuple [.int (i : Nat), d]) := by
  unfold enumD
  rw [List.getElem?_map, List.getElem?_zipIdx, h]
  simp
omit B in
theorem enumD_len : (enumD ds).length = ds.length := by simp [enumD]
def iEnT (K : PySem.W.Frag) (ta : TA) : TI := fun σ H R => ta σ H fun vs H1 => ∃ a xs, vs = [.ref a] ∧ SqT K H1 a xs ∧ R (ItEt K a) H1
theorem pi_enumT {elts : List Expr} {kk : Nat} {tpos : Pos} {ta : TA} (ha : PA X [e] ta) (hg : Gl X "enumerate") (hs : starEach [e] X.env = [(false, eval e X.env)]) :
    PI X (.Tuple elts kk tpos) (.Call (.Name "enumerate" pp) [e] [] pos) (iEnT X.K ta) := by
  refine ⟨fun pins s σ H R I h => ?_⟩
  refine PyProof.Rows.Call_ (ld_blt I hg B.enumerate PyProof.Rows.boot_enumerate (PyProof.Rows.callWith_type1 (thn (ha.run pos pins s σ H _ I h) fun us s1 ⟨vs, H1, I1, r1, q1⟩ => ?_) hs rfl))
  obtain ⟨a, xs, ex, hq, q⟩ := q1
  subst ex
  cases r1 with
  | cons r rr =>
    cases rr
    cases r
    obtain ⟨its, rv, p, hz⟩ := I1.tuple hq
    have hal : a < s1.heap.objs.size := by
      obtain ⟨o, ho, _⟩ := id p
      exact Heap.lt_size ho
    refine call_enumB (begins_tuple a its.toArray) p fun h' he hit hk => wpAny_pyIter_enum he ?_
    have I2 : Inv X pins σ H1 { s1 with heap := h' } := I1.kept (t' := s1.toks) hk
    refine ⟨s1.heap.objs.size + 1, [s1.heap.objs.size + 1, s1.heap.objs.size], _, _, H1, rfl, I2, turn_enumT a (s1.heap.objs.size + 1) s1.heap.objs.size, ⟨⟨.none, he⟩, ⟨_, hit, rfl, rfl⟩, Nat.succ_ne_self _, Nat.ne_of_lt hal, Nat.ne_of_lt (Nat.lt_succ_of_lt hal)⟩, fun b hb => ?_, q⟩
    simp only [List.mem_cons, List.not_mem_nil, or_false] at hb
    have hle : s1.heap.objs.size ≤ b := by
      rcases hb with z | z
      · rw [z]; exact Nat.le_add_right _ _
      · rw [z]; exact Nat.le_refl _
    exact I1.fpOk hle (I1.hok.fresh hle)
theorem di_enumT {elts : List Expr} {kk : Nat} {tpos : Pos} (h : DE X ρ e (dat X.K (.tuple ds))) (hg : Gl X "enumerate" := by rfl) (hs : starEach [e] X.env = [(false, eval e X.env)] := by rfl) : DID X ρ (.Tuple elts kk tpos) (.Call (.Name "enumerate" pp) [e] [] pos) (enumD ds) :=
  PI.imp (pi_enumT B (da_cons h da_nil (by rw [hs] <;> rfl)) hg hs) fun σ H R _ z => ⟨z.1, fun vs H1 s1 i1 => by
    obtain ⟨v, rfl, hv⟩ := a1 i1
    obtain ⟨p, xs, rfl, hx, hd⟩ := dp_tuple hv
    refine ⟨p, xs, rfl, hx, z.2 _ H1 s1 (wk_pair (n := xs.length) (by rw [enumD_len, dpAll_len hd]) (fun i H hi s => ⟨xs, xs[i], seqT_same s hx, by simp [hi]⟩) (fun H s => ⟨xs, seqT_same s hx, rfl⟩) fun i H v H' hi s y => ?_)⟩
    obtain ⟨T, x, rfl, hT, rfl, hxx⟩ := y
    have hxi := hxx xs (seqT_same s hx)
    have hlen := dpAll_len hd
    obtain ⟨d, hd1⟩ : ∃ d, ds[i]? = some d := ⟨ds[i], by rw [List.getElem?_eq_getElem (by omega)]⟩
    obtain ⟨v', h2, h3⟩ := dpAll_get hd hd1
    rw [hxi] at h2
    cases h2
    exact ⟨T, _, _, _, d, rfl, hT, rfl, .int _, dp_mono s h3, enumD_get hd1⟩⟩
theorem di_enumL {elts : List Expr} {kk : Nat} {tpos : Pos} (h : DE X ρ e (dat X.K (.list ds))) (hg : Gl X "enumerate" := by rfl) (hs : starEach [e] X.env = [(false, eval e X.env)] := by rfl) : DID X ρ (.Tuple elts kk tpos) (.Call (.Name "enumerate" pp) [e] [] pos) (enumD ds) :=
  PI.imp (pi_enum hg B.enumerate (da_cons h da_nil (by rw [hs] <;> rfl)) hs) fun σ H R _ z => ⟨z.1, fun vs H1 s1 i1 => by
    obtain ⟨v, rfl, hv⟩ := a1 i1
    obtain ⟨p, xs, rfl, hx, hd⟩ := dp_list hv
    refine ⟨p, xs, rfl, hx, z.2 _ H1 s1 (wk_pair (n := xs.length) (by rw [enumD_len, dpAll_len hd]) (fun i H hi s => ⟨xs, xs[i], s.seq hx, by simp [hi]⟩) (fun H s => ⟨xs, s.seq hx, Nat.le_refl _⟩) fun i H v H' hi s y => ?_)⟩
    obtain ⟨T, x, rfl, hT, rfl, hxx⟩ := y
    have hxi := hxx xs (s.seq hx)
    have hlen := dpAll_len hd
    obtain ⟨d, hd1⟩ : ∃ d, ds[i]? = some d := ⟨ds[i], by rw [List.getElem?_eq_getElem (by omega)]⟩
    obtain ⟨v', h2, h3⟩ := dpAll_get hd hd1
    rw [hxi] at h2
    cases h2
    exact ⟨T, _, _, _, d, rfl, hT, rfl, .int _, dp_mono s h3, enumD_get hd1⟩⟩
/-- pairs -/
def zipD (ds es : List D) : List D := (ds.zip es).map fun p => .tuple [p.1, p.2]
omit B in
theorem zipD_len {es : List D} : (zipD ds es).length = min ds.length es.length := by simp [zipD]
omit B in
theorem zipD_get {es : List D} {i : Nat} {d e : D} (h : ds[i]? = some d) (h' : es[i]? = some e) : (zipD ds es)[i]? = some (.tuple [d, e]) := by
  unfold zipD
  have q : (ds.zip es)[i]? = some (d, e) := List.getElem?_zip_eq_some.mpr ⟨h, h'⟩
  rw [List.getElem?_map, q]
  rfl
theorem di_zipT {elts : List Expr} {kk : Nat} {tpos : Pos} (ha : DE X ρ a (dat X.K (.tuple ds))) (hb : DE X ρ b (dat X.K (.tuple ds'))) (hg : Gl X "zip" := by rfl) (hs : starEach [a, b] X.env = (false, eval a X.env) :: starEach [b] X.env := by rfl) (hs2 : starEach [b] X.env = (false, eval b X.env) :: starEach [] X.env := by rfl)
    (hpl : (backTo pos (starEach [b] X.env)).any (·.1) = false := by rfl) : DID X ρ (.Tuple elts kk tpos) (.Call (.Name "zip" pp) [a, b] [] pos) (zipD ds ds') :=
  PI.imp (RZ.pi_zipA hg B.zip (da_cons ha (da_cons hb da_nil hs2) hs) hs hpl) fun σ H R _ z => ⟨z.1, fun vs H1 s1 i1 => by
    obtain ⟨v, w, rfl, hv, hw⟩ := a2 i1
    obtain ⟨p, xs, rfl, hx, hd⟩ := dp_tuple hv
    obtain ⟨q, ys, rfl, hy, he⟩ := dp_tuple hw
    have l1 := dpAll_len hd
    have l2 := dpAll_len he
    refine ⟨p, q, xs, ys, rfl, .inr ⟨hx, hy, z.2 _ H1 s1 (wk_pair (n := min xs.length ys.length) (by rw [zipD_len, l1, l2]) (fun i H hi s => ⟨xs, ys, xs[i]'(by omega), ys[i]'(by omega), seqT_same s hx, seqT_same s hy, by simp, by simp⟩) (fun H s => ⟨xs, ys, seqT_same s hx, seqT_same s hy, by omega⟩) fun i H v H' hi s y => ?_)⟩⟩
    obtain ⟨T, x, y, rfl, hT, rfl, hxx, hyy⟩ := y
    have hxi := hxx xs (seqT_same s hx)
    have hyi := hyy ys (seqT_same s hy)
    have g1 : ds[i]? = some ds[i] := List.getElem?_eq_getElem (by omega)
    have g2 : ds'[i]? = some ds'[i] := List.getElem?_eq_getElem (by omega)
    obtain ⟨v1, h2, h3⟩ := dpAll_get hd g1
    obtain ⟨v2, h4, h5⟩ := dpAll_get he g2
    rw [hxi] at h2
    rw [hyi] at h4
    cases h2
    cases h4
    exact ⟨T, _, _, _, _, rfl, hT, rfl, dp_mono s h3, dp_mono s h5, zipD_get g1 g2⟩⟩
theorem di_zipL {elts : List Expr} {kk : Nat} {tpos : Pos} (ha : DE X ρ a (dat X.K (.list ds))) (hb : DE X ρ b (dat X.K (.list ds'))) (hg : Gl X "zip" := by rfl) (hs : starEach [a, b] X.env = (false, eval a X.env) :: starEach [b] X.env := by rfl) (hs2 : starEach [b] X.env = (false, eval b X.env) :: starEach [] X.env := by rfl)
    (hpl : (backTo pos (starEach [b] X.env)).any (·.1) = false := by rfl) : DID X ρ (.Tuple elts kk tpos) (.Call (.Name "zip" pp) [a, b] [] pos) (zipD ds ds') :=
  PI.imp (RZ.pi_zipA hg B.zip (da_cons ha (da_cons hb da_nil hs2) hs) hs hpl) fun σ H R _ z => ⟨z.1, fun vs H1 s1 i1 => by
    obtain ⟨v, w, rfl, hv, hw⟩ := a2 i1
    obtain ⟨p, xs, rfl, hx, hd⟩ := dp_list hv
    obtain ⟨q, ys, rfl, hy, he⟩ := dp_list hw
    have l1 := dpAll_len hd
    have l2 := dpAll_len he
    refine ⟨p, q, xs, ys, rfl, .inl ⟨hx, hy, z.2 _ H1 s1 (wk_pair (n := min xs.length ys.length) (by rw [zipD_len, l1, l2]) (fun i H hi s => ⟨xs, ys, xs[i]'(by omega), ys[i]'(by omega), s.seq hx, s.seq hy, by simp, by simp⟩) (fun H s => ⟨xs, ys, s.seq hx, s.seq hy, by omega⟩) fun i H v H' hi s y => ?_)⟩⟩
    obtain ⟨T, x, y, rfl, hT, rfl, hxx, hyy⟩ := y
    have hxi := hxx xs (s.seq hx)
    have hyi := hyy ys (s.seq hy)
    have g1 : ds[i]? = some ds[i] := List.getElem?_eq_getElem (by omega)
    have g2 : ds'[i]? = some ds'[i] := List.getElem?_eq_getElem (by omega)
    obtain ⟨v1, h2, h3⟩ := dpAll_get hd g1
    obtain ⟨v2, h4, h5⟩ := dpAll_get he g2
    rw [hxi] at h2
    rw [hyi] at h4
    cases h2
    cases h4
    exact ⟨T, _, _, _, _, rfl, hT, rfl, dp_mono s h3, dp_mono s h5, zipD_get g1 g2⟩⟩
end
end Lc
end
section
/-! Lc, part H: comprehensions and loops. -/
namespace Lc
open PySem L2

/-! ### data without lists stay while a list changes -/
mutual
def nl : D → Bool
  | .none | .int _ | .str _ | .bool _ => true
  | .tuple xs => nlAll xs
  | .list _ => false
  | .dict _ => false
def nlAll : List D → Bool
  | [] => true
  | x :: xs => nl x && nlAll xs
end
/-- what is read as a tuple stays -/
def TupS (K : PySem.W.Frag) (H H' : Hp) : Prop := ∀ a xs, SqT K H a xs → SqT K H' a xs
mutual
theorem dp_tups {K : PySem.W.Frag} {H H' : Hp} (e : TupS K H H') : ∀ {v : V} {d : D}, nl d = true → Dp K H v d → Dp K H' v d
  | _, _, _, .non => .non
  | _, _, _, .bl b => .bl b
  | _, _, _, .int i => .int i
  | _, _, _, .str x => .str x
  | _, _, h, .lst _ _ => by simp [nl] at h
  | _, _, h, .tup ha t => .tup (e _ _ ha) (dpAll_tups e (by simpa [nl] using h) t)
theorem dpAll_tups {K : PySem.W.Frag} {H H' : Hp} (e : TupS K H H') : ∀ {vs : List V} {ds : List D}, nlAll ds = true → DpAll K H vs ds → DpAll K H' vs ds
  | _, _, _, .nil => .nil
  | _, _, h, .cons hd t => by
    simp only [nlAll, Bool.and_eq_true] at h
    exact .cons (dp_tups e h.1 hd) (dpAll_tups e h.2 t)
end
/-- an object that is no tuple, nor locked, changes -/
theorem tups_upd {K : PySem.W.Frag} {H : Hp} {a : Addr} {o o' : HO} (ha : H a = some o) (h1 : ∀ xs, o ≠ .tup xs) (h2 : ∀ ob u, o ≠ .frz ob u) : TupS K H (upd H a o') := fun b xs h => by
  rcases h with (h | ⟨ob, h⟩) | h
  · exact .inl (.inl (by rw [upd_ne (ne_of h ha (h1 xs).symm)]; exact h))
  · exact .inl (.inr ⟨ob, by rw [upd_ne (ne_of h ha (h2 ob _).symm)]; exact h⟩)
  · exact .inr h
theorem tups_lst {K : PySem.W.Frag} {H : Hp} {a : Addr} {xs : List V} {o' : HO} (ha : H a = some (.lst xs)) : TupS K H (upd H a o') := tups_upd ha (fun _ q => by cases q) fun _ _ q => by cases q
theorem tups_same {K : PySem.W.Frag} {H H' : Hp} (h : Same H H') : TupS K H H' := fun _ _ q => seqT_same h q
theorem nlAll_map {α : Type} (f : α → D) : ∀ l : List α, (∀ x ∈ l, nl (f x) = true) → nlAll (l.map f) = true
  | [], _ => rfl
  | x :: xs, h => by
    simp only [List.map_cons, nlAll, Bool.and_eq_true]
    exact ⟨h x (by simp), nlAll_map f xs fun y hy => h y (by simp [hy])⟩

/-! ### slots wiped -/
def wipeR (ρ : Rho) : List Nat → Rho
  | [] => ρ
  | v :: vs => (wipeR ρ vs).set v none
theorem EnvOk.wipe {σ : L2.St} {H : Hp} {ρ : Rho} (h : EnvOk σ H ρ) : ∀ vs : List Nat, EnvOk (L2.wipe σ vs) H (wipeR ρ vs)
  | [] => h
  | v :: vs => (EnvOk.wipe h vs).drop
theorem wipe_get {σ : L2.St} : ∀ {vs : List Nat} {i : Nat}, i ∉ vs → (L2.wipe σ vs)[i]? = σ[i]?
  | [], i, _ => rfl
  | v :: vs, i, h => by
    simp only [List.mem_cons, not_or] at h
    show ((L2.wipe σ vs).set v none)[i]? = _
    rw [List.getElem?_set_ne (Ne.symm h.1), wipe_get h.2]
theorem wipe_in {σ : L2.St} : ∀ {vs : List Nat} {i : Nat}, i ∈ vs → i < σ.length → (L2.wipe σ vs)[i]? = some none
  | v :: vs, i, h, hl => by
    show ((L2.wipe σ vs).set v none)[i]? = _
    by_cases e : v = i
    · subst e
      rw [List.getElem?_set_self (by rw [wipe_length]; exact hl)]
    · rw [List.getElem?_set_ne e]
      exact wipe_in ((List.mem_cons.mp h).resolve_left fun q => e q.symm) hl
/-- slots that agree outside vs are one, wiped -/
theorem wipe_eq {σ τ : L2.St} {vs : List Nat} (hl : τ.length = σ.length) (h : ∀ j, j ∉ vs → τ[j]? = σ[j]?) : L2.wipe τ vs = L2.wipe σ vs := by
  apply List.ext_getElem?
  intro i
  by_cases hi : i ∈ vs
  · by_cases hl' : i < σ.length
    · rw [wipe_in hi hl', wipe_in hi (by omega)]
    · rw [List.getElem?_eq_none (by rw [wipe_length]; omega), List.getElem?_eq_none (by rw [wipe_length]; omega)]
  · rw [wipe_get hi, wipe_get hi, h i hi]
theorem wipe_wipe {σ τ : L2.St} {vs : List Nat} (hl : τ.length = (L2.wipe σ vs).length) (h : ∀ j, j ∉ vs → τ[j]? = (L2.wipe σ vs)[j]?) : L2.wipe τ vs = L2.wipe σ vs := by
  refine wipe_eq (by rw [hl, wipe_length]) fun j hj => ?_
  rw [h j hj, wipe_get hj]

section
variable {X : Cx} {ρ : Rho} {K : PySem.W.Frag} {α β : Type}

/-! ### the reading of a list comprehension -/
/-- what it makes so far -/
def madeL (xs : List α) (p : α → Bool) (v : α → D) (i : Nat) : List D := ((xs.take i).filter p).map v
theorem made_yes {xs : List α} {p : α → Bool} {v : α → D} {i : Nat} {x : α} (h : xs[i]? = some x) (hp : p x = true) : madeL xs p v (i + 1) = madeL xs p v i ++ [v x] := by
  unfold madeL
  rw [List.take_add_one, h]
  simp [hp]
theorem made_no {xs : List α} {p : α → Bool} {v : α → D} {i : Nat} {x : α} (h : xs[i]? = some x) (hp : p x = false) : madeL xs p v (i + 1) = madeL xs p v i := by
  unfold madeL
  rw [List.take_add_one, h]
  simp [hp]
theorem made_all {xs : List α} {p : α → Bool} {v : α → D} : madeL xs p v xs.length = (xs.filter p).map v := by
  unfold madeL
  rw [List.take_length]
theorem made_len (xs : List α) (p : α → Bool) (v : α → D) (i : Nat) : (madeL xs p v i).length ≤ xs.length := by
  unfold madeL
  rw [List.length_map]
  refine Nat.le_trans (List.length_filter_le _ _) ?_
  rw [List.length_take]
  exact Nat.min_le_right _ _
theorem madeL_nl {xs : List α} {p : α → Bool} {v : α → D} (h : ∀ x ∈ xs, p x = true → nl (v x) = true) (i : Nat) : nlAll (madeL xs p v i) = true :=
  nlAll_map v _ fun x hx => by
    rw [List.mem_filter] at hx
    exact h x (List.mem_of_mem_take hx.1) hx.2
/-- the new list so far -/
def Acc (K : PySem.W.Frag) (H1 : Hp) (Dl : Addr) (ds : List D) (H : Hp) : Prop := ∃ acc, H Dl = some (.lst acc) ∧ DpAll K H acc ds ∧ Same H1 H
theorem Acc.more {H1 H H4 : Hp} {Dl : Addr} {ds : List D} {y : V} {d : D} (h1 : H1 Dl = none) (h : Acc K H1 Dl ds H) (s : Same H H4) (hy : Dp K H4 y d) (n1 : nlAll ds = true) (n2 : nl d = true) (hz : ds.length < 1000000) :
    ∃ acc, H4 Dl = some (.lst acc) ∧ acc.length < sizeLine ∧ Acc K H1 Dl (ds ++ [d]) (upd H4 Dl (.lst (acc ++ [y]))) := by
  obtain ⟨acc, ha, hd, s1⟩ := h
  have ha4 := s _ _ ha
  refine ⟨acc, ha4, by rw [dpAll_len hd]; exact Nat.lt_of_lt_of_le hz (by decide), acc ++ [y], upd_same, dpAll_app (dpAll_tups (tups_lst ha4) n1 (dpAll_mono s hd)) (.cons (dp_tups (tups_lst ha4) n2 hy) .nil), fun b o hb => ?_⟩
  rw [upd_ne (ne_of_none hb h1)]
  exact s _ _ (s1 _ _ hb)
theorem Acc.same {H1 H H4 : Hp} {Dl : Addr} {ds : List D} (h : Acc K H1 Dl ds H) (s : Same H H4) : Acc K H1 Dl ds H4 := by
  obtain ⟨acc, ha, hd, s1⟩ := h
  exact ⟨acc, s _ _ ha, dpAll_mono s hd, s1.trans s⟩

/-- readings told item by item -/
def tAnyT (xs : List α) (r : α → TT) : TT := fun σ H Q => ∃ x, x ∈ xs ∧ r x σ H Q
def tAnyE (xs : List α) (p : α → Bool) (r : α → TE) : TE := fun σ H Q => ∃ x, x ∈ xs ∧ p x = true ∧ r x σ H Q
theorem pts_any {xs : List α} {ifs : List Expr} {r : α → TT} (h : ∀ x ∈ xs, PTs X ifs (r x)) : PTs X ifs (tAnyT xs r) := ⟨fun pins s σ H Q I ⟨x, hx, q⟩ => (h x hx).run pins s σ H Q I q⟩
theorem pe_any {xs : List α} {p : α → Bool} {e : Expr} {r : α → TE} (h : ∀ x ∈ xs, p x = true → PE X e (r x)) : PE X e (tAnyE xs p r) := ⟨fun pins s σ H Q I ⟨x, hx, hp, q⟩ => (h x hx hp).run pins s σ H Q I q⟩
/-- tests of a comprehension -/
abbrev DTs (X : Cx) (ρ : Rho) (ifs : List Expr) (b : Bool) : Prop := PTs X ifs (tDT ρ b)
theorem dts_nil : DTs X ρ [] true := ⟨fun pins s σ H Q I h => pts_nil.run pins s σ H Q I (h.2 H (Same.refl H))⟩
theorem dts_one {c : Expr} {b : Bool} (h : DT X ρ c b) : DTs X ρ [c] b := pts_one h

theorem lc_read {xs : List α} {gx : α → Ent} {p : α → Bool} {v : α → D} {f : α → Rho → Rho} {g : TG} {js vs : List Nat} {n : Nat} {σ : L2.St} {H : Hp} {Q : VK} (hn : σ.length = n) (hgb : ∀ x ∈ xs, GB n g (gx x) js (f x)) (hjs : ∀ j ∈ js, j ∈ vs)
    (hnl : ∀ x ∈ xs, p x = true → nl (v x) = true) (hz : xs.length ≤ 1000000) (hE : EnvOk σ H ρ) (hQ : ∀ u H', Same H H' → (lstE K ((xs.filter p).map v)).is u H' → Q u H') :
    tLc (tDI ρ (xs.map gx)) g (tAnyT xs fun x => tDT (f x (wipeR ρ vs)) (p x)) (tAnyE xs p fun x => tD (f x (wipeR ρ vs)) (dat K (v x))) vs σ H Q := by
  refine ⟨hE, fun J H1 s1 W Dl hD => ?_⟩
  have hlen : (xs.map gx).length = xs.length := List.length_map ..
  refine ⟨fun i m H' => m = xs.length - i ∧ i ≤ xs.length ∧ Acc K H1 Dl (madeL xs p v i) H', ⟨xs.length, by simp, Nat.zero_le _, [], upd_same, .nil, Same.new hD⟩, ?_⟩
  rintro i m H' ⟨rfl, hi, hA⟩
  have sA : Same H1 H' := by
    obtain ⟨_, _, _, s⟩ := hA
    exact s
  by_cases hlt : i < xs.length
  · have hx : xs[i]? = some xs[i] := List.getElem?_eq_getElem hlt
    have hm : xs[i] ∈ xs := List.getElem_mem hlt
    generalize xs[i] = x at hx hm
    refine .inr ⟨W.goes i H' (by omega) sA, fun H2 => i + 1 ≤ xs.length ∧ Acc K H1 Dl (madeL xs p v (i + 1)) H2, fun H2 h2 => ⟨xs.length - (i + 1), by omega, rfl, h2.1, h2.2⟩, fun u H2 hy => ?_⟩
    obtain ⟨sy, iy⟩ := W.yields i H' u H2 (by omega) sA hy
    have hgx : (gx x).is u H2 := iy _ (by rw [List.getElem?_map, hx]; rfl)
    refine hgb x hm u (L2.wipe σ vs) H2 _ (by rw [wipe_length]; exact hn) hgx fun σ2 l2 o2 e2 => ⟨wipe_wipe l2 fun j hj => o2 j fun q => hj (hjs j q), ?_⟩
    have E2 : EnvOk σ2 H2 (f x (wipeR ρ vs)) := e2 _ ((hE.mono (s1.trans (sA.trans sy))).wipe vs)
    refine ⟨x, hm, E2, fun H3 s3 => ?_⟩
    cases hp : p x with
    | true =>
      refine iteT ⟨x, hm, hp, E2.mono s3, fun y H4 s4 i4 => ?_⟩
      obtain ⟨acc, a1, a2, a3⟩ := Acc.more hD hA ((sy.trans s3).trans s4) i4 (madeL_nl hnl i) (hnl x hm hp) (by
        refine Nat.lt_of_le_of_lt (m := i) ?_ (by omega)
        unfold madeL
        rw [List.length_map]
        refine Nat.le_trans (List.length_filter_le _ _) ?_
        rw [List.length_take]
        exact Nat.min_le_left _ _)
      exact ⟨acc, a1, a2, hlt, by rw [made_yes hx hp]; exact a3⟩
    | false =>
      exact iteF ⟨hlt, by rw [made_no hx hp]; exact hA.same (sy.trans s3)⟩
  · have e : i = xs.length := by omega
    subst e
    refine .inl ⟨by rw [← hlen]; exact W.stops H' sA, hQ _ H' (s1.trans sA) ?_⟩
    obtain ⟨acc, a1, a2, _⟩ := hA
    rw [made_all] at a2
    exact ⟨Dl, acc, rfl, a1, a2⟩

variable {k : Nat} {a b c e tg iter elt : Expr} {ifs : List Expr} {scope : Scope} {own : List (Str × Nat)} {pos spos : Pos}
/-- [elt for tg in iter if ..], told over a list of things xs: each is gx x, is kept where p x, and gives v x -/
theorem de_lcE (gc : Gx X k) {xs : List α} {gx : α → Ent} {p : α → Bool} {v : α → D} {f : α → Rho → Rho} {g : TG} {js : List Nat} (hi : DI X ρ tg iter (xs.map gx)) (ok : BlkOk X.N X.env.scope scope own)
    (hg : ∀ (s : Shared) (H : Hp) (C : Addr) (cl : List (Str × Addr)) (fp : List Addr), PG (X.blk s H scope (compEnvC scope cl C X.env) fp) tg g) (hgb : ∀ x ∈ xs, GB X.N.length g (gx x) js (f x))
    (ht : ∀ (s : Shared) (H : Hp) (C : Addr) (cl : List (Str × Addr)) (fp : List Addr), ∀ x ∈ xs, DTs (X.blk s H scope (compEnvC scope cl C X.env) fp) (f x (wipeR ρ (own.map (·.2)))) ifs (p x))
    (he : ∀ (s : Shared) (H : Hp) (C : Addr) (cl : List (Str × Addr)) (fp : List Addr), ∀ x ∈ xs, p x = true → DE (X.blk s H scope (compEnvC scope cl C X.env) fp) (f x (wipeR ρ (own.map (·.2)))) elt (dat X.K (v x)))
    (hnl : ∀ x ∈ xs, p x = true → nl (v x) = true) (hz : xs.length ≤ 1000000) (hjs : ∀ j ∈ js, j ∈ own.map (·.2) := by decide) (hs : ∀ x, foldedSetIterable iter X.env x = pure x := by intro _; rfl) :
    DE X ρ (.ListComp elt [⟨tg, iter, ifs, 0⟩] scope pos) (lstE X.K ((xs.filter p).map v)) :=
  PE.imp (pe_lc gc.calm gc.nd hi ok hg (fun s H C cl fp => pts_any (ht s H C cl fp)) (fun s H C cl fp => pe_any (he s H C cl fp)) hs) fun σ H Q hn z => lc_read hn hgb hjs hnl hz z.1 z.2
/-- y = [..] -/
theorem ds_setLcE (gc : Gx X k) (m : Nat) {y : Str} {py : Pos} {xs : List α} {gx : α → Ent} {p : α → Bool} {v : α → D} {f : α → Rho → Rho} {g : TG} {js : List Nat} (hi : DI X ρ tg iter (xs.map gx)) (ok : BlkOk X.N X.env.scope scope own)
    (hg : ∀ (s : Shared) (H : Hp) (C : Addr) (cl : List (Str × Addr)) (fp : List Addr), PG (X.blk s H scope (compEnvC scope cl C X.env) fp) tg g) (hgb : ∀ x ∈ xs, GB X.N.length g (gx x) js (f x))
    (ht : ∀ (s : Shared) (H : Hp) (C : Addr) (cl : List (Str × Addr)) (fp : List Addr), ∀ x ∈ xs, DTs (X.blk s H scope (compEnvC scope cl C X.env) fp) (f x (wipeR ρ (own.map (·.2)))) ifs (p x))
    (he : ∀ (s : Shared) (H : Hp) (C : Addr) (cl : List (Str × Addr)) (fp : List Addr), ∀ x ∈ xs, p x = true → DE (X.blk s H scope (compEnvC scope cl C X.env) fp) (f x (wipeR ρ (own.map (·.2)))) elt (dat X.K (v x)))
    (hnl : ∀ x ∈ xs, p x = true → nl (v x) = true) (hz : xs.length ≤ 1000000) (hjs : ∀ j ∈ js, j ∈ own.map (·.2) := by decide) (hy : X.N[m]? = some y := by rfl) (hyl : X.env.scope.names.lookup y = some .local := by rfl)
    (hsw : swapsWith (.ListComp elt [⟨tg, iter, ifs, 0⟩] scope pos) (some (.Name y py)) spos.line X.env = pure true := by exact sw_true rfl rfl rfl (by decide +kernel)) (hs : ∀ x, foldedSetIterable iter X.env x = pure x := by intro _; rfl) :
    DS X ρ (.Assign [.Name y py] (.ListComp elt [⟨tg, iter, ifs, 0⟩] scope pos) spos) (ρ.set m (some (lstE X.K ((xs.filter p).map v)))) :=
  PS.imp (ps_setLc gc.calm gc.nd hy hyl hsw hi ok hg (fun s H C cl fp => pts_any (ht s H C cl fp)) (fun s H C cl fp => pe_any (he s H C cl fp)) hs) fun D σ H hn z =>
    lc_read hn hgb hjs hnl hz z.1 fun u H' s i => z.2 _ H' s (by simp) ((z.1.mono s).set (by rw [hn]; exact (List.getElem?_eq_some_iff.mp hy).1) i)

/-- data are walked -/
theorem di_ent {xs : List α} {f0 : α → D} (h : DID X ρ tg iter (xs.map f0)) : DI X ρ tg iter (xs.map fun x => dat X.K (f0 x)) := by
  have e : (xs.map f0).map (dat X.K) = xs.map fun x => dat X.K (f0 x) := by
    rw [List.map_map]
    rfl
  rw [← e]
  exact h
theorem de_lc (gc : Gx X k) {xs : List α} {f0 : α → D} (p : α → Bool) (v : α → D) {f : α → Rho → Rho} {g : TG} {js : List Nat} (hi : DID X ρ tg iter (xs.map f0)) (ok : BlkOk X.N X.env.scope scope own)
    (hg : ∀ (s : Shared) (H : Hp) (C : Addr) (cl : List (Str × Addr)) (fp : List Addr), PG (X.blk s H scope (compEnvC scope cl C X.env) fp) tg g) (hgb : ∀ x ∈ xs, GB X.N.length g (dat X.K (f0 x)) js (f x))
    (ht : ∀ (s : Shared) (H : Hp) (C : Addr) (cl : List (Str × Addr)) (fp : List Addr), ∀ x ∈ xs, DTs (X.blk s H scope (compEnvC scope cl C X.env) fp) (f x (wipeR ρ (own.map (·.2)))) ifs (p x))
    (he : ∀ (s : Shared) (H : Hp) (C : Addr) (cl : List (Str × Addr)) (fp : List Addr), ∀ x ∈ xs, p x = true → DE (X.blk s H scope (compEnvC scope cl C X.env) fp) (f x (wipeR ρ (own.map (·.2)))) elt (dat X.K (v x)))
    (hnl : ∀ x ∈ xs, p x = true → nl (v x) = true) (hz : xs.length ≤ 1000000) (hjs : ∀ j ∈ js, j ∈ own.map (·.2) := by decide) (hs : ∀ x, foldedSetIterable iter X.env x = pure x := by intro _; rfl) :
    DE X ρ (.ListComp elt [⟨tg, iter, ifs, 0⟩] scope pos) (lstE X.K ((xs.filter p).map v)) := de_lcE gc (di_ent hi) ok hg hgb ht he hnl hz hjs hs
theorem ds_setLc (gc : Gx X k) (m : Nat) {y : Str} {py : Pos} {xs : List α} {f0 : α → D} (p : α → Bool) (v : α → D) {f : α → Rho → Rho} {g : TG} {js : List Nat} (hi : DID X ρ tg iter (xs.map f0)) (ok : BlkOk X.N X.env.scope scope own)
    (hg : ∀ (s : Shared) (H : Hp) (C : Addr) (cl : List (Str × Addr)) (fp : List Addr), PG (X.blk s H scope (compEnvC scope cl C X.env) fp) tg g) (hgb : ∀ x ∈ xs, GB X.N.length g (dat X.K (f0 x)) js (f x))
    (ht : ∀ (s : Shared) (H : Hp) (C : Addr) (cl : List (Str × Addr)) (fp : List Addr), ∀ x ∈ xs, DTs (X.blk s H scope (compEnvC scope cl C X.env) fp) (f x (wipeR ρ (own.map (·.2)))) ifs (p x))
    (he : ∀ (s : Shared) (H : Hp) (C : Addr) (cl : List (Str × Addr)) (fp : List Addr), ∀ x ∈ xs, p x = true → DE (X.blk s H scope (compEnvC scope cl C X.env) fp) (f x (wipeR ρ (own.map (·.2)))) elt (dat X.K (v x)))
    (hnl : ∀ x ∈ xs, p x = true → nl (v x) = true) (hz : xs.length ≤ 1000000) (hjs : ∀ j ∈ js, j ∈ own.map (·.2) := by decide) (hy : X.N[m]? = some y := by rfl) (hyl : X.env.scope.names.lookup y = some .local := by rfl)
    (hsw : swapsWith (.ListComp elt [⟨tg, iter, ifs, 0⟩] scope pos) (some (.Name y py)) spos.line X.env = pure true := by exact sw_true rfl rfl rfl (by decide +kernel)) (hs : ∀ x, foldedSetIterable iter X.env x = pure x := by intro _; rfl) :
    DS X ρ (.Assign [.Name y py] (.ListComp elt [⟨tg, iter, ifs, 0⟩] scope pos) spos) (ρ.set m (some (lstE X.K ((xs.filter p).map v)))) := ds_setLcE gc m (di_ent hi) ok hg hgb ht he hnl hz hjs hy hyl hsw hs

/-! ### for -/
theorem ds_for (gc : Gx X k) {Es : List Ent} {g : TG} {js : List Nat} {f : Nat → Rho → Rho} {body : List Stmt} (Pv : Nat → Rho) (hp : PassesOwn (model X.prog X.w) X.A X.env X.xe) (hi : DI X ρ tg iter Es) (hg : PG X tg g) (h0 : ∀ σ H, EnvOk σ H ρ → EnvOk σ H (Pv 0))
    (hgb : ∀ i E, Es[i]? = some E → GB X.N.length g E js (f i)) (hb : ∀ i, i < Es.length → DN X (f i (Pv i)) body (Pv (i + 1))) (hs : ∀ x, foldedSetIterable iter X.env x = pure x := by intro _; rfl) :
    DS X ρ (.For tg iter body [] pos) (Pv Es.length) := by
  have hbody : PSs X body (fun D σ H => ∃ i, i < Es.length ∧ tDS (f i (Pv i)) (Pv (i + 1)) D σ H) := ⟨fun pins s σ H D I ⟨i, hi, q⟩ => (hb i hi).run pins s σ H D I q⟩
  refine PS.imp (ps_for hp gc.calm hi hg hbody hs) fun D σ H hn z => ⟨z.1, fun J H1 s1 W => ?_⟩
  refine ⟨fun i m σ' H' => m = Es.length - i ∧ i ≤ Es.length ∧ Same H1 H' ∧ σ'.length = σ.length ∧ EnvOk σ' H' (Pv i), ⟨Es.length, by simp, Nat.zero_le _, Same.refl _, rfl, h0 σ H1 (z.1.mono s1)⟩, ?_⟩
  rintro i m σ' H' ⟨rfl, hi, sA, hl, hE⟩
  by_cases hlt : i < Es.length
  · refine .inr ⟨W.goes i H' hlt sA, fun σ2 H2 => Same H1 H2 ∧ σ2.length = σ.length ∧ EnvOk σ2 H2 (Pv (i + 1)), fun σ2 H2 h2 => ⟨Es.length - (i + 1), by omega, rfl, hlt, h2⟩, fun u H2 hy => ?_⟩
    obtain ⟨sy, iy⟩ := W.yields i H' u H2 hlt sA hy
    have hE1 : Es[i]? = some Es[i] := List.getElem?_eq_getElem hlt
    refine hgb i _ hE1 u σ' H2 _ (hl.trans hn) (iy _ hE1) fun σ2 l2 o2 e2 => ⟨i, hlt, e2 _ (hE.mono sy), fun σ3 H3 s3 l3 e3 => ⟨(sA.trans sy).trans s3, (l3.trans l2).trans hl, e3⟩⟩
  · have e : i = Es.length := by omega
    subst e
    exact .inl ⟨W.stops H' sA, z.2 σ' H' (s1.trans sA) hl hE⟩
end
end Lc
end
section
/-! Lc, part I: defs and their calls. -/
namespace Lc
open PySem L2
/-- what a pure def is: arguments known as Es give E -/
abbrev Fn := List Ent → Ent → Prop
def spP (F : Fn) : Sp := fun vs H Q _ => ∃ Es E, F Es E ∧ All2 H vs Es ∧ ∀ v H', Same H H' → E.is v H' → Q v H'
section
variable {P : Program} {w : World} {K : PySem.W.Frag} {mg : Str → Option Value} {base : Heap}
/-- the def x of the module keeps F -/
def GFun (P : Program) (w : World) (K : PySem.W.Frag) (mg : Str → Option Value) (base : Heap) (x : Str) (k : Nat) (F : Fn) : Prop :=
  ∃ (f : Addr) (fd : FuncData) (ps : List Str), mg x = some (.ref f) ∧ PySem.W.keepIn K (.ref f) = true ∧ Binds K fd ps [] ∧ FnOk P w K mg base CX0 k f fd ps (spP F)
/-- the method m of the class at C keeps F (its arguments begin with the instance) -/
def GMeth (P : Program) (w : World) (K : PySem.W.Frag) (mg : Str → Option Value) (base : Heap) (C : Addr) (m : Str) (k : Nat) (F : Fn) : Prop :=
  ∃ (f : Addr) (fd : FuncData) (ps : List Str), Meth K C m f ∧ Binds K fd ps [] ∧ FnOk P w K mg base CX0 k f fd ps (spP F)
/-- a def of the module as the top has left it -/
structure HasDef (K : PySem.W.Frag) (mg : Str → Option Value) (x : Str) (st : Stmt) : Prop where
  ex : ∃ (f : Addr) (fd : FuncData), Fun K x x st f fd ∧ mg x = some (.ref f)
/-- a method -/
structure HasMeth (K : PySem.W.Frag) (C : Addr) (m qual : Str) (st : Stmt) : Prop where
  ex : ∃ (f : Addr) (fd : FuncData), Fun K m qual st f fd ∧ Meth K C m f
/-- the context of a def's body -/
abbrev cx (P : Program) (w : World) (K : PySem.W.Frag) (mg : Str → Option Value) (base : Heap) (N : List Str) (qual : Str) (st : Stmt) (f : Addr) (cdv : Value) (A : Around) (outer : List Env) (s : Shared) (H : Hp) (E : XK) : Cx :=
  (cxOf CX0 P w K mg base N qual (defScope st) f cdv A outer s H E).nox
/-- the slots at the entry -/
def startR (N : List Str) (Es : List Ent) : Rho := Es.map some ++ List.replicate (N.length - Es.length) none
theorem env_start {N : List Str} {vs : List V} {Es : List Ent} {H : Hp} (h : All2 H vs Es) : EnvOk (L2.start N vs) H (startR N Es) := fun i E q => by
  unfold startR at q
  by_cases hi : i < Es.length
  · rw [List.getElem?_append_left (by simpa using hi), List.getElem?_map] at q
    cases e : Es[i]? with
    | none => rw [e] at q; cases q
    | some E' =>
      rw [e] at q
      cases q
      obtain ⟨v, h1, h2⟩ := h.get e
      refine ⟨v, ?_, h2⟩
      unfold L2.start
      rw [List.getElem?_append_left (by rw [List.length_map]; exact (List.getElem?_eq_some_iff.mp h1).1), List.getElem?_map, h1]
      rfl
  · rw [List.getElem?_append_right (by simpa using hi)] at q
    rw [List.getElem?_replicate] at q
    split at q <;> cases q
/-- how a body is shown: it hands back E, or it falls off its end where E is None -/
def BodyOk (P : Program) (w : World) (K : PySem.W.Frag) (mg : Str → Option Value) (base : Heap) (N : List Str) (qual : Str) (st : Stmt) (k : Nat) (F : Fn) : Prop :=
  ∀ (f : Addr) (cdv : Value) (A : Around) (outer : List Env) (s : Shared) (H : Hp) (E0 : XK), Gx (cx P w K mg base N qual st f cdv A outer s H E0) k → ∀ Es E, F Es E →
    (DR (cx P w K mg base N qual st f cdv A outer s H E0) (startR N Es) (defBody st) E) ∨ (∃ ρ', DN (cx P w K mg base N qual st f cdv A outer s H E0) (startR N Es) (defBody st) ρ' ∧ E = dat K .none)
theorem fn_body {x qual : Str} {st : Stmt} {f : Addr} {fd : FuncData} {N ps : List Str} {k : Nat} {F : Fn} (hF : Fun K x qual st f fd) (S : FnScope N ps (defScope st)) (hlen : ∀ Es E, F Es E → Es.length = ps.length) (hb : BodyOk P w K mg base N qual st k F) :
    FnOk P w K mg base CX0 (k + 1) f fd ps (spP F) := by
  refine hF.ok S (fun vs H Q E h => ?_) fun cdv A outer s H vs Q E hr h => ?_
  · obtain ⟨Es, E', h1, h2, _⟩ := h
    rw [h2.length, hlen Es E' h1]
  · obtain ⟨Es, E', h1, h2, h3⟩ := h
    rcases hb f cdv A outer s H E ⟨rfl, hr, S.nd⟩ Es E' h1 with hb | ⟨ρ', hb, rfl⟩
    · exact ⟨_, hb, env_start h2, fun v H' s i => h3 v H' s i⟩
    · exact ⟨_, hb, env_start h2, fun σ' H' s _ _ => h3 .non H' s .non⟩
/-- every def's arguments bind plainly -/
def BindsOk (x qual : Str) (st : Stmt) (ps : List Str) : Prop := ∀ (kV doc pm : Value) (an : Option Addr) (cdv ct : Value) (us : List Value), us.length = ps.length → bindArgs (PySem.W.fnOf x qual (defArgs st) (defBody st) (defScope st) .none kV doc pm an cdv ct) ⟨us, []⟩ = pure (ps.zip us)
theorem gfun_mk {x : Str} {st : Stmt} {N : List Str} {k : Nat} {F : Fn} (h : HasDef K mg x st) (ps : List Str) (S : FnScope N ps (defScope st)) (hb : BindsOk x x st ps) (hlen : ∀ Es E, F Es E → Es.length = ps.length) (b : BodyOk P w K mg base N x st k F) : GFun P w K mg base x (k + 1) F := by
  obtain ⟨f, fd, hF, hm⟩ := h.ex
  exact ⟨f, fd, ps, hm, hF.kp, hF.binds hb, fn_body hF S hlen b⟩
theorem gmeth_mk {m qual : Str} {st : Stmt} {N : List Str} {k : Nat} {F : Fn} {C : Addr} (h : HasMeth K C m qual st) (ps : List Str) (S : FnScope N ps (defScope st)) (hb : BindsOk m qual st ps) (hlen : ∀ Es E, F Es E → Es.length = ps.length) (b : BodyOk P w K mg base N qual st k F) : GMeth P w K mg base C m (k + 1) F := by
  obtain ⟨f, fd, hF, hm⟩ := h.ex
  exact ⟨f, fd, ps, hm, hF.binds hb, fn_body hF S hlen b⟩
end
section
variable {X : Cx} {ρ : Rho} {a b c e o : Expr} {es : List Expr} {E Eo : Ent} {Es : List Ent} {F : Fn} {pos pp apos : Pos} {x m : Str} {j k : Nat} {C : Addr}
theorem de_call (G : GFun X.prog X.w X.K X.mg X.base x j F) (g : Gx X k) (ha : DA X ρ (e :: es) Es) (hF : F Es E) (hj : j ≤ k := by decide) (hg : Gl X x := by rfl) (hdb : (x == ("__debug__" : Str)) = false := by decide) (he : starEach (e :: es) X.env = (false, eval e X.env) :: starEach es X.env := by rfl)
    (hpl : (backTo pos (starEach es X.env)).any (·.1) = false := by rfl) : DE X ρ (.Call (.Name x pp) (e :: es) [] pos) E := by
  obtain ⟨f, fd, ps, hm, hk, hb, hf⟩ := G
  exact PE.imp (pe_call hf (g.room.mono hj) hg hm hk hb .nil pass0 ha hdb he hpl) fun σ H Q _ z => ⟨z.1, fun vs H1 s1 i1 => ⟨Es, E, hF, by rw [List.append_nil]; exact i1, fun v H' s i => z.2 v H' (s1.trans s) i⟩⟩
/-- o is known to be an instance of the class at C without an attribute m -/
def InsOf (C : Addr) (m : Str) (Eo : Ent) : Prop := ∀ v H, Eo.is v H → ∃ a dx fs, v = .ref a ∧ H a = some (.ins C dx fs) ∧ fs.lookup m = none
theorem de_meth (G : GMeth X.prog X.w X.K X.mg X.base C m j F) (cl : Cls X.K C) (hi : InsOf C m Eo) (g : Gx X k) {pl : Sem Bool} (ho : DE X ρ o Eo) (ha : DA X ρ (e :: es) Es) (hF : F (Eo :: Es) E) (hj : j ≤ k := by decide)
    (hst : starEach (e :: es) X.env = (false, eval e X.env) :: starEach es X.env := by rfl) (hpl : (backTo pos (starEach es X.env)).any (·.1) = false := by rfl)
    (ht : eval (.Call (.Attribute o m apos) (e :: es) [] pos) X.env = (do
      let ov ← eval o X.env
      standAt apos.atName
      let (f, first) ← holding [ov] (getMethod ov m pl)
      callWith pos f first (backTo pos (starEach (e :: es) X.env)) (backToKw pos (keywordEach [] X.env))) := by rfl) : DE X ρ (.Call (.Attribute o m apos) (e :: es) [] pos) E := by
  obtain ⟨f, fd, ps, hm, hb, hf⟩ := G
  refine PE.imp (pe_meth ho cl hm hf (g.room.mono hj) hb .nil pass0 ha hst hpl ht) fun σ H Q _ z => ⟨z.1, fun v H1 s1 i1 => ?_⟩
  obtain ⟨a, dx, fs, rfl, h1, h2⟩ := hi v H1 i1
  refine ⟨a, dx, fs, rfl, h1, h2, z.1.mono s1, fun vs H2 s2 i2 => ⟨Eo :: Es, E, hF, ?_, fun v H' s i => z.2 v H' ((s1.trans s2).trans s) i⟩⟩
  rw [List.append_nil]
  exact .cons (Eo.mono s2 i1) i2
theorem de_meth0 (G : GMeth X.prog X.w X.K X.mg X.base C m j F) (cl : Cls X.K C) (hi : InsOf C m Eo) (g : Gx X k) {pl : Sem Bool} (ho : DE X ρ o Eo) (hF : F [Eo] E) (hj : j ≤ k := by decide)
    (ht : eval (.Call (.Attribute o m apos) [] [] pos) X.env = (do
      let ov ← eval o X.env
      standAt apos.atName
      let (f, first) ← holding [ov] (getMethod ov m pl)
      callWith pos f first (backTo pos (starEach [] X.env)) (backToKw pos (keywordEach [] X.env))) := by rfl) : DE X ρ (.Call (.Attribute o m apos) [] [] pos) E := by
  obtain ⟨f, fd, ps, hm, hb, hf⟩ := G
  refine PE.imp (pe_meth0 ho cl hm hf (g.room.mono hj) hb .nil pass0 ht) fun σ H Q _ z => ⟨z.1, fun v H1 s1 i1 => ?_⟩
  obtain ⟨a, dx, fs, rfl, h1, h2⟩ := hi v H1 i1
  exact ⟨a, dx, fs, rfl, h1, h2, [Eo], E, hF, .cons i1 .nil, fun v H' s i => z.2 v H' (s1.trans s) i⟩
/-- e.f of an instance -/
theorem de_fld (cl : Cls X.K C) (na : NoAttr X.K C m) (hi : ∀ v H, Eo.is v H → ∃ a dx fs u, v = .ref a ∧ H a = some (.ins C dx fs) ∧ fs.lookup m = some u ∧ E.is u H) (ho : DE X ρ o Eo) (hb : attributeBase o m X.env (eval o X.env) = eval o X.env := by rfl) : DE X ρ (.Attribute o m pos) E :=
  PE.imp (pe_fld ho hb) fun σ H Q _ z => ⟨z.1, fun v H1 s1 i1 => by
    obtain ⟨a, dx, fs, u, rfl, h1, h2, h3⟩ := hi v H1 i1
    exact ⟨a, C, dx, fs, u, rfl, h1, cl, na, h2, z.2 u H1 s1 h3⟩⟩
end
end Lc
end
section
/-! Lc, part J: short words. -/
namespace Lc
open PySem L2
theorem kit_ii : kitB "int" "int" = some true := by decide +kernel
theorem kit_ib : kitB "int" "bool" = some false := by decide +kernel
theorem kit_ss : kitB "str" "str" = some true := by decide +kernel
theorem kit_tt : kitB "tuple" "tuple" = some true := by decide +kernel
theorem kit_it : kitB "int" "tuple" = some false := by decide +kernel
section
variable {X : Cx} {ρ : Rho} {a b c e tg iter elt : Expr} {ifs : List Expr} {es : List Expr} {E F G : Ent} {pos pp spos : Pos} {d d' : D} {k : Nat} {p q : Bool} {α β : Type} {scope : Scope} {own : List (Str × Nat)}
theorem de_is (h : DE X ρ e (dat X.K d)) (w : d = d') : DE X ρ e (dat X.K d') := w ▸ h
theorem de_b (h : DE X ρ e (dat X.K (.bool p))) (w : p = q) : DE X ρ e (dat X.K (.bool q)) := w ▸ h
theorem dt_is (h : DT X ρ e p) (w : p = q) : DT X ρ e q := w ▸ h
theorem dc_is {op : CmpOp} (h : DC X ρ op a b (dat X.K d)) (w : d = d') : DC X ρ op a b (dat X.K d') := w ▸ h
theorem dc_b {op : CmpOp} (h : DC X ρ op a b (dat X.K (.bool p))) (w : p = q) : DC X ρ op a b (dat X.K (.bool q)) := w ▸ h
/-- not e, e true -/
theorem nt (h : DE X ρ a (dat X.K (.bool true))) (he : ∀ whole, isTrue a X.env whole = (do let v ← whole; standAt a.pos; holding [v] (truthy v)) := by intro _; rfl) : DT X ρ (.UnaryOp .Not a pos) false := dt_not (dt_val h he)
theorem ntF (h : DE X ρ a (dat X.K (.bool false))) (he : ∀ whole, isTrue a X.env whole = (do let v ← whole; standAt a.pos; holding [v] (truthy v)) := by intro _; rfl) : DT X ρ (.UnaryOp .Not a pos) true := dt_not (dt_val h he)
/-- a comparison whose answer is known -/
theorem cmp {op : CmpOp} (h : DC X ρ op a b (dat X.K (.bool p))) (e : p = q := by rfl) (hm : behindInMarks op b = false := by first | exact nobehind _ (by decide) (by decide) | rfl) : DT X ρ (.Compare a [op] [b] pos) q := dt_is (dt_c h hm) e
/-- every one is kept -/
theorem de_lcA (gc : Gx X k) {xs : List α} {f0 : α → D} (v : α → D) {f : α → Rho → Rho} {g : TG} {js : List Nat} (hi : DID X ρ tg iter (xs.map f0)) (ok : BlkOk X.N X.env.scope scope own)
    (hg : ∀ (s : Shared) (H : Hp) (C : Addr) (cl : List (Str × Addr)) (fp : List Addr), PG (X.blk s H scope (compEnvC scope cl C X.env) fp) tg g) (hgb : ∀ x ∈ xs, GB X.N.length g (dat X.K (f0 x)) js (f x))
    (he : ∀ (s : Shared) (H : Hp) (C : Addr) (cl : List (Str × Addr)) (fp : List Addr), ∀ x ∈ xs, DE (X.blk s H scope (compEnvC scope cl C X.env) fp) (f x (wipeR ρ (own.map (·.2)))) elt (dat X.K (v x)))
    (hnl : ∀ x ∈ xs, nl (v x) = true) (hz : xs.length ≤ 1000000) (hjs : ∀ j ∈ js, j ∈ own.map (·.2) := by decide) (hs : ∀ x, foldedSetIterable iter X.env x = pure x := by intro _; rfl) :
    DE X ρ (.ListComp elt [⟨tg, iter, [], 0⟩] scope pos) (lstE X.K (xs.map v)) := by
  have h := de_lc (pos := pos) (elt := elt) (ifs := []) gc (fun _ => true) v hi ok hg hgb (fun _ _ _ _ _ _ _ => dts_nil) (fun s H C cl fp x hx _ => he s H C cl fp x hx) (fun x hx _ => hnl x hx) hz hjs hs
  rw [List.filter_eq_self.mpr (fun _ _ => rfl)] at h
  exact h
theorem enumD_map (l : List α) (f : α → D) : enumD (l.map f) = l.zipIdx.map fun p => .tuple [.int (p.2 : Nat), f p.1] := by
  unfold enumD
  rw [List.zipIdx_map, List.map_map]
  rfl
theorem zipD_map (l : List α) (m : List β) (f : α → D) (h : β → D) : zipD (l.map f) (m.map h) = (l.zip m).map fun p => .tuple [f p.1, h p.2] := by
  unfold zipD
  rw [List.zip_map, List.map_map]
  rfl
theorem di_is {ds ds' : List D} (h : DID X ρ tg e ds) (w : ds = ds') : DID X ρ tg e ds' := w ▸ h

/-! ### written places -/
theorem de_ixTc {ds : List D} {i : Int} {j : Nat} {q' : Pos} (ha : DE X ρ a (dat X.K (.tuple ds))) (h : ds[i.toNat]? = some d := by rfl) (h0 : 0 ≤ i := by decide) (hs : PlainIx (.Constant (.int i) j q') := by exact fun _ _ => rfl) : DE X ρ (.Subscript a (.Constant (.int i) j q') pos) (dat X.K d) :=
  de_ixT (n := i.toNat) ha (by rw [Int.toNat_of_nonneg h0]; exact de_int) h hs
theorem de_ixLc {ds : List D} {i : Int} {j : Nat} {q' : Pos} (ha : DE X ρ a (dat X.K (.list ds))) (h : ds[i.toNat]? = some d := by rfl) (h0 : 0 ≤ i := by decide) (hs : PlainIx (.Constant (.int i) j q') := by exact fun _ _ => rfl) : DE X ρ (.Subscript a (.Constant (.int i) j q') pos) (dat X.K d) :=
  de_ixL (n := i.toNat) ha (by rw [Int.toNat_of_nonneg h0]; exact de_int) h hs
theorem de_ixTi {ds : List D} {i : Int} (h0 : 0 ≤ i) (h : ds[i.toNat]? = some d) (ha : DE X ρ a (dat X.K (.tuple ds))) (hb : DE X ρ b (dat X.K (.int i))) (hs : PlainIx b := by exact fun _ _ => rfl) : DE X ρ (.Subscript a b pos) (dat X.K d) :=
  de_ixT (n := i.toNat) ha (by rw [Int.toNat_of_nonneg h0]; exact hb) h hs
theorem de_ixLi {ds : List D} {i : Int} (h0 : 0 ≤ i) (h : ds[i.toNat]? = some d) (ha : DE X ρ a (dat X.K (.list ds))) (hb : DE X ρ b (dat X.K (.int i))) (hs : PlainIx b := by exact fun _ _ => rfl) : DE X ρ (.Subscript a b pos) (dat X.K d) :=
  de_ixL (n := i.toNat) ha (by rw [Int.toNat_of_nonneg h0]; exact hb) h hs
theorem sIx_pos (n d : Nat) {i : Int} (h : 0 ≤ i) : HT.sIx n d (some i) = min i.toNat n := by
  have := HT.sIx_nat n d i.toNat
  rw [Int.toNat_of_nonneg h] at this
  exact this
theorem cutD_from (ds : List D) {i : Int} (h : 0 ≤ i) : cutD ds (some i) none = ds.drop i.toNat := by
  unfold cutD
  rw [sIx_pos _ _ h, HT.sIx_none]
  apply List.ext_getElem?
  intro m
  rw [List.getElem?_take]
  split
  · rw [List.getElem?_drop, List.getElem?_drop]
    by_cases hl : i.toNat ≤ ds.length
    · rw [Nat.min_eq_left hl]
    · rw [List.getElem?_eq_none (by omega), List.getElem?_eq_none (by omega)]
  · rw [List.getElem?_drop, List.getElem?_eq_none (by omega)]
theorem cutD_to (ds : List D) {i : Int} (h : 0 ≤ i) : cutD ds none (some i) = ds.take i.toNat := by
  unfold cutD
  rw [sIx_pos _ _ h, HT.sIx_none]
  simp only [List.drop_zero, Nat.sub_zero]
  by_cases hl : i.toNat ≤ ds.length
  · rw [Nat.min_eq_left hl]
  · rw [Nat.min_eq_right (by omega), List.take_of_length_le (by omega), List.take_of_length_le (by omega)]
variable (B : Bt X.mg)
include B
theorem de_allX {xs : List α} {f : α → Bool} (g : Gx X k) (ha : DE X ρ a (lstE X.K (xs.map fun x => .bool (f x)))) (hg : Gl X "all" := by rfl) (hs : starEach [a] X.env = (false, eval a X.env) :: starEach [] X.env := by rfl) : DE X ρ (.Call (.Name "all" pp) [a] [] pos) (dat X.K (.bool (xs.all f))) := by
  have h := de_all (pos := pos) (pp := pp) (bs := xs.map f) B g (de_is (de_ld ha) (by rw [List.map_map]; rfl)) hg hs
  rw [List.all_map] at h
  exact h
theorem de_anyX {xs : List α} {f : α → Bool} (g : Gx X k) (ha : DE X ρ a (lstE X.K (xs.map fun x => .bool (f x)))) (hg : Gl X "any" := by rfl) (hs : starEach [a] X.env = (false, eval a X.env) :: starEach [] X.env := by rfl) : DE X ρ (.Call (.Name "any" pp) [a] [] pos) (dat X.K (.bool (xs.any f))) := by
  have h := de_any (pos := pos) (pp := pp) (bs := xs.map f) B g (de_is (de_ld ha) (by rw [List.map_map]; rfl)) hg hs
  rw [List.any_map] at h
  exact h
theorem de_sumX {xs : List α} {f : α → Int} (g : Gx X k) (ha : DE X ρ a (lstE X.K (xs.map fun x => .int (f x)))) (hg : Gl X "sum" := by rfl) (hs : starEach [a] X.env = (false, eval a X.env) :: starEach [] X.env := by rfl) : DE X ρ (.Call (.Name "sum" pp) [a] [] pos) (dat X.K (.int (xs.map f).sum)) :=
  de_sum (ns := xs.map f) B g (de_is (de_ld ha) (by rw [List.map_map]; rfl)) hg hs
theorem de_isInt (ha : DE X ρ a (dat X.K d)) (hk : kitB (dty d) "int" = some p := by first | exact kit_ii | exact kit_ib | exact kit_ss | exact kit_tt | exact kit_it) {q' : Pos} (hg : Gl X "isinstance" := by rfl) (hg2 : Gl X "int" := by rfl) (hs : starEach [a, .Name "int" q'] X.env = (false, eval a X.env) :: starEach [.Name "int" q'] X.env := by rfl)
    (hs2 : starEach [.Name "int" q'] X.env = (false, eval (.Name "int" q') X.env) :: starEach [] X.env := by rfl) (hpl : (backTo pos (starEach [.Name "int" q'] X.env)).any (·.1) = false := by rfl) : DE X ρ (.Call (.Name "isinstance" pp) [a, .Name "int" q'] [] pos) (dat X.K (.bool p)) :=
  de_isi B ha (de_ty hg2 B.int (by decide +kernel)) hk hg hs hs2 hpl
theorem de_isBool (ha : DE X ρ a (dat X.K d)) (hk : kitB (dty d) "bool" = some p := by first | exact kit_ii | exact kit_ib | exact kit_ss | exact kit_tt | exact kit_it) {q' : Pos} (hg : Gl X "isinstance" := by rfl) (hg2 : Gl X "bool" := by rfl) (hs : starEach [a, .Name "bool" q'] X.env = (false, eval a X.env) :: starEach [.Name "bool" q'] X.env := by rfl)
    (hs2 : starEach [.Name "bool" q'] X.env = (false, eval (.Name "bool" q') X.env) :: starEach [] X.env := by rfl) (hpl : (backTo pos (starEach [.Name "bool" q'] X.env)).any (·.1) = false := by rfl) : DE X ρ (.Call (.Name "isinstance" pp) [a, .Name "bool" q'] [] pos) (dat X.K (.bool p)) :=
  de_isi B ha (de_ty hg2 B.bool (by decide +kernel)) hk hg hs hs2 hpl
theorem de_isStr (ha : DE X ρ a (dat X.K d)) (hk : kitB (dty d) "str" = some p := by first | exact kit_ii | exact kit_ib | exact kit_ss | exact kit_tt | exact kit_it) {q' : Pos} (hg : Gl X "isinstance" := by rfl) (hg2 : Gl X "str" := by rfl) (hs : starEach [a, .Name "str" q'] X.env = (false, eval a X.env) :: starEach [.Name "str" q'] X.env := by rfl)
    (hs2 : starEach [.Name "str" q'] X.env = (false, eval (.Name "str" q') X.env) :: starEach [] X.env := by rfl) (hpl : (backTo pos (starEach [.Name "str" q'] X.env)).any (·.1) = false := by rfl) : DE X ρ (.Call (.Name "isinstance" pp) [a, .Name "str" q'] [] pos) (dat X.K (.bool p)) :=
  de_isi B ha (de_ty hg2 B.str (by decide +kernel)) hk hg hs hs2 hpl
theorem de_isTuple (ha : DE X ρ a (dat X.K d)) (hk : kitB (dty d) "tuple" = some p := by first | exact kit_ii | exact kit_ib | exact kit_ss | exact kit_tt | exact kit_it) {q' : Pos} (hg : Gl X "isinstance" := by rfl) (hg2 : Gl X "tuple" := by rfl) (hs : starEach [a, .Name "tuple" q'] X.env = (false, eval a X.env) :: starEach [.Name "tuple" q'] X.env := by rfl)
    (hs2 : starEach [.Name "tuple" q'] X.env = (false, eval (.Name "tuple" q') X.env) :: starEach [] X.env := by rfl) (hpl : (backTo pos (starEach [.Name "tuple" q'] X.env)).any (·.1) = false := by rfl) : DE X ρ (.Call (.Name "isinstance" pp) [a, .Name "tuple" q'] [] pos) (dat X.K (.bool p)) :=
  de_isi B ha (de_ty hg2 B.tuple (by decide +kernel)) hk hg hs hs2 hpl

omit B in
theorem de_chainLe {i j m : Int} (ha : DE X ρ a (dat X.K (.int i))) (hb : DE X ρ b (dat X.K (.int j))) (hc : DE X ρ c (dat X.K (.int m))) (hm : lastMarks [.LtE, .LtE] [b, c] = false := by with_unfolding_all rfl) : DE X ρ (.Compare a [.LtE, .LtE] [b, c] pos) (dat X.K (.bool (decide (i ≤ j) && decide (j ≤ m)))) :=
  PE.imp (pe_chain op_le op_le ha hb hc hm) fun σ H Q _ z => ⟨z.1, fun x H1 s1 i1 => ⟨z.1.mono s1, fun y H2 s2 i2 => by
    cases i1
    cases i2
    refine ⟨i, j, rfl, rfl, decide (i ≤ j), rfl, ?_⟩
    cases h : decide (i ≤ j) with
    | true =>
      refine iteT ⟨z.1.mono (s1.trans s2), fun w H3 s3 i3 => ?_⟩
      cases i3
      have q := z.2 (.bl (decide (j ≤ m))) H3 ((s1.trans s2).trans s3) (by rw [h, Bool.true_and]; exact .bl _)
      exact ⟨j, m, rfl, rfl, q⟩
    | false => exact iteF (z.2 _ H2 (s1.trans s2) (by rw [h, Bool.false_and]; exact .bl _))⟩⟩
omit B in
theorem dt_chainLe {i j m : Int} (ha : DE X ρ a (dat X.K (.int i))) (hb : DE X ρ b (dat X.K (.int j))) (hc : DE X ρ c (dat X.K (.int m))) (hm : lastMarks [.LtE, .LtE] [b, c] = false := by with_unfolding_all rfl) : DT X ρ (.Compare a [.LtE, .LtE] [b, c] pos) (decide (i ≤ j) && decide (j ≤ m)) :=
  PT.imp (pt_chain op_le op_le ha hb hc hm) fun σ H Q _ z => ⟨z.1, fun x H1 s1 i1 => ⟨z.1.mono s1, fun y H2 s2 i2 => by
    cases i1
    cases i2
    refine ⟨i, j, rfl, rfl, decide (i ≤ j), rfl, ?_⟩
    cases h : decide (i ≤ j) with
    | true =>
      refine iteT ⟨z.1.mono (s1.trans s2), fun w H3 s3 i3 => ?_⟩
      cases i3
      have q := z.2 H3 ((s1.trans s2).trans s3)
      rw [h, Bool.true_and] at q
      exact ⟨j, m, rfl, rfl, _, rfl, q⟩
    | false =>
      have q := z.2 H2 (s1.trans s2)
      rw [h, Bool.false_and] at q
      exact iteF ⟨_, rfl, q⟩⟩⟩
end
end Lc
end
section
/-! Lc, part M: match on a text; two loops in a comprehension; a dict of texts. -/
namespace Lc
open PySem L2
section
variable {X : Cx} {ρ : Rho} {a b c e tg iter elt : Expr} {es : List Expr} {sts body : List Stmt} {E F G : Ent} {pos pp spos : Pos} {d d' : D} {k : Nat} {p q : Bool} {α β : Type}
/-- the cases of a match whose subject is the text z -/
def MC (X : Cx) (ρ : Rho) (cases : List MatchCase) (z : Str) (E : Ent) : Prop := ∀ (first : Bool) (pins : List (Addr × Obj)) (s : Shared) (σ : L2.St) (H : Hp) (u : Value) (D : Ends), Inv X pins σ H s → EnvOk σ H ρ → RelV (.str z) u → (∀ v H', Same H H' → E.is v H' → D.rt v H') →
  wpAny (model X.prog X.w) X.A (matchCases cases X.env u first) (SP X pins D) X.xe s
theorem mc_value {cs : List MatchCase} {y z : Str} {j : Nat} {p1 p2 : Pos} (hT : z = y → DR X ρ body E) (hF : z ≠ y → MC X ρ cs z E) : MC X ρ (⟨.MatchValue (.Constant (.str y) j p1) p2, none, body⟩ :: cs) z E := by
  intro first pins s σ H u D I hE ru hD
  refine wpAny_matchCases_cons (wpAny_matchPattern_Value (Calls.Constant_str ?_))
  have I1 := I.tok (s.toks + 1)
  refine thn (op_eq pins _ σ H (.str z) (.str y) u _ (fun v H' => v = .bl (decide ((V.str z) = .str y)) ∧ H' = H) I1 ru ⟨_, rfl⟩ ⟨rfl, rfl, rfl⟩) fun w s2 hw => ?_
  obtain ⟨x, H2, I2, rx, rfl, rfl⟩ := hw
  cases rx
  refine wpAny_truthy_bool ?_
  by_cases hzy : z = y
  · rw [decide_eq_true (show V.str z = V.str y by rw [hzy])]
    rw [if_pos rfl]
    refine wpAny_assignInOrder_none ?_
    exact (hT hzy).run pins s2 σ H2 D I2 ⟨hE, hD⟩
  · rw [decide_eq_false (show ¬ V.str z = V.str y from fun q => hzy (V.str.inj q))]
    rw [if_neg Bool.false_ne_true]
    exact hF hzy false pins s2 σ H2 u D I2 hE ru hD
theorem dr_match {cs : List MatchCase} {z : Str} (he : DE X ρ e (dat X.K (.str z))) (h : MC X ρ cs z E) : DR X ρ (.Match e cs pos :: sts) E := by
  refine ⟨fun pins s σ H D I h' => ?_⟩
  have hp : PS X (.Match e cs pos) (tDR ρ E) := ⟨fun pins s σ H D I q => by
    refine wpAny_Match (thn (he.run pins s σ H (fun v H' => Same H H' ∧ v = .str z) I ⟨q.1, fun v H1 s1 i1 => ⟨s1, by cases i1; rfl⟩⟩) fun u s1 hu => ?_)
    obtain ⟨v, H1, I1, r1, s1', rfl⟩ := hu
    exact h true pins s1 σ H1 u D I1 (q.1.mono s1') r1 fun v H2 s2 i2 => q.2 v H2 (s1'.trans s2) i2⟩
  refine wpAny_execs_cons (thn (hp.run pins s σ H { D with nx := fun _ _ => False } I ⟨h'.1, fun v H1 s1 i1 => h'.2 v H1 s1 i1⟩) fun f s1 q => ?_)
  cases f with
  | next => obtain ⟨_, _, _, z⟩ := q; exact z.elim
  | ret v => exact q
  | brk => exact q
  | cont => exact q
end
end Lc
end
section
/-! Lc, part N: products, membership of texts, sorted, index, two loops in a comprehension. -/
namespace Lc
open PySem L2
section
variable {X : Cx} {ρ : Rho} {a b c e tg iter elt : Expr} {es : List Expr} {E F G : Ent} {pos pp spos apos : Pos} {d d' : D} {k : Nat} {p q : Bool} {α β : Type} {i j : Int}
theorem de_mul (h : -(2 ^ 64) < i ∧ i < 2 ^ 64) (ha : DE X ρ a (dat X.K (.int i))) (hb : DE X ρ b (dat X.K (.int j))) : DE X ρ (.BinOp a .Mult b pos) (dat X.K (.int (i * j))) :=
  de_op2 op_mul ha hb fun x y H Q hx hy z => by
    cases hx
    cases hy
    exact ⟨i, j, rfl, rfl, .inl h, z _ H (Same.refl H) (.int _)⟩
theorem nbAll_strs (l : List Str) : nbAll (l.map PyData.str) = true := nbAll_map _ l fun _ _ => rfl
theorem nbAll_ints (l : List Int) : nbAll (l.map PyData.int) = true := nbAll_map _ l fun _ _ => rfl
theorem mem_strs {z : Str} {l : List Str} : PyData.str z ∈ l.map PyData.str ↔ z ∈ l := by
  rw [List.mem_map]
  exact ⟨fun ⟨y, h, e⟩ => by cases e; exact h, fun h => ⟨z, h, rfl⟩⟩
theorem mem_ints {z : Int} {l : List Int} : PyData.int z ∈ l.map PyData.int ↔ z ∈ l := by
  rw [List.mem_map]
  exact ⟨fun ⟨y, h, e⟩ => by cases e; exact h, fun h => ⟨z, h, rfl⟩⟩
theorem dc_inTs {z : Str} {l : List Str} (g : Gx X k) (ha : DE X ρ a (dat X.K (.str z))) (hb : DE X ρ b (dat X.K (.tuple (l.map PyData.str)))) : DC X ρ .In a b (dat X.K (.bool (decide (z ∈ l)))) := by
  have h := dc_inT g ha hb pl_str (nbAll_strs l)
  rw [decide_eq_decide.mpr (mem_strs (z := z) (l := l))] at h
  exact h
theorem dc_inLs {z : Str} {l : List Str} (g : Gx X k) (ha : DE X ρ a (dat X.K (.str z))) (hb : DE X ρ b (dat X.K (.list (l.map PyData.str)))) : DC X ρ .In a b (dat X.K (.bool (decide (z ∈ l)))) := by
  have h := dc_inL g ha hb pl_str (nbAll_strs l)
  rw [decide_eq_decide.mpr (mem_strs (z := z) (l := l))] at h
  exact h
theorem dc_niTs {z : Str} {l : List Str} (g : Gx X k) (ha : DE X ρ a (dat X.K (.str z))) (hb : DE X ρ b (dat X.K (.tuple (l.map PyData.str)))) : DC X ρ .NotIn a b (dat X.K (.bool (decide (z ∉ l)))) := by
  have h := dc_niT g ha hb pl_str (nbAll_strs l)
  rw [decide_eq_decide.mpr (not_congr (mem_strs (z := z) (l := l)))] at h
  exact h
theorem dc_niLs {z : Str} {l : List Str} (g : Gx X k) (ha : DE X ρ a (dat X.K (.str z))) (hb : DE X ρ b (dat X.K (.list (l.map PyData.str)))) : DC X ρ .NotIn a b (dat X.K (.bool (decide (z ∉ l)))) := by
  have h := dc_niL g ha hb pl_str (nbAll_strs l)
  rw [decide_eq_decide.mpr (not_congr (mem_strs (z := z) (l := l)))] at h
  exact h
theorem dc_inTi {z : Int} {l : List Int} (g : Gx X k) (ha : DE X ρ a (dat X.K (.int z))) (hb : DE X ρ b (dat X.K (.tuple (l.map PyData.int)))) : DC X ρ .In a b (dat X.K (.bool (decide (z ∈ l)))) := by
  have h := dc_inT g ha hb pl_int (nbAll_ints l)
  rw [decide_eq_decide.mpr (mem_ints (z := z) (l := l))] at h
  exact h

/-! ### list.index of a text -/
theorem de_index {apos : Pos} {l : List Str} {z : Str} {n : Nat} (ho : DE X ρ a (dat X.K (.list (l.map PyData.str)))) (he : DE X ρ e (dat X.K (.str z))) (hn : l[n]? = some z) (hno : ∀ m, m < n → l[m]? ≠ some z)
    (hst : starEach [e] X.env = (false, eval e X.env) :: starEach [] X.env := by rfl)
    (hfew : ((((backTo pos (starEach [e] X.env)).all fun x => !x.fst) && (backToKw pos (keywordEach [] X.env)).all fun x => x.fst.isSome) && decide (([e].length + ([] : List Keyword).length + if ([] : List Keyword).isEmpty = true then 0 else 1) < 30)) = true := by rfl) (hbase : attributeBase a "index" X.env (eval a X.env) = eval a X.env := by rfl) (hline : (apos.endLine == pos.line) = true := by rfl) :
    DE X ρ (.Call (.Attribute a "index" apos) [e] [] pos) (dat X.K (.int (n : Nat))) :=
  PE.imp (pe_bm PySem.F.plainAttrs_list PySem.F.slot_list_index PySem.F.type_list_index mt_index ho (da_cons he da_nil hst) (hbase := hbase) (hline := hline) (hs := hst) (hfew := hfew)) fun σ H Q _ w => ⟨w.1, fun x H1 s1 i1 => by
    obtain ⟨p, xs, rfl, hx, hd⟩ := dp_list i1
    cases dpAll_strs hd
    refine ⟨.inl ⟨rfl, _, hx⟩, w.1.mono s1, fun vs H2 s2 i2 => ?_⟩
    obtain ⟨v, rfl, hv⟩ := a1 i2
    cases hv
    refine ⟨p, l.map V.str, .str z, n, .str z, rfl, rfl, s2.seq hx, rfl, by simp [flatV], by rw [List.getElem?_map, hn]; rfl, by simp [eqV], fun m z' hm hz' => ?_, w.2 _ H2 (s1.trans s2) (.int _)⟩
    rw [List.getElem?_map] at hz'
    cases hy : l[m]? with
    | none => rw [hy] at hz'; cases hz'
    | some y =>
      rw [hy] at hz'
      cases hz'
      have hne : y ≠ z := fun q => hno m hm (by rw [hy, q])
      simp [eqV, hne]⟩

/-! ### sorted of data -/
/-- not above -/
def leD (x y : D) : Bool := !PySem.W.dataLt y x
def rSortD (K : PySem.W.Frag) : List V → Hp → VK → Prop := fun vs H Q => ∃ (v : V) (ds : List D), vs = [v] ∧ (Dp K H v (.list ds) ∨ Dp K H v (.tuple ds)) ∧ PySem.W.AllAlike ds ∧ PySem.W.Sortable ds ∧ (∀ d ∈ ds, d.depth ≤ 60) ∧ ds.length ≤ 1000000 ∧
  ∀ (p : Addr) (xs : List V), H p = none → DpAll K H xs (ds.mergeSort leD) → Q (.ref p) (upd H p (.lst xs))
theorem each_dp {K : PySem.W.Frag} {H : Hp} : ∀ {xs : List V} {ds : List D} {us : List Value}, DpAll K H xs ds → Vals xs us → PySem.W.EachIs (fun u d => ∃ v : V, RelV v u ∧ Dp K H v d) us ds
  | _, _, _, .nil, .nil => .nil
  | _, _, _, .cons h t, .cons r s => .cons ⟨_, r, h⟩ (each_dp t s)
theorem dp_each {K : PySem.W.Frag} {H : Hp} : ∀ {ds : List D} {us : List Value}, PySem.W.EachIs (fun u d => ∃ v : V, RelV v u ∧ Dp K H v d) us ds → ∃ xs : List V, DpAll K H xs ds ∧ Vals xs us
  | [], [], .nil => ⟨[], .nil, .nil⟩
  | _ :: _, _ :: _, .cons ⟨v, r, h⟩ t => by
    obtain ⟨xs, h1, h2⟩ := dp_each t
    exact ⟨v :: xs, .cons h h1, .cons r h2⟩
theorem each_imp {α β : Type} {R S : α → β → Prop} (h : ∀ a b, R a b → S a b) : ∀ {as : List α} {bs : List β}, PySem.W.EachIs R as bs → PySem.W.EachIs S as bs
  | _, _, .nil => .nil
  | _, _, .cons r t => .cons (h _ _ r) (each_imp h t)
/-- collect of a tuple -/
theorem collect_tup {prog : Program} {w : World} {A : Around} {E : Value → Shared → Prop} {s : Shared} {l : Addr} {vs : List Value} {Q : List Value → Shared → Prop} (hl : PyProof.Rows.IsTup s.heap l vs.toArray) (hz : vs.length ≤ sizeLine)
    (h : Q vs { s with heap := (s.heap.push (PyProof.Rows.seqObj "list" #[] 0)).update s.heap.objs.size (Obj.mapSeq (· ++ vs.toArray)) }) : wpAny (model prog w) A (collect (.ref l)) Q E s := by
  obtain ⟨o, ho, hc, n, hd⟩ := id hl
  unfold collect
  refine wpAny_bind (wpAny_runValue (codeAny_builtin PyProof.Rows.entry_proto_collect' ?_))
  show wpAny (model prog w) _ (do again (.builtin "list.__iadd__" ⟨[← newList [], .ref l], []⟩)) _ _ s
  refine wpAny_bind (wpAny_newList (wpAny_pure ⟨Code.quiet_builtin _ (by decide +kernel), codeAny_builtin PyProof.Rows.entry_list_iadd' ?_⟩))
  show wpAny (model prog w) _ (Builtin.List.listExtendWith (.ref s.heap.objs.size) (.ref l) (.ref s.heap.objs.size)) _ _ { s with heap := s.heap.push (PyProof.Rows.seqObj "list" #[] 0) }
  unfold Builtin.List.listExtendWith
  have hoT : (s.heap.push (PyProof.Rows.seqObj "list" #[] 0)).get? l = some o := Heap.get?_push_of_some _ ho
  refine wpAny_bind (wpAny_typeOf (T := "tuple") ⟨o, hoT, hc⟩ ?_)
  have ht : (Value.type "tuple" == Value.type "tuple") = true := by rfl
  rw [if_pos (by rw [ht]; simp)]
  have hoN : (s.heap.push (PyProof.Rows.seqObj "list" #[] 0)).get? s.heap.objs.size = some (PyProof.Rows.seqObj "list" #[] 0) := Heap.get?_push_size _ rfl
  refine wpAny_bind (PyProof.Rows.listItems_at hoT hd (wpAny_bind (PyProof.Rows.listItems_at (xs := #[]) (n := 0) hoN rfl ?_)))
  rw [if_neg (by simp)]
  refine wpAny_bind (PyProof.Rows.listUpdate_at (xs := #[]) (n := 0) hoN rfl (wpAny_pure ?_) (Nat.zero_le _) (by show (#[] ++ vs.toArray).size ≤ sizeLine + 1; simp only [Array.size_append, List.size_toArray, List.length_nil]; omega))
  refine wpAny_bind (wpAny_load (PyProof.Rows.get?_update_seq hoN _) ?_)
  have e : ((#[] : Array Value) ++ vs.toArray).toList = vs := by simp
  show wpAny _ _ (pure ((#[] : Array Value) ++ vs.toArray).toList) Q E _
  rw [e]
  exact wpAny_pure h
theorem cr_sortD (hu : X.A.units + 80 < cLine) : CallR X (.builtin "sorted") (rSortD X.K) := by
  intro pins s σ H vs us Q I r h
  obtain ⟨v, ds, rfl, hv, hal, hst, hdp, hlen, q⟩ := h
  obtain ⟨a, xs, its, rfl, hd, rv, hcol, hlz⟩ : ∃ (a : Addr) (xs : List V) (its : List Value), v = .ref a ∧ DpAll X.K H xs ds ∧ Vals xs its ∧ (∀ (A : Around) (Q : List Value → Shared → Prop) (E : Value → Shared → Prop), Q its { s with heap := (s.heap.push (PyProof.Rows.seqObj "list" #[] 0)).update s.heap.objs.size (Obj.mapSeq (· ++ its.toArray)) } →
      wpAny (model X.prog X.w) A (collect (.ref a)) Q E s) ∧ its.length ≤ sizeLine := by
    rcases hv with hv | hv
    · obtain ⟨a, xs, rfl, hx, hd⟩ := dp_list hv
      obtain ⟨its, rv, p, hz⟩ := I.list hx
      have hz' : its.length ≤ sizeLine := by rw [← rv.length]; exact hz
      exact ⟨a, xs, its, rfl, hd, rv, fun A Q E hq => PyProof.Rows.collect_list p.isList hq hz', hz'⟩
    · obtain ⟨a, xs, rfl, hx, hd⟩ := dp_tuple hv
      obtain ⟨its, rv, p, hz⟩ := I.tuple hx
      have hz' : its.length ≤ sizeLine := by rw [← rv.length]; exact hz
      exact ⟨a, xs, its, rfl, hd, rv, fun A Q E hq => collect_tup p hz' hq, hz'⟩
  rw [Vals.ref1 r]
  refine PyProof.Rows.call_function_entry_kw PyProof.Rows.kind_sorted PyProof.Rows.plain_sorted PyProof.Rows.entry_sorted (PyProof.Rows.args_sorted1 _) ?_
  unfold Builtin.«sorted»
  refine wpAny_bind (m := checkCount "sorted" 1 1 _) (wpAny_pure ?_)
  refine wpAny_bind (hcol _ _ _ ?_)
  refine wpAny_bind (wpAny_newList ?_ hlz)
  have hsz : ((s.heap.push (PyProof.Rows.seqObj "list" #[] 0)).update s.heap.objs.size (Obj.mapSeq (· ++ its.toArray))).objs.size = s.heap.objs.size + 1 := by
    rw [Heap.size_update, PyProof.Rows.size_push']
  show wpAny _ _ _ _ _ { s with heap := PySem.W.copyHeap s.heap its }
  rw [hsz]
  have hold : ∀ b o, s.heap.get? b = some o → (PySem.W.sortingHeap (PySem.W.copyHeap s.heap its) (s.heap.objs.size + 1) its).get? b = some o := fun b o e => PySem.W.sorting_copy_old e
  have I2 : Inv X pins σ H { s with heap := PySem.W.sortingHeap (PySem.W.copyHeap s.heap its) (s.heap.objs.size + 1) its } := I.kept (t' := s.toks) hold
  have each := each_dp hd rv
  have eachR : PySem.W.EachIs (fun u d => ∃ as, Reads (PySem.W.sortingHeap (PySem.W.copyHeap s.heap its) (s.heap.objs.size + 1) its) u d as) its ds := each_imp (fun u d ⟨v, rv, hv⟩ => Dp.reads I2 d v u hv rv) each
  have SA := PySem.W.SortsAt.data (prog := X.prog) (w := X.w) (A := X.A.in1.in1) (s := { s with heap := PySem.W.sortingHeap (PySem.W.copyHeap s.heap its) (s.heap.objs.size + 1) its }) eachR hal hst fun d hd' => by
    have := hdp d hd'
    show X.A.units + 1 + 1 + d.depth < cLine
    omega
  refine wpAny_bind (wpAny_holding (PyProof.Rows.wpAny_call_entry_kw PyProof.Rows.slot_list_sort ⟨_, PySem.W.copyHeap_at s.heap its, rfl⟩ PyProof.Rows.entry_list_sort ?_ (PyProof.Rows.args_list_sort _)))
  refine PySem.W.list_sort_vals (s := { s with heap := PySem.W.copyHeap s.heap its }) (PySem.W.copyHeap_at s.heap its) SA hlz ⟨_, rfl, ?_⟩
  refine wpAny_pure ⟨_, rfl, ?_⟩
  have sorted := PySem.W.sortVals_each (κ := PySem.W.dataKind (PySem.W.sortingHeap (PySem.W.copyHeap s.heap its) (s.heap.objs.size + 1) its) ds) (rev := false) (ks := its) PySem.W.keyToks each (by
    have em := PySem.W.each_mem eachR
    exact each_imp (fun u d ⟨⟨as, r⟩, hm⟩ => PySem.W.dataKind_some hal hm r) em)
  obtain ⟨ys, hys, rys⟩ := dp_each sorted
  obtain ⟨ep, he'⟩ := PyProof.Rows.sortedAll_at s.heap its (PySem.W.sortVals (PySem.W.dataKind (PySem.W.sortingHeap (PySem.W.copyHeap s.heap its) (s.heap.objs.size + 1) its) ds) false its its).toArray
  have hfr : H (s.heap.objs.size + 1) = none := I.hok.fresh (Nat.le_succ _)
  refine ⟨.ref (s.heap.objs.size + 1), upd H (s.heap.objs.size + 1) (.lst ys), I.laid (t' := s.toks) (fun _ _ => PyProof.Rows.sortedAll_old) (Nat.le_succ _) ⟨?_, _, ep, rys, he'⟩, rfl, q _ ys hfr ?_⟩
  · have l1 := dpAll_len hys
    rw [List.length_mergeSort] at l1
    rw [l1]
    exact Nat.le_trans hlen (by decide)
  · exact hys
end
end Lc
end
section
/-! Lc, part O: sorted as a rule; two loops in a comprehension. -/
namespace Lc
open PySem L2
section
variable {X : Cx} {ρ : Rho} {K : PySem.W.Frag} {a b c e tg iter tg1 iter1 elt : Expr} {E F G : Ent} {pos pp spos : Pos} {d d' : D} {k : Nat} {α β : Type} {scope : Scope} {own : List (Str × Nat)}
theorem de_sorted {ds : List D} (B : Bt X.mg) (g : Gx X k) (ha : DE X ρ a (dat X.K (.list ds)) ∨ DE X ρ a (dat X.K (.tuple ds))) (hal : PySem.W.AllAlike ds) (hst : PySem.W.Sortable ds) (hdp : ∀ d ∈ ds, d.depth ≤ 60) (hz : ds.length ≤ 1000000) (hg : Gl X "sorted" := by rfl)
    (hs : starEach [a] X.env = (false, eval a X.env) :: starEach [] X.env := by rfl) : DE X ρ (.Call (.Name "sorted" pp) [a] [] pos) (lstE X.K (ds.mergeSort leD)) := by
  have hu : X.A.units + 80 < cLine := by have := g.room.un; omega
  rcases ha with ha | ha
  · exact de_callB (cr_sortD hu) hg B.sorted (by decide +kernel) (da_cons ha da_nil hs) (he := hs) fun vs H Q h z => by
      obtain ⟨v, rfl, hv⟩ := a1 h
      exact ⟨v, ds, rfl, .inl hv, hal, hst, hdp, hz, fun p xs hp hx => z _ _ (Same.new hp) ⟨p, xs, rfl, upd_same, dpAll_mono (Same.new hp) hx⟩⟩
  · exact de_callB (cr_sortD hu) hg B.sorted (by decide +kernel) (da_cons ha da_nil hs) (he := hs) fun vs H Q h z => by
      obtain ⟨v, rfl, hv⟩ := a1 h
      exact ⟨v, ds, rfl, .inr hv, hal, hst, hdp, hz, fun p xs hp hx => z _ _ (Same.new hp) ⟨p, xs, rfl, upd_same, dpAll_mono (Same.new hp) hx⟩⟩

/-- what is walked while lists change: it leans on tuples alone -/
structure WkT (K : PySem.W.Frag) (J : It) (H0 : Hp) (ds : List D) : Prop where
  goes : ∀ i H, i < ds.length → TupS K H0 H → J.go i H
  stops : ∀ H, TupS K H0 H → J.stop ds.length H
  yields : ∀ i H x H', i < ds.length → TupS K H0 H → J.yld i H x H' → Same H H' ∧ ∀ d, ds[i]? = some d → Dp K H' x d
def tDIT (K : PySem.W.Frag) (ρ : Rho) (ds : List D) : TI := fun σ H R => EnvOk σ H ρ ∧ ∀ J H', Same H H' → WkT K J H' ds → R J H'
abbrev DIT (X : Cx) (ρ : Rho) (tg e : Expr) (ds : List D) : Prop := PI X tg e (tDIT X.K ρ ds)
theorem TupS.trans {H H1 H2 : Hp} (a : TupS K H H1) (b : TupS K H1 H2) : TupS K H H2 := fun x xs h => b x xs (a x xs h)
/-- a target of data without lists: what it binds stays while lists change -/
def GBT (K : PySem.W.Frag) (n : Nat) (g : TG) (d : D) (js : List Nat) (f : Rho → Rho) : Prop := ∀ (v : V) (σ : L2.St) (H : Hp) (Q : L2.St → Hp → Prop), σ.length = n → Dp K H v d →
  (∀ σ', σ'.length = σ.length → (∀ j, j ∉ js → σ'[j]? = σ[j]?) → (∀ ρ H', TupS K H H' → EnvOk σ H' ρ → EnvOk σ' H' (f ρ)) → Q σ' H) → g v σ H Q
def GBTs (K : PySem.W.Frag) (n : Nat) (g : TGs) (ds : List D) (js : List Nat) (f : Rho → Rho) : Prop := ∀ (vs : List V) (σ : L2.St) (H : Hp) (Q : L2.St → Hp → Prop), σ.length = n → DpAll K H vs ds →
  (∀ σ', σ'.length = σ.length → (∀ j, j ∉ js → σ'[j]? = σ[j]?) → (∀ ρ H', TupS K H H' → EnvOk σ H' ρ → EnvOk σ' H' (f ρ)) → Q σ' H) → g vs σ H Q
theorem gbtn {n : Nat} (j : Nat) (hd : nl d = true) (hj : j < n := by exact Nat.le_of_ble_eq_true rfl) : GBT K n (gName j) d [j] (fun ρ => ρ.set j (some (dat K d))) := fun v σ H Q hn hv q =>
  q _ (by simp) (fun m hm => List.getElem?_set_ne (by simpa [eq_comm] using hm)) fun ρ H' t h => h.set (by omega) (dp_tups t hd hv)
theorem gbts_nil {n : Nat} : GBTs K n gNil [] [] (fun ρ => ρ) := fun vs σ H Q hn hv q => by
  cases hv
  exact ⟨rfl, q σ rfl (fun _ _ => rfl) fun _ _ _ h => h⟩
theorem gbts_cons {n : Nat} {g : TG} {u : TGs} {ds : List D} {js ks : List Nat} {f h : Rho → Rho} (h1 : GBT K n g d js f) (h2 : GBTs K n u ds ks h) : GBTs K n (gCons g u) (d :: ds) (js ++ ks) (fun ρ => h (f ρ)) := fun vs σ H Q hn hv q => by
  cases hv with
  | cons hd ht =>
    refine ⟨_, _, rfl, h1 _ σ H _ hn hd fun σ1 l1 o1 e1 => h2 _ σ1 H Q (l1.trans hn) ht fun σ2 l2 o2 e2 => q σ2 (l2.trans l1) (fun j hj => ?_) fun ρ H' t hρ => e2 _ _ t (e1 ρ H' t hρ)⟩
    rw [List.mem_append, not_or] at hj
    rw [o2 j hj.2, o1 j hj.1]
theorem gbt_tup {n m : Nat} {u : TGs} {ds : List D} {js : List Nat} {f : Rho → Rho} (h : GBTs K n u ds js f) (hl : ds.length = m) : GBT K n (gTup K m u) (.tuple ds) js f := fun v σ H Q hn hv q => by
  obtain ⟨a, xs, rfl, hx, hd⟩ := dp_tuple hv
  exact ⟨a, xs, rfl, hx, by rw [dpAll_len hd, hl], h xs σ H Q hn hd q⟩
theorem dit_range2 {lo hi : Int} {n : Nat} (B : Bt X.mg) (h1 : -1000000 ≤ lo) (h2 : lo ≤ 1000000) (h3 : -1000000 ≤ hi) (h4 : hi ≤ 1000000) (hn : (hi - lo).toNat = n) (ha : DE X ρ a (dat X.K (.int lo))) (hb : DE X ρ b (dat X.K (.int hi))) (hg : Gl X "range" := by rfl)
    (hs : starEach [a, b] X.env = [(false, eval a X.env), (false, eval b X.env)] := by rfl) (hs2 : starEach [b] X.env = [(false, eval b X.env)] := by rfl) : DIT X ρ tg (.Call (.Name "range" pp) [a, b] [] pos) (rangeD lo 1 n) :=
  PI.imp (pi_range2 hg B.range (da_cons ha (da_cons hb da_nil (by rw [hs2] <;> rfl)) (by rw [hs, hs2])) hs hs2) fun σ H R _ z => ⟨z.1, fun vs H1 s1 i1 => by
    obtain ⟨v, w, rfl, hv, hw⟩ := a2 i1
    cases hv
    cases hw
    subst hn
    have hl : (rangeD lo 1 (hi - lo).toNat).length = (hi - lo).toNat := by simp [rangeD]
    refine ⟨lo, hi, rfl, ⟨by omega, by omega, by omega, by omega⟩, z.2 _ H1 s1 ⟨fun i H hi s => by rw [hl] at hi; exact hi, fun H s => by rw [hl]; exact Nat.le_refl _, fun i H x H' hi s y => ?_⟩⟩
    obtain ⟨rfl, rfl⟩ := y
    refine ⟨Same.refl _, fun d hd => ?_⟩
    obtain ⟨_, rfl⟩ := get_map_range hd
    rw [Int.mul_one]
    exact .int _⟩
theorem dit_zipT {ds ds' : List D} (B : Bt X.mg) {elts : List Expr} {kk : Nat} {tpos : Pos} (hn1 : nlAll ds = true) (hn2 : nlAll ds' = true) (ha : DE X ρ a (dat X.K (.tuple ds))) (hb : DE X ρ b (dat X.K (.tuple ds'))) (hg : Gl X "zip" := by rfl) (hs : starEach [a, b] X.env = (false, eval a X.env) :: starEach [b] X.env := by rfl)
    (hs2 : starEach [b] X.env = (false, eval b X.env) :: starEach [] X.env := by rfl) (hpl : (backTo pos (starEach [b] X.env)).any (·.1) = false := by rfl) : DIT X ρ (.Tuple elts kk tpos) (.Call (.Name "zip" pp) [a, b] [] pos) (zipD ds ds') :=
  PI.imp (RZ.pi_zipA hg B.zip (da_cons ha (da_cons hb da_nil hs2) hs) hs hpl) fun σ H R _ z => ⟨z.1, fun vs H1 s1 i1 => by
    obtain ⟨v, w, rfl, hv, hw⟩ := a2 i1
    obtain ⟨p, xs, rfl, hx, hd⟩ := dp_tuple hv
    obtain ⟨q, ys, rfl, hy, he⟩ := dp_tuple hw
    have l1 := dpAll_len hd
    have l2 := dpAll_len he
    have hl : (zipD ds ds').length = min xs.length ys.length := by rw [zipD_len, l1, l2]
    refine ⟨p, q, xs, ys, rfl, .inr ⟨hx, hy, z.2 _ H1 s1 ⟨fun i H hi s => ?_, fun H s => ⟨xs, ys, s _ _ hx, s _ _ hy, by omega⟩, fun i H v H' hi s y => ?_⟩⟩⟩
    · rw [hl] at hi
      exact ⟨xs, ys, xs[i]'(by omega), ys[i]'(by omega), s _ _ hx, s _ _ hy, by simp, by simp⟩
    · rw [hl] at hi
      obtain ⟨T, x, y, rfl, hT, rfl, hxx, hyy⟩ := y
      have hxi := hxx xs (s _ _ hx)
      have hyi := hyy ys (s _ _ hy)
      have g1 : ds[i]? = some ds[i] := List.getElem?_eq_getElem (by omega)
      have g2 : ds'[i]? = some ds'[i] := List.getElem?_eq_getElem (by omega)
      obtain ⟨v1, h2, h3⟩ := dpAll_get (dpAll_tups s hn1 hd) g1
      obtain ⟨v2, h4, h5⟩ := dpAll_get (dpAll_tups s hn2 he) g2
      rw [hxi] at h2
      rw [hyi] at h4
      cases h2
      cases h4
      refine ⟨Same.new hT, fun d hd => ?_⟩
      rw [zipD_get g1 g2] at hd
      cases hd
      exact dp_newT hT (.cons h3 (.cons h5 .nil))⟩
def tAny2 (xs : List α) (ys : α → List β) (r : α → β → TE) : TE := fun σ H Q => ∃ x y, x ∈ xs ∧ y ∈ ys x ∧ r x y σ H Q
def tAny2T (xs : List α) (ys : α → List β) (r : α → β → TT) : TT := fun σ H Q => ∃ x y, x ∈ xs ∧ y ∈ ys x ∧ r x y σ H Q
def tAnyI (xs : List α) (r : α → TI) : TI := fun σ H R => ∃ x, x ∈ xs ∧ r x σ H R
def made2 (xs : List α) (ys : α → List β) (v : α → β → D) (i : Nat) : List D := (xs.take i).flatMap fun x => (ys x).map (v x)
theorem made2_len {xs : List α} {ys : α → List β} {v : α → β → D} {n : Nat} (hy : ∀ x ∈ xs, (ys x).length ≤ n) : ∀ i, (made2 xs ys v i).length ≤ xs.length * n := by
  intro i
  unfold made2
  have key : ∀ l : List α, (∀ x ∈ l, (ys x).length ≤ n) → (l.flatMap fun x => (ys x).map (v x)).length ≤ l.length * n := by
    intro l
    induction l with
    | nil => intro _; exact Nat.zero_le _
    | cons x l ih =>
      intro h
      rw [List.flatMap_cons, List.length_append, List.length_map, List.length_cons, Nat.add_mul, Nat.one_mul]
      have h1 := h x (by simp)
      have h2 := ih fun y hy => h y (by simp [hy])
      omega
  refine Nat.le_trans (key _ fun x hx => hy x (List.mem_of_mem_take hx)) (Nat.mul_le_mul_right _ ?_)
  rw [List.length_take]
  exact Nat.min_le_right _ _
theorem nlAll_app : ∀ {xs ys : List D}, nlAll xs = true → nlAll ys = true → nlAll (xs ++ ys) = true
  | [], _, _, h => h
  | x :: xs, ys, h1, h2 => by
    simp only [nlAll, Bool.and_eq_true] at h1
    simp only [List.cons_append, nlAll, Bool.and_eq_true]
    exact ⟨h1.1, nlAll_app h1.2 h2⟩
theorem made2_nl {xs : List α} {ys : α → List β} {v : α → β → D} (h : ∀ x ∈ xs, ∀ y ∈ ys x, nl (v x y) = true) (i : Nat) : nlAll (made2 xs ys v i) = true := by
  unfold made2
  have key : ∀ l : List α, (∀ x ∈ l, x ∈ xs) → nlAll (l.flatMap fun x => (ys x).map (v x)) = true := by
    intro l
    induction l with
    | nil => intro _; rfl
    | cons x l ih =>
      intro hl
      rw [List.flatMap_cons]
      exact nlAll_app (nlAll_map _ _ fun y hy => h x (hl x (by simp)) y hy) (ih fun z hz => hl z (by simp [hz]))
  exact key _ fun x hx => List.mem_of_mem_take hx
theorem lc2_read {xs : List α} {f0 : α → D} {ys : α → List β} {f2 : α → β → D} {v : α → β → D} {f : α → Rho → Rho} {h : α → β → Rho → Rho} {g g1 : TG} {js js1 vs vs1 : List Nat} {n m : Nat} {σ : L2.St} {H : Hp} {Q : VK} (hn : σ.length = n)
    (hgb : ∀ x ∈ xs, GBT K n g (f0 x) js (f x)) (hjs : ∀ j ∈ js, j ∈ vs) (hgb1 : ∀ x ∈ xs, ∀ y ∈ ys x, GB n g1 (dat K (f2 x y)) js1 (h x y)) (hjs1 : ∀ j ∈ js1, j ∈ vs1)
    (hnl : ∀ x ∈ xs, ∀ y ∈ ys x, nl (v x y) = true) (hy : ∀ x ∈ xs, (ys x).length ≤ m) (hz : xs.length * m < 1000000) (hE : EnvOk σ H ρ) (hQ : ∀ u H', Same H H' → (lstE K (xs.flatMap fun x => (ys x).map (v x))).is u H' → Q u H') :
    tLc2 (tDI ρ (xs.map fun x => dat K (f0 x))) g (tAnyT xs fun x => tDT (f x (wipeR ρ vs)) true) (tAnyI xs fun x => tDIT K (f x (wipeR ρ vs)) ((ys x).map (f2 x))) g1 (tAny2T xs ys fun x y => tDT (h x y (wipeR (f x (wipeR ρ vs)) vs1)) true)
      (tAny2 xs ys fun x y => tD (h x y (wipeR (f x (wipeR ρ vs)) vs1)) (dat K (v x y))) vs vs1 σ H Q := by
  refine ⟨hE, fun J H1 s1 W Dl hD => ?_⟩
  have hlen : (xs.map fun x => dat K (f0 x)).length = xs.length := List.length_map ..
  refine ⟨fun i k H' => k = xs.length - i ∧ i ≤ xs.length ∧ Acc K H1 Dl (made2 xs ys v i) H', ⟨xs.length, by simp, Nat.zero_le _, [], upd_same, .nil, Same.new hD⟩, ?_⟩
  rintro i k H' ⟨rfl, hi, hA⟩
  have sA : Same H1 H' := by
    obtain ⟨_, _, _, s⟩ := hA
    exact s
  by_cases hlt : i < xs.length
  · have hx : xs[i]? = some xs[i] := List.getElem?_eq_getElem hlt
    have hm : xs[i] ∈ xs := List.getElem_mem hlt
    generalize xs[i] = x at hx hm
    have step : made2 xs ys v (i + 1) = made2 xs ys v i ++ (ys x).map (v x) := by
      unfold made2
      rw [List.take_add_one, hx, List.flatMap_append]
      simp
    refine .inr ⟨W.goes i H' (by omega) sA, fun H2 => i + 1 ≤ xs.length ∧ Acc K H1 Dl (made2 xs ys v (i + 1)) H2, fun H2 h2 => ⟨xs.length - (i + 1), by omega, rfl, h2.1, h2.2⟩, fun u H2 hyl => ?_⟩
    obtain ⟨sy, iy⟩ := W.yields i H' u H2 (by omega) sA hyl
    have hgx : (dat K (f0 x)).is u H2 := iy _ (by rw [List.getElem?_map, hx]; rfl)
    refine hgb x hm u (L2.wipe σ vs) H2 _ (by rw [wipe_length]; exact hn) hgx fun σ2 l2 o2 e2 => ⟨wipe_wipe l2 fun j hj => o2 j fun q => hj (hjs j q), ?_⟩
    have E2 : EnvOk σ2 H2 (f x (wipeR ρ vs)) := e2 _ H2 (fun _ _ q => q) ((hE.mono (s1.trans (sA.trans sy))).wipe vs)
    have hn2 : σ2.length = n := by rw [l2, wipe_length]; exact hn
    refine ⟨x, hm, E2, fun H3 s3 => iteT ⟨x, hm, E2.mono s3, fun J1 H4 s4 W1 => ?_⟩⟩
    have hlen1 : ((ys x).map (f2 x)).length = (ys x).length := List.length_map ..
    refine ⟨fun j k H5 => k = (ys x).length - j ∧ j ≤ (ys x).length ∧ TupS K H4 H5 ∧ (∀ b o, b ≠ Dl → H4 b = some o → H5 b = some o) ∧ Acc K H1 Dl (made2 xs ys v i ++ ((ys x).take j).map (v x)) H5, ⟨(ys x).length, by simp, Nat.zero_le _, fun _ _ q => q, fun _ _ _ q => q, by simpa using hA.same ((sy.trans s3).trans s4)⟩, ?_⟩
    rintro j k H5 ⟨rfl, hj, t5, s5, hA5⟩
    by_cases hltj : j < (ys x).length
    · have hyj : (ys x)[j]? = some (ys x)[j] := List.getElem?_eq_getElem hltj
      have hym : (ys x)[j] ∈ ys x := List.getElem_mem hltj
      generalize (ys x)[j] = y at hyj hym
      refine .inr ⟨W1.goes j H5 (by omega) t5, fun H6 => TupS K H4 H6 ∧ (∀ b o, b ≠ Dl → H4 b = some o → H6 b = some o) ∧ Acc K H1 Dl (made2 xs ys v i ++ ((ys x).take (j + 1)).map (v x)) H6, fun H6 h6 => ⟨(ys x).length - (j + 1), by omega, rfl, hltj, h6⟩, fun u1 H6 hy1 => ?_⟩
      obtain ⟨sy1, iy1⟩ := W1.yields j H5 u1 H6 (by omega) t5 hy1
      have hgy : (dat K (f2 x y)).is u1 H6 := iy1 _ (by rw [List.getElem?_map, hyj]; rfl)
      refine hgb1 x hm y hym u1 (L2.wipe σ2 vs1) H6 _ (by rw [wipe_length]; exact hn2) hgy fun σ3 l3 o3 e3 => ⟨wipe_wipe l3 fun j hj => o3 j fun q => hj (hjs1 j q), ?_⟩
      have sH6 : Same H1 H6 := by
        obtain ⟨_, _, _, s⟩ := hA5
        exact s.trans sy1
      have E2' : EnvOk σ2 H6 (f x (wipeR ρ vs)) := e2 _ H6 (((tups_same (s3.trans s4)).trans t5).trans (tups_same sy1)) ((hE.mono (s1.trans sH6)).wipe vs)
      have E3 : EnvOk σ3 H6 (h x y (wipeR (f x (wipeR ρ vs)) vs1)) := e3 _ (E2'.wipe vs1)
      refine ⟨x, y, hm, hym, E3, fun H7 s7 => iteT ⟨x, y, hm, hym, E3.mono s7, fun z H8 s8 i8 => ?_⟩⟩
      have hlz : (made2 xs ys v i ++ ((ys x).take j).map (v x)).length < 1000000 := by
        have h1 := made2_len (v := v) hy (i + 1)
        rw [step, List.length_append, List.length_map] at h1
        rw [List.length_append, List.length_map, List.length_take]
        have h2 : (i + 1 ≤ xs.length) := hlt
        omega
      obtain ⟨acc, b1, b2, b3⟩ := Acc.more hD hA5 ((sy1.trans s7).trans s8) i8 (nlAll_app (made2_nl hnl i) (nlAll_map _ _ fun y hy => hnl x hm y (List.mem_of_mem_take hy))) (hnl x hm y hym) hlz
      refine ⟨acc, b1, b2, ((t5.trans (tups_same ((sy1.trans s7).trans s8))).trans (tups_lst b1)), fun w o hw ho => ?_, ?_⟩
      · rw [upd_ne hw]
        exact s8 _ _ (s7 _ _ (sy1 _ _ (s5 w o hw ho)))
      · have e : (ys x).take (j + 1) = (ys x).take j ++ [y] := by rw [List.take_add_one, hyj]; rfl
        rw [e, List.map_append, ← List.append_assoc]
        exact b3
    · have e : j = (ys x).length := by omega
      subst e
      rw [List.take_length] at hA5
      exact .inl ⟨by rw [← hlen1]; exact W1.stops H5 t5, hlt, by rw [step]; exact hA5⟩
  · have e : i = xs.length := by omega
    subst e
    refine .inl ⟨by rw [← hlen]; exact W.stops H' sA, hQ _ H' (s1.trans sA) ?_⟩
    obtain ⟨acc, q1, q2, _⟩ := hA
    unfold made2 at q2
    rw [List.take_length] at q2
    exact ⟨Dl, acc, rfl, q1, q2⟩
theorem dit_is {ds ds' : List D} (h : DIT X ρ tg e ds) (w : ds = ds') : DIT X ρ tg e ds' := w ▸ h
theorem pts_any2 {xs : List α} {ys : α → List β} {ifs : List Expr} {r : α → β → TT} (h : ∀ x ∈ xs, ∀ y ∈ ys x, PTs X ifs (r x y)) : PTs X ifs (tAny2T xs ys r) := ⟨fun pins s σ H Q I ⟨x, y, hx, hy, q⟩ => (h x hx y hy).run pins s σ H Q I q⟩
theorem pe_any2 {xs : List α} {ys : α → List β} {e : Expr} {r : α → β → TE} (h : ∀ x ∈ xs, ∀ y ∈ ys x, PE X e (r x y)) : PE X e (tAny2 xs ys r) := ⟨fun pins s σ H Q I ⟨x, y, hx, hy, q⟩ => (h x hx y hy).run pins s σ H Q I q⟩
theorem pi_any {xs : List α} {e : Expr} {r : α → TI} (h : ∀ x ∈ xs, PI X tg e (r x)) : PI X tg e (tAnyI xs r) := ⟨fun pins s σ H R I ⟨x, hx, q⟩ => (h x hx).run pins s σ H R I q⟩
/-- [elt for tg in iter for tg1 in iter1] -/
theorem de_lc2 (gc : Gx X k) {xs : List α} {f0 : α → D} (ys : α → List β) (f2 : α → β → D) (v : α → β → D) {vs1 js js1 : List Nat} {m : Nat} {f : α → Rho → Rho} {h : α → β → Rho → Rho} {g g1 : TG} (hi : DID X ρ tg iter (xs.map f0)) (ok : BlkOk X.N X.env.scope scope own) (hv : ∀ i ∈ vs1, i ∈ own.map (·.2))
    (hg : ∀ (s : Shared) (H : Hp) (C : Addr) (cl : List (Str × Addr)) (fp : List Addr), PG (X.blk s H scope (compEnvC scope cl C X.env) fp) tg g) (hgb : ∀ x ∈ xs, GBT X.K X.N.length g (f0 x) js (f x))
    (hi1 : ∀ (s : Shared) (H : Hp) (C : Addr) (cl : List (Str × Addr)) (fp : List Addr), ∀ x ∈ xs, DIT (X.blk s H scope (compEnvC scope cl C X.env) fp) (f x (wipeR ρ (own.map (·.2)))) tg1 iter1 ((ys x).map (f2 x)))
    (hg1 : ∀ (s : Shared) (H : Hp) (C : Addr) (cl : List (Str × Addr)) (fp : List Addr), PG (X.blk s H scope (compEnvC scope cl C X.env) fp) tg1 g1) (hgb1 : ∀ x ∈ xs, ∀ y ∈ ys x, GB X.N.length g1 (dat X.K (f2 x y)) js1 (h x y))
    (he : ∀ (s : Shared) (H : Hp) (C : Addr) (cl : List (Str × Addr)) (fp : List Addr), ∀ x ∈ xs, ∀ y ∈ ys x, DE (X.blk s H scope (compEnvC scope cl C X.env) fp) (h x y (wipeR (f x (wipeR ρ (own.map (·.2)))) vs1)) elt (dat X.K (v x y)))
    (hnl : ∀ x ∈ xs, ∀ y ∈ ys x, nl (v x y) = true) (hy : ∀ x ∈ xs, (ys x).length ≤ m) (hz : xs.length * m < 1000000) (hjs : ∀ j ∈ js, j ∈ own.map (·.2) := by decide) (hjs1 : ∀ j ∈ js1, j ∈ vs1 := by decide)
    (hs : ∀ x, foldedSetIterable iter X.env x = pure x := by intro _; rfl) (hs1 : ∀ env x, foldedSetIterable iter1 env x = pure x := by intro _ _; rfl) :
    DE X ρ (.ListComp elt [⟨tg, iter, [], 0⟩, ⟨tg1, iter1, [], 0⟩] scope pos) (lstE X.K (xs.flatMap fun x => (ys x).map (v x))) :=
  PE.imp (pe_lc2 gc.calm gc.nd (di_ent hi) ok hv hg (fun s H C cl fp => pts_any (r := fun x => tDT (f x (wipeR ρ (own.map (·.2)))) true) fun _ _ => dts_nil) (fun s H C cl fp => pi_any (hi1 s H C cl fp)) hg1
    (fun s H C cl fp => pts_any2 (r := fun x y => tDT (h x y (wipeR (f x (wipeR ρ (own.map (·.2)))) vs1)) true) fun _ _ _ _ => dts_nil) (fun s H C cl fp => pe_any2 (he s H C cl fp)) hs hs1) fun σ H Q hn z => lc2_read hn hgb hjs hgb1 hjs1 hnl hy hz z.1 z.2
theorem ds_setLc2 (gc : Gx X k) (mm : Nat) {y : Str} {py : Pos} {xs : List α} {f0 : α → D} (ys : α → List β) (f2 : α → β → D) (v : α → β → D) {vs1 js js1 : List Nat} {m : Nat} {f : α → Rho → Rho} {h : α → β → Rho → Rho} {g g1 : TG} (hi : DID X ρ tg iter (xs.map f0)) (ok : BlkOk X.N X.env.scope scope own) (hv : ∀ i ∈ vs1, i ∈ own.map (·.2))
    (hg : ∀ (s : Shared) (H : Hp) (C : Addr) (cl : List (Str × Addr)) (fp : List Addr), PG (X.blk s H scope (compEnvC scope cl C X.env) fp) tg g) (hgb : ∀ x ∈ xs, GBT X.K X.N.length g (f0 x) js (f x))
    (hi1 : ∀ (s : Shared) (H : Hp) (C : Addr) (cl : List (Str × Addr)) (fp : List Addr), ∀ x ∈ xs, DIT (X.blk s H scope (compEnvC scope cl C X.env) fp) (f x (wipeR ρ (own.map (·.2)))) tg1 iter1 ((ys x).map (f2 x)))
    (hg1 : ∀ (s : Shared) (H : Hp) (C : Addr) (cl : List (Str × Addr)) (fp : List Addr), PG (X.blk s H scope (compEnvC scope cl C X.env) fp) tg1 g1) (hgb1 : ∀ x ∈ xs, ∀ y ∈ ys x, GB X.N.length g1 (dat X.K (f2 x y)) js1 (h x y))
    (he : ∀ (s : Shared) (H : Hp) (C : Addr) (cl : List (Str × Addr)) (fp : List Addr), ∀ x ∈ xs, ∀ y ∈ ys x, DE (X.blk s H scope (compEnvC scope cl C X.env) fp) (h x y (wipeR (f x (wipeR ρ (own.map (·.2)))) vs1)) elt (dat X.K (v x y)))
    (hnl : ∀ x ∈ xs, ∀ y ∈ ys x, nl (v x y) = true) (hy : ∀ x ∈ xs, (ys x).length ≤ m) (hz : xs.length * m < 1000000) (hjs : ∀ j ∈ js, j ∈ own.map (·.2) := by decide) (hjs1 : ∀ j ∈ js1, j ∈ vs1 := by decide) (hyn : X.N[mm]? = some y := by rfl) (hyl : X.env.scope.names.lookup y = some .local := by rfl)
    (hsw : swapsWith (.ListComp elt [⟨tg, iter, [], 0⟩, ⟨tg1, iter1, [], 0⟩] scope pos) (some (.Name y py)) spos.line X.env = pure true := by exact sw_true rfl rfl rfl (by decide +kernel))
    (hs : ∀ x, foldedSetIterable iter X.env x = pure x := by intro _; rfl) (hs1 : ∀ env x, foldedSetIterable iter1 env x = pure x := by intro _ _; rfl) :
    DS X ρ (.Assign [.Name y py] (.ListComp elt [⟨tg, iter, [], 0⟩, ⟨tg1, iter1, [], 0⟩] scope pos) spos) (ρ.set mm (some (lstE X.K (xs.flatMap fun x => (ys x).map (v x))))) :=
  PS.imp (ps_setLc2 gc.calm gc.nd hyn hyl hsw (di_ent hi) ok hv hg (fun s H C cl fp => pts_any (r := fun x => tDT (f x (wipeR ρ (own.map (·.2)))) true) fun _ _ => dts_nil) (fun s H C cl fp => pi_any (hi1 s H C cl fp)) hg1
    (fun s H C cl fp => pts_any2 (r := fun x y => tDT (h x y (wipeR (f x (wipeR ρ (own.map (·.2)))) vs1)) true) fun _ _ _ _ => dts_nil) (fun s H C cl fp => pe_any2 (he s H C cl fp)) hs hs1) fun D σ H hn z => lc2_read hn hgb hjs hgb1 hjs1 hnl hy hz z.1 fun u H' s i => z.2 _ H' s (by simp) ((z.1.mono s).set (by rw [hn]; exact (List.getElem?_eq_some_iff.mp hyn).1) i)
end
end Lc
end
section
/-! Lc, part Q: dicts of texts by texts. -/
namespace Lc
open PySem L2
/-- the pairs, one by one put in -/
def dictOf (l : List (Str × Str)) (acc : List (Key × V)) : List (Key × V) := l.foldl (fun a q => putK a (.inr q.1) (.str q.2)) acc
theorem dictOf_val : ∀ (l : List (Str × Str)) (acc : List (Key × V)) (z : Str), (l.map (·.1)).Nodup → valV (dictOf l acc) (.inr z) = match l.find? (fun q => decide (q.1 = z)) with
    | some q => some (.str q.2)
    | none => valV acc (.inr z)
  | [], acc, z, _ => rfl
  | q :: l, acc, z, h => by
    rw [List.map_cons, List.nodup_cons] at h
    show valV (dictOf l (putK acc (.inr q.1) (.str q.2))) (.inr z) = _
    rw [dictOf_val l _ z h.2, List.find?_cons]
    by_cases e : q.1 = z
    · subst e
      have : l.find? (fun p => decide (p.1 = q.1)) = none := by
        rw [List.find?_eq_none]
        intro p hp
        rw [decide_eq_true_eq]
        exact fun e => h.1 (e ▸ List.mem_map_of_mem hp)
      rw [this, decide_eq_true (rfl : q.1 = q.1)]
      show valV (putK acc _ _) _ = _
      rw [valV_put, if_pos rfl]
    · rw [decide_eq_false e]
      show _ = (match l.find? (fun p => decide (p.1 = z)) with | some q => some (V.str q.2) | none => valV acc (.inr z))
      cases l.find? (fun p => decide (p.1 = z)) with
      | some p => rfl
      | none =>
        show valV (putK acc _ _) _ = _
        rw [valV_put, if_neg (fun k => e (Sum.inr.inj k).symm)]
theorem dictOf_len : ∀ (l : List (Str × Str)) (acc : List (Key × V)), (dictOf l acc).length ≤ acc.length + l.length
  | [], acc => Nat.le_refl _
  | q :: l, acc => by
    have h1 := dictOf_len l (putK acc (.inr q.1) (.str q.2))
    have h2 := length_putK acc (.inr q.1) (.str q.2)
    show (dictOf l (putK acc (.inr q.1) (.str q.2))).length ≤ _
    rw [List.length_cons]
    omega
theorem dictOf_snoc (l : List (Str × Str)) (q : Str × Str) (acc : List (Key × V)) : dictOf (l ++ [q]) acc = putK (dictOf l acc) (.inr q.1) (.str q.2) := by
  unfold dictOf
  rw [List.foldl_append]
  rfl
def dicE (l : List (Str × Str)) : Ent := ⟨fun v H => ∃ p, v = .ref p ∧ H p = some (.dK (dictOf l [])), fun e h => by
  obtain ⟨p, h1, h2⟩ := h
  exact ⟨p, h1, e _ _ h2⟩⟩
section
variable {X : Cx} {ρ : Rho} {K : PySem.W.Frag} {α : Type} {k : Nat}
def tAnyP (xs : List α) (r : α → TE) : TE := fun σ H Q => ∃ x, x ∈ xs ∧ r x σ H Q
theorem pe_anyP {xs : List α} {e : Expr} {r : α → TE} (h : ∀ x ∈ xs, PE X e (r x)) : PE X e (tAnyP xs r) := ⟨fun pins s σ H Q I ⟨x, hx, q⟩ => (h x hx).run pins s σ H Q I q⟩
theorem dc_read {xs : List α} {gx : α → Ent} {kf vf : α → Str} {f : α → Rho → Rho} {g : TG} {js vs : List Nat} {n : Nat} {σ : L2.St} {H : Hp} {Q : VK} (hn : σ.length = n) (hgb : ∀ x ∈ xs, GB n g (gx x) js (f x)) (hjs : ∀ j ∈ js, j ∈ vs)
    (hz : xs.length ≤ 1000000) (hE : EnvOk σ H ρ) (hQ : ∀ u H', Same H H' → (dicE (xs.map fun x => (kf x, vf x))).is u H' → Q u H') :
    tDc (tDI ρ (xs.map gx)) g (tAnyT xs fun x => tDT (f x (wipeR ρ vs)) true) (tAnyP xs fun x => tD (f x (wipeR ρ vs)) (dat K (.str (kf x)))) (tAnyP xs fun x => tD (f x (wipeR ρ vs)) (dat K (.str (vf x)))) vs σ H Q := by
  refine ⟨hE, fun J H1 s1 W Dl hD => ?_⟩
  have hlen : (xs.map gx).length = xs.length := List.length_map ..
  refine ⟨fun i m H' => m = xs.length - i ∧ i ≤ xs.length ∧ Same H1 H' ∧ H' Dl = some (.dK (dictOf ((xs.take i).map fun x => (kf x, vf x)) [])), ⟨xs.length, by simp, Nat.zero_le _, Same.new hD, upd_same⟩, ?_⟩
  rintro i m H' ⟨rfl, hi, sA, hA⟩
  by_cases hlt : i < xs.length
  · have hx : xs[i]? = some xs[i] := List.getElem?_eq_getElem hlt
    have hm : xs[i] ∈ xs := List.getElem_mem hlt
    generalize xs[i] = x at hx hm
    refine .inr ⟨W.goes i H' (by omega) sA, fun H2 => i + 1 ≤ xs.length ∧ Same H1 H2 ∧ H2 Dl = some (.dK (dictOf ((xs.take (i + 1)).map fun x => (kf x, vf x)) [])), fun H2 h2 => ⟨xs.length - (i + 1), by omega, rfl, h2.1, h2.2⟩, fun u H2 hy => ?_⟩
    obtain ⟨sy, iy⟩ := W.yields i H' u H2 (by omega) sA hy
    have hgx : (gx x).is u H2 := iy _ (by rw [List.getElem?_map, hx]; rfl)
    refine hgb x hm u (L2.wipe σ vs) H2 _ (by rw [wipe_length]; exact hn) hgx fun σ2 l2 o2 e2 => ⟨wipe_wipe l2 fun j hj => o2 j fun q => hj (hjs j q), ?_⟩
    have E2 : EnvOk σ2 H2 (f x (wipeR ρ vs)) := e2 _ ((hE.mono (s1.trans (sA.trans sy))).wipe vs)
    refine ⟨x, hm, E2, fun H3 s3 => iteT ⟨x, hm, E2.mono s3, fun y H4 s4 i4 => ⟨x, hm, E2.mono (s3.trans s4), fun z H5 s5 i5 => ?_⟩⟩⟩
    cases i4
    cases i5
    have sall := ((sy.trans s3).trans s4).trans s5
    have h1 : (xs.take (i + 1)).map (fun x => (kf x, vf x)) = (xs.take i).map (fun x => (kf x, vf x)) ++ [(kf x, vf x)] := by
      rw [List.take_add_one, hx]
      simp
    refine ⟨_, .inr (kf x), rfl, sall _ _ hA, ?_, hlt, ?_, ?_⟩
    · have := dictOf_len ((xs.take i).map fun x => (kf x, vf x)) []
      rw [List.length_map, List.length_take] at this
      refine Nat.lt_of_le_of_lt this (Nat.lt_of_lt_of_le ?_ (show 1000001 ≤ sizeLine by decide))
      simp
      omega
    · intro b o hb
      rw [upd_ne (ne_of_none hb hD)]
      exact sall _ _ (sA _ _ hb)
    · rw [upd_same, h1, dictOf_snoc]
  · have e : i = xs.length := by omega
    subst e
    refine .inl ⟨by rw [← hlen]; exact W.stops H' sA, hQ _ H' (s1.trans sA) ?_⟩
    rw [List.take_length] at hA
    exact ⟨Dl, rfl, hA⟩
variable {a b c e tg iter kx vx : Expr} {scope : Scope} {own : List (Str × Nat)} {pos spos : Pos}
/-- {kx: vx for tg in iter} -/
theorem de_dc (gc : Gx X k) {xs : List α} {f0 : α → D} (kf vf : α → Str) {f : α → Rho → Rho} {g : TG} {js : List Nat} (hi : DID X ρ tg iter (xs.map f0)) (ok : BlkOk X.N X.env.scope scope own)
    (hg : ∀ (s : Shared) (H : Hp) (C : Addr) (cl : List (Str × Addr)) (fp : List Addr), PG (X.blk s H scope (compEnvC scope cl C X.env) fp) tg g) (hgb : ∀ x ∈ xs, GB X.N.length g (dat X.K (f0 x)) js (f x))
    (hk : ∀ (s : Shared) (H : Hp) (C : Addr) (cl : List (Str × Addr)) (fp : List Addr), ∀ x ∈ xs, DE (X.blk s H scope (compEnvC scope cl C X.env) fp) (f x (wipeR ρ (own.map (·.2)))) kx (dat X.K (.str (kf x))))
    (he : ∀ (s : Shared) (H : Hp) (C : Addr) (cl : List (Str × Addr)) (fp : List Addr), ∀ x ∈ xs, DE (X.blk s H scope (compEnvC scope cl C X.env) fp) (f x (wipeR ρ (own.map (·.2)))) vx (dat X.K (.str (vf x))))
    (hz : xs.length ≤ 1000000) (hjs : ∀ j ∈ js, j ∈ own.map (·.2) := by decide) (hs : ∀ x, foldedSetIterable iter X.env x = pure x := by intro _; rfl) :
    DE X ρ (.DictComp kx vx [⟨tg, iter, [], 0⟩] scope pos) (dicE (xs.map fun x => (kf x, vf x))) :=
  PE.imp (pe_dc gc.calm gc.nd (di_ent hi) ok hg (fun s H C cl fp => pts_any (r := fun x => tDT (f x (wipeR ρ (own.map (·.2)))) true) fun _ _ => dts_nil) (fun s H C cl fp => pe_anyP (hk s H C cl fp)) (fun s H C cl fp => pe_anyP (he s H C cl fp)) hs) fun σ H Q hn z =>
    dc_read hn hgb hjs hz z.1 z.2
theorem dc_inD {l : List (Str × Str)} {z : Str} (gc : Gx X k) (hl : (l.map (·.1)).Nodup) (ha : DE X ρ a (dat X.K (.str z))) (hb : DE X ρ b (dicE l)) : DC X ρ .In a b (dat X.K (.bool (l.find? fun q => decide (q.1 = z)).isSome)) :=
  PC.imp (pc_din (by have := gc.room.un; omega) ha hb) fun σ H Q _ w => ⟨w.1, fun x H1 s1 i1 => ⟨w.1.mono s1, fun y H2 s2 i2 => by
    cases i1
    obtain ⟨p, rfl, hp⟩ := i2
    refine ⟨p, _, rfl, DGet.k (k := .inr z) hp, w.2 _ H2 (s1.trans s2) ?_⟩
    rw [dictOf_val l [] z hl]
    cases l.find? (fun q => decide (q.1 = z)) with
    | some q => exact .bl _
    | none => exact .bl _⟩⟩
theorem de_dget {l : List (Str × Str)} {z : Str} {q : Str × Str} (gc : Gx X k) (hl : (l.map (·.1)).Nodup) (ha : DE X ρ a (dicE l)) (hb : DE X ρ b (dat X.K (.str z))) (hq : (l.find? fun q => decide (q.1 = z)) = some q) (hs : NoSl b := by intro _ _; rfl) : DE X ρ (.Subscript a b pos) (dat X.K (.str q.2)) :=
  PE.imp (pe_dget (by have := gc.room.un; omega) ha hb hs) fun σ H Q _ w => ⟨w.1, fun x H1 s1 i1 => ⟨w.1.mono s1, fun y H2 s2 i2 => by
    cases i2
    obtain ⟨p, rfl, hp⟩ := i1
    refine ⟨p, .str q.2, rfl, ?_, w.2 _ H2 (s1.trans s2) (.str _)⟩
    have := DGet.k (k := .inr z) (s2 _ _ hp)
    rw [dictOf_val l [] z hl, hq] at this
    exact this⟩⟩
end
end Lc
end
section
/-! Lc, part P: sum of a tuple. -/
namespace Lc
open PySem L2
section
variable {X : Cx} {ρ : Rho} {a : Expr} {pos pp : Pos} {k : Nat}
def rSumT (K : PySem.W.Frag) : List V → Hp → VK → Prop := fun vs H Q => ∃ (a : Addr) (ns : List Int), vs = [V.ref a] ∧ SqT K H a (ns.map V.int) ∧ Q (.int ns.sum) H
theorem cr_sumT (hc : X.calm = true) : CallR X (.builtin "sum") (rSumT X.K) := by
  intro pins s σ H vs us Q I r h
  obtain ⟨a, ns, rfl, hs, q⟩ := h
  obtain ⟨its, rv, hl, _⟩ := I.tuple hs
  rw [Vals.ref1 r]
  have hi : PyProof.Rows.IntsAre its ns := rv.ints
  obtain ⟨xs, e⟩ := hi.allInts.items
  have hn : numsOf (intItems xs).toList = ns := by rw [← e]; exact hi.numsOf
  rw [nums_intItems] at hn
  rw [e] at hl
  refine PySem.W.ktm_sumG (I.ok.hd hc) hl fun h' tk t' hk => ⟨.int _, H, I.kept hk, ⟨_, rfl⟩, ?_⟩
  rw [preSum_eq, List.take_of_length_le (by simp), hn]
  exact q
theorem de_sumT (B : Bt X.mg) {ns : List Int} (g : Gx X k) (ha : DE X ρ a (dat X.K (.tuple (ns.map PyData.int)))) (hg : Gl X "sum" := by rfl) (hs : starEach [a] X.env = (false, eval a X.env) :: starEach [] X.env := by rfl) : DE X ρ (.Call (.Name "sum" pp) [a] [] pos) (dat X.K (.int ns.sum)) :=
  de_callB (cr_sumT g.calm) hg B.sum (by decide +kernel) (da_cons ha da_nil hs) (he := hs) fun vs H Q h z => by
    obtain ⟨v, rfl, hv⟩ := a1 h
    obtain ⟨p, xs, rfl, hx, hd⟩ := dp_tuple hv
    cases dpAll_ints hd
    exact ⟨_, ns, rfl, hx, z _ H (Same.refl H) (.int _)⟩
end
end Lc
end
section
/-! Lc, part R: loops whose state stays. -/
namespace Lc
open PySem L2
/-- unlike at ws alone -/
def Off (ws : List Nat) (ρ ρ' : Rho) : Prop := ∀ i, i ∉ ws → ρ'[i]? = ρ[i]?
theorem Off.refl {ws : List Nat} {ρ : Rho} : Off ws ρ ρ := fun _ _ => rfl
theorem Off.set {ws : List Nat} {ρ ρ' : Rho} {j : Nat} {x : Option Ent} (h : Off ws ρ ρ') (hj : j ∈ ws) : Off ws ρ (ρ'.set j x) := fun i hi => by
  have hne : j ≠ i := fun e => by subst e; exact hi hj
  rw [List.getElem?_set_ne hne]
  exact h i hi
theorem Off.wipe {ws vs : List Nat} {ρ ρ' : Rho} (h : Off ws ρ ρ') (hv : ∀ v ∈ vs, v ∈ ws) : Off ws ρ (wipeR ρ' vs) := by
  induction vs with
  | nil => exact h
  | cons v vs ih => exact Off.set (ih fun u hu => hv u (by simp [hu])) (hv v (by simp))
theorem wipeR_len (ρ : Rho) : ∀ vs : List Nat, (wipeR ρ vs).length = ρ.length
  | [] => rfl
  | v :: vs => by
    show ((wipeR ρ vs).set v none).length = _
    rw [List.length_set, wipeR_len ρ vs]
theorem wipeR_in {ρ : Rho} : ∀ {vs : List Nat} {i : Nat} {E : Ent}, i ∈ vs → (wipeR ρ vs)[i]? ≠ some (some E)
  | v :: vs, i, E, h => by
    show ((wipeR ρ vs).set v none)[i]? ≠ _
    by_cases e : v = i
    · subst e
      intro q
      by_cases hl : v < (wipeR ρ vs).length
      · rw [List.getElem?_set_self hl] at q
        cases q
      · rw [List.getElem?_eq_none (by simpa using hl)] at q
        cases q
    · rw [List.getElem?_set_ne e]
      exact wipeR_in ((List.mem_cons.mp h).resolve_left fun q => e q.symm)
theorem EnvOk.off {σ : L2.St} {H : Hp} {ρ ρ' : Rho} {ws : List Nat} (h : EnvOk σ H ρ') (o : Off ws (wipeR ρ ws) ρ') : EnvOk σ H (wipeR ρ ws) := fun i E q => by
  by_cases hi : i ∈ ws
  · exact absurd q (wipeR_in hi)
  · exact h i E ((o i hi).trans q)
theorem EnvOk.forget {σ : L2.St} {H : Hp} {ρ : Rho} (h : EnvOk σ H ρ) : ∀ ws : List Nat, EnvOk σ H (wipeR ρ ws)
  | [] => h
  | w :: ws => fun i E q => by
    have q : ((wipeR ρ ws).set w none)[i]? = some (some E) := q
    by_cases e : w = i
    · subst e
      by_cases hl : w < (wipeR ρ ws).length
      · rw [List.getElem?_set_self hl] at q
        cases q
      · rw [List.getElem?_eq_none (by simpa using hl)] at q
        cases q
    · rw [List.getElem?_set_ne e] at q
      exact EnvOk.forget h ws i E q
section
variable {X : Cx} {ρ : Rho} {α : Type} {k : Nat} {tg iter : Expr} {pos : Pos}
/-- a loop's body: what is known outside ws stays -/
def LB (X : Cx) (ws : List Nat) (ρ0 ρ : Rho) (body : List Stmt) : Prop := ∃ ρ1, DN X ρ body ρ1 ∧ Off ws ρ0 ρ1
theorem lb {ws : List Nat} {ρ0 ρ ρ1 : Rho} {body : List Stmt} (h : DN X ρ body ρ1) (ho : Off ws ρ0 ρ1 := by repeat (first | exact Off.refl | refine Off.set ?_ (by decide) | refine Off.wipe ?_ (by decide))) : LB X ws ρ0 ρ body := ⟨ρ1, h, ho⟩
/-- for x in ..: what is known outside ws stays -/
theorem ds_each (gc : Gx X k) {xs : List α} {f0 : α → D} (ws : List Nat) {g : TG} {js : List Nat} {f : α → Rho → Rho} {body : List Stmt} (hp : PassesOwn (model X.prog X.w) X.A X.env X.xe) (hi : DID X ρ tg iter (xs.map f0)) (hg : PG X tg g)
    (hgb : ∀ x ∈ xs, GB X.N.length g (dat X.K (f0 x)) js (f x)) (hb : ∀ x ∈ xs, LB X ws (wipeR ρ ws) (f x (wipeR ρ ws)) body) (hs : ∀ x, foldedSetIterable iter X.env x = pure x := by intro _; rfl) : DS X ρ (.For tg iter body [] pos) (wipeR ρ ws) := by
  have key : ∀ i E, ((xs.map f0).map (dat X.K))[i]? = some E → ∃ x ∈ xs, xs[i]? = some x ∧ E = dat X.K (f0 x) := fun i E h => by
    obtain ⟨d, h1, rfl⟩ := get_map_dat h
    rw [List.getElem?_map] at h1
    cases e : xs[i]? with
    | none => rw [e] at h1; cases h1
    | some x =>
      rw [e] at h1
      cases h1
      exact ⟨x, List.mem_of_getElem? e, e, rfl⟩
  have hl : ((xs.map f0).map (dat X.K)).length = xs.length := by simp
  refine ds_for (js := js) (f := fun i ρ => match xs[i]? with | some x => f x ρ | none => ρ) gc (fun _ => wipeR ρ ws) hp hi hg (fun _ _ h => h.forget ws) (fun i E h => ?_) (fun i hi => ?_) hs
  · obtain ⟨x, hx, e, rfl⟩ := key i E h
    rw [e]
    exact hgb x hx
  · rw [hl] at hi
    have e : xs[i]? = some xs[i] := List.getElem?_eq_getElem hi
    have hm : xs[i] ∈ xs := List.getElem_mem hi
    rw [e]
    obtain ⟨ρ1, h1, ho⟩ := hb _ hm
    exact dn_weak h1 fun _ _ h => h.off ho
theorem de_neg {ρ : Rho} {a : Expr} {i : Int} (h : DE X ρ a (dat X.K (.int i))) : DE X ρ (.UnaryOp .USub a pos) (dat X.K (.int (-i))) :=
  PE.imp (pe_un un_neg h) fun σ H Q _ z => ⟨z.1, fun x H1 s1 i1 => by
    cases i1
    exact ⟨i, rfl, z.2 _ H1 s1 (.int _)⟩⟩
theorem range0 (n : Nat) : rangeD 0 1 n = (List.range n).map fun (i : Nat) => PyData.int (i : Int) := by
  unfold rangeD
  exact List.map_congr_left fun i _ => by simp
end
end Lc
end
section
/-! Lc, part S: effects. One object, at a, changes (a list, or a reader: an instance of the class at CW); all else that stood stands. -/
namespace Lc
open PySem L2
structure Sta where
  is : Hp → Prop
  mono : ∀ {H H' : Hp}, Same H H' → is H → is H'
def Fixed (CW : Addr) : HO → Prop
  | .lst _ => False
  | .ins C _ _ => C ≠ CW
  | _ => True
/-- all but what may change at a stands -/
def Kp (CW a : Addr) (H H' : Hp) : Prop := ∀ b o, H b = some o → (b ≠ a ∨ Fixed CW o) → H' b = some o
def Keep (CW : Addr) (H H' : Hp) : Prop := ∀ b o, H b = some o → Fixed CW o → H' b = some o
section
variable {CW a : Addr} {K : PySem.W.Frag} {H H' H1 H2 : Hp}
theorem Kp.refl (H : Hp) : Kp CW a H H := fun _ _ h _ => h
theorem Kp.trans (x : Kp CW a H H1) (y : Kp CW a H1 H2) : Kp CW a H H2 := fun b o h c => y b o (x b o h c) c
theorem Kp.same (x : Same H H') : Kp CW a H H' := fun b o h _ => x b o h
theorem Kp.keep (x : Kp CW a H H') : Keep CW H H' := fun b o h c => x b o h (.inr c)
theorem Keep.refl (H : Hp) : Keep CW H H := fun _ _ h _ => h
theorem Keep.trans (x : Keep CW H H1) (y : Keep CW H1 H2) : Keep CW H H2 := fun b o h c => y b o (x b o h c) c
theorem Keep.same (x : Same H H') : Keep CW H H' := fun b o h _ => x b o h
theorem Keep.tups (x : Keep CW H H') : TupS K H H' := fun b xs h => by
  rcases h with (h | ⟨o, h⟩) | h
  · exact .inl (.inl (x b _ h True.intro))
  · exact .inl (.inr ⟨o, x b _ h True.intro⟩)
  · exact .inr h
theorem kp_upd {o o' : HO} (h : H a = some o) (hf : ¬ Fixed CW o) : Kp CW a H (upd H a o') := fun b u hb c => by
  rcases c with c | c
  · rw [upd_ne c]; exact hb
  · have hne : b ≠ a := fun e => by
      subst e
      rw [h] at hb
      cases hb
      exact hf c
    rw [upd_ne hne]; exact hb
/-- entities that stay whatever lists and readers do -/
def KE (CW : Addr) (E : Ent) : Prop := ∀ v H H', Keep CW H H' → E.is v H → E.is v H'
theorem ke_val {v : V} : KE CW (val v) := fun _ _ _ _ h => h
theorem ke_dat {d : D} (h : nl d = true) : KE CW (dat K d) := fun v H H' k q => dp_tups k.tups h q
theorem ke_ins {C : Addr} {P : Addr → List (Str × V) → Prop} (hC : C ≠ CW) {m : ∀ {v : V} {H H' : Hp}, Same H H' → (∃ b dx fs, v = .ref b ∧ H b = some (.ins C dx fs) ∧ P dx fs) → (∃ b dx fs, v = .ref b ∧ H' b = some (.ins C dx fs) ∧ P dx fs)} : KE CW ⟨fun v H => ∃ b dx fs, v = .ref b ∧ H b = some (.ins C dx fs) ∧ P dx fs, m⟩ := fun v H H' k q => by
  obtain ⟨b, dx, fs, h1, h2, h3⟩ := q
  exact ⟨b, dx, fs, h1, k b _ h2 hC, h3⟩
def exE {α : Type} (P : α → Prop) (F : α → Ent) : Ent := ⟨fun v H => ∃ x, P x ∧ (F x).is v H, fun s h => by
  obtain ⟨x, h1, h2⟩ := h
  exact ⟨x, h1, (F x).mono s h2⟩⟩
theorem ke_ex {α : Type} {P : α → Prop} {F : α → Ent} (h : ∀ x, KE CW (F x)) : KE CW (exE P F) := fun v H H' k q => by
  obtain ⟨x, h1, h2⟩ := q
  exact ⟨x, h1, h x v H H' k h2⟩
/-- stable while the object at a changes from T -/
def SE (CW a : Addr) (T : Sta) (E : Ent) : Prop := ∀ v H H', T.is H → Kp CW a H H' → E.is v H → E.is v H'
theorem KE.se {T : Sta} {E : Ent} (h : KE CW E) : SE CW a T E := fun v H H' _ k q => h v H H' k.keep q
def SR (CW a : Addr) (T : Sta) (ρ : Rho) : Prop := ∀ (i : Nat) (E : Ent), ρ[i]? = some (some E) → SE CW a T E
theorem SR.env {T : Sta} {ρ : Rho} {σ : L2.St} (h : SR CW a T ρ) (t : T.is H) (k : Kp CW a H H') (e : EnvOk σ H ρ) : EnvOk σ H' ρ := fun i E q => by
  obtain ⟨v, h1, h2⟩ := e i E q
  exact ⟨v, h1, h i E q v H H' t k h2⟩
inductive SEs (CW a : Addr) (T : Sta) : List Ent → Prop
  | nil : SEs CW a T []
  | cons {E : Ent} {Es : List Ent} : SE CW a T E → SEs CW a T Es → SEs CW a T (E :: Es)
theorem SEs.at {T : Sta} : ∀ {Es : List Ent}, SEs CW a T Es → ∀ {i : Nat} {E : Ent}, Es[i]? = some E → SE CW a T E
  | _, .cons h _, 0, E, q => by simp at q; subst q; exact h
  | _, .cons _ t, i + 1, E, q => SEs.at t (i := i) (by simpa using q)
theorem SR.start {T : Sta} {N : List Str} {Es : List Ent} (h : SEs CW a T Es) : SR CW a T (startR N Es) := fun i E q => by
  unfold startR at q
  by_cases hi : i < Es.length
  · rw [List.getElem?_append_left (by simpa using hi), List.getElem?_map] at q
    cases e : Es[i]? with
    | none => rw [e] at q; cases q
    | some E' =>
      rw [e] at q
      cases q
      exact h.at e
  · rw [List.getElem?_append_right (by simpa using hi), List.getElem?_replicate] at q
    split at q <;> cases q
theorem SR.set {T : Sta} {ρ : Rho} {j : Nat} {E : Ent} (h : SR CW a T ρ) (he : SE CW a T E) : SR CW a T (ρ.set j (some E)) := fun i F q => by
  by_cases hj : j = i
  · subst hj
    by_cases hl : j < ρ.length
    · rw [List.getElem?_set_self hl] at q
      cases q
      exact he
    · rw [List.getElem?_eq_none (by simpa using hl)] at q
      cases q
  · rw [List.getElem?_set_ne hj] at q
    exact h i F q
theorem SR.unset {T : Sta} {ρ : Rho} {j : Nat} (h : SR CW a T ρ) : SR CW a T (ρ.set j none) := fun i F q => by
  by_cases hj : j = i
  · subst hj
    by_cases hl : j < ρ.length
    · rw [List.getElem?_set_self hl] at q
      cases q
    · rw [List.getElem?_eq_none (by simpa using hl)] at q
      cases q
  · rw [List.getElem?_set_ne hj] at q
    exact h i F q
theorem SR.wipe {T : Sta} {ρ : Rho} (h : SR CW a T ρ) : ∀ vs : List Nat, SR CW a T (wipeR ρ vs)
  | [] => h
  | _ :: vs => SR.unset (SR.wipe h vs)

/-! ### readings -/
variable {ρ ρ' ρ'' ρ1 : Rho} {T T' T1 T2 : Sta} {S S' S1 S2 : Sta} {E F G : Ent} {X : Cx}
def tM (CW a : Addr) (ρ : Rho) (T : Sta) (E : Ent) (T' : Sta) : TE := fun σ H Q => EnvOk σ H ρ ∧ T.is H ∧ ∀ v H', Kp CW a H H' → EnvOk σ H' ρ → E.is v H' → T'.is H' → Q v H'
def tMT (CW a : Addr) (ρ : Rho) (T : Sta) (T' : Sta) : TT := fun σ H Q => EnvOk σ H ρ ∧ T.is H ∧ ∀ b H', Kp CW a H H' → EnvOk σ H' ρ → T'.is H' → Q b H'
def tMA (CW a : Addr) (ρ : Rho) (T : Sta) (Es : List Ent) (T' : Sta) : TA := fun σ H Q => EnvOk σ H ρ ∧ T.is H ∧ ∀ vs H', Kp CW a H H' → EnvOk σ H' ρ → All2 H' vs Es → T'.is H' → Q vs H'
def tMS (CW : Addr) (ρ : Rho) (S : Sta) (ρ' : Rho) (S' : Sta) : TS := fun D σ H => EnvOk σ H ρ ∧ S.is H ∧ ∀ σ' H', Keep CW H H' → σ'.length = σ.length → EnvOk σ' H' ρ' → S'.is H' → D.nx σ' H'
def tMR (CW : Addr) (ρ : Rho) (S : Sta) (E : Ent) (S' : Sta) : TS := fun D σ H => EnvOk σ H ρ ∧ S.is H ∧ ∀ v H', Keep CW H H' → E.is v H' → S'.is H' → D.rt v H'
abbrev ME (X : Cx) (CW a : Addr) (ρ : Rho) (T : Sta) (e : Expr) (E : Ent) (T' : Sta) : Prop := PE X e (tM CW a ρ T E T')
abbrev MT (X : Cx) (CW a : Addr) (ρ : Rho) (T : Sta) (e : Expr) (T' : Sta) : Prop := PT X e (tMT CW a ρ T T')
abbrev MA (X : Cx) (CW a : Addr) (ρ : Rho) (T : Sta) (es : List Expr) (Es : List Ent) (T' : Sta) : Prop := PA X es (tMA CW a ρ T Es T')
abbrev MS (X : Cx) (CW : Addr) (ρ : Rho) (S : Sta) (st : Stmt) (ρ' : Rho) (S' : Sta) : Prop := PS X st (tMS CW ρ S ρ' S')
abbrev MN (X : Cx) (CW : Addr) (ρ : Rho) (S : Sta) (sts : List Stmt) (ρ' : Rho) (S' : Sta) : Prop := PSs X sts (tMS CW ρ S ρ' S')
abbrev MR (X : Cx) (CW : Addr) (ρ : Rho) (S : Sta) (sts : List Stmt) (E : Ent) (S' : Sta) : Prop := PSs X sts (tMR CW ρ S E S')
/-- ρ1 is known, too -/
def Up (ρ : Rho) (S : Sta) (ρ1 : Rho) : Prop := ∀ σ H, EnvOk σ H ρ → S.is H → EnvOk σ H ρ1
theorem Up.refl : Up ρ S ρ := fun _ _ h _ => h
/-- slot i is known better -/
theorem Up.at {i : Nat} (h : ∀ v H, S.is H → E.is v H → F.is v H) (hi : ρ[i]? = some (some E)) : Up ρ S (ρ.set i (some F)) := fun σ H e s j G q => by
  by_cases hj : i = j
  · subst hj
    rw [List.getElem?_set_self (List.getElem?_eq_some_iff.mp hi).1] at q
    cases q
    obtain ⟨v, h1, h2⟩ := e i E hi
    exact ⟨v, h1, h v H s h2⟩
  · rw [List.getElem?_set_ne hj] at q
    exact e j G q

/-! ### expressions -/
variable {b c e : Expr} {es rest : List Expr} {pos pp apos : Pos} {st : Stmt} {sts : List Stmt} {j k : Nat}
theorem me_of (h : DE X ρ1 e E) (up : Up ρ T ρ1) : ME X CW a ρ T e E T := PE.imp h fun σ H Q _ z => ⟨up σ H z.1 z.2.1, fun v H' s i => z.2.2 v H' (.same s) (z.1.mono s) i (T.mono s z.2.1)⟩
theorem me_p (h : DE X ρ e E) : ME X CW a ρ T e E T := me_of h .refl
theorem ma_of (h : DA X ρ1 es Es) (up : Up ρ T ρ1) : MA X CW a ρ T es Es T := PA.imp h fun σ H Q _ z => ⟨up σ H z.1 z.2.1, fun v H' s i => z.2.2 v H' (.same s) (z.1.mono s) i (T.mono s z.2.1)⟩
theorem me_imp (h : ME X CW a ρ T e E T') (w : ∀ v H, E.is v H → F.is v H) : ME X CW a ρ T e F T' := PE.imp h fun σ H Q _ z => ⟨z.1, z.2.1, fun v H' k e' i t => z.2.2 v H' k e' (w v H' i) t⟩
theorem me_st (h : ME X CW a ρ T e E T') (w : ∀ H, T'.is H → T1.is H) : ME X CW a ρ T e E T1 := PE.imp h fun σ H Q _ z => ⟨z.1, z.2.1, fun v H' k e' i t => z.2.2 v H' k e' i (w H' t)⟩
theorem ma_nil : MA X CW a ρ T [] [] T := PA.imp pa_nil fun σ H Q _ z => z.2.2 [] H (.refl H) z.1 .nil z.2.1
theorem All2.keeps {Es : List Ent} (k : Keep CW H H') (h : ∀ E ∈ Es, KE CW E) : ∀ {vs : List V}, All2 H vs Es → All2 H' vs Es := by
  induction Es with
  | nil => intro vs q; cases q; exact .nil
  | cons E Es ih =>
    intro vs q
    cases q with
    | cons q1 q2 => exact .cons (h E (by simp) _ _ _ k q1) (ih (fun F hF => h F (by simp [hF])) q2)
theorem ma_cons {Es : List Ent} (he : ME X CW a ρ T e E T1) (hr : MA X CW a ρ T1 es Es T2) (ke : KE CW E) (hs : starEach (e :: es) X.env = (false, eval e X.env) :: starEach es X.env := by rfl) : MA X CW a ρ T (e :: es) (E :: Es) T2 :=
  PA.imp (pa_cons he hr hs) fun σ H Q _ z => ⟨z.1, z.2.1, fun x H1 k1 e1 i1 t1 => ⟨e1, t1, fun vs H2 k2 e2 i2 t2 => z.2.2 (x :: vs) H2 (k1.trans k2) e2 (.cons (ke x H1 H2 k2.keep i1) i2) t2⟩⟩
/-- a tuple of these -/
def tupE (K : PySem.W.Frag) (Es : List Ent) : Ent := ⟨fun v H => ∃ p xs, v = .ref p ∧ SqT K H p xs ∧ All2 H xs Es, fun s h => by
  obtain ⟨p, xs, h1, h2, h3⟩ := h
  exact ⟨p, xs, h1, seqT_same s h2, h3.mono s⟩⟩
theorem me_tup {Es : List Ent} {x1} (h : MA X CW a ρ T es Es T') (hl : Es.length ≤ 1000000 := by exact Nat.le_of_ble_eq_true rfl) : ME X CW a ρ T (.Tuple es x1 pos) (tupE X.K Es) T' :=
  PE.imp (pe_tup h) fun σ H Q _ z => ⟨z.1, z.2.1, fun vs H1 k1 e1 i1 t1 => ⟨by rw [i1.length]; exact Nat.le_trans hl (by decide), fun p hp => z.2.2 _ _ (k1.trans (.same (Same.new hp))) (e1.mono (Same.new hp)) ⟨p, vs, rfl, SqT.of upd_same, i1.mono (Same.new hp)⟩ (T'.mono (Same.new hp) t1)⟩⟩
theorem tup_dat {ds : List D} {v : V} (h : (tupE K (ds.map (dat K))).is v H) : (dat K (.tuple ds)).is v H := by
  obtain ⟨p, xs, rfl, h2, h3⟩ := h
  exact .tup h2 (dp_all2 h3)
theorem me_op2 {op : Operator} {r : R2} (ho : OpR X (binaryOp op) r) (ha : ME X CW a ρ T b E T1) (hb : ME X CW a ρ T1 c F T2) (ke : KE CW E)
    (hr : ∀ (x y : V) (H : Hp) (Q : VK), E.is x H → F.is y H → (∀ v H', Same H H' → G.is v H' → Q v H') → r x y H Q) : ME X CW a ρ T (.BinOp b op c pos) G T2 :=
  PE.imp (pe_op ho ha hb) fun σ H Q _ z => ⟨z.1, z.2.1, fun x H1 k1 e1 i1 t1 => ⟨e1, t1, fun y H2 k2 e2 i2 t2 => hr x y H2 Q (ke x H1 H2 k2.keep i1) i2 fun v H3 s3 i3 => z.2.2 v H3 ((k1.trans k2).trans (.same s3)) (e2.mono s3) i3 (T2.mono s3 t2)⟩⟩
/-- a if c else b, by a test that is known -/
theorem me_ifT {d : Expr} (hc : DT X ρ1 c true) (up : Up ρ T ρ1) (h : ME X CW a ρ T b E T') : ME X CW a ρ T (.IfExp c b d pos) E T' :=
  PE.imp (pe_ifExp (tb := fun _ _ _ => False) hc h ⟨fun _ _ _ _ _ _ h => h.elim⟩) fun σ H Q _ z => ⟨up σ H z.1 z.2.1, fun H1 s1 => iteT ⟨z.1.mono s1, T.mono s1 z.2.1, fun v H2 k2 e2 i2 t2 => z.2.2 v H2 ((Kp.same s1).trans k2) e2 i2 t2⟩⟩
theorem me_ifF {d : Expr} (hc : DT X ρ1 c false) (up : Up ρ T ρ1) (h : ME X CW a ρ T d E T') : ME X CW a ρ T (.IfExp c b d pos) E T' :=
  PE.imp (pe_ifExp (ta := fun _ _ _ => False) hc ⟨fun _ _ _ _ _ _ h => h.elim⟩ h) fun σ H Q _ z => ⟨up σ H z.1 z.2.1, fun H1 s1 => iteF ⟨z.1.mono s1, T.mono s1 z.2.1, fun v H2 k2 e2 i2 t2 => z.2.2 v H2 ((Kp.same s1).trans k2) e2 i2 t2⟩⟩
/-- a comparison whose answer is not looked at -/
theorem mt_cmp {op : CmpOp} {r : R2} (ho : OpR X (compareOp op) r) (ha : ME X CW a ρ T b E T1) (hb : ME X CW a ρ T1 c F T2) (ke : KE CW E)
    (hr : ∀ (x y : V) (H : Hp) (Q : VK), E.is x H → F.is y H → (∀ q : Bool, Q (.bl q) H) → r x y H Q) (hm : behindInMarks op c = false := by first | exact nobehind _ (by decide) (by decide) | rfl) : MT X CW a ρ T (.Compare b [op] [c] pos) T2 := by
  have h : PC X op b c (fun σ H Q => EnvOk σ H ρ ∧ T.is H ∧ ∀ (q : Bool) H', Kp CW a H H' → EnvOk σ H' ρ → T2.is H' → Q (.bl q) H') := by
    refine ⟨fun pins s σ H Q I z => ?_⟩
    refine thn (ha.run pins s σ H (fun x H1 => Kp CW a H H1 ∧ EnvOk σ H1 ρ ∧ E.is x H1 ∧ T1.is H1) I ⟨z.1, z.2.1, fun x H1 k1 e1 i1 t1 => ⟨k1, e1, i1, t1⟩⟩) fun v s1 ⟨x, H1, I1, r1, k1, e1, i1, t1⟩ => ?_
    refine thn (hb.run pins s1 σ H1 (fun x H2 => Kp CW a H1 H2 ∧ EnvOk σ H2 ρ ∧ F.is x H2 ∧ T2.is H2) I1 ⟨e1, t1, fun x H1 k1 e1 i1 t1 => ⟨k1, e1, i1, t1⟩⟩) fun u s2 ⟨y, H2, I2, r2, k2, e2, i2, t2⟩ => ?_
    exact ho pins s2 σ H2 x y v u Q I2 r1 r2 (hr x y H2 Q (ke x H1 H2 k2.keep i1) i2 fun q => z.2.2 q H2 (k1.trans k2) e2 t2)
  exact PT.imp (pt_cmp h hm) fun σ H Q _ z => ⟨z.1, z.2.1, fun q H' k e' t => ⟨q, rfl, z.2.2 q H' k e' t⟩⟩
end
end Lc
end
section
/-! Lc, part T: defs with effects, their calls; statements. -/
namespace Lc
open PySem L2
abbrev FnM := List Ent → Ent → Addr → Sta → Sta → Prop
def spM (CW : Addr) (F : FnM) : Sp := fun vs H Q _ => ∃ Es E a T T', F Es E a T T' ∧ All2 H vs Es ∧ T.is H ∧ ∀ v H', Kp CW a H H' → E.is v H' → T'.is H' → Q v H'
/-- the state at a, and what the entry held -/
def Fr (CW a : Addr) (H0 : Hp) (T : Sta) : Sta := ⟨fun H => T.is H ∧ Kp CW a H0 H, fun s h => ⟨T.mono s h.1, h.2.trans (.same s)⟩⟩
section
variable {P : Program} {w : World} {K : PySem.W.Frag} {mg : Str → Option Value} {base : Heap} {CW : Addr}
def GFunM (P : Program) (w : World) (K : PySem.W.Frag) (mg : Str → Option Value) (base : Heap) (CW : Addr) (x : Str) (k : Nat) (F : FnM) : Prop :=
  ∃ (f : Addr) (fd : FuncData) (ps : List Str), mg x = some (.ref f) ∧ PySem.W.keepIn K (.ref f) = true ∧ Binds K fd ps [] ∧ FnOk P w K mg base CX0 k f fd ps (spM CW F)
def GMethM (P : Program) (w : World) (K : PySem.W.Frag) (mg : Str → Option Value) (base : Heap) (CW C : Addr) (m : Str) (k : Nat) (F : FnM) : Prop :=
  ∃ (f : Addr) (fd : FuncData) (ps : List Str), Meth K C m f ∧ Binds K fd ps [] ∧ FnOk P w K mg base CX0 k f fd ps (spM CW F)
def BodyM (P : Program) (w : World) (K : PySem.W.Frag) (mg : Str → Option Value) (base : Heap) (CW : Addr) (N : List Str) (qual : Str) (st : Stmt) (k : Nat) (F : FnM) : Prop :=
  ∀ (f : Addr) (cdv : Value) (A : Around) (outer : List Env) (s : Shared) (H : Hp) (E0 : XK), Gx (cx P w K mg base N qual st f cdv A outer s H E0) k → ∀ Es E a T T', F Es E a T T' → ∀ H0, T.is H0 →
    (MR (cx P w K mg base N qual st f cdv A outer s H E0) CW (startR N Es) (Fr CW a H0 T) (defBody st) E (Fr CW a H0 T')) ∨ (∃ ρ', MN (cx P w K mg base N qual st f cdv A outer s H E0) CW (startR N Es) (Fr CW a H0 T) (defBody st) ρ' (Fr CW a H0 T') ∧ E = dat K .none)
theorem fn_bodyM {x qual : Str} {st : Stmt} {f : Addr} {fd : FuncData} {N ps : List Str} {k : Nat} {F : FnM} (hF : Fun K x qual st f fd) (S : FnScope N ps (defScope st)) (hlen : ∀ Es E a T T', F Es E a T T' → Es.length = ps.length) (hb : BodyM P w K mg base CW N qual st k F) :
    FnOk P w K mg base CX0 (k + 1) f fd ps (spM CW F) := by
  refine hF.ok S (fun vs H Q E h => ?_) fun cdv A outer s H vs Q E hr h => ?_
  · obtain ⟨Es, E', a, T, T', h1, h2, _⟩ := h
    rw [h2.length, hlen Es E' a T T' h1]
  · obtain ⟨Es, E', a, T, T', h1, h2, h3, h4⟩ := h
    rcases hb f cdv A outer s H E ⟨rfl, hr, S.nd⟩ Es E' a T T' h1 H h3 with hb | ⟨ρ', hb, rfl⟩
    · exact ⟨_, hb, env_start h2, ⟨h3, .refl H⟩, fun v H' _ i t => h4 v H' t.2 i t.1⟩
    · exact ⟨_, hb, env_start h2, ⟨h3, .refl H⟩, fun σ' H' _ _ _ t => h4 .non H' t.2 .non t.1⟩
theorem gfunM_mk {x : Str} {st : Stmt} {N : List Str} {k : Nat} {F : FnM} (h : HasDef K mg x st) (ps : List Str) (S : FnScope N ps (defScope st)) (hb : BindsOk x x st ps) (hlen : ∀ Es E a T T', F Es E a T T' → Es.length = ps.length) (b : BodyM P w K mg base CW N x st k F) : GFunM P w K mg base CW x (k + 1) F := by
  obtain ⟨f, fd, hF, hm⟩ := h.ex
  exact ⟨f, fd, ps, hm, hF.kp, hF.binds hb, fn_bodyM hF S hlen b⟩
theorem gmethM_mk {m qual : Str} {st : Stmt} {N : List Str} {k : Nat} {F : FnM} {C : Addr} (h : HasMeth K C m qual st) (ps : List Str) (S : FnScope N ps (defScope st)) (hb : BindsOk m qual st ps) (hlen : ∀ Es E a T T', F Es E a T T' → Es.length = ps.length) (b : BodyM P w K mg base CW N qual st k F) : GMethM P w K mg base CW C m (k + 1) F := by
  obtain ⟨f, fd, hF, hm⟩ := h.ex
  exact ⟨f, fd, ps, hm, hF.binds hb, fn_bodyM hF S hlen b⟩
end
section
variable {CW a : Addr} {ρ ρ' ρ'' ρ1 : Rho} {T T' T1 T2 : Sta} {S S' S1 S2 : Sta} {E F0 G0 Eo : Ent} {X : Cx} {b c e o : Expr} {es rest : List Expr} {pos pp apos : Pos} {st : Stmt} {sts A B : List Stmt} {j k : Nat} {Es : List Ent} {F : FnM} {x m : Str} {C : Addr}
theorem me_call (G : GFunM X.prog X.w X.K X.mg X.base CW x j F) (g : Gx X k) (ha : DA X ρ1 (e :: es) Es) (up : Up ρ T ρ1) (hF : F Es E a T T') (sr : SR CW a T ρ) (hj : j ≤ k := by decide) (hg : Gl X x := by rfl) (hdb : (x == ("__debug__" : Str)) = false := by decide) (he : starEach (e :: es) X.env = (false, eval e X.env) :: starEach es X.env := by rfl)
    (hpl : (backTo pos (starEach es X.env)).any (·.1) = false := by rfl) : ME X CW a ρ T (.Call (.Name x pp) (e :: es) [] pos) E T' := by
  obtain ⟨f, fd, ps, hm, hk, hb, hf⟩ := G
  exact PE.imp (pe_call hf (g.room.mono hj) hg hm hk hb .nil pass0 ha hdb he hpl) fun σ H Q _ z => ⟨up σ H z.1 z.2.1, fun vs H1 s1 i1 => ⟨Es, E, a, T, T', hF, by rw [List.append_nil]; exact i1, T.mono s1 z.2.1, fun v H' kp i t => z.2.2 v H' ((Kp.same s1).trans kp) (sr.env (T.mono s1 z.2.1) kp (z.1.mono s1)) i t⟩⟩
theorem me_meth (G : GMethM X.prog X.w X.K X.mg X.base CW C m j F) (cl : Cls X.K C) (hi : InsOf C m Eo) (hw : ∀ v H, Eo.is v H → F0.is v H) (g : Gx X k) {pl : Sem Bool} (ho : DE X ρ1 o Eo) (ha : DA X ρ1 (e :: es) Es) (up : Up ρ T ρ1) (hF : F (F0 :: Es) E a T T') (sr : SR CW a T ρ) (hj : j ≤ k := by decide)
    (hst : starEach (e :: es) X.env = (false, eval e X.env) :: starEach es X.env := by rfl) (hpl : (backTo pos (starEach es X.env)).any (·.1) = false := by rfl)
    (ht : eval (.Call (.Attribute o m apos) (e :: es) [] pos) X.env = (do
      let ov ← eval o X.env
      standAt apos.atName
      let (f, first) ← holding [ov] (getMethod ov m pl)
      callWith pos f first (backTo pos (starEach (e :: es) X.env)) (backToKw pos (keywordEach [] X.env))) := by rfl) : ME X CW a ρ T (.Call (.Attribute o m apos) (e :: es) [] pos) E T' := by
  obtain ⟨f, fd, ps, hm, hb, hf⟩ := G
  refine PE.imp (pe_meth ho cl hm hf (g.room.mono hj) hb .nil pass0 ha hst hpl ht) fun σ H Q _ z => ⟨up σ H z.1 z.2.1, fun v H1 s1 i1 => ?_⟩
  obtain ⟨a', dx, fs, rfl, h1, h2⟩ := hi v H1 i1
  refine ⟨a', dx, fs, rfl, h1, h2, (up σ H z.1 z.2.1).mono s1, fun vs H2 s2 i2 => ⟨F0 :: Es, E, a, T, T', hF, ?_, T.mono (s1.trans s2) z.2.1, fun v H' kp i t => z.2.2 v H' ((Kp.same (s1.trans s2)).trans kp) (sr.env (T.mono (s1.trans s2) z.2.1) kp (z.1.mono (s1.trans s2))) i t⟩⟩
  rw [List.append_nil]
  exact .cons (hw _ _ (Eo.mono s2 i1)) i2
theorem me_meth0 (G : GMethM X.prog X.w X.K X.mg X.base CW C m j F) (cl : Cls X.K C) (hi : InsOf C m Eo) (hw : ∀ v H, Eo.is v H → F0.is v H) (g : Gx X k) {pl : Sem Bool} (ho : DE X ρ1 o Eo) (up : Up ρ T ρ1) (hF : F [F0] E a T T') (sr : SR CW a T ρ) (hj : j ≤ k := by decide)
    (ht : eval (.Call (.Attribute o m apos) [] [] pos) X.env = (do
      let ov ← eval o X.env
      standAt apos.atName
      let (f, first) ← holding [ov] (getMethod ov m pl)
      callWith pos f first (backTo pos (starEach [] X.env)) (backToKw pos (keywordEach [] X.env))) := by rfl) : ME X CW a ρ T (.Call (.Attribute o m apos) [] [] pos) E T' := by
  obtain ⟨f, fd, ps, hm, hb, hf⟩ := G
  refine PE.imp (pe_meth0 ho cl hm hf (g.room.mono hj) hb .nil pass0 ht) fun σ H Q _ z => ⟨up σ H z.1 z.2.1, fun v H1 s1 i1 => ?_⟩
  obtain ⟨a', dx, fs, rfl, h1, h2⟩ := hi v H1 i1
  exact ⟨a', dx, fs, rfl, h1, h2, [F0], E, a, T, T', hF, .cons (hw _ _ i1) .nil, T.mono s1 z.2.1, fun v H' kp i t => z.2.2 v H' ((Kp.same s1).trans kp) (sr.env (T.mono s1 z.2.1) kp (z.1.mono s1)) i t⟩

/-! ### statements -/
/-- a step at a: from S (within: T) to S' (within: T') -/
structure Stp (CW a : Addr) (S T S' T' : Sta) : Prop where
  before : ∀ H, S.is H → T.is H
  after : ∀ H H', S.is H → Kp CW a H H' → T'.is H' → S'.is H'
theorem Stp.fr {H0 : Hp} : Stp CW a (Fr CW a H0 T) T (Fr CW a H0 T') T' := ⟨fun _ h => h.1, fun _ _ h k t => ⟨t, h.2.trans k⟩⟩
theorem ms_set (sp : Stp CW a S T S' T') (g : Gx X k) (n : Nat) {x : Str} {pos' : Pos} (he : ME X CW a ρ T e E T') (hi : X.N[n]? = some x := by rfl) (hx : Loc X.env.scope x := by first | exact .inl rfl | exact .inr rfl) (hs : swapsWith e (some (.Name x pos')) pos.line X.env = pure false := by rfl)
    (hf : X.fn x = true ∨ X.env.scope.names.lookup x = some .local := by first | exact .inl rfl | exact .inr rfl) : MS X CW ρ S (.Assign [.Name x pos'] e pos) (ρ.set n (some E)) S' :=
  PS.imp (ps_set (i := n) g.nd hi hx he hs hf) fun D σ H hl z => ⟨z.1, sp.before H z.2.1, fun v H1 k1 e1 i1 t1 => z.2.2 _ H1 k1.keep (by simp) (e1.set (by rw [hl]; exact (List.getElem?_eq_some_iff.mp hi).1) i1) (sp.after H H1 z.2.1 k1 t1)⟩
theorem ms_asg (sp : Stp CW a S T S' T') {tg : Expr} {gg : TG} {js : List Nat} {f : Rho → Rho} (he : ME X CW a ρ T e E T') (hg : PG X tg gg) (gb : GB X.N.length gg E js f) (hs : swapsWithSole [tg] e pos.line X.env = pure false := by rfl) (hw : swappedStores [tg] e X.env = pure none := by rfl)
    (h1 : (assignEach [tg] X.env).map (·.2) = [assign tg X.env] := by rfl) : MS X CW ρ S (.Assign [tg] e pos) (f ρ) S' :=
  PS.imp (ps_asg he hg hs hw h1) fun D σ H hl z => ⟨z.1, sp.before H z.2.1, fun v H1 k1 e1 i1 t1 => gb v σ H1 _ hl i1 fun σ' l' _ e' => z.2.2 σ' H1 k1.keep l' (e' ρ e1) (sp.after H H1 z.2.1 k1 t1)⟩
theorem ms_expr (sp : Stp CW a S T S' T') (he : ME X CW a ρ T e E T') (hs : swapsWith e none pos.line X.env = pure false := by rfl) : MS X CW ρ S (.Expr e pos) ρ S' :=
  PS.imp (ps_expr he hs) fun D σ H _ z => ⟨z.1, sp.before H z.2.1, fun v H1 k1 e1 i1 t1 => z.2.2 σ H1 k1.keep rfl e1 (sp.after H H1 z.2.1 k1 t1)⟩
/-- a, b = e1, e2 (names that no block inside reads) -/
theorem ms_par (sp : Stp CW a S T S' T') (g : Gx X k) (m n : Nat) {x y : Str} {px py pt : Pos} {kt k2 pt2} (ha : MA X CW a ρ T [b, c] [E, F0] T') (hi : X.N[m]? = some x := by rfl) (hj : X.N[n]? = some y := by rfl) (hij : m ≠ n := by decide) (hx : X.env.scope.names.lookup x = some .local := by rfl) (hy : X.env.scope.names.lookup y = some .local := by rfl)
    (hw : swappedStores [.Tuple [.Name x px, .Name y py] kt pt] (.Tuple [b, c] k2 pt2) X.env = pure (some [x, y]) := by rfl) (hs : swapsWithSole [.Tuple [.Name x px, .Name y py] kt pt] (.Tuple [b, c] k2 pt2) pos.line X.env = pure false := by rfl) :
    MS X CW ρ S (.Assign [.Tuple [.Name x px, .Name y py] kt pt] (.Tuple [b, c] k2 pt2) pos) ((ρ.set m (some E)).set n (some F0)) S' :=
  PS.imp (ps_par g.calm g.nd hi hj hij hx hy ha hw hs) fun D σ H hl z => ⟨z.1, sp.before H z.2.1, fun vs H1 k1 e1 i1 t1 => by
    obtain ⟨v, u, rfl, h1, h2⟩ := a2 i1
    have l1 : m < σ.length := by rw [hl]; exact (List.getElem?_eq_some_iff.mp hi).1
    have l2 : n < (σ.set m (some v)).length := by rw [List.length_set, hl]; exact (List.getElem?_eq_some_iff.mp hj).1
    exact ⟨v, u, rfl, z.2.2 _ H1 k1.keep (by simp) ((e1.set l1 h1).set l2 h2) (sp.after H H1 z.2.1 k1 t1)⟩⟩
theorem ds_par (g : Gx X k) (m n : Nat) {x y : Str} {px py pt : Pos} {kt k2 pt2} (ha : DA X ρ [b, c] [E, F0]) (hi : X.N[m]? = some x := by rfl) (hj : X.N[n]? = some y := by rfl) (hij : m ≠ n := by decide) (hx : X.env.scope.names.lookup x = some .local := by rfl) (hy : X.env.scope.names.lookup y = some .local := by rfl)
    (hw : swappedStores [.Tuple [.Name x px, .Name y py] kt pt] (.Tuple [b, c] k2 pt2) X.env = pure (some [x, y]) := by rfl) (hs : swapsWithSole [.Tuple [.Name x px, .Name y py] kt pt] (.Tuple [b, c] k2 pt2) pos.line X.env = pure false := by rfl) :
    DS X ρ (.Assign [.Tuple [.Name x px, .Name y py] kt pt] (.Tuple [b, c] k2 pt2) pos) ((ρ.set m (some E)).set n (some F0)) :=
  PS.imp (ps_par g.calm g.nd hi hj hij hx hy ha hw hs) fun D σ H hl z => ⟨z.1, fun vs H1 s1 i1 => by
    obtain ⟨v, u, rfl, h1, h2⟩ := a2 i1
    have l1 : m < σ.length := by rw [hl]; exact (List.getElem?_eq_some_iff.mp hi).1
    have l2 : n < (σ.set m (some v)).length := by rw [List.length_set, hl]; exact (List.getElem?_eq_some_iff.mp hj).1
    exact ⟨v, u, rfl, z.2 _ H1 s1 (by simp) (((z.1.mono s1).set l1 h1).set l2 h2)⟩⟩
theorem mn_nil : MN X CW ρ S [] ρ S := PSs.imp pss_nil fun D σ H _ z => z.2.2 σ H (.refl H) rfl z.1 z.2.1
theorem mn_one (h : MS X CW ρ S st ρ' S') : MN X CW ρ S [st] ρ' S' := pss_one h
theorem mn_cons (h : MS X CW ρ S st ρ' S1) (r : MN X CW ρ' S1 sts ρ'' S') : MN X CW ρ S (st :: sts) ρ'' S' :=
  PSs.imp (pss_cons h r) fun D σ H _ z => ⟨z.1, z.2.1, fun σ1 H1 k1 l1 e1 t1 => ⟨e1, t1, fun σ2 H2 k2 l2 e2 t2 => z.2.2 σ2 H2 (k1.trans k2) (l2.trans l1) e2 t2⟩⟩
theorem mr_cons (h : MS X CW ρ S st ρ' S1) (r : MR X CW ρ' S1 sts E S') : MR X CW ρ S (st :: sts) E S' :=
  PSs.imp (pss_cons h r) fun D σ H _ z => ⟨z.1, z.2.1, fun σ1 H1 k1 l1 e1 t1 => ⟨e1, t1, fun v H2 k2 i2 t2 => z.2.2 v H2 (k1.trans k2) i2 t2⟩⟩
theorem mr_ret (sp : Stp CW a S T S' T') (he : ME X CW a ρ T e E T') : MR X CW ρ S (.Return (some e) pos :: sts) E S' := by
  refine ⟨fun pins s σ H D I h => ?_⟩
  refine wpAny_execs_cons (thn ((ps_ret he).run pins s σ H { D with nx := fun _ _ => False } I ⟨h.1, sp.before H h.2.1, fun v H1 k1 e1 i1 t1 => h.2.2 v H1 k1.keep i1 (sp.after H H1 h.2.1 k1 t1)⟩) fun f s1 q => ?_)
  cases f with
  | next => obtain ⟨_, _, _, z⟩ := q; exact z.elim
  | ret v => exact q
  | brk => exact q
  | cont => exact q
theorem mr_imp (h : MR X CW ρ S sts E S1) (w : ∀ v H, E.is v H → F0.is v H) (w' : ∀ H, S1.is H → S'.is H) : MR X CW ρ S sts F0 S' := PSs.imp h fun D σ H _ z => ⟨z.1, z.2.1, fun v H' k i t => z.2.2 v H' k (w v H' i) (w' H' t)⟩
/-- pure statements -/
theorem ms_of (h : DS X ρ1 st ρ') (up : Up ρ S ρ1) : MS X CW ρ S st ρ' S := PS.imp h fun D σ H _ z => ⟨up σ H z.1 z.2.1, fun σ' H' s l e' => z.2.2 σ' H' (.same s) l e' (S.mono s z.2.1)⟩
theorem ms_weak (h : MS X CW ρ S st ρ' S1) (w : ∀ σ H, EnvOk σ H ρ' → S1.is H → EnvOk σ H ρ'') (w' : ∀ H, S1.is H → S'.is H) : MS X CW ρ S st ρ'' S' := PS.imp h fun D σ H _ z => ⟨z.1, z.2.1, fun σ' H' k l e' t => z.2.2 σ' H' k l (w σ' H' e' t) (w' H' t)⟩
theorem ms_ifT (hc : DT X ρ1 c true) (up : Up ρ S ρ1) (h : MN X CW ρ S A ρ' S') : MS X CW ρ S (.If c A B pos) ρ' S' :=
  PS.imp (ps_if (u := tNever) hc h pss_never) fun D σ H _ z => ⟨up σ H z.1 z.2.1, fun H1 s1 => iteT ⟨z.1.mono s1, S.mono s1 z.2.1, fun σ' H' k l e' t => z.2.2 σ' H' ((Keep.same s1).trans k) l e' t⟩⟩
theorem ms_ifF (hc : DT X ρ1 c false) (up : Up ρ S ρ1) (h : MN X CW ρ S B ρ' S') : MS X CW ρ S (.If c A B pos) ρ' S' :=
  PS.imp (ps_if (t := tNever) hc pss_never h) fun D σ H _ z => ⟨up σ H z.1 z.2.1, fun H1 s1 => iteF ⟨z.1.mono s1, S.mono s1 z.2.1, fun σ' H' k l e' t => z.2.2 σ' H' ((Keep.same s1).trans k) l e' t⟩⟩
theorem ms_skip (hc : DT X ρ1 c false) (up : Up ρ S ρ1) : MS X CW ρ S (.If c A [] pos) ρ S := ms_ifF hc up mn_nil
/-- if c: return .. -/
theorem mr_if {p : Bool} (hc : DT X ρ1 c p) (up : Up ρ S ρ1) (h : p = true → MR X CW ρ S A E S') (h' : p = false → MR X CW ρ S sts E S') : MR X CW ρ S (.If c A [] pos :: sts) E S' := by
  cases p with
  | false => exact mr_cons (ms_skip hc up) (h' rfl)
  | true =>
    refine ⟨fun pins s σ H D I q => ?_⟩
    have hp : PS X (.If c A [] pos) (tMR CW ρ S E S') := PS.imp (ps_if (u := tNever) hc (h rfl) pss_never) fun D σ H _ z => ⟨up σ H z.1 z.2.1, fun H1 s1 => iteT ⟨z.1.mono s1, S.mono s1 z.2.1, fun v H2 k2 i2 t2 => z.2.2 v H2 ((Keep.same s1).trans k2) i2 t2⟩⟩
    refine wpAny_execs_cons (thn (hp.run pins s σ H { D with nx := fun _ _ => False } I ⟨q.1, q.2.1, fun v H1 k1 i1 t1 => q.2.2 v H1 k1 i1 t1⟩) fun f s1 q => ?_)
    cases f with
    | next => obtain ⟨_, _, _, z⟩ := q; exact z.elim
    | ret v => exact q
    | brk => exact q
    | cont => exact q
/-- .. by a test that is not looked at -/
theorem mr_ifU (sp : Stp CW a S T S1 T') (hc : MT X CW a ρ T c T') (h : MR X CW ρ S1 A E S') (h' : MR X CW ρ S1 sts E S') : MR X CW ρ S (.If c A [] pos :: sts) E S' := by
  refine ⟨fun pins s σ H D I q => ?_⟩
  have hp : PS X (.If c A [] pos) (fun D σ H => EnvOk σ H ρ ∧ S.is H ∧ (∀ v H', Keep CW H H' → E.is v H' → S'.is H' → D.rt v H') ∧ ∀ H1, Keep CW H H1 → EnvOk σ H1 ρ → S1.is H1 → D.nx σ H1) := PS.imp (ps_if hc h pss_nil) fun D σ H _ z => ⟨z.1, sp.before H z.2.1, fun b H1 k1 e1 t1 => by
    have s1 := sp.after H H1 z.2.1 k1 t1
    cases b with
    | true => exact iteT ⟨e1, s1, fun v H2 k2 i2 t2 => z.2.2.1 v H2 (k1.keep.trans k2) i2 t2⟩
    | false => exact iteF (z.2.2.2 H1 k1.keep e1 s1)⟩
  refine wpAny_execs_cons (thn (hp.run pins s σ H { D with nx := fun σ' H' => σ' = σ ∧ Keep CW H H' ∧ EnvOk σ H' ρ ∧ S1.is H' } I ⟨q.1, q.2.1, q.2.2, fun H1 k1 e1 t1 => ⟨rfl, k1, e1, t1⟩⟩) fun f s1 z => ?_)
  cases f with
  | next =>
    obtain ⟨σ1, H1, I1, rfl, k1, e1, t1⟩ := z
    exact h'.run pins s1 _ H1 D I1 ⟨e1, t1, fun v H2 k2 i2 t2 => q.2.2 v H2 (k1.trans k2) i2 t2⟩
  | ret v => exact z
  | brk => exact z
  | cont => exact z
/-- an existential slot, opened -/
theorem EnvOk.ex {α : Type} {P : α → Prop} {F : α → Ent} {σ : L2.St} {H : Hp} {n : Nat} (h : EnvOk σ H (ρ.set n (some (exE P F)))) (hn : n < ρ.length) : ∃ x, P x ∧ EnvOk σ H (ρ.set n (some (F x))) := by
  obtain ⟨v, h1, x, h2, h3⟩ := h n (exE P F) (by rw [List.getElem?_set_self hn])
  refine ⟨x, h2, fun i E q => ?_⟩
  by_cases e : n = i
  · subst e
    rw [List.getElem?_set_self hn] at q
    cases q
    exact ⟨v, h1, h3⟩
  · rw [List.getElem?_set_ne e] at q
    exact h i E (by rw [List.getElem?_set_ne e]; exact q)
theorem mr_ex {α : Type} {P : α → Prop} {F : α → Ent} {n : Nat} (hn : n < ρ.length) (h : ∀ x, P x → MR X CW (ρ.set n (some (F x))) S sts E S') : MR X CW (ρ.set n (some (exE P F))) S sts E S' := ⟨fun pins s σ H D I q => by
  obtain ⟨x, h1, h2⟩ := q.1.ex hn
  exact (h x h1).run pins s σ H D I ⟨h2, q.2⟩⟩
theorem mn_ex {α : Type} {P : α → Prop} {F : α → Ent} {n : Nat} (hn : n < ρ.length) (h : ∀ x, P x → MN X CW (ρ.set n (some (F x))) S sts ρ' S') : MN X CW (ρ.set n (some (exE P F))) S sts ρ' S' := ⟨fun pins s σ H D I q => by
  obtain ⟨x, h1, h2⟩ := q.1.ex hn
  exact (h x h1).run pins s σ H D I ⟨h2, q.2⟩⟩
end
end Lc
end
section
namespace Lc
open PySem L2
def top (i : Nat) : Stmt := PySem.Challenge.pw_latecharge_k15_whole_books_and_objects.main.body.getD i (.Pass ⟨0, 0, 0, 0⟩)

/-! ### the data of a book -/
structure Purse where
  name : Str
  sponsor : Str
  kinds : List Str
  first : Int
  last : Int
structure Limit where
  names : List Str
  first : Int
  last : Int
  cap : Int
inductive Rw where
  | buy (day : Int) (kind : Str) (amount : Int)
  | paid (day : Int) (kind : Str) (shares : List Int)
structure Bk where
  purses : List Purse
  limits : List Limit
  rows : List Rw
def strsD (l : List Str) : D := .tuple (l.map PyData.str)
def intsD (l : List Int) : D := .tuple (l.map PyData.int)
def purseD (p : Purse) : D := .tuple [.str p.name, .str p.sponsor, strsD p.kinds, .int p.first, .int p.last]
def limitD (l : Limit) : D := .tuple [strsD l.names, .int l.first, .int l.last, .int l.cap]
def Rw.word : Rw → Str
  | .buy _ _ _ => "buy"
  | .paid _ _ _ => "paid"
def Rw.day : Rw → Int
  | .buy d _ _ => d
  | .paid d _ _ => d
def Rw.kind : Rw → Str
  | .buy _ k _ => k
  | .paid _ k _ => k
def Rw.rest : Rw → D
  | .buy _ _ a => .int a
  | .paid _ _ s => intsD s
def rowD (r : Rw) : D := .tuple [.str r.word, .int r.day, .str r.kind, r.rest]
def pursesD (l : List Purse) : D := .tuple (l.map purseD)
def limitsD (l : List Limit) : D := .tuple (l.map limitD)
def rowsD (l : List Rw) : D := .tuple (l.map rowD)
def bkD (b : Bk) : D := .tuple [pursesD b.purses, limitsD b.limits, rowsD b.rows]

/-! ### what is asked of them -/
def alpha : Str := "abcdefghijklmnopqrstuvwxyz"
structure NameOk (z : Str) : Prop where
  lo : 1 ≤ z.length
  hi : z.length ≤ 8
  az : ∀ c ∈ z.cps.toList, c ∈ alpha.cps.toList
def ltS (a b : Str) : Bool := decide (a.cps.toList < b.cps.toList)
/-- each below the next -/
def Asc : List Str → Prop
  | a :: b :: r => ltS a b = true ∧ Asc (b :: r)
  | _ => True
structure NamesOk (l : List Str) : Prop where
  ne : l ≠ []
  all : ∀ z ∈ l, NameOk z
  asc : Asc l
  few : l.length ≤ 1000
structure PurseOk (p : Purse) : Prop where
  name : NameOk p.name
  sponsor : NameOk p.sponsor
  kinds : NamesOk p.kinds
  first : 0 ≤ p.first
  last : p.first ≤ p.last
structure LimitOk (l : Limit) : Prop where
  names : NamesOk l.names
  first : 0 ≤ l.first
  last : l.first ≤ l.last
  cap : 0 ≤ l.cap
def RestOk : Rw → Prop
  | .buy _ _ a => 0 ≤ a
  | .paid _ _ s => (∀ x ∈ s, 0 ≤ x) ∧ s.length ≤ 1000
structure RowOk (r : Rw) : Prop where
  day : 0 ≤ r.day
  kind : NameOk r.kind
  rest : RestOk r
/-! ### what the top has left, of other kinds -/
structure HasInit (K : PySem.W.Frag) (C : Addr) (qual : Str) (st : Stmt) : Prop where
  ex : ∃ (f : Addr) (fd : FuncData), Fun K "__init__" qual st f fd ∧ Mk K C f
def EmptyT (K : PySem.W.Frag) (a : Addr) : Prop := ∃ (o : Obj) (its : Array Value) (n : Nat), K.lookup a = some o ∧ o.cls = .type "tuple" ∧ o.data = .seq its n ∧ its.size ≤ sizeLine ∧ Vals [] its.toList
structure HasInitD (K : PySem.W.Frag) (C : Addr) (qual : Str) (st : Stmt) : Prop where
  ex : ∃ (f : Addr) (fd : FuncData) (t t' : Addr), FunD K "__init__" qual (defArgs st) (defBody st) (defScope st) [.ref t, .ref t'] [] f fd ∧ Mk K C f ∧ EmptyT K t ∧ EmptyT K t'
structure HasKw (K : PySem.W.Frag) (mg : Str → Option Value) (x : Str) (st : Stmt) (kws : List (Str × V)) : Prop where
  ex : ∃ (f : Addr) (fd : FuncData), FunD K x x (defArgs st) (defBody st) (defScope st) [] kws f fd ∧ mg x = some (.ref f)
end Lc
end
section
namespace Lc
open PySem L2
/-- what the top has left: the module's names, its defs, its classes' methods -/
structure Txt (K : PySem.W.Frag) (mg : Str → Option Value) (CA CW CB : Addr) : Prop where
  B : Bt mg
  g_ALPHABET : ∃ t, mg "ALPHABET" = some (.str alpha t)
  g_LONGEST_NAME : ∃ t, mg "LONGEST_NAME" = some (.int 8 t)
  g_BUY : ∃ t, mg "BUY" = some (.str "buy" t)
  g_PAID : ∃ t, mg "PAID" = some (.str "paid" t)
  g_NONE_WORD : ∃ t, mg "NONE_WORD" = some (.str "-" t)
  g_DIGITS : ∃ t, mg "DIGITS" = some (.str "0123456789" t)
  g_MOST_DIGITS : ∃ t, mg "MOST_DIGITS" = some (.int 60 t)
  g_PURSE : ∃ t, mg "PURSE" = some (.str "purse" t)
  g_LIMIT : ∃ t, mg "LIMIT" = some (.str "limit" t)
  g_ROW_WORDS : ∃ a, mg "ROW_WORDS" = some (.ref a) ∧ ∃ (o : Obj) (its : Array Value) (n : Nat), K.lookup a = some o ∧ o.cls = .type "tuple" ∧ o.data = .seq its n ∧ its.size ≤ sizeLine ∧ Vals [.str "buy", .str "paid"] its.toList
  g_Area : mg "Area" = some (.ref CA)
  g_WordReader : mg "WordReader" = some (.ref CW)
  g_Book : mg "Book" = some (.ref CB)
  c_Area : Cls K CA
  c_WordReader : Cls K CW
  c_Book : Cls K CB
  i_Area : HasInit K CA "Area.__init__" (inClass (top 26) 0)
  i_WordReader : HasInit K CW "WordReader.__init__" (inClass (top 80) 0)
  i_Book : HasInitD K CB "Book.__init__" (inClass (top 86) 0)
  d_book_read : HasKw K mg "book_read" (top 83) [("line", .int 0)]
  ne_AW : CA ≠ CW
  ne_BW : CB ≠ CW
  ne_AB : CA ≠ CB
  na_CW_own_words : NoAttr K CW "own_words"
  na_CW_own_line : NoAttr K CW "own_line"
  na_CW_own_field : NoAttr K CW "own_field"
  na_CW_spot : NoAttr K CW "spot"
  na_CA_own_slots : NoAttr K CA "own_slots"
  na_CB_own_book : NoAttr K CB "own_book"
  na_CB_own_rows : NoAttr K CB "own_rows"
  d_is_number : HasDef K mg "is_number" (top 15)
  d_is_name : HasDef K mg "is_name" (top 16)
  d_is_ascending : HasDef K mg "is_ascending" (top 17)
  d_are_numbers : HasDef K mg "are_numbers" (top 18)
  d_are_names : HasDef K mg "are_names" (top 19)
  d_are_days : HasDef K mg "are_days" (top 20)
  d_is_slot : HasDef K mg "is_slot" (top 21)
  d_is_purse : HasDef K mg "is_purse" (top 22)
  d_is_limit : HasDef K mg "is_limit" (top 23)
  d_is_row : HasDef K mg "is_row" (top 24)
  d_names_paying : HasDef K mg "names_paying" (top 28)
  d_size_of : HasDef K mg "size_of" (top 29)
  d_covers : HasDef K mg "covers" (top 30)
  d_paid_within : HasDef K mg "paid_within" (top 31)
  d_require_purse : HasDef K mg "require_purse" (top 32)
  d_require_day : HasDef K mg "require_day" (top 33)
  d_require_limit : HasDef K mg "require_limit" (top 34)
  d_require_row : HasDef K mg "require_row" (top 35)
  d_payers : HasDef K mg "payers" (top 36)
  d_open_rows : HasDef K mg "open_rows" (top 37)
  d_amount_of : HasDef K mg "amount_of" (top 38)
  d_paid_by : HasDef K mg "paid_by" (top 39)
  d_area_of : HasDef K mg "area_of" (top 40)
  d_left_of : HasDef K mg "left_of" (top 41)
  d_limits_over : HasDef K mg "limits_over" (top 42)
  d_require : HasDef K mg "require" (top 44)
  d_has_book_shape : HasDef K mg "has_book_shape" (top 45)
  d_are_apart : HasDef K mg "are_apart" (top 46)
  d_is_within : HasDef K mg "is_within" (top 47)
  d_are_nested : HasDef K mg "are_nested" (top 48)
  d_check_limit : HasDef K mg "check_limit" (top 49)
  d_check_shares : HasDef K mg "check_shares" (top 50)
  d_lets_book : HasDef K mg "lets_book" (top 51)
  d_checked : HasDef K mg "checked" (top 53)
  d_require_open : HasDef K mg "require_open" (top 54)
  d_with_row_as : HasDef K mg "with_row_as" (top 55)
  d_with_row : HasDef K mg "with_row" (top 56)
  d_without_row : HasDef K mg "without_row" (top 57)
  d_with_amount : HasDef K mg "with_amount" (top 58)
  d_with_paid : HasDef K mg "with_paid" (top 59)
  d_with_share : HasDef K mg "with_share" (top 60)
  d_with_purse : HasDef K mg "with_purse" (top 61)
  d_with_limit : HasDef K mg "with_limit" (top 62)
  d_with_cap : HasDef K mg "with_cap" (top 63)
  d_tuple_word : HasDef K mg "tuple_word" (top 66)
  d_purse_text : HasDef K mg "purse_text" (top 67)
  d_limit_text : HasDef K mg "limit_text" (top 68)
  d_row_text : HasDef K mg "row_text" (top 69)
  d_book_text : HasDef K mg "book_text" (top 70)
  d_number_or_none : HasDef K mg "number_or_none" (top 77)
  d_numbers_or_none : HasDef K mg "numbers_or_none" (top 78)
  d_names_or_none : HasDef K mg "names_or_none" (top 79)
  d_heads_behind : HasDef K mg "heads_behind" (top 81)
  d_line_read : HasDef K mg "line_read" (top 82)
  d_book_of : HasDef K mg "book_of" (top 85)
  d_law_reader : HasDef K mg "_law_reader" (top 88)
  d_law_draw : HasDef K mg "_law_draw" (top 89)
  d_law_within : HasDef K mg "_law_within" (top 90)
  d_law_crosses : HasDef K mg "_law_crosses" (top 91)
  d_law_pays : HasDef K mg "_law_pays" (top 92)
  d_law_spent : HasDef K mg "_law_spent" (top 93)
  d_law_some_of : HasDef K mg "_law_some_of" (top 94)
  d_law_random_purses : HasDef K mg "_law_random_purses" (top 95)
  d_law_random_row : HasDef K mg "_law_random_row" (top 96)
  d_law_random_book : HasDef K mg "_law_random_book" (top 97)
  d_law_fixed_books : HasDef K mg "_law_fixed_books" (top 98)
  d_law_functions_right : HasDef K mg "_law_functions_right" (top 99)
  d_law_rows_right : HasDef K mg "_law_rows_right" (top 100)
  d_law_changes_right : HasDef K mg "_law_changes_right" (top 101)
  d_law_joined_right : HasDef K mg "_law_joined_right" (top 102)
  d_law : HasDef K mg "law" (top 103)
  m_Area_is_apart : HasMeth K CA "is_apart" "Area.is_apart" (inClass (top 26) 4)
  m_Area_or : HasMeth K CA "__or__" "Area.__or__" (inClass (top 26) 8)
  m_Area_iter : HasMeth K CA "__iter__" "Area.__iter__" (inClass (top 26) 10)
  m_Area_contains : HasMeth K CA "__contains__" "Area.__contains__" (inClass (top 26) 11)
  m_Area_len : HasMeth K CA "__len__" "Area.__len__" (inClass (top 26) 12)
  m_Area_eq : HasMeth K CA "__eq__" "Area.__eq__" (inClass (top 26) 13)
  m_WordReader_next_word : HasMeth K CW "next_word" "WordReader.next_word" (inClass (top 80) 2)
  m_WordReader_take_found : HasMeth K CW "take_found" "WordReader.take_found" (inClass (top 80) 3)
  m_WordReader_take_word : HasMeth K CW "take_word" "WordReader.take_word" (inClass (top 80) 4)
  m_WordReader_take_name : HasMeth K CW "take_name" "WordReader.take_name" (inClass (top 80) 5)
  m_WordReader_take_number : HasMeth K CW "take_number" "WordReader.take_number" (inClass (top 80) 6)
  m_WordReader_take_last : HasMeth K CW "take_last" "WordReader.take_last" (inClass (top 80) 7)
  m_WordReader_take_names : HasMeth K CW "take_names" "WordReader.take_names" (inClass (top 80) 8)
  m_WordReader_take_numbers : HasMeth K CW "take_numbers" "WordReader.take_numbers" (inClass (top 80) 9)
  m_WordReader_take_purse : HasMeth K CW "take_purse" "WordReader.take_purse" (inClass (top 80) 10)
  m_WordReader_take_limit : HasMeth K CW "take_limit" "WordReader.take_limit" (inClass (top 80) 11)
  m_WordReader_take_row : HasMeth K CW "take_row" "WordReader.take_row" (inClass (top 80) 12)
  m_WordReader_end : HasMeth K CW "end" "WordReader.end" (inClass (top 80) 13)
  m_Book_area : HasMeth K CB "area" "Book.area" (inClass (top 86) 6)
  m_Book_resized : HasMeth K CB "resized" "Book.resized" (inClass (top 86) 8)
  m_Book_settled : HasMeth K CB "settled" "Book.settled" (inClass (top 86) 9)
  m_Book_joined : HasMeth K CB "joined" "Book.joined" (inClass (top 86) 10)
  m_Book_limited : HasMeth K CB "limited" "Book.limited" (inClass (top 86) 11)
  m_Book_capped : HasMeth K CB "capped" "Book.capped" (inClass (top 86) 12)
  m_Book_call : HasMeth K CB "__call__" "Book.__call__" (inClass (top 86) 13)
  m_Book_add : HasMeth K CB "__add__" "Book.__add__" (inClass (top 86) 14)
  m_Book_sub : HasMeth K CB "__sub__" "Book.__sub__" (inClass (top 86) 15)
  m_Book_iter : HasMeth K CB "__iter__" "Book.__iter__" (inClass (top 86) 16)
  m_Book_getitem : HasMeth K CB "__getitem__" "Book.__getitem__" (inClass (top 86) 17)
  m_Book_contains : HasMeth K CB "__contains__" "Book.__contains__" (inClass (top 86) 18)
  m_Book_len : HasMeth K CB "__len__" "Book.__len__" (inClass (top 86) 19)
  m_Book_eq : HasMeth K CB "__eq__" "Book.__eq__" (inClass (top 86) 20)
  m_Book_str : HasMeth K CB "__str__" "Book.__str__" (inClass (top 86) 21)
end Lc
end
section
/-! The module kinds. -/
namespace Lc
open PySem L2
section
variable {P : Program} {w : World} {K : PySem.W.Frag} {mg : Str → Option Value} {base : Heap} {CA CW CB : Addr}
inductive FIsNumber (K : PySem.W.Frag) : Fn
  | mk (i : Int) (h : 0 ≤ i) : FIsNumber K [dat K (.int i)] (dat K (.bool true))
theorem ok_is_number (T : Txt K mg CA CW CB) : GFun P w K mg base "is_number" 1 (FIsNumber K) :=
  gfun_mk (N := ["thing"]) (k := 0) T.d_is_number ["thing"] ⟨rfl, rfl, rfl, by decide +kernel, rfl, by decide +kernel, by decide +kernel⟩ (fun _ _ _ _ _ _ us hl => match us, hl with | [_], _ => rfl) (fun _ _ h => by cases h <;> rfl) fun f cdv A outer s H E0 g Es E hF => by
    cases hF with
    | mk i hi =>
      refine .inl (dr_ret (de_andT (de_isInt T.B (de_var 0)) (de_andT (de_b (de_not (p := false) (de_isBool T.B (de_var 0))) rfl) (de_one (de_b (de_c (dc_ge (de_var 0) de_int)) (decide_eq_true hi))))))
inductive FIsName (K : PySem.W.Frag) : Fn
  | mk (z : Str) (h : NameOk z) : FIsName K [dat K (.str z)] (dat K (.bool true))
theorem ok_is_name (T : Txt K mg CA CW CB) : GFun P w K mg base "is_name" 1 (FIsName K) :=
  gfun_mk (N := ["thing", "char"]) (k := 0) T.d_is_name ["thing"] ⟨rfl, rfl, rfl, by decide +kernel, rfl, by decide +kernel, by decide +kernel⟩ (fun _ _ _ _ _ _ us hl => match us, hl with | [_], _ => rfl) (fun _ _ h => by cases h <;> rfl) fun f cdv A outer s H E0 g Es E hF => by
    cases hF with
    | mk z hz =>
      obtain ⟨t8, m8⟩ := T.g_LONGEST_NAME
      obtain ⟨ta, ma⟩ := T.g_ALPHABET
      have hl : z.length ≤ 1000000 := Nat.le_trans hz.hi (by decide)
      refine .inl (dr_cons (ds_skip (dt_w (dw_orF (dt_is (dt_not (dt_val (de_isStr T.B (de_var 0) (p := true)))) rfl) (dw_or1 (dt_is (dt_not (dt_chainLe de_int (de_lenS T.B hl (de_var 0)) (de_gint rfl m8))) ?_))))) (dr_ret (de_b (de_allX T.B g
        (de_lcA g (fun c => .bool (decide (c ∈ alpha.cps.toList))) (di_S (de_var 0)) (blkOk_by (own := [("char", 1)]) (N := ["thing", "char"]) (sc := defScope (top 16)) (by decide +kernel)) (fun _ _ _ _ _ => (pg_name (i := 1) (by exact g.nd) rfl (by first | exact Or.inl rfl | exact Or.inr rfl))) (fun x _ => gbn 1) (fun _ _ _ _ _ c hc => de_c (dc_inS (de_var 1) (de_gstr rfl ma))) (fun _ _ => rfl) hl)) ?_)))
      · have h1 := hz.lo
        have h2 := hz.hi
        rw [decide_eq_true (show (1 : Int) ≤ (z.length : Nat) by omega), decide_eq_true (show ((z.length : Nat) : Int) ≤ 8 by omega)]
        rfl
      · rw [List.all_eq_true]
        exact fun c hc => decide_eq_true (hz.az c hc)

theorem map_drop_str (l : List Str) (n : Nat) : (l.map PyData.str).drop n = (l.drop n).map PyData.str := by rw [List.map_drop]
theorem asc_zip : ∀ {l : List Str}, Asc l → (l.zip (l.drop 1)).all (fun p => ltS p.1 p.2) = true
  | [], _ => rfl
  | [_], _ => rfl
  | a :: b :: r, h => by
    have ih := asc_zip h.2
    simp only [List.drop_succ_cons, List.drop_zero] at ih ⊢
    rw [List.zip_cons_cons, List.all_cons, ih, Bool.and_true]
    exact h.1
inductive FIsAscending (K : PySem.W.Frag) : Fn
  | lst (l : List Str) (h : Asc l) (hz : l.length ≤ 1000) : FIsAscending K [dat K (.list (l.map PyData.str))] (dat K (.bool true))
  | tup (l : List Str) (h : Asc l) (hz : l.length ≤ 1000) : FIsAscending K [dat K (strsD l)] (dat K (.bool true))
theorem ok_is_ascending (T : Txt K mg CA CW CB) : GFun P w K mg base "is_ascending" 1 (FIsAscending K) :=
  gfun_mk (N := ["some", "one", "other"]) (k := 0) T.d_is_ascending ["some"] ⟨rfl, rfl, rfl, by decide +kernel, rfl, by decide +kernel, by decide +kernel⟩ (fun _ _ _ _ _ _ us hl => match us, hl with | [_], _ => rfl) (fun _ _ h => by cases h <;> rfl) fun f cdv A outer s H E0 g Es E hF => by
    cases hF with
    | lst l ha hz =>
      refine .inl (dr_ret (de_b (de_allX T.B g (de_lcA g (xs := l.zip (l.drop 1)) (f0 := fun p => .tuple [.str p.1, .str p.2]) (fun p => .bool (ltS p.1 p.2)) (di_is (di_zipL T.B (de_var 0) (de_slL (de_var 0) (do_some de_int) do_none)) ?_) (blkOk_by (own := [("one", 1), ("other", 2)]) (N := ["some", "one", "other"]) (sc := defScope (top 17)) (by decide +kernel)) (fun _ _ _ _ _ => pg_tupK (K := K) (m := 2) rfl (pgs_cons (pg_name (i := 1) (by exact g.nd) rfl (by first | exact Or.inl rfl | exact Or.inr rfl)) (pgs_cons (pg_name (i := 2) (by exact g.nd) rfl (by first | exact Or.inl rfl | exact Or.inr rfl)) pgs_nil))) (fun x _ => gb_tup (gbs_cons (gbn 1) (gbs_cons (gbn 2) gbs_nil)) rfl)
        (fun _ _ _ _ _ p hp => de_c (dc_ltS (de_var 1) (de_var 2))) (fun _ _ => rfl) ?_)) (asc_zip ha)))
      · rw [cutD_from _ (by decide), map_drop_str]; exact zipD_map l (l.drop 1) _ _
      · rw [List.length_zip]; omega
    | tup l ha hz =>
      refine .inl (dr_ret (de_b (de_allX T.B g (de_lcA g (xs := l.zip (l.drop 1)) (f0 := fun p => .tuple [.str p.1, .str p.2]) (fun p => .bool (ltS p.1 p.2)) (di_is (di_zipT T.B (de_var 0) (de_slT (de_var 0) (do_some de_int) do_none)) ?_) (blkOk_by (own := [("one", 1), ("other", 2)]) (N := ["some", "one", "other"]) (sc := defScope (top 17)) (by decide +kernel)) (fun _ _ _ _ _ => pg_tupK (K := K) (m := 2) rfl (pgs_cons (pg_name (i := 1) (by exact g.nd) rfl (by first | exact Or.inl rfl | exact Or.inr rfl)) (pgs_cons (pg_name (i := 2) (by exact g.nd) rfl (by first | exact Or.inl rfl | exact Or.inr rfl)) pgs_nil))) (fun x _ => gb_tup (gbs_cons (gbn 1) (gbs_cons (gbn 2) gbs_nil)) rfl)
        (fun _ _ _ _ _ p hp => de_c (dc_ltS (de_var 1) (de_var 2))) (fun _ _ => rfl) ?_)) (asc_zip ha)))
      · rw [cutD_from _ (by decide), map_drop_str]; exact zipD_map l (l.drop 1) _ _
      · rw [List.length_zip]; omega
inductive FAreNumbers (K : PySem.W.Frag) : Fn
  | mk (l : List Int) (h : ∀ x ∈ l, 0 ≤ x) (hz : l.length ≤ 1000) : FAreNumbers K [dat K (intsD l)] (dat K (.bool true))
theorem ok_are_numbers (T : Txt K mg CA CW CB) : GFun P w K mg base "are_numbers" 2 (FAreNumbers K) :=
  gfun_mk (N := ["thing", "one"]) (k := 1) T.d_are_numbers ["thing"] ⟨rfl, rfl, rfl, by decide +kernel, rfl, by decide +kernel, by decide +kernel⟩ (fun _ _ _ _ _ _ us hl => match us, hl with | [_], _ => rfl) (fun _ _ h => by cases h <;> rfl) fun f cdv A outer s H E0 g Es E hF => by
    cases hF with
    | mk l hl hz =>
      refine .inl (dr_ret (de_andT (de_isTuple T.B (de_var 0)) (de_one (de_b (de_allX T.B g (de_lcA g (xs := l) (fun _ => .bool true) (di_T (de_var 0)) (blkOk_by (own := [("one", 1)]) (N := ["thing", "one"]) (sc := defScope (top 18)) (by decide +kernel)) (fun _ _ _ _ _ => (pg_name (i := 1) (by exact g.nd) rfl (by first | exact Or.inl rfl | exact Or.inr rfl))) (fun x _ => gbn 1)
        (fun _ _ _ _ _ x hx => de_call (ok_is_number T) (g.blk _ _ _ _ _) (da_cons (de_var 1) da_nil) (.mk x (hl x hx))) (fun _ _ => rfl) (by omega))) (by simp)))))
inductive FAreNames (K : PySem.W.Frag) : Fn
  | mk (l : List Str) (h : NamesOk l) : FAreNames K [dat K (strsD l)] (dat K (.bool true))
theorem ok_are_names (T : Txt K mg CA CW CB) : GFun P w K mg base "are_names" 2 (FAreNames K) :=
  gfun_mk (N := ["thing", "one"]) (k := 1) T.d_are_names ["thing"] ⟨rfl, rfl, rfl, by decide +kernel, rfl, by decide +kernel, by decide +kernel⟩ (fun _ _ _ _ _ _ us hl => match us, hl with | [_], _ => rfl) (fun _ _ h => by cases h <;> rfl) fun f cdv A outer s H E0 g Es E hF => by
    cases hF with
    | mk l hl =>
      have hz := hl.few
      have hp : 0 < l.length := List.length_pos_iff.mpr hl.ne
      refine .inl (dr_cons (ds_skip (dt_w (dw_orF (nt (de_isTuple T.B (de_var 0))) (dw_orF (cmp (dc_eqI (de_lenT T.B (de_var 0)) de_int) ?_) (dw_or1 (nt (de_b (de_allX T.B g (de_lcA g (xs := l) (fun _ => .bool true) (di_T (de_var 0)) (blkOk_by (own := [("one", 1)]) (N := ["thing", "one"]) (sc := defScope (top 19)) (by decide +kernel)) (fun _ _ _ _ _ => (pg_name (i := 1) (by exact g.nd) rfl (by first | exact Or.inl rfl | exact Or.inr rfl))) (fun x _ => gbn 1)
          (fun _ _ _ _ _ x hx => de_call (ok_is_name T) (g.blk _ _ _ _ _) (da_cons (de_var 1) da_nil) (.mk x (hl.all x hx))) (fun _ _ => rfl) (by omega))) (by simp)))))))) (dr_ret (de_call (ok_is_ascending T) g (da_cons (de_var 0) da_nil) (.tup l hl.asc hz))))
      rw [List.length_map]
      exact decide_eq_false (by omega)
inductive FAreDays (K : PySem.W.Frag) : Fn
  | mk (i j : Int) (h : 0 ≤ i) (h' : i ≤ j) : FAreDays K [dat K (.int i), dat K (.int j)] (dat K (.bool true))
theorem ok_are_days (T : Txt K mg CA CW CB) : GFun P w K mg base "are_days" 2 (FAreDays K) :=
  gfun_mk (N := ["first", "last"]) (k := 1) T.d_are_days ["first", "last"] ⟨rfl, rfl, rfl, by decide +kernel, rfl, by decide +kernel, by decide +kernel⟩ (fun _ _ _ _ _ _ us hl => match us, hl with | [_, _], _ => rfl) (fun _ _ h => by cases h <;> rfl) fun f cdv A outer s H E0 g Es E hF => by
    cases hF with
    | mk i j hi hj =>
      refine .inl (dr_ret (de_andT (de_call (ok_is_number T) g (da_cons (de_var 0) da_nil) (.mk i hi)) (de_andT (de_call (ok_is_number T) g (da_cons (de_var 1) da_nil) (.mk j (by omega))) (de_one (de_b (de_c (dc_le (de_var 0) (de_var 1))) (decide_eq_true hj))))))
inductive FIsSlot (K : PySem.W.Frag) : Fn
  | mk (z : Str) (i : Int) (h : NameOk z) (h' : 0 ≤ i) : FIsSlot K [dat K (.tuple [.str z, .int i])] (dat K (.bool true))
theorem ok_is_slot (T : Txt K mg CA CW CB) : GFun P w K mg base "is_slot" 2 (FIsSlot K) :=
  gfun_mk (N := ["thing"]) (k := 1) T.d_is_slot ["thing"] ⟨rfl, rfl, rfl, by decide +kernel, rfl, by decide +kernel, by decide +kernel⟩ (fun _ _ _ _ _ _ us hl => match us, hl with | [_], _ => rfl) (fun _ _ h => by cases h <;> rfl) fun f cdv A outer s H E0 g Es E hF => by
    cases hF with
    | mk z i hz hi =>
      refine .inl (dr_ret (de_andT (de_isTuple T.B (de_var 0)) (de_andT (de_b (de_c (dc_eqI (de_lenT T.B (de_var 0)) de_int)) rfl)
        (de_andT (de_call (ok_is_name T) g (da_cons (de_ixTc (de_var 0)) da_nil) (.mk z hz)) (de_one (de_call (ok_is_number T) g (da_cons (de_ixTc (de_var 0)) da_nil) (.mk i hi)))))))
inductive FIsPurse (K : PySem.W.Frag) : Fn
  | mk (p : Purse) (h : PurseOk p) : FIsPurse K [dat K (purseD p)] (dat K (.bool true))
theorem ok_is_purse (T : Txt K mg CA CW CB) : GFun P w K mg base "is_purse" 3 (FIsPurse K) :=
  gfun_mk (N := ["thing"]) (k := 2) T.d_is_purse ["thing"] ⟨rfl, rfl, rfl, by decide +kernel, rfl, by decide +kernel, by decide +kernel⟩ (fun _ _ _ _ _ _ us hl => match us, hl with | [_], _ => rfl) (fun _ _ h => by cases h <;> rfl) fun f cdv A outer s H E0 g Es E hF => by
    cases hF with
    | mk p hp =>
      refine .inl (dr_cons (ds_skip <| dt_w <| dw_orF (nt (de_isTuple T.B (de_var 0))) <| dw_orF (cmp (dc_neI (de_lenT T.B (ds := [.str p.name, .str p.sponsor, strsD p.kinds, .int p.first, .int p.last]) (de_var 0)) de_int)) <|
        dw_orF (nt (de_call (ok_is_name T) g (da_cons (de_ixTc (de_var 0)) da_nil) (.mk p.name hp.name))) <| dw_or1 <| nt (de_call (ok_is_name T) g (da_cons (de_ixTc (de_var 0)) da_nil) (.mk p.sponsor hp.sponsor)))
        (dr_ret (de_andT (de_call (ok_are_names T) g (da_cons (de_ixTc (de_var 0)) da_nil) (.mk p.kinds hp.kinds)) (de_one (de_call (ok_are_days T) g (da_cons (de_ixTc (de_var 0)) (da_cons (de_ixTc (de_var 0)) da_nil)) (.mk p.first p.last hp.first hp.last))))))
inductive FIsLimit (K : PySem.W.Frag) : Fn
  | mk (l : Limit) (h : LimitOk l) : FIsLimit K [dat K (limitD l)] (dat K (.bool true))
theorem ok_is_limit (T : Txt K mg CA CW CB) : GFun P w K mg base "is_limit" 3 (FIsLimit K) :=
  gfun_mk (N := ["thing"]) (k := 2) T.d_is_limit ["thing"] ⟨rfl, rfl, rfl, by decide +kernel, rfl, by decide +kernel, by decide +kernel⟩ (fun _ _ _ _ _ _ us hl => match us, hl with | [_], _ => rfl) (fun _ _ h => by cases h <;> rfl) fun f cdv A outer s H E0 g Es E hF => by
    cases hF with
    | mk l hl =>
      refine .inl (dr_cons (ds_skip <| dt_w <| dw_orF (nt (de_isTuple T.B (de_var 0))) <| dw_orF (cmp (dc_neI (de_lenT T.B (ds := [strsD l.names, .int l.first, .int l.last, .int l.cap]) (de_var 0)) de_int)) <|
        dw_or1 <| nt (de_call (ok_are_names T) g (da_cons (de_ixTc (de_var 0)) da_nil) (.mk l.names hl.names)))
        (dr_ret (de_andT (de_call (ok_are_days T) g (da_cons (de_ixTc (de_var 0)) (da_cons (de_ixTc (de_var 0)) da_nil)) (.mk l.first l.last hl.first hl.last)) (de_one (de_call (ok_is_number T) g (da_cons (de_ixTc (de_var 0)) da_nil) (.mk l.cap hl.cap))))))
inductive FIsRow (K : PySem.W.Frag) : Fn
  | mk (r : Rw) (h : RowOk r) : FIsRow K [dat K (rowD r)] (dat K (.bool true))
theorem ok_is_row (T : Txt K mg CA CW CB) : GFun P w K mg base "is_row" 3 (FIsRow K) :=
  gfun_mk (N := ["thing"]) (k := 2) T.d_is_row ["thing"] ⟨rfl, rfl, rfl, by decide +kernel, rfl, by decide +kernel, by decide +kernel⟩ (fun _ _ _ _ _ _ us hl => match us, hl with | [_], _ => rfl) (fun _ _ h => by cases h <;> rfl) fun f cdv A outer s H E0 g Es E hF => by
    cases hF with
    | mk r hr =>
      refine .inl (dr_cons (ds_skip <| dt_w <| dw_orF (nt (de_isTuple T.B (de_var 0))) <| dw_orF (cmp (dc_neI (de_lenT T.B (ds := [.str r.word, .int r.day, .str r.kind, r.rest]) (de_var 0)) de_int)) <| dw_or1 <| nt (de_isStr T.B (de_ixTc (de_var 0)))) ?_)
      refine dr_cons (ds_skip <| dt_w <| dw_orF (nt (de_call (ok_is_number T) g (da_cons (de_ixTc (de_var 0)) da_nil) (.mk r.day hr.day))) <| dw_or1 <| nt (de_call (ok_is_name T) g (da_cons (de_ixTc (de_var 0)) da_nil) (.mk r.kind hr.kind))) ?_
      refine dr_match (de_ixTc (de_var 0)) (mc_value (fun e => ?_) fun e => mc_value (fun e' => ?_) fun e' => ?_)
      · cases r with
        | buy d k a => exact dr_ret (de_call (ok_is_number T) g (da_cons (de_ixTc (de_var 0)) da_nil) (.mk a hr.rest))
        | paid d k s => exact absurd (show ("paid" : Str) = "buy" from e) (by decide +kernel)
      · cases r with
        | buy d k a => exact absurd (show ("buy" : Str) = "paid" from e') (by decide +kernel)
        | paid d k s => exact dr_ret (de_call (ok_are_numbers T) g (da_cons (de_ixTc (de_var 0)) da_nil) (.mk s hr.rest.1 hr.rest.2))
      · cases r with
        | buy d k a => exact absurd rfl e
        | paid d k s => exact absurd rfl e'
end
end Lc
end
section
/-! The program's functions over books, as plain functions. -/
namespace Lc
open PySem L2
def inKind (p : Purse) (day : Int) (kind : Str) : Bool := decide (kind ∈ p.kinds) && (decide (p.first ≤ day) && decide (day ≤ p.last))
def namesPaying (ps : List Purse) (day : Int) (kind : Str) : List Str := (ps.filter fun p => inKind p day kind).map (·.name)
def sizeOf (l : Limit) : Int := (l.names.length : Nat) * (l.last - l.first + 1)
def covers (l : Limit) (p : Str) (d : Int) : Bool := decide (p ∈ l.names) && (decide (l.first ≤ d) && decide (d ≤ l.last))
def Rw.isPaid (r : Rw) : Bool := decide (r.word = ("paid" : Str))
def Rw.isBuy (r : Rw) : Bool := decide (r.word = ("buy" : Str))
def Rw.shares : Rw → List Int
  | .buy _ _ _ => []
  | .paid _ _ s => s
def Rw.amount : Rw → Int
  | .buy _ _ a => a
  | .paid _ _ s => s.sum
theorem isPaid_rest {r : Rw} (h : r.isPaid = true) : r.rest = intsD r.shares := by
  cases r with
  | buy d k a => exact absurd (show ("buy" : Str) = "paid" from of_decide_eq_true h) (by decide +kernel)
  | paid d k s => rfl
theorem isBuy_paid {r : Rw} : r.isPaid = !r.isBuy := by
  cases r with
  | buy d k a => rfl
  | paid d k s => rfl
/-- a share: its purse, its day, itself -/
abbrev Trip := Str × Int × Int
def tripD (t : Trip) : D := .tuple [.str t.1, .int t.2.1, .int t.2.2]
def trips (b : Bk) : List Trip := (b.rows.filter Rw.isPaid).flatMap fun r => (b.purses.zip r.shares).map fun q => (q.1.name, r.day, q.2)
def paidWithin (b : Bk) (l : Limit) : Int := (((trips b).filter fun t => covers l t.1 t.2.1).map fun t => t.2.2).sum
def openRows (b : Bk) : List Int := (b.rows.zipIdx.filter fun p => p.1.isBuy).map fun p => (p.2 : Int)
def paidAt (b : Bk) (n : Nat) : Int := ((b.rows.filter Rw.isPaid).map fun r => r.shares.getD n 0).sum
abbrev Slot := Str × Int
def slotD (s : Slot) : D := .tuple [.str s.1, .int s.2]
def slotsD (l : List Slot) : D := .tuple (l.map slotD)
def boxOf (names : List Str) (first last : Int) : List Slot := names.flatMap fun n => (List.range (last + 1 - first).toNat).map fun (i : Nat) => (n, first + (i : Int))
def areaOf (l : Limit) : List Slot := boxOf l.names l.first l.last
def leftOf (b : Bk) (l : Limit) : Int := l.cap - paidWithin b l
abbrev Pr := Int × Int
def prD (p : Pr) : D := .tuple [.int p.1, .int p.2]
def lePr (x y : Pr) : Bool := leD (prD x) (prD y)
def overs (b : Bk) (p : Str) (d : Int) : List Pr := (b.limits.zipIdx.filter fun q => covers q.1 p d).map fun q => (sizeOf q.1, (q.2 : Int))
def limitsOver (b : Bk) (p : Str) (d : Int) : List Int := ((overs b p d).mergeSort lePr).map fun q => q.2
/-- sizes, forms -/
structure BkOk (b : Bk) : Prop where
  purses : ∀ p ∈ b.purses, PurseOk p
  limits : ∀ l ∈ b.limits, LimitOk l
  rows : ∀ r ∈ b.rows, RowOk r
  np : b.purses.length ≤ 100
  nl : b.limits.length ≤ 100
  nr : b.rows.length ≤ 100
  days : ∀ l ∈ b.limits, l.last ≤ 1000
theorem covers_not {l : Limit} {p : Str} {d : Int} : covers l p d = true ↔ p ∈ l.names ∧ l.first ≤ d ∧ d ≤ l.last := by
  unfold covers
  simp only [Bool.and_eq_true, decide_eq_true_eq]
theorem nl_strs (l : List Str) : nlAll (l.map PyData.str) = true := nlAll_map _ l fun _ _ => rfl
theorem nl_ints (l : List Int) : nlAll (l.map PyData.int) = true := nlAll_map _ l fun _ _ => rfl
theorem nl_strsD (l : List Str) : nl (strsD l) = true := by unfold strsD; simpa [nl] using nl_strs l
theorem nl_intsD (l : List Int) : nl (intsD l) = true := by unfold intsD; simpa [nl] using nl_ints l
theorem nl_purseD (p : Purse) : nl (purseD p) = true := by unfold purseD; simp [nl, nlAll, nl_strsD]
theorem nl_limitD (p : Limit) : nl (limitD p) = true := by unfold limitD; simp [nl, nlAll, nl_strsD]
theorem nl_rest (r : Rw) : nl r.rest = true := by
  cases r with
  | buy d k a => rfl
  | paid d k s => exact nl_intsD s
theorem nl_rowD (p : Rw) : nl (rowD p) = true := by unfold rowD; simp [nl, nlAll, nl_rest]
end Lc
end
section
/-! The module bookparts. -/
namespace Lc
open PySem L2
section
variable {P : Program} {w : World} {K : PySem.W.Frag} {mg : Str → Option Value} {base : Heap} {CA CW CB : Addr}
inductive FNamesPaying (K : PySem.W.Frag) : Fn
  | mk (ps : List Purse) (day : Int) (kind : Str) (h : ps.length ≤ 100) : FNamesPaying K [dat K (pursesD ps), dat K (.int day), dat K (.str kind)] (dat K (strsD (namesPaying ps day kind)))
theorem ok_names_paying (T : Txt K mg CA CW CB) : GFun P w K mg base "names_paying" 1 (FNamesPaying K) :=
  gfun_mk (N := ["purses", "day", "kind", "name", "sponsor", "kinds", "first", "last"]) (k := 0) T.d_names_paying ["purses", "day", "kind"] ⟨rfl, rfl, rfl, by decide +kernel, rfl, by decide +kernel, by decide +kernel⟩ (fun _ _ _ _ _ _ us hl => match us, hl with | [_, _, _], _ => rfl) (fun _ _ h => by cases h <;> rfl) fun f cdv A outer s H E0 g Es E hF => by
    cases hF with
    | mk ps dy kd hz =>
      refine .inl (dr_ret (de_is (de_tupleL T.B (de_ld (de_lc g (f0 := purseD) (fun p => inKind p dy kd) (fun p => .str p.name) (di_T (de_var 0)) (blkOk_by (own := [("name", 3), ("sponsor", 4), ("kinds", 5), ("first", 6), ("last", 7)]) (N := ["purses", "day", "kind", "name", "sponsor", "kinds", "first", "last"]) (sc := defScope (top 28)) (by decide +kernel)) (fun _ _ _ _ _ => pg_tupK (K := K) (m := 5) rfl (pgs_cons (pg_name (i := 3) (by exact g.nd) rfl (by first | exact Or.inl rfl | exact Or.inr rfl)) (pgs_cons (pg_name (i := 4) (by exact g.nd) rfl (by first | exact Or.inl rfl | exact Or.inr rfl)) (pgs_cons (pg_name (i := 5) (by exact g.nd) rfl (by first | exact Or.inl rfl | exact Or.inr rfl)) (pgs_cons (pg_name (i := 6) (by exact g.nd) rfl (by first | exact Or.inl rfl | exact Or.inr rfl)) (pgs_cons (pg_name (i := 7) (by exact g.nd) rfl (by first | exact Or.inl rfl | exact Or.inr rfl)) pgs_nil)))))) (fun x _ => gb_tup (gbs_cons (gbn 3) (gbs_cons (gbn 4) (gbs_cons (gbn 5) (gbs_cons (gbn 6) (gbs_cons (gbn 7) gbs_nil))))) rfl)
        (fun _ _ _ _ _ p hp => dts_one (dt_w (dw_and (dt_c (dc_inTs (l := p.kinds) (g.blk _ _ _ _ _) (de_var 2) (de_var 5))) fun _ => dw_and1 (dt_chainLe (de_var 6) (de_var 1) (de_var 7)))))
        (fun _ _ _ _ _ p hp _ => de_var 3) (fun _ _ _ => rfl) (by omega)))) ?_))
      unfold strsD namesPaying
      rw [List.map_map]
      rfl
inductive FSizeOf (K : PySem.W.Frag) : Fn
  | mk (l : Limit) (h : l.names.length ≤ 1000) : FSizeOf K [dat K (limitD l)] (dat K (.int (sizeOf l)))
theorem ok_size_of (T : Txt K mg CA CW CB) : GFun P w K mg base "size_of" 1 (FSizeOf K) :=
  gfun_mk (N := ["limit", "names", "first", "last", "cap"]) (k := 0) T.d_size_of ["limit"] ⟨rfl, rfl, rfl, by decide +kernel, rfl, by decide +kernel, by decide +kernel⟩ (fun _ _ _ _ _ _ us hl => match us, hl with | [_], _ => rfl) (fun _ _ h => by cases h <;> rfl) fun f cdv A outer s H E0 g Es E hF => by
    cases hF with
    | mk l hl =>
      refine .inl (dr_cons (ds_asg (de_var 0) (pg_tupK (K := K) (m := 4) rfl (pgs_cons (pg_name (i := 1) (by exact g.nd) rfl (by first | exact Or.inl rfl | exact Or.inr rfl)) (pgs_cons (pg_name (i := 2) (by exact g.nd) rfl (by first | exact Or.inl rfl | exact Or.inr rfl)) (pgs_cons (pg_name (i := 3) (by exact g.nd) rfl (by first | exact Or.inl rfl | exact Or.inr rfl)) (pgs_cons (pg_name (i := 4) (by exact g.nd) rfl (by first | exact Or.inl rfl | exact Or.inr rfl)) pgs_nil))))) (gb_tup (gbs_cons (gbn 1) (gbs_cons (gbn 2) (gbs_cons (gbn 3) (gbs_cons (gbn 4) gbs_nil)))) rfl)) <| dr_ret (de_is (de_mul (by rw [List.length_map]; omega) (de_lenT T.B (ds := l.names.map PyData.str) (de_var 1)) (de_add (de_sub (de_var 3) (de_var 2)) de_int)) ?_))
      unfold sizeOf
      rw [List.length_map]
inductive FCovers (K : PySem.W.Frag) : Fn
  | mk (l : Limit) (p : Str) (d : Int) : FCovers K [dat K (limitD l), dat K (.str p), dat K (.int d)] (dat K (.bool (covers l p d)))
theorem ok_covers (T : Txt K mg CA CW CB) : GFun P w K mg base "covers" 1 (FCovers K) :=
  gfun_mk (N := ["limit", "purse", "day", "names", "first", "last", "cap"]) (k := 0) T.d_covers ["limit", "purse", "day"] ⟨rfl, rfl, rfl, by decide +kernel, rfl, by decide +kernel, by decide +kernel⟩ (fun _ _ _ _ _ _ us hl => match us, hl with | [_, _, _], _ => rfl) (fun _ _ h => by cases h <;> rfl) fun f cdv A outer s H E0 g Es E hF => by
    cases hF with
    | mk l p d =>
      exact .inl (dr_cons (ds_asg (de_var 0) (pg_tupK (K := K) (m := 4) rfl (pgs_cons (pg_name (i := 3) (by exact g.nd) rfl (by first | exact Or.inl rfl | exact Or.inr rfl)) (pgs_cons (pg_name (i := 4) (by exact g.nd) rfl (by first | exact Or.inl rfl | exact Or.inr rfl)) (pgs_cons (pg_name (i := 5) (by exact g.nd) rfl (by first | exact Or.inl rfl | exact Or.inr rfl)) (pgs_cons (pg_name (i := 6) (by exact g.nd) rfl (by first | exact Or.inl rfl | exact Or.inr rfl)) pgs_nil))))) (gb_tup (gbs_cons (gbn 3) (gbs_cons (gbn 4) (gbs_cons (gbn 5) (gbs_cons (gbn 6) gbs_nil)))) rfl)) <| dr_ret (de_and (de_c (dc_inTs (l := l.names) g (de_var 1) (de_var 3))) fun _ => de_one (de_chainLe (de_var 4) (de_var 2) (de_var 5))))
inductive FPaidWithin (K : PySem.W.Frag) : Fn
  | mk (b : Bk) (l : Limit) (h : BkOk b) : FPaidWithin K [dat K (bkD b), dat K (limitD l)] (dat K (.int (paidWithin b l)))
theorem trips_eq (b : Bk) : ((b.rows.filter Rw.isPaid).flatMap fun r => (b.purses.zip r.shares).map fun q => tripD (q.1.name, r.day, q.2)) = (trips b).map tripD := by
  unfold trips
  rw [List.map_flatMap]
  simp only [List.map_map]
  rfl
theorem trips_len {b : Bk} (h : BkOk b) : (trips b).length ≤ 10000 := by
  have h1 := made2_len (xs := b.rows.filter Rw.isPaid) (ys := fun r => b.purses.zip r.shares) (v := fun r q => tripD (q.1.name, r.day, q.2)) (n := 100) (fun r _ => by rw [List.length_zip]; have := h.np; omega) (b.rows.filter Rw.isPaid).length
  unfold made2 at h1
  rw [List.take_length, trips_eq, List.length_map] at h1
  have h2 := List.length_filter_le Rw.isPaid b.rows
  have h3 := h.nr
  omega
theorem ok_paid_within (T : Txt K mg CA CW CB) : GFun P w K mg base "paid_within" 2 (FPaidWithin K) :=
  gfun_mk (N := ["book", "limit", "purses", "limits", "rows", "paid", "pairs", "word", "day", "kind", "shares", "own", "share", "name"]) (k := 1) T.d_paid_within ["book", "limit"] ⟨rfl, rfl, rfl, by decide +kernel, rfl, by decide +kernel, by decide +kernel⟩ (fun _ _ _ _ _ _ us hl => match us, hl with | [_, _], _ => rfl) (fun _ _ h => by cases h <;> rfl) fun f cdv A outer s H E0 g Es E hF => by
    cases hF with
    | mk b l h =>
      obtain ⟨tp, mp⟩ := T.g_PAID
      have h1 := h.nr
      have h2 := h.np
      have h3 := trips_len h
      have h4 := List.length_filter_le Rw.isPaid b.rows
      refine .inl (dr_cons (ds_asg (de_var 0) (pg_tupK (K := K) (m := 3) rfl (pgs_cons (pg_name (i := 2) (by exact g.nd) rfl (by first | exact Or.inl rfl | exact Or.inr rfl)) (pgs_cons (pg_name (i := 3) (by exact g.nd) rfl (by first | exact Or.inl rfl | exact Or.inr rfl)) (pgs_cons (pg_name (i := 4) (by exact g.nd) rfl (by first | exact Or.inl rfl | exact Or.inr rfl)) pgs_nil)))) (gb_tup (gbs_cons (gbn 2) (gbs_cons (gbn 3) (gbs_cons (gbn 4) gbs_nil))) rfl)) <| dr_cons (ds_setLc g 5 (xs := b.rows) (f0 := rowD) Rw.isPaid (fun r => .tuple [.int r.day, intsD r.shares]) (di_T (de_var 4)) (blkOk_by (own := [("word", 7), ("day", 8), ("kind", 9), ("shares", 10)]) (N := ["book", "limit", "purses", "limits", "rows", "paid", "pairs", "word", "day", "kind", "shares", "own", "share", "name"]) (sc := defScope (top 31)) (by decide +kernel)) (fun _ _ _ _ _ => pg_tupK (K := K) (m := 4) rfl (pgs_cons (pg_name (i := 7) (by exact g.nd) rfl (by first | exact Or.inl rfl | exact Or.inr rfl)) (pgs_cons (pg_name (i := 8) (by exact g.nd) rfl (by first | exact Or.inl rfl | exact Or.inr rfl)) (pgs_cons (pg_name (i := 9) (by exact g.nd) rfl (by first | exact Or.inl rfl | exact Or.inr rfl)) (pgs_cons (pg_name (i := 10) (by exact g.nd) rfl (by first | exact Or.inl rfl | exact Or.inr rfl)) pgs_nil))))) (fun x _ => gb_tup (gbs_cons (gbn 7) (gbs_cons (gbn 8) (gbs_cons (gbn 9) (gbs_cons (gbn 10) gbs_nil)))) rfl)
        (fun _ _ _ _ _ r hr => dts_one (dt_c (dc_eqS (de_var 7) (de_gstr rfl mp)))) (fun _ _ _ _ _ r hr hp => de_tup (dd_cons (de_var 8) (dd_cons (de_is (de_var 10) (isPaid_rest hp)) dd_nil))) (fun r _ _ => by simp [nl, nlAll, nl_intsD]) (by omega)) <| ?_)
      refine dr_cons (ds_setLc2 g 6 (xs := b.rows.filter Rw.isPaid) (f0 := fun r => .tuple [.int r.day, intsD r.shares]) (fun r => b.purses.zip r.shares) (fun r q => .tuple [purseD q.1, .int q.2]) (fun r q => tripD (q.1.name, r.day, q.2)) (vs1 := [11, 12]) (m := 100) (di_L (de_ld (de_var 5)))
        (blkOk_by (own := [("day", 8), ("shares", 10), ("own", 11), ("share", 12)]) (N := ["book", "limit", "purses", "limits", "rows", "paid", "pairs", "word", "day", "kind", "shares", "own", "share", "name"]) (sc := defScope (top 31)) (by decide +kernel)) (by decide) (fun _ _ _ _ _ => pg_tupK (K := K) (m := 2) rfl (pgs_cons (pg_name (i := 8) (by exact g.nd) rfl (by first | exact Or.inl rfl | exact Or.inr rfl)) (pgs_cons (pg_name (i := 10) (by exact g.nd) rfl (by first | exact Or.inl rfl | exact Or.inr rfl)) pgs_nil))) (fun x _ => gbt_tup (gbts_cons (gbtn 8 (by first | rfl | exact nl_strsD _ | exact nl_intsD _ | exact nl_purseD _ | exact nl_limitD _ | exact nl_rowD _ | exact nl_rest _)) (gbts_cons (gbtn 10 (by first | rfl | exact nl_strsD _ | exact nl_intsD _ | exact nl_purseD _ | exact nl_limitD _ | exact nl_rowD _ | exact nl_rest _)) gbts_nil)) rfl) (fun _ _ _ _ _ r hr => dit_is (dit_zipT T.B (nlAll_map _ _ fun p _ => nl_purseD p) (nl_ints r.shares) (de_var 2) (de_var 10)) (zipD_map _ _ _ _)) (fun _ _ _ _ _ => pg_tupK (K := K) (m := 2) rfl (pgs_cons (pg_name (i := 11) (by exact g.nd) rfl (by first | exact Or.inl rfl | exact Or.inr rfl)) (pgs_cons (pg_name (i := 12) (by exact g.nd) rfl (by first | exact Or.inl rfl | exact Or.inr rfl)) pgs_nil))) (fun x _ y _ => gb_tup (gbs_cons (gbn 11) (gbs_cons (gbn 12) gbs_nil)) rfl)
        (fun _ _ _ _ _ r hr q hq => de_tup (dd_cons (de_ixTc (de_var 11)) (dd_cons (de_var 8) (dd_cons (de_var 12) dd_nil)))) (fun _ _ _ _ => rfl) (fun r _ => by rw [List.length_zip]; omega) (by omega)) ?_
      refine dr_ret (de_sumX T.B g (de_lc g (xs := trips b) (f0 := tripD) (fun t => covers l t.1 t.2.1) (fun t => .int t.2.2) (di_L (de_is (de_ld (de_var 6)) (congrArg PyData.list (trips_eq b)))) (blkOk_by (own := [("name", 13), ("day", 8), ("share", 12)]) (N := ["book", "limit", "purses", "limits", "rows", "paid", "pairs", "word", "day", "kind", "shares", "own", "share", "name"]) (sc := defScope (top 31)) (by decide +kernel)) (fun _ _ _ _ _ => pg_tupK (K := K) (m := 3) rfl (pgs_cons (pg_name (i := 13) (by exact g.nd) rfl (by first | exact Or.inl rfl | exact Or.inr rfl)) (pgs_cons (pg_name (i := 8) (by exact g.nd) rfl (by first | exact Or.inl rfl | exact Or.inr rfl)) (pgs_cons (pg_name (i := 12) (by exact g.nd) rfl (by first | exact Or.inl rfl | exact Or.inr rfl)) pgs_nil)))) (fun x _ => gb_tup (gbs_cons (gbn 13) (gbs_cons (gbn 8) (gbs_cons (gbn 12) gbs_nil))) rfl)
        (fun _ _ _ _ _ t ht => dts_one (dt_val (de_call (ok_covers T) (g.blk _ _ _ _ _) (da_cons (de_var 1) (da_cons (de_var 13) (da_cons (de_var 8) da_nil))) (.mk l t.1 t.2.1)))) (fun _ _ _ _ _ t ht _ => de_var 12) (fun _ _ _ => rfl) (by omega)))
theorem names_map (ps : List Purse) : (ps.map fun p => PyData.str p.name) = (ps.map (·.name)).map PyData.str := by
  rw [List.map_map]
  rfl
inductive FRequirePurse (K : PySem.W.Frag) : Fn
  | mk (b : Bk) (z : Str) (h : b.purses.length ≤ 100) (hz : NameOk z) (hm : z ∈ b.purses.map (·.name)) : FRequirePurse K [dat K (bkD b), dat K (.str z)] (dat K .none)
theorem ok_require_purse (T : Txt K mg CA CW CB) : GFun P w K mg base "require_purse" 2 (FRequirePurse K) :=
  gfun_mk (N := ["book", "purse", "own"]) (k := 1) T.d_require_purse ["book", "purse"] ⟨rfl, rfl, rfl, by decide +kernel, rfl, by decide +kernel, by decide +kernel⟩ (fun _ _ _ _ _ _ us hl => match us, hl with | [_, _], _ => rfl) (fun _ _ h => by cases h <;> rfl) fun f cdv A outer s H E0 g Es E hF => by
    cases hF with
    | mk b z h hz hm =>
      refine .inr ⟨_, dn_one (ds_skip <| dt_w <| dw_orF (nt (de_call (ok_is_name T) g (da_cons (de_var 1) da_nil) (.mk z hz))) <| dw_or1 <| cmp (dc_niLs (l := b.purses.map (·.name)) g (de_var 1) (de_is (de_ld (de_lcA g (xs := b.purses) (f0 := purseD) (fun p => .str p.name) (di_T (de_ixTc (de_var 0))) (blkOk_by (own := [("own", 2)]) (N := ["book", "purse", "own"]) (sc := defScope (top 32)) (by decide +kernel)) (fun _ _ _ _ _ => (pg_name (i := 2) (by exact g.nd) rfl (by first | exact Or.inl rfl | exact Or.inr rfl))) (fun x _ => gbn 2)
        (fun _ _ _ _ _ p hp => de_ixTc (de_var 2)) (fun _ _ => rfl) (by omega))) (congrArg PyData.list (names_map _)))) (decide_eq_false (not_not_intro hm))), rfl⟩
inductive FRequireDay (K : PySem.W.Frag) : Fn
  | mk (i : Int) (h : 0 ≤ i) : FRequireDay K [dat K (.int i)] (dat K .none)
theorem ok_require_day (T : Txt K mg CA CW CB) : GFun P w K mg base "require_day" 2 (FRequireDay K) :=
  gfun_mk (N := ["day"]) (k := 1) T.d_require_day ["day"] ⟨rfl, rfl, rfl, by decide +kernel, rfl, by decide +kernel, by decide +kernel⟩ (fun _ _ _ _ _ _ us hl => match us, hl with | [_], _ => rfl) (fun _ _ h => by cases h <;> rfl) fun f cdv A outer s H E0 g Es E hF => by
    cases hF with
    | mk i h =>
      exact .inr ⟨_, dn_one (ds_skip (nt (de_call (ok_is_number T) g (da_cons (de_var 0) da_nil) (.mk i h)))), rfl⟩
inductive FRequireLimit (K : PySem.W.Frag) : Fn
  | mk (b : Bk) (i : Int) (h : 0 ≤ i) (h' : i < b.limits.length) : FRequireLimit K [dat K (bkD b), dat K (.int i)] (dat K .none)
theorem ok_require_limit (T : Txt K mg CA CW CB) : GFun P w K mg base "require_limit" 2 (FRequireLimit K) :=
  gfun_mk (N := ["book", "k"]) (k := 1) T.d_require_limit ["book", "k"] ⟨rfl, rfl, rfl, by decide +kernel, rfl, by decide +kernel, by decide +kernel⟩ (fun _ _ _ _ _ _ us hl => match us, hl with | [_, _], _ => rfl) (fun _ _ h => by cases h <;> rfl) fun f cdv A outer s H E0 g Es E hF => by
    cases hF with
    | mk b i h h' =>
      exact .inr ⟨_, dn_one (ds_skip <| dt_w <| dw_orF (nt (de_call (ok_is_number T) g (da_cons (de_var 1) da_nil) (.mk i h))) <| dw_or1 <| cmp (dc_ge (de_var 1) (de_lenT T.B (ds := b.limits.map limitD) (de_ixTc (de_var 0)))) (decide_eq_false (by rw [List.length_map]; omega))), rfl⟩
inductive FRequireRow (K : PySem.W.Frag) : Fn
  | mk (b : Bk) (i : Int) (h : 0 ≤ i) (h' : i < b.rows.length) : FRequireRow K [dat K (bkD b), dat K (.int i)] (dat K .none)
theorem ok_require_row (T : Txt K mg CA CW CB) : GFun P w K mg base "require_row" 2 (FRequireRow K) :=
  gfun_mk (N := ["book", "t"]) (k := 1) T.d_require_row ["book", "t"] ⟨rfl, rfl, rfl, by decide +kernel, rfl, by decide +kernel, by decide +kernel⟩ (fun _ _ _ _ _ _ us hl => match us, hl with | [_, _], _ => rfl) (fun _ _ h => by cases h <;> rfl) fun f cdv A outer s H E0 g Es E hF => by
    cases hF with
    | mk b i h h' =>
      exact .inr ⟨_, dn_one (ds_skip <| dt_w <| dw_orF (nt (de_call (ok_is_number T) g (da_cons (de_var 1) da_nil) (.mk i h))) <| dw_or1 <| cmp (dc_ge (de_var 1) (de_lenT T.B (ds := b.rows.map rowD) (de_ixTc (de_var 0)))) (decide_eq_false (by rw [List.length_map]; omega))), rfl⟩
theorem row_at {b : Bk} {i : Int} {r : Rw} (h : b.rows[i.toNat]? = some r) : (b.rows.map rowD)[i.toNat]? = some (rowD r) := by rw [List.getElem?_map, h]; rfl
theorem limit_at {b : Bk} {i : Int} {r : Limit} (h : b.limits[i.toNat]? = some r) : (b.limits.map limitD)[i.toNat]? = some (limitD r) := by rw [List.getElem?_map, h]; rfl
theorem lt_of_at {α : Type} {l : List α} {i : Int} {r : α} (h0 : 0 ≤ i) (h : l[i.toNat]? = some r) : i < l.length := by
  have := (List.getElem?_eq_some_iff.mp h).1
  omega
inductive FPayers (K : PySem.W.Frag) : Fn
  | mk (b : Bk) (i : Int) (r : Rw) (h : b.purses.length ≤ 100) (h0 : 0 ≤ i) (hr : b.rows[i.toNat]? = some r) : FPayers K [dat K (bkD b), dat K (.int i)] (dat K (strsD (namesPaying b.purses r.day r.kind)))
theorem ok_payers (T : Txt K mg CA CW CB) : GFun P w K mg base "payers" 3 (FPayers K) :=
  gfun_mk (N := ["book", "t", "word", "day", "kind", "rest"]) (k := 2) T.d_payers ["book", "t"] ⟨rfl, rfl, rfl, by decide +kernel, rfl, by decide +kernel, by decide +kernel⟩ (fun _ _ _ _ _ _ us hl => match us, hl with | [_, _], _ => rfl) (fun _ _ h => by cases h <;> rfl) fun f cdv A outer s H E0 g Es E hF => by
    cases hF with
    | mk b i r h h0 hr =>
      exact .inl (dr_cons (ds_expr (de_call (ok_require_row T) g (da_cons (de_var 0) (da_cons (de_var 1) da_nil)) (.mk b i h0 (lt_of_at h0 hr)))) <| dr_cons (ds_asg (de_ixTi h0 (row_at hr) (de_ixTc (de_var 0)) (de_var 1)) (pg_tupK (K := K) (m := 4) rfl (pgs_cons (pg_name (i := 2) (by exact g.nd) rfl (by first | exact Or.inl rfl | exact Or.inr rfl)) (pgs_cons (pg_name (i := 3) (by exact g.nd) rfl (by first | exact Or.inl rfl | exact Or.inr rfl)) (pgs_cons (pg_name (i := 4) (by exact g.nd) rfl (by first | exact Or.inl rfl | exact Or.inr rfl)) (pgs_cons (pg_name (i := 5) (by exact g.nd) rfl (by first | exact Or.inl rfl | exact Or.inr rfl)) pgs_nil))))) (gb_tup (gbs_cons (gbn 2) (gbs_cons (gbn 3) (gbs_cons (gbn 4) (gbs_cons (gbn 5) gbs_nil)))) rfl)) <|
        dr_ret (de_call (ok_names_paying T) g (da_cons (de_ixTc (de_var 0)) (da_cons (de_var 3) (da_cons (de_var 4) da_nil))) (.mk b.purses r.day r.kind h)))
inductive FOpenRows (K : PySem.W.Frag) : Fn
  | mk (b : Bk) (h : b.rows.length ≤ 100) : FOpenRows K [dat K (bkD b)] (dat K (intsD (openRows b)))
theorem ok_open_rows (T : Txt K mg CA CW CB) : GFun P w K mg base "open_rows" 1 (FOpenRows K) :=
  gfun_mk (N := ["book", "t", "row"]) (k := 0) T.d_open_rows ["book"] ⟨rfl, rfl, rfl, by decide +kernel, rfl, by decide +kernel, by decide +kernel⟩ (fun _ _ _ _ _ _ us hl => match us, hl with | [_], _ => rfl) (fun _ _ h => by cases h <;> rfl) fun f cdv A outer s H E0 g Es E hF => by
    cases hF with
    | mk b h =>
      obtain ⟨tb, mb⟩ := T.g_BUY
      refine .inl (dr_ret (de_is (de_tupleL T.B (de_ld (de_lc g (xs := b.rows.zipIdx) (f0 := fun p => .tuple [.int (p.2 : Nat), rowD p.1]) (fun p => p.1.isBuy) (fun p => .int (p.2 : Nat)) (di_is (di_enumT T.B (de_ixTc (de_var 0))) (enumD_map _ _)) (blkOk_by (own := [("t", 1), ("row", 2)]) (N := ["book", "t", "row"]) (sc := defScope (top 37)) (by decide +kernel)) (fun _ _ _ _ _ => pg_tupK (K := K) (m := 2) rfl (pgs_cons (pg_name (i := 1) (by exact g.nd) rfl (by first | exact Or.inl rfl | exact Or.inr rfl)) (pgs_cons (pg_name (i := 2) (by exact g.nd) rfl (by first | exact Or.inl rfl | exact Or.inr rfl)) pgs_nil))) (fun x _ => gb_tup (gbs_cons (gbn 1) (gbs_cons (gbn 2) gbs_nil)) rfl)
        (fun _ _ _ _ _ p hp => dts_one (dt_c (dc_eqS (de_ixTc (de_var 2)) (de_gstr rfl mb)))) (fun _ _ _ _ _ p hp _ => de_var 1) (fun _ _ _ => rfl) (by rw [List.length_zipIdx]; omega)))) ?_))
      unfold intsD openRows
      rw [List.map_map]
      rfl
inductive FAmountOf (K : PySem.W.Frag) : Fn
  | mk (b : Bk) (i : Int) (r : Rw) (h0 : 0 ≤ i) (hr : b.rows[i.toNat]? = some r) : FAmountOf K [dat K (bkD b), dat K (.int i)] (dat K (.int r.amount))
theorem ok_amount_of (T : Txt K mg CA CW CB) : GFun P w K mg base "amount_of" 3 (FAmountOf K) :=
  gfun_mk (N := ["book", "t", "word", "day", "kind", "rest"]) (k := 2) T.d_amount_of ["book", "t"] ⟨rfl, rfl, rfl, by decide +kernel, rfl, by decide +kernel, by decide +kernel⟩ (fun _ _ _ _ _ _ us hl => match us, hl with | [_, _], _ => rfl) (fun _ _ h => by cases h <;> rfl) fun f cdv A outer s H E0 g Es E hF => by
    cases hF with
    | mk b i r h0 hr =>
      obtain ⟨tb, mb⟩ := T.g_BUY
      refine .inl (dr_cons (ds_expr (de_call (ok_require_row T) g (da_cons (de_var 0) (da_cons (de_var 1) da_nil)) (.mk b i h0 (lt_of_at h0 hr)))) <| dr_cons (ds_asg (de_ixTi h0 (row_at hr) (de_ixTc (de_var 0)) (de_var 1)) (pg_tupK (K := K) (m := 4) rfl (pgs_cons (pg_name (i := 2) (by exact g.nd) rfl (by first | exact Or.inl rfl | exact Or.inr rfl)) (pgs_cons (pg_name (i := 3) (by exact g.nd) rfl (by first | exact Or.inl rfl | exact Or.inr rfl)) (pgs_cons (pg_name (i := 4) (by exact g.nd) rfl (by first | exact Or.inl rfl | exact Or.inr rfl)) (pgs_cons (pg_name (i := 5) (by exact g.nd) rfl (by first | exact Or.inl rfl | exact Or.inr rfl)) pgs_nil))))) (gb_tup (gbs_cons (gbn 2) (gbs_cons (gbn 3) (gbs_cons (gbn 4) (gbs_cons (gbn 5) gbs_nil)))) rfl)) <| dr_ret ?_)
      cases r with
      | buy d k a => exact de_ifT (cmp (dc_eqS (de_var 2) (de_gstr rfl mb)) (decide_eq_true rfl)) (de_var 5)
      | paid d k s => exact de_ifF (cmp (dc_eqS (de_var 2) (de_gstr rfl mb)) (decide_eq_false (show ¬ ("paid" : Str) = "buy" by decide +kernel))) (de_sumT T.B g (de_var 5))
end
end Lc
end
section
/-! The module bookparts, the rest. -/
namespace Lc
open PySem L2
section
variable {P : Program} {w : World} {K : PySem.W.Frag} {mg : Str → Option Value} {base : Heap} {CA CW CB : Addr}
theorem mem_at {α : Type} {l : List α} {n : Nat} {x : α} (h : l[n]? = some x) : x ∈ l := List.mem_of_getElem? h
inductive FPaidBy (K : PySem.W.Frag) : Fn
  | mk (b : Bk) (z : Str) (n : Nat) (h : BkOk b) (hz : NameOk z) (hn : (b.purses.map (·.name))[n]? = some z) (hno : ∀ m, m < n → (b.purses.map (·.name))[m]? ≠ some z) (hs : ∀ r ∈ b.rows, r.isPaid = true → n < r.shares.length) : FPaidBy K [dat K (bkD b), dat K (.str z)] (dat K (.int (paidAt b n)))
theorem ok_paid_by (T : Txt K mg CA CW CB) : GFun P w K mg base "paid_by" 3 (FPaidBy K) :=
  gfun_mk (N := ["book", "purse", "purses", "limits", "rows", "spot", "own", "row"]) (k := 2) T.d_paid_by ["book", "purse"] ⟨rfl, rfl, rfl, by decide +kernel, rfl, by decide +kernel, by decide +kernel⟩ (fun _ _ _ _ _ _ us hl => match us, hl with | [_, _], _ => rfl) (fun _ _ h => by cases h <;> rfl) fun f cdv A outer s H E0 g Es E hF => by
    cases hF with
    | mk b z n h hz hn hno hs =>
      obtain ⟨tp, mp⟩ := T.g_PAID
      have h1 := h.nr
      have h2 := h.np
      refine .inl (dr_cons (ds_expr (de_call (ok_require_purse T) g (da_cons (de_var 0) (da_cons (de_var 1) da_nil)) (.mk b z h2 hz (mem_at hn)))) <| dr_cons (ds_asg (de_var 0) (pg_tupK (K := K) (m := 3) rfl (pgs_cons (pg_name (i := 2) (by exact g.nd) rfl (by first | exact Or.inl rfl | exact Or.inr rfl)) (pgs_cons (pg_name (i := 3) (by exact g.nd) rfl (by first | exact Or.inl rfl | exact Or.inr rfl)) (pgs_cons (pg_name (i := 4) (by exact g.nd) rfl (by first | exact Or.inl rfl | exact Or.inr rfl)) pgs_nil)))) (gb_tup (gbs_cons (gbn 2) (gbs_cons (gbn 3) (gbs_cons (gbn 4) gbs_nil))) rfl)) <|
        dr_cons (ds_set g 5 (de_index (l := b.purses.map (·.name)) (de_is (de_ld (de_lcA g (xs := b.purses) (f0 := purseD) (fun p => .str p.name) (di_T (de_var 2)) (blkOk_by (own := [("own", 6)]) (N := ["book", "purse", "purses", "limits", "rows", "spot", "own", "row"]) (sc := defScope (top 39)) (by decide +kernel)) (fun _ _ _ _ _ => (pg_name (i := 6) (by exact g.nd) rfl (by first | exact Or.inl rfl | exact Or.inr rfl))) (fun x _ => gbn 6) (fun _ _ _ _ _ p hp => de_ixTc (de_var 6)) (fun _ _ => rfl) (by omega))) (congrArg PyData.list (names_map _))) (de_var 1) hn hno)) <| ?_)
      refine dr_ret (de_sumX T.B g (de_lc g (xs := b.rows) (f0 := rowD) Rw.isPaid (fun r => .int (r.shares.getD n 0)) (di_T (de_var 4)) (blkOk_by (own := [("row", 7)]) (N := ["book", "purse", "purses", "limits", "rows", "spot", "own", "row"]) (sc := defScope (top 39)) (by decide +kernel)) (fun _ _ _ _ _ => (pg_name (i := 7) (by exact g.nd) rfl (by first | exact Or.inl rfl | exact Or.inr rfl))) (fun x _ => gbn 7)
        (fun _ _ _ _ _ r hr => dts_one (dt_c (dc_eqS (de_ixTc (de_var 7)) (de_gstr rfl mp)))) (fun _ _ _ _ _ r hr hp => ?_) (fun _ _ _ => rfl) (by omega)))
      exact de_ixT (n := n) (ds := r.shares.map PyData.int) (de_is (de_ixTc (de_var 7)) (isPaid_rest hp)) (de_var 5) (by rw [List.getElem?_map, List.getD_eq_getElem?_getD, List.getElem?_eq_getElem (hs r hr hp)]; rfl)
theorem range_box (n : Str) (first last : Int) (m : Nat) (h : (last + 1 - first).toNat = m) : rangeD first 1 m = ((List.range (last + 1 - first).toNat).map fun (i : Nat) => (n, first + (i : Int))).map fun s => PyData.int s.2 := by
  unfold rangeD
  rw [h, List.map_map]
  exact List.map_congr_left fun i _ => by simp
theorem range_ints (first : Int) (m : Nat) : rangeD first 1 m = (List.range m).map fun (i : Nat) => PyData.int (first + (i : Int)) := by
  unfold rangeD
  exact List.map_congr_left fun i _ => by simp
theorem box_eq (names : List Str) (first last : Int) : (names.flatMap fun n => (List.range (last + 1 - first).toNat).map fun (i : Nat) => slotD (n, first + (i : Int))) = (boxOf names first last).map slotD := by
  unfold boxOf
  rw [List.map_flatMap]
  simp only [List.map_map]
  rfl
structure BoxOk (names : List Str) (first last : Int) : Prop where
  few : names.length ≤ 100
  lo : 0 ≤ first
  hi : last ≤ 1000
inductive FAreaOf (K : PySem.W.Frag) : Fn
  | mk (b : Bk) (i : Int) (l : Limit) (h0 : 0 ≤ i) (hl : b.limits[i.toNat]? = some l) (hb : BoxOk l.names l.first l.last) (hx : l.first ≤ l.last) : FAreaOf K [dat K (bkD b), dat K (.int i)] (dat K (slotsD (areaOf l)))
theorem ok_area_of (T : Txt K mg CA CW CB) : GFun P w K mg base "area_of" 3 (FAreaOf K) :=
  gfun_mk (N := ["book", "k", "names", "first", "last", "cap", "name", "day"]) (k := 2) T.d_area_of ["book", "k"] ⟨rfl, rfl, rfl, by decide +kernel, rfl, by decide +kernel, by decide +kernel⟩ (fun _ _ _ _ _ _ us hl => match us, hl with | [_, _], _ => rfl) (fun _ _ h => by cases h <;> rfl) fun f cdv A outer s H E0 g Es E hF => by
    cases hF with
    | mk b i l h0 hl hb hx =>
      have h1 := hb.few
      have h2 := hb.lo
      have h3 := hb.hi
      refine .inl (dr_cons (ds_expr (de_call (ok_require_limit T) g (da_cons (de_var 0) (da_cons (de_var 1) da_nil)) (.mk b i h0 (lt_of_at h0 hl)))) <| dr_cons (ds_asg (de_ixTi h0 (limit_at hl) (de_ixTc (de_var 0)) (de_var 1)) (pg_tupK (K := K) (m := 4) rfl (pgs_cons (pg_name (i := 2) (by exact g.nd) rfl (by first | exact Or.inl rfl | exact Or.inr rfl)) (pgs_cons (pg_name (i := 3) (by exact g.nd) rfl (by first | exact Or.inl rfl | exact Or.inr rfl)) (pgs_cons (pg_name (i := 4) (by exact g.nd) rfl (by first | exact Or.inl rfl | exact Or.inr rfl)) (pgs_cons (pg_name (i := 5) (by exact g.nd) rfl (by first | exact Or.inl rfl | exact Or.inr rfl)) pgs_nil))))) (gb_tup (gbs_cons (gbn 2) (gbs_cons (gbn 3) (gbs_cons (gbn 4) (gbs_cons (gbn 5) gbs_nil)))) rfl)) <|
        dr_ret (de_is (de_tupleL T.B (de_ld (de_lc2 g (xs := l.names) (f0 := PyData.str) (fun _ => List.range (l.last + 1 - l.first).toNat) (fun _ (i : Nat) => .int (l.first + (i : Int))) (fun n (i : Nat) => slotD (n, l.first + (i : Int))) (vs1 := [7]) (m := 1001) (di_T (de_var 2)) (blkOk_by (own := [("name", 6), ("day", 7)]) (N := ["book", "k", "names", "first", "last", "cap", "name", "day"]) (sc := defScope (top 40)) (by decide +kernel)) (by decide) (fun _ _ _ _ _ => (pg_name (i := 6) (by exact g.nd) rfl (by first | exact Or.inl rfl | exact Or.inr rfl))) (fun x _ => gbtn 6 rfl)
          (fun _ _ _ _ _ x hx => dit_is (dit_range2 T.B (by omega) (by omega) (by omega) (by omega) rfl (de_var 3) (de_add (de_var 4) de_int)) (range_ints _ _)) (fun _ _ _ _ _ => (pg_name (i := 7) (by exact g.nd) rfl (by first | exact Or.inl rfl | exact Or.inr rfl))) (fun x _ y _ => gbn 7)
          (fun _ _ _ _ _ x hx y hy => de_tup (dd_cons (de_var 6) (dd_cons (de_var 7) dd_nil))) (fun _ _ _ _ => rfl) (fun x _ => by rw [List.length_range]; omega) (by omega)))) (congrArg PyData.tuple (box_eq _ _ _))))
inductive FLeftOf (K : PySem.W.Frag) : Fn
  | mk (b : Bk) (i : Int) (l : Limit) (h : BkOk b) (h0 : 0 ≤ i) (hl : b.limits[i.toNat]? = some l) : FLeftOf K [dat K (bkD b), dat K (.int i)] (dat K (.int (leftOf b l)))
theorem ok_left_of (T : Txt K mg CA CW CB) : GFun P w K mg base "left_of" 3 (FLeftOf K) :=
  gfun_mk (N := ["book", "k"]) (k := 2) T.d_left_of ["book", "k"] ⟨rfl, rfl, rfl, by decide +kernel, rfl, by decide +kernel, by decide +kernel⟩ (fun _ _ _ _ _ _ us hl => match us, hl with | [_, _], _ => rfl) (fun _ _ h => by cases h <;> rfl) fun f cdv A outer s H E0 g Es E hF => by
    cases hF with
    | mk b i l h h0 hl =>
      exact .inl (dr_cons (ds_expr (de_call (ok_require_limit T) g (da_cons (de_var 0) (da_cons (de_var 1) da_nil)) (.mk b i h0 (lt_of_at h0 hl)))) <|
        dr_ret (de_sub (de_ixTc (ds := [strsD l.names, .int l.first, .int l.last, .int l.cap]) (de_ixTi h0 (limit_at hl) (de_ixTc (de_var 0)) (de_var 1))) (de_call (ok_paid_within T) g (da_cons (de_var 0) (da_cons (de_ixTi h0 (limit_at hl) (de_ixTc (de_var 0)) (de_var 1)) da_nil)) (.mk b l h))))
theorem prs_alike (l : List Pr) : PySem.W.AllAlike (l.map prD) := PySem.W.AllAlike.of fun b b' => rfl
theorem prs_sortable (l : List Pr) : PySem.W.Sortable (l.map prD) := PySem.W.Sortable.tuples fun b => ⟨_, _, rfl⟩
theorem merge_prs (l : List Pr) : (l.map prD).mergeSort leD = (l.mergeSort lePr).map prD := by
  symm
  exact List.map_mergeSort (f := prD) (r := lePr) (s := leD) fun a _ b _ => rfl
inductive FLimitsOver (K : PySem.W.Frag) : Fn
  | mk (b : Bk) (z : Str) (i : Int) (h : BkOk b) (hz : NameOk z) (hm : z ∈ b.purses.map (·.name)) (h0 : 0 ≤ i) : FLimitsOver K [dat K (bkD b), dat K (.str z), dat K (.int i)] (dat K (intsD (limitsOver b z i)))
theorem ok_limits_over (T : Txt K mg CA CW CB) : GFun P w K mg base "limits_over" 3 (FLimitsOver K) :=
  gfun_mk (N := ["book", "purse", "day", "found", "k", "limit", "size"]) (k := 2) T.d_limits_over ["book", "purse", "day"] ⟨rfl, rfl, rfl, by decide +kernel, rfl, by decide +kernel, by decide +kernel⟩ (fun _ _ _ _ _ _ us hl => match us, hl with | [_, _, _], _ => rfl) (fun _ _ h => by cases h <;> rfl) fun f cdv A outer s H E0 g Es E hF => by
    cases hF with
    | mk b z i h hz hm h0 =>
      have h1 := h.nl
      have h2 := h.np
      have h3 : (overs b z i).length ≤ 1000000 := by
        unfold overs
        rw [List.length_map]
        refine Nat.le_trans (List.length_filter_le _ _) ?_
        rw [List.length_zipIdx]
        omega
      refine .inl (dr_cons (ds_expr (de_call (ok_require_purse T) g (da_cons (de_var 0) (da_cons (de_var 1) da_nil)) (.mk b z h2 hz hm))) <| dr_cons (ds_expr (de_call (ok_require_day T) g (da_cons (de_var 2) da_nil) (.mk i h0))) <|
        dr_cons (ds_setLc g 3 (xs := b.limits.zipIdx) (f0 := fun q => .tuple [.int (q.2 : Nat), limitD q.1]) (fun q => covers q.1 z i) (fun q => prD (sizeOf q.1, (q.2 : Int))) (di_is (di_enumT T.B (de_ixTc (de_var 0))) (enumD_map _ _)) (blkOk_by (own := [("k", 4), ("limit", 5)]) (N := ["book", "purse", "day", "found", "k", "limit", "size"]) (sc := defScope (top 42)) (by decide +kernel)) (fun _ _ _ _ _ => pg_tupK (K := K) (m := 2) rfl (pgs_cons (pg_name (i := 4) (by exact g.nd) rfl (by first | exact Or.inl rfl | exact Or.inr rfl)) (pgs_cons (pg_name (i := 5) (by exact g.nd) rfl (by first | exact Or.inl rfl | exact Or.inr rfl)) pgs_nil))) (fun x _ => gb_tup (gbs_cons (gbn 4) (gbs_cons (gbn 5) gbs_nil)) rfl)
          (fun _ _ _ _ _ q hq => dts_one (dt_val (de_call (ok_covers T) (g.blk _ _ _ _ _) (da_cons (de_var 5) (da_cons (de_var 1) (da_cons (de_var 2) da_nil))) (.mk q.1 z i))))
          (fun _ _ _ _ _ q hq hp => de_tup (dd_cons (de_call (ok_size_of T) (g.blk _ _ _ _ _) (da_cons (de_var 5) da_nil) (.mk q.1 ((h.limits q.1 (List.fst_mem_of_mem_zipIdx hq)).names.few))) (dd_cons (de_var 4) dd_nil))) (fun _ _ _ => rfl) (by rw [List.length_zipIdx]; omega)) <| ?_)
      refine dr_ret (de_is (de_tupleL T.B (de_ld (de_lcA g (xs := (overs b z i).mergeSort lePr) (f0 := prD) (fun q => .int q.2) (di_is (di_L (de_ld (de_sorted T.B g (ds := (overs b z i).map prD) (.inl (de_is (de_ld (de_var 3)) ?_)) (prs_alike _) (prs_sortable _) (fun d hd => ?_) (by rw [List.length_map]; exact h3)))) (merge_prs _)) (blkOk_by (own := [("size", 6), ("k", 4)]) (N := ["book", "purse", "day", "found", "k", "limit", "size"]) (sc := defScope (top 42)) (by decide +kernel)) (fun _ _ _ _ _ => pg_tupK (K := K) (m := 2) rfl (pgs_cons (pg_name (i := 6) (by exact g.nd) rfl (by first | exact Or.inl rfl | exact Or.inr rfl)) (pgs_cons (pg_name (i := 4) (by exact g.nd) rfl (by first | exact Or.inl rfl | exact Or.inr rfl)) pgs_nil))) (fun x _ => gb_tup (gbs_cons (gbn 6) (gbs_cons (gbn 4) gbs_nil)) rfl)
        (fun _ _ _ _ _ q hq => de_var 4) (fun _ _ => rfl) (by rw [List.length_mergeSort]; exact h3)))) ?_)
      · unfold overs
        rw [List.map_map]
        rfl
      · obtain ⟨q, _, rfl⟩ := List.mem_map.mp hd
        exact Nat.le_of_ble_eq_true rfl
      · unfold limitsOver intsD
        rw [List.map_map]
        rfl
end
end Lc
end
section
/-! Books that are valid. -/
namespace Lc
open PySem L2
def namesOf (b : Bk) : List Str := b.purses.map (·.name)
def pairsOf (b : Bk) : List (Str × Str) := b.purses.map fun p => (p.name, p.sponsor)
def sponsorOf (b : Bk) (n : Str) : Option (Str × Str) := (pairsOf b).find? fun q => decide (q.1 = n)
def apart (x y : Limit) : Bool := decide (x.last < y.first) || (decide (y.last < x.first) || !(x.names.any fun n => decide (n ∈ y.names)))
def within (x y : Limit) : Bool := decide (y.first ≤ x.first) && (decide (x.last ≤ y.last) && x.names.all fun n => decide (n ∈ y.names))
def nested (x y : Limit) : Bool := apart x y || (within x y != within y x)
def sharesOk (b : Bk) (r : Rw) : Prop := r.shares.length = b.purses.length ∧ ∀ q ∈ b.purses.zip r.shares, q.2 = 0 ∨ q.1.name ∈ namesPaying b.purses r.day r.kind
structure Valid (b : Bk) : Prop extends BkOk b where
  ne : b.purses ≠ []
  asc : Asc (namesOf b)
  known : ∀ l ∈ b.limits, ∀ n ∈ l.names, n ∈ namesOf b
  spons : ∀ l ∈ b.limits, ∀ n ∈ l.names, ∀ m ∈ l.names, ∀ x y, sponsorOf b n = some x → sponsorOf b m = some y → x.2 = y.2
  nest : ∀ (j k : Nat) (x y : Limit), j < k → b.limits[j]? = some x → b.limits[k]? = some y → nested x y = true
  shares : ∀ r ∈ b.rows, r.isPaid = true → sharesOk b r
  over : ∀ l ∈ b.limits, paidWithin b l ≤ l.cap
theorem lt_trans_nat {a b c : List Nat} (h : a < b) (h' : b < c) : a < c := List.lt_trans h h'
theorem asc_head : ∀ {l : List Str} {a : Str}, Asc (a :: l) → ∀ x ∈ l, a.cps.toList < x.cps.toList
  | [], _, _, _, h => by cases h
  | b :: r, a, h, x, hx => by
    have h1 : a.cps.toList < b.cps.toList := of_decide_eq_true h.1
    rcases List.mem_cons.mp hx with rfl | hx
    · exact h1
    · exact lt_trans_nat h1 (asc_head h.2 x hx)
theorem asc_tail {l : List Str} {a : Str} (h : Asc (a :: l)) : Asc l := by
  cases l with
  | nil => exact True.intro
  | cons b r => exact h.2
theorem asc_nodup : ∀ {l : List Str}, Asc l → l.Nodup
  | [], _ => List.nodup_nil
  | a :: l, h => by
    rw [List.nodup_cons]
    refine ⟨fun q => ?_, asc_nodup (asc_tail h)⟩
    exact List.lt_irrefl _ (asc_head h a q)
theorem pairs_fst (b : Bk) : (pairsOf b).map (·.1) = namesOf b := by
  unfold pairsOf namesOf
  rw [List.map_map]
  rfl
theorem sponsor_some {b : Bk} {n : Str} (h : n ∈ namesOf b) : ∃ q, sponsorOf b n = some q := by
  unfold sponsorOf
  rw [← pairs_fst, List.mem_map] at h
  obtain ⟨q, hq, rfl⟩ := h
  cases e : (pairsOf b).find? fun p => decide (p.1 = q.1) with
  | some p => exact ⟨p, rfl⟩
  | none =>
    rw [List.find?_eq_none] at e
    exact absurd (decide_eq_true rfl) (e q hq)
end Lc
end
section
/-! The module bookchecker. -/
namespace Lc
open PySem L2
section
variable {P : Program} {w : World} {K : PySem.W.Frag} {mg : Str → Option Value} {base : Heap} {CA CW CB : Addr}
inductive FRequire (K : PySem.W.Frag) : Fn
  | mk (E F : Ent) : FRequire K [dat K (.bool true), E, F] (dat K .none)
theorem ok_require (T : Txt K mg CA CW CB) : GFun P w K mg base "require" 1 (FRequire K) :=
  gfun_mk (N := ["condition", "word", "at"]) (k := 0) T.d_require ["condition", "word", "at"] ⟨rfl, rfl, rfl, by decide +kernel, rfl, by decide +kernel, by decide +kernel⟩ (fun _ _ _ _ _ _ us hl => match us, hl with | [_, _, _], _ => rfl) (fun _ _ h => by cases h <;> rfl) fun f cdv A outer s H E0 g Es E hF => by
    cases hF with
    | mk E F => exact .inr ⟨_, dn_one (ds_skip (nt (de_var 0))), rfl⟩
inductive FHasShape (K : PySem.W.Frag) : Fn
  | mk (b : Bk) (h : BkOk b) : FHasShape K [dat K (bkD b)] (dat K (.bool true))
theorem ok_has_book_shape (T : Txt K mg CA CW CB) : GFun P w K mg base "has_book_shape" 4 (FHasShape K) :=
  gfun_mk (N := ["thing", "purses", "limits", "rows", "part", "own"]) (k := 3) T.d_has_book_shape ["thing"] ⟨rfl, rfl, rfl, by decide +kernel, rfl, by decide +kernel, by decide +kernel⟩ (fun _ _ _ _ _ _ us hl => match us, hl with | [_], _ => rfl) (fun _ _ h => by cases h <;> rfl) fun f cdv A outer s H E0 g Es E hF => by
    cases hF with
    | mk b h =>
      have h1 := h.np
      have h2 := h.nl
      have h3 := h.nr
      refine .inl (dr_cons (ds_skip <| dt_w <| dw_orF (nt (de_isTuple T.B (de_var 0))) <| dw_orF (cmp (dc_neI (de_lenT T.B (ds := [pursesD b.purses, limitsD b.limits, rowsD b.rows]) (de_var 0)) de_int)) <| dw_or1 <| nt (de_b (de_allX T.B g (de_lcA g (xs := [b.purses.map purseD, b.limits.map limitD, b.rows.map rowD]) (f0 := PyData.tuple) (fun _ => .bool true) (di_T (de_var 0)) (blkOk_by (own := [("part", 4)]) (N := ["thing", "purses", "limits", "rows", "part", "own"]) (sc := defScope (top 45)) (by decide +kernel)) (fun _ _ _ _ _ => (pg_name (i := 4) (by exact g.nd) rfl (by first | exact Or.inl rfl | exact Or.inr rfl))) (fun x _ => gbn 4)
        (fun _ _ _ _ _ x hx => de_isTuple T.B (de_var 4)) (fun _ _ => rfl) (by simp))) (by simp))) <| dr_cons (ds_asg (de_var 0) (pg_tupK (K := K) (m := 3) rfl (pgs_cons (pg_name (i := 1) (by exact g.nd) rfl (by first | exact Or.inl rfl | exact Or.inr rfl)) (pgs_cons (pg_name (i := 2) (by exact g.nd) rfl (by first | exact Or.inl rfl | exact Or.inr rfl)) (pgs_cons (pg_name (i := 3) (by exact g.nd) rfl (by first | exact Or.inl rfl | exact Or.inr rfl)) pgs_nil)))) (gb_tup (gbs_cons (gbn 1) (gbs_cons (gbn 2) (gbs_cons (gbn 3) gbs_nil))) rfl)) <| dr_cons (ds_skip <| dt_w <|
        dw_orF (nt (de_b (de_allX T.B g (de_lcA g (xs := b.purses) (f0 := purseD) (fun _ => .bool true) (di_T (de_var 1)) (blkOk_by (own := [("own", 5)]) (N := ["thing", "purses", "limits", "rows", "part", "own"]) (sc := defScope (top 45)) (by decide +kernel)) (fun _ _ _ _ _ => (pg_name (i := 5) (by exact g.nd) rfl (by first | exact Or.inl rfl | exact Or.inr rfl))) (fun x _ => gbn 5)
          (fun _ _ _ _ _ x hx => de_call (ok_is_purse T) (g.blk _ _ _ _ _) (da_cons (de_var 5) da_nil) (.mk x (h.purses x hx))) (fun _ _ => rfl) (by omega))) (by simp))) <|
        dw_or1 (nt (de_b (de_allX T.B g (de_lcA g (xs := b.limits) (f0 := limitD) (fun _ => .bool true) (di_T (de_var 2)) (blkOk_by (own := [("own", 5)]) (N := ["thing", "purses", "limits", "rows", "part", "own"]) (sc := defScope (top 45)) (by decide +kernel)) (fun _ _ _ _ _ => (pg_name (i := 5) (by exact g.nd) rfl (by first | exact Or.inl rfl | exact Or.inr rfl))) (fun x _ => gbn 5)
          (fun _ _ _ _ _ x hx => de_call (ok_is_limit T) (g.blk _ _ _ _ _) (da_cons (de_var 5) da_nil) (.mk x (h.limits x hx))) (fun _ _ => rfl) (by omega))) (by simp)))) <|
        dr_ret (de_b (de_allX T.B g (de_lcA g (xs := b.rows) (f0 := rowD) (fun _ => .bool true) (di_T (de_var 3)) (blkOk_by (own := [("own", 5)]) (N := ["thing", "purses", "limits", "rows", "part", "own"]) (sc := defScope (top 45)) (by decide +kernel)) (fun _ _ _ _ _ => (pg_name (i := 5) (by exact g.nd) rfl (by first | exact Or.inl rfl | exact Or.inr rfl))) (fun x _ => gbn 5)
          (fun _ _ _ _ _ x hx => de_call (ok_is_row T) (g.blk _ _ _ _ _) (da_cons (de_var 5) da_nil) (.mk x (h.rows x hx))) (fun _ _ => rfl) (by omega))) (by simp)))
inductive FAreApart (K : PySem.W.Frag) : Fn
  | mk (x y : Limit) (h : x.names.length ≤ 1000) : FAreApart K [dat K (limitD x), dat K (limitD y)] (dat K (.bool (apart x y)))
theorem ok_are_apart (T : Txt K mg CA CW CB) : GFun P w K mg base "are_apart" 1 (FAreApart K) :=
  gfun_mk (N := ["one", "other", "name"]) (k := 0) T.d_are_apart ["one", "other"] ⟨rfl, rfl, rfl, by decide +kernel, rfl, by decide +kernel, by decide +kernel⟩ (fun _ _ _ _ _ _ us hl => match us, hl with | [_, _], _ => rfl) (fun _ _ h => by cases h <;> rfl) fun f cdv A outer s H E0 g Es E hF => by
    cases hF with
    | mk x y hx =>
      refine .inl (dr_if (dt_w (dw_or (cmp (dc_lt (de_ixTc (ds := [strsD x.names, .int x.first, .int x.last, .int x.cap]) (de_var 0)) (de_ixTc (ds := [strsD y.names, .int y.first, .int y.last, .int y.cap]) (de_var 1)))) fun _ => dw_or1 (cmp (dc_lt (de_ixTc (ds := [strsD y.names, .int y.first, .int y.last, .int y.cap]) (de_var 1)) (de_ixTc (ds := [strsD x.names, .int x.first, .int x.last, .int x.cap]) (de_var 0)))))) (fun e => ?_) fun e => ?_)
      · refine dr_ret (de_b de_bl ?_)
        unfold apart
        rw [← Bool.or_assoc, e]
        rfl
      · refine dr_ret (de_b (de_not (de_anyX T.B g (de_lcA g (xs := x.names) (f0 := PyData.str) (fun n => .bool (decide (n ∈ y.names))) (di_T (de_ixTc (ds := [strsD x.names, .int x.first, .int x.last, .int x.cap]) (de_var 0))) (blkOk_by (own := [("name", 2)]) (N := ["one", "other", "name"]) (sc := defScope (top 46)) (by decide +kernel)) (fun _ _ _ _ _ => (pg_name (i := 2) (by exact g.nd) rfl (by first | exact Or.inl rfl | exact Or.inr rfl))) (fun x _ => gbn 2)
          (fun _ _ _ _ _ n hn => de_c (dc_inTs (l := y.names) (g.blk _ _ _ _ _) (de_var 2) (de_ixTc (ds := [strsD y.names, .int y.first, .int y.last, .int y.cap]) (de_var 1)))) (fun _ _ => rfl) (by omega)))) ?_)
        unfold apart
        rw [← Bool.or_assoc, e]
        rfl
inductive FIsWithin (K : PySem.W.Frag) : Fn
  | mk (x y : Limit) (h : x.names.length ≤ 1000) : FIsWithin K [dat K (limitD x), dat K (limitD y)] (dat K (.bool (within x y)))
theorem ok_is_within (T : Txt K mg CA CW CB) : GFun P w K mg base "is_within" 1 (FIsWithin K) :=
  gfun_mk (N := ["one", "other", "name"]) (k := 0) T.d_is_within ["one", "other"] ⟨rfl, rfl, rfl, by decide +kernel, rfl, by decide +kernel, by decide +kernel⟩ (fun _ _ _ _ _ _ us hl => match us, hl with | [_, _], _ => rfl) (fun _ _ h => by cases h <;> rfl) fun f cdv A outer s H E0 g Es E hF => by
    cases hF with
    | mk x y hx =>
      exact .inl (dr_ret (de_and (de_c (dc_le (de_ixTc (ds := [strsD y.names, .int y.first, .int y.last, .int y.cap]) (de_var 1)) (de_ixTc (ds := [strsD x.names, .int x.first, .int x.last, .int x.cap]) (de_var 0)))) fun _ => de_and (de_c (dc_le (de_ixTc (ds := [strsD x.names, .int x.first, .int x.last, .int x.cap]) (de_var 0)) (de_ixTc (ds := [strsD y.names, .int y.first, .int y.last, .int y.cap]) (de_var 1)))) fun _ =>
        de_one (de_allX T.B g (de_lcA g (xs := x.names) (f0 := PyData.str) (fun n => .bool (decide (n ∈ y.names))) (di_T (de_ixTc (ds := [strsD x.names, .int x.first, .int x.last, .int x.cap]) (de_var 0))) (blkOk_by (own := [("name", 2)]) (N := ["one", "other", "name"]) (sc := defScope (top 47)) (by decide +kernel)) (fun _ _ _ _ _ => (pg_name (i := 2) (by exact g.nd) rfl (by first | exact Or.inl rfl | exact Or.inr rfl))) (fun x _ => gbn 2)
          (fun _ _ _ _ _ n hn => de_c (dc_inTs (l := y.names) (g.blk _ _ _ _ _) (de_var 2) (de_ixTc (ds := [strsD y.names, .int y.first, .int y.last, .int y.cap]) (de_var 1)))) (fun _ _ => rfl) (by omega)))))
inductive FAreNested (K : PySem.W.Frag) : Fn
  | mk (x y : Limit) (h : x.names.length ≤ 1000) (h' : y.names.length ≤ 1000) : FAreNested K [dat K (limitD x), dat K (limitD y)] (dat K (.bool (nested x y)))
theorem ok_are_nested (T : Txt K mg CA CW CB) : GFun P w K mg base "are_nested" 2 (FAreNested K) :=
  gfun_mk (N := ["one", "other"]) (k := 1) T.d_are_nested ["one", "other"] ⟨rfl, rfl, rfl, by decide +kernel, rfl, by decide +kernel, by decide +kernel⟩ (fun _ _ _ _ _ _ us hl => match us, hl with | [_, _], _ => rfl) (fun _ _ h => by cases h <;> rfl) fun f cdv A outer s H E0 g Es E hF => by
    cases hF with
    | mk x y hx hy =>
      exact .inl (dr_ret (de_or (de_call (ok_are_apart T) g (da_cons (de_var 0) (da_cons (de_var 1) da_nil)) (.mk x y hx)) fun _ => de_one (de_c (dc_neB (de_call (ok_is_within T) g (da_cons (de_var 0) (da_cons (de_var 1) da_nil)) (.mk x y hx)) (de_call (ok_is_within T) g (da_cons (de_var 1) (da_cons (de_var 0) da_nil)) (.mk y x hy))))))
inductive FCheckLimit (K : PySem.W.Frag) : Fn
  | mk (b : Bk) (i : Nat) (l : Limit) (h : Valid b) (hl : b.limits[i]? = some l) : FCheckLimit K [dat K (bkD b), dat K (.int (i : Nat))] (dat K .none)
theorem limit_atN {b : Bk} {i : Nat} {r : Limit} (h : b.limits[i]? = some r) : (b.limits.map limitD)[i]? = some (limitD r) := by rw [List.getElem?_map, h]; rfl
theorem row_atN {b : Bk} {i : Nat} {r : Rw} (h : b.rows[i]? = some r) : (b.rows.map rowD)[i]? = some (rowD r) := by rw [List.getElem?_map, h]; rfl
theorem ok_check_limit (T : Txt K mg CA CW CB) : GFun P w K mg base "check_limit" 3 (FCheckLimit K) :=
  gfun_mk (N := ["book", "k", "purses", "limits", "rows", "sponsors", "names", "j", "name", "sponsor", "kinds", "first", "last"]) (k := 2) T.d_check_limit ["book", "k"] ⟨rfl, rfl, rfl, by decide +kernel, rfl, by decide +kernel, by decide +kernel⟩ (fun _ _ _ _ _ _ us hl => match us, hl with | [_, _], _ => rfl) (fun _ _ h => by cases h <;> rfl) fun f cdv A outer s H E0 g Es E hF => by
    cases hF with
    | mk b i l h hl =>
      have h1 := h.np
      have h2 := h.nl
      have hlm := mem_at hl
      have h3 := (h.limits l hlm).names.few
      have hnd : ((b.purses.map fun p => (p.name, p.sponsor)).map (·.1)).Nodup := by
        have := pairs_fst b
        unfold pairsOf at this
        rw [this]
        exact asc_nodup h.asc
      have hi : i < b.limits.length := (List.getElem?_eq_some_iff.mp hl).1
      obtain ⟨n0, r0, hn0⟩ : ∃ n0 r0, l.names = n0 :: r0 := by
        cases e : l.names with
        | nil => exact absurd e (h.limits l hlm).names.ne
        | cons n r => exact ⟨n, r, rfl⟩
      obtain ⟨q0, hq0⟩ := sponsor_some (h.known l hlm n0 (by rw [hn0]; simp))
      refine .inr ⟨_, dn_cons (ds_asg (de_var 0) (pg_tupK (K := K) (m := 3) rfl (pgs_cons (pg_name (i := 2) (by exact g.nd) rfl (by first | exact Or.inl rfl | exact Or.inr rfl)) (pgs_cons (pg_name (i := 3) (by exact g.nd) rfl (by first | exact Or.inl rfl | exact Or.inr rfl)) (pgs_cons (pg_name (i := 4) (by exact g.nd) rfl (by first | exact Or.inl rfl | exact Or.inr rfl)) pgs_nil)))) (gb_tup (gbs_cons (gbn 2) (gbs_cons (gbn 3) (gbs_cons (gbn 4) gbs_nil))) rfl)) <| dn_cons (ds_set g 5 (de_dc g (xs := b.purses) (f0 := purseD) (fun p => p.name) (fun p => p.sponsor) (di_T (de_var 2)) (blkOk_by (own := [("name", 8), ("sponsor", 9), ("kinds", 10), ("first", 11), ("last", 12)]) (N := ["book", "k", "purses", "limits", "rows", "sponsors", "names", "j", "name", "sponsor", "kinds", "first", "last"]) (sc := defScope (top 49)) (by decide +kernel)) (fun _ _ _ _ _ => pg_tupK (K := K) (m := 5) rfl (pgs_cons (pg_name (i := 8) (by exact g.nd) rfl (by first | exact Or.inl rfl | exact Or.inr rfl)) (pgs_cons (pg_name (i := 9) (by exact g.nd) rfl (by first | exact Or.inl rfl | exact Or.inr rfl)) (pgs_cons (pg_name (i := 10) (by exact g.nd) rfl (by first | exact Or.inl rfl | exact Or.inr rfl)) (pgs_cons (pg_name (i := 11) (by exact g.nd) rfl (by first | exact Or.inl rfl | exact Or.inr rfl)) (pgs_cons (pg_name (i := 12) (by exact g.nd) rfl (by first | exact Or.inl rfl | exact Or.inr rfl)) pgs_nil)))))) (fun x _ => gb_tup (gbs_cons (gbn 8) (gbs_cons (gbn 9) (gbs_cons (gbn 10) (gbs_cons (gbn 11) (gbs_cons (gbn 12) gbs_nil))))) rfl)
          (fun _ _ _ _ _ p hp => de_var 8) (fun _ _ _ _ _ p hp => de_var 9) (by omega))) <|
        dn_cons (ds_set g 6 (de_ixTc (ds := [strsD l.names, .int l.first, .int l.last, .int l.cap]) (de_ixT (de_var 3) (de_var 1) (limit_atN hl)))) <|
        dn_cons (ds_expr (de_call (ok_require T) g (da_cons (de_b (de_allX T.B g (de_lcA g (xs := l.names) (f0 := PyData.str) (fun _ => .bool true) (di_T (de_var 6)) (blkOk_by (own := [("name", 8)]) (N := ["book", "k", "purses", "limits", "rows", "sponsors", "names", "j", "name", "sponsor", "kinds", "first", "last"]) (sc := defScope (top 49)) (by decide +kernel)) (fun _ _ _ _ _ => (pg_name (i := 8) (by exact g.nd) rfl (by first | exact Or.inl rfl | exact Or.inr rfl))) (fun x _ => gbn 8)
          (fun _ _ _ _ _ n hn => de_b (de_c (dc_inD (g.blk _ _ _ _ _) hnd (de_var 8) (de_var 5))) ?_) (fun _ _ => rfl) (by omega))) (by simp)) (da_cons de_str (da_cons (de_var 1) da_nil))) (.mk _ _))) <|
        dn_cons (ds_expr (de_call (ok_require T) g (da_cons (de_b (de_allX T.B g (de_lcA g (xs := l.names) (f0 := PyData.str) (fun _ => .bool true) (di_T (de_var 6)) (blkOk_by (own := [("name", 8)]) (N := ["book", "k", "purses", "limits", "rows", "sponsors", "names", "j", "name", "sponsor", "kinds", "first", "last"]) (sc := defScope (top 49)) (by decide +kernel)) (fun _ _ _ _ _ => (pg_name (i := 8) (by exact g.nd) rfl (by first | exact Or.inl rfl | exact Or.inr rfl))) (fun x _ => gbn 8)
          (fun _ _ _ _ _ n hn => ?_) (fun _ _ => rfl) (by omega))) (by simp)) (da_cons de_str (da_cons (de_var 1) da_nil))) (.mk _ _))) <|
        dn_one (ds_each g (xs := List.range i) (f0 := fun (j : Nat) => .int (j : Int)) [7] PassesOwn.never (di_is (di_range1 T.B (by omega) (de_var 1)) (range0 _)) (pg_name (i := 7) (by exact g.nd) rfl (by first | exact Or.inl rfl | exact Or.inr rfl)) (fun x _ => gbn 7) (fun j hj => ?_)), rfl⟩
      · obtain ⟨q, hq⟩ := sponsor_some (h.known l hlm n hn)
        unfold sponsorOf pairsOf at hq
        rw [hq]
        rfl
      · obtain ⟨q, hq⟩ := sponsor_some (h.known l hlm n hn)
        refine de_b (de_c (dc_eqS (de_dget (g.blk _ _ _ _ _) hnd (de_var 5) (de_var 8) hq) (de_dget (g.blk _ _ _ _ _) hnd (de_var 5) (de_ixTc (ds := l.names.map PyData.str) (d := .str n0) (de_var 6) (by rw [hn0]; rfl)) hq0))) ?_
        exact decide_eq_true (h.spons l hlm n hn n0 (by rw [hn0]; simp) q q0 hq hq0)
      · have hji : j < i := List.mem_range.mp hj
        obtain ⟨x, hx⟩ : ∃ x, b.limits[j]? = some x := ⟨b.limits[j]'(by omega), List.getElem?_eq_getElem (by omega)⟩
        exact lb <| dn_one (ds_expr (de_call (ok_require T) g (da_cons (de_b (de_call (ok_are_nested T) g (da_cons (de_ixT (de_var 3) (de_var 7) (limit_atN hx)) (da_cons (de_ixT (de_var 3) (de_var 1) (limit_atN hl)) da_nil)) (.mk x l (h.limits x (mem_at hx)).names.few h3)) (h.nest j i x l hji hx hl)) (da_cons de_str (da_cons (de_tup (dd_cons (de_var 7) (dd_cons (de_var 1) dd_nil))) da_nil))) (.mk _ _)))
inductive FCheckShares (K : PySem.W.Frag) : Fn
  | mk (b : Bk) (i : Nat) (r : Rw) (h : Valid b) (hr : b.rows[i]? = some r) (hp : r.isPaid = true) : FCheckShares K [dat K (bkD b), dat K (.int (i : Nat))] (dat K .none)
theorem ok_check_shares (T : Txt K mg CA CW CB) : GFun P w K mg base "check_shares" 2 (FCheckShares K) :=
  gfun_mk (N := ["book", "t", "purses", "limits", "rows", "word", "day", "kind", "shares", "paying", "own", "share"]) (k := 1) T.d_check_shares ["book", "t"] ⟨rfl, rfl, rfl, by decide +kernel, rfl, by decide +kernel, by decide +kernel⟩ (fun _ _ _ _ _ _ us hl => match us, hl with | [_, _], _ => rfl) (fun _ _ h => by cases h <;> rfl) fun f cdv A outer s H E0 g Es E hF => by
    cases hF with
    | mk b i r h hr hp =>
      have h1 := h.np
      obtain ⟨s1, s2⟩ := h.shares r (mem_at hr) hp
      refine .inr ⟨_, dn_cons (ds_asg (de_var 0) (pg_tupK (K := K) (m := 3) rfl (pgs_cons (pg_name (i := 2) (by exact g.nd) rfl (by first | exact Or.inl rfl | exact Or.inr rfl)) (pgs_cons (pg_name (i := 3) (by exact g.nd) rfl (by first | exact Or.inl rfl | exact Or.inr rfl)) (pgs_cons (pg_name (i := 4) (by exact g.nd) rfl (by first | exact Or.inl rfl | exact Or.inr rfl)) pgs_nil)))) (gb_tup (gbs_cons (gbn 2) (gbs_cons (gbn 3) (gbs_cons (gbn 4) gbs_nil))) rfl)) <| dn_cons (ds_asg (de_is (de_ixT (de_var 4) (de_var 1) (row_atN hr)) (show rowD r = .tuple [.str r.word, .int r.day, .str r.kind, intsD r.shares] by unfold rowD; rw [isPaid_rest hp])) (pg_tupK (K := K) (m := 4) rfl (pgs_cons (pg_name (i := 5) (by exact g.nd) rfl (by first | exact Or.inl rfl | exact Or.inr rfl)) (pgs_cons (pg_name (i := 6) (by exact g.nd) rfl (by first | exact Or.inl rfl | exact Or.inr rfl)) (pgs_cons (pg_name (i := 7) (by exact g.nd) rfl (by first | exact Or.inl rfl | exact Or.inr rfl)) (pgs_cons (pg_name (i := 8) (by exact g.nd) rfl (by first | exact Or.inl rfl | exact Or.inr rfl)) pgs_nil))))) (gb_tup (gbs_cons (gbn 5) (gbs_cons (gbn 6) (gbs_cons (gbn 7) (gbs_cons (gbn 8) gbs_nil)))) rfl)) <|
        dn_cons (ds_set g 9 (de_call (ok_names_paying T) g (da_cons (de_var 2) (da_cons (de_var 6) (da_cons (de_var 7) da_nil))) (.mk b.purses r.day r.kind h1))) <|
        dn_cons (ds_expr (de_call (ok_require T) g (da_cons (de_b (de_c (dc_eqI (de_lenT T.B (ds := r.shares.map PyData.int) (de_var 8)) (de_lenT T.B (ds := b.purses.map purseD) (de_var 2)))) (decide_eq_true (by rw [List.length_map, List.length_map, s1]))) (da_cons de_str (da_cons (de_var 1) da_nil))) (.mk _ _))) <|
        dn_one (ds_expr (de_call (ok_require T) g (da_cons (de_b (de_allX T.B g (de_lcA g (xs := b.purses.zip r.shares) (f0 := fun q => .tuple [purseD q.1, .int q.2]) (fun _ => .bool true) (di_is (di_zipT T.B (de_var 2) (de_var 8)) (zipD_map _ _ _ _)) (blkOk_by (own := [("own", 10), ("share", 11)]) (N := ["book", "t", "purses", "limits", "rows", "word", "day", "kind", "shares", "paying", "own", "share"]) (sc := defScope (top 50)) (by decide +kernel)) (fun _ _ _ _ _ => pg_tupK (K := K) (m := 2) rfl (pgs_cons (pg_name (i := 10) (by exact g.nd) rfl (by first | exact Or.inl rfl | exact Or.inr rfl)) (pgs_cons (pg_name (i := 11) (by exact g.nd) rfl (by first | exact Or.inl rfl | exact Or.inr rfl)) pgs_nil))) (fun x _ => gb_tup (gbs_cons (gbn 10) (gbs_cons (gbn 11) gbs_nil)) rfl)
          (fun _ _ _ _ _ q hq => ?_) (fun _ _ => rfl) (by rw [List.length_zip]; omega))) (by simp)) (da_cons de_str (da_cons (de_var 1) da_nil))) (.mk _ _))), rfl⟩
      refine de_b (de_or (de_c (dc_eqI (de_var 11) de_int)) fun _ => de_one (de_c (dc_inTs (l := namesPaying b.purses r.day r.kind) (g.blk _ _ _ _ _) (de_ixTc (ds := [.str q.1.name, .str q.1.sponsor, strsD q.1.kinds, .int q.1.first, .int q.1.last]) (de_var 10)) (de_var 9)))) ?_
      rw [Bool.or_eq_true, decide_eq_true_eq, decide_eq_true_eq]
      exact s2 q hq
inductive FLetsBook (K : PySem.W.Frag) : Fn
  | mk (b : Bk) (h : Valid b) : FLetsBook K [dat K (bkD b)] (dat K (.int (b.rows.length : Nat)))
theorem ok_lets_book (T : Txt K mg CA CW CB) : GFun P w K mg base "lets_book" 5 (FLetsBook K) :=
  gfun_mk (N := ["thing", "purses", "limits", "rows", "k", "t", "row", "limit", "own"]) (k := 4) T.d_lets_book ["thing"] ⟨rfl, rfl, rfl, by decide +kernel, rfl, by decide +kernel, by decide +kernel⟩ (fun _ _ _ _ _ _ us hl => match us, hl with | [_], _ => rfl) (fun _ _ h => by cases h <;> rfl) fun f cdv A outer s H E0 g Es E hF => by
    cases hF with
    | mk b h =>
      obtain ⟨tp, mp⟩ := T.g_PAID
      have h1 := h.np
      have h2 := h.nl
      have h3 := h.nr
      refine .inl (dr_cons (ds_expr (de_call (ok_require T) g (da_cons (de_call (ok_has_book_shape T) g (da_cons (de_var 0) da_nil) (.mk b h.toBkOk)) (da_cons de_str (da_cons (E := dat K (.int (-1))) ?_ da_nil))) (.mk _ _))) <| dr_cons (ds_asg (de_var 0) (pg_tupK (K := K) (m := 3) rfl (pgs_cons (pg_name (i := 1) (by exact g.nd) rfl (by first | exact Or.inl rfl | exact Or.inr rfl)) (pgs_cons (pg_name (i := 2) (by exact g.nd) rfl (by first | exact Or.inl rfl | exact Or.inr rfl)) (pgs_cons (pg_name (i := 3) (by exact g.nd) rfl (by first | exact Or.inl rfl | exact Or.inr rfl)) pgs_nil)))) (gb_tup (gbs_cons (gbn 1) (gbs_cons (gbn 2) (gbs_cons (gbn 3) gbs_nil))) rfl)) <|
        dr_cons (ds_expr (de_call (ok_require T) g (da_cons (de_andT (de_b (de_c (dc_gt (de_lenT T.B (ds := b.purses.map purseD) (de_var 1)) de_int)) (decide_eq_true ?_)) (de_one (de_call (ok_is_ascending T) g (da_cons (de_is (de_ld (de_lcA g (xs := b.purses) (f0 := purseD) (fun p => .str p.name) (di_T (de_var 1)) (blkOk_by (own := [("own", 8)]) (N := ["thing", "purses", "limits", "rows", "k", "t", "row", "limit", "own"]) (sc := defScope (top 51)) (by decide +kernel)) (fun _ _ _ _ _ => (pg_name (i := 8) (by exact g.nd) rfl (by first | exact Or.inl rfl | exact Or.inr rfl))) (fun x _ => gbn 8) (fun _ _ _ _ _ p hp => de_ixTc (de_var 8)) (fun _ _ => rfl) (by omega))) (congrArg PyData.list (names_map _))) da_nil) (.lst (namesOf b) h.asc (by unfold namesOf; rw [List.length_map]; omega))))) (da_cons de_str (da_cons (E := dat K (.int (-1))) ?_ da_nil))) (.mk _ _))) <|
        dr_cons (ds_each g (xs := List.range b.limits.length) (f0 := fun (j : Nat) => .int (j : Int)) [4] PassesOwn.never (di_is (di_range1 T.B (n := b.limits.length) (by omega) (de_is (de_lenT T.B (ds := b.limits.map limitD) (de_var 2)) (by rw [List.length_map]))) (range0 _)) (pg_name (i := 4) (by exact g.nd) rfl (by first | exact Or.inl rfl | exact Or.inr rfl)) (fun x _ => gbn 4) (fun j hj => ?_)) <|
        dr_cons (ds_each g (xs := b.rows.zipIdx) (f0 := fun q => .tuple [.int (q.2 : Nat), rowD q.1]) [5, 6] PassesOwn.never (di_is (di_enumT T.B (de_var 3)) (enumD_map _ _)) (pg_tupK (K := K) (m := 2) rfl (pgs_cons (pg_name (i := 5) (by exact g.nd) rfl (by first | exact Or.inl rfl | exact Or.inr rfl)) (pgs_cons (pg_name (i := 6) (by exact g.nd) rfl (by first | exact Or.inl rfl | exact Or.inr rfl)) pgs_nil))) (fun x _ => gb_tup (gbs_cons (gbn 5) (gbs_cons (gbn 6) gbs_nil)) rfl) (fun q hq => ?_)) <|
        dr_cons (ds_each g (xs := b.limits.zipIdx) (f0 := fun q => .tuple [.int (q.2 : Nat), limitD q.1]) [4, 7] PassesOwn.never (di_is (di_enumT T.B (de_var 2)) (enumD_map _ _)) (pg_tupK (K := K) (m := 2) rfl (pgs_cons (pg_name (i := 4) (by exact g.nd) rfl (by first | exact Or.inl rfl | exact Or.inr rfl)) (pgs_cons (pg_name (i := 7) (by exact g.nd) rfl (by first | exact Or.inl rfl | exact Or.inr rfl)) pgs_nil))) (fun x _ => gb_tup (gbs_cons (gbn 4) (gbs_cons (gbn 7) gbs_nil)) rfl) (fun q hq => ?_)) <|
        dr_ret (de_is (de_lenT T.B (ds := b.rows.map rowD) (de_var 3)) (by rw [List.length_map])))
      · exact de_neg de_int
      · rw [List.length_map]
        have := List.length_pos_iff.mpr h.ne
        omega
      · exact de_neg de_int
      · have hj : j < b.limits.length := List.mem_range.mp hj
        exact lb <| dn_one (ds_expr (de_call (ok_check_limit T) g (da_cons (de_var 0) (da_cons (de_var 4) da_nil)) (.mk b j _ h (List.getElem?_eq_getElem hj))))
      · have hr : b.rows[q.2]? = some q.1 := List.mk_mem_zipIdx_iff_getElem?.mp hq
        cases hp : q.1.isPaid with
        | true => exact lb <| dn_one (ds_ifT (cmp (dc_eqS (de_ixTc (ds := [.str q.1.word, .int q.1.day, .str q.1.kind, q.1.rest]) (de_var 6)) (de_gstr rfl mp)) hp) (dn_one (ds_expr (de_call (ok_check_shares T) g (da_cons (de_var 0) (da_cons (de_var 5) da_nil)) (.mk b q.2 q.1 h hr hp)))))
        | false => exact lb <| dn_one (ds_skip (cmp (dc_eqS (de_ixTc (ds := [.str q.1.word, .int q.1.day, .str q.1.kind, q.1.rest]) (de_var 6)) (de_gstr rfl mp)) hp))
      · exact lb <| dn_one (ds_expr (de_call (ok_require T) g (da_cons (de_b (de_c (dc_le (de_call (ok_paid_within T) g (da_cons (de_var 0) (da_cons (de_var 7) da_nil)) (.mk b q.1 h.toBkOk)) (de_ixTc (ds := [strsD q.1.names, .int q.1.first, .int q.1.last, .int q.1.cap]) (de_var 7)))) (decide_eq_true (h.over q.1 (List.fst_mem_of_mem_zipIdx hq)))) (da_cons de_str (da_cons (de_var 4) da_nil))) (.mk _ _)))
end
end Lc
end
section
/-! The module bookchanges. -/
namespace Lc
open PySem L2
def withRow (b : Bk) (r : Rw) : Bk := { b with rows := b.rows ++ [r] }
def setRow (b : Bk) (i : Nat) (r : Rw) : Bk := { b with rows := b.rows.set i r }
def outRow (b : Bk) (i : Nat) : Bk := { b with rows := b.rows.eraseIdx i }
def capped (l : Limit) (c : Int) : Limit := { l with cap := c }
def setCap (b : Bk) (i : Nat) (l : Limit) (c : Int) : Bk := { b with limits := b.limits.set i (capped l c) }
def withLimit (b : Bk) (l : Limit) : Bk := { b with limits := b.limits ++ [l] }
def withShare (n : Nat) : Rw → Rw
  | .buy d k a => .buy d k a
  | .paid d k s => .paid d k (s.take n ++ 0 :: s.drop n)
def spotOf (b : Bk) (p : Purse) : Nat := (b.purses.filter fun q => ltS q.name p.name).length
def withPurse (b : Bk) (p : Purse) : Bk := ⟨b.purses.take (spotOf b p) ++ p :: b.purses.drop (spotOf b p), b.limits, b.rows.map (withShare (spotOf b p))⟩
theorem set_parts {α : Type} {l : List α} {i : Nat} {x : α} (h : i < l.length) : l.set i x = l.take i ++ x :: l.drop (i + 1) := by
  rw [List.set_eq_take_append_cons_drop, if_pos h]
section
variable {P : Program} {w : World} {K : PySem.W.Frag} {mg : Str → Option Value} {base : Heap} {CA CW CB : Addr}
inductive FChecked (K : PySem.W.Frag) : Fn
  | mk (b : Bk) (h : Valid b) : FChecked K [dat K (bkD b)] (dat K (bkD b))
theorem ok_checked (T : Txt K mg CA CW CB) : GFun P w K mg base "checked" 6 (FChecked K) :=
  gfun_mk (N := ["book"]) (k := 5) T.d_checked ["book"] ⟨rfl, rfl, rfl, by decide +kernel, rfl, by decide +kernel, by decide +kernel⟩ (fun _ _ _ _ _ _ us hl => match us, hl with | [_], _ => rfl) (fun _ _ h => by cases h <;> rfl) fun f cdv A outer s H E0 g Es E hF => by
    cases hF with
    | mk b h => exact .inl (dr_cons (ds_expr (de_call (ok_lets_book T) g (da_cons (de_var 0) da_nil) (.mk b h))) (dr_ret (de_var 0)))
inductive FRequireOpen (K : PySem.W.Frag) : Fn
  | mk (b : Bk) (i : Nat) (d : Int) (k : Str) (a : Int) (hr : b.rows[i]? = some (.buy d k a)) : FRequireOpen K [dat K (bkD b), dat K (.int (i : Nat))] (dat K .none)
theorem ok_require_open (T : Txt K mg CA CW CB) : GFun P w K mg base "require_open" 3 (FRequireOpen K) :=
  gfun_mk (N := ["book", "t"]) (k := 2) T.d_require_open ["book", "t"] ⟨rfl, rfl, rfl, by decide +kernel, rfl, by decide +kernel, by decide +kernel⟩ (fun _ _ _ _ _ _ us hl => match us, hl with | [_, _], _ => rfl) (fun _ _ h => by cases h <;> rfl) fun f cdv A outer s H E0 g Es E hF => by
    cases hF with
    | mk b i d k a hr =>
      obtain ⟨tb, mb⟩ := T.g_BUY
      have hi : i < b.rows.length := (List.getElem?_eq_some_iff.mp hr).1
      exact .inr ⟨_, dn_cons (ds_expr (de_call (ok_require_row T) g (da_cons (de_var 0) (da_cons (de_var 1) da_nil)) (.mk b i (by omega) (by omega)))) <| dn_one (ds_skip (cmp (dc_neS (de_ixTc (ds := [.str "buy", .int d, .str k, .int a]) (de_ixT (de_ixTc (de_var 0)) (de_var 1) (row_atN hr))) (de_gstr rfl mb)) (by simp))), rfl⟩
inductive FWithRowAs (K : PySem.W.Frag) : Fn
  | mk (b : Bk) (i : Nat) (r : Rw) (hi : i < b.rows.length) (h : Valid (setRow b i r)) : FWithRowAs K [dat K (bkD b), dat K (.int (i : Nat)), dat K (rowD r)] (dat K (bkD (setRow b i r)))
theorem ok_with_row_as (T : Txt K mg CA CW CB) : GFun P w K mg base "with_row_as" 7 (FWithRowAs K) :=
  gfun_mk (N := ["book", "t", "row", "purses", "limits", "rows"]) (k := 6) T.d_with_row_as ["book", "t", "row"] ⟨rfl, rfl, rfl, by decide +kernel, rfl, by decide +kernel, by decide +kernel⟩ (fun _ _ _ _ _ _ us hl => match us, hl with | [_, _, _], _ => rfl) (fun _ _ h => by cases h <;> rfl) fun f cdv A outer s H E0 g Es E hF => by
    cases hF with
    | mk b i r hi h =>
      have h3 : b.rows.length ≤ 100 := by
        have := h.nr
        unfold setRow at this
        rwa [List.length_set] at this
      refine .inl (dr_cons (ds_asg (de_var 0) (pg_tupK (K := K) (m := 3) rfl (pgs_cons (pg_name (i := 3) (by exact g.nd) rfl (by first | exact Or.inl rfl | exact Or.inr rfl)) (pgs_cons (pg_name (i := 4) (by exact g.nd) rfl (by first | exact Or.inl rfl | exact Or.inr rfl)) (pgs_cons (pg_name (i := 5) (by exact g.nd) rfl (by first | exact Or.inl rfl | exact Or.inr rfl)) pgs_nil)))) (gb_tup (gbs_cons (gbn 3) (gbs_cons (gbn 4) (gbs_cons (gbn 5) gbs_nil))) rfl)) <| dr_ret (de_call (ok_checked T) g (da_cons (de_is (de_tup (dd_cons (de_var 3) (dd_cons (de_var 4) (dd_cons (de_tup (ds := _) (dd_starT (de_slT (de_var 5) do_none (do_some (de_var 1))) (dd_cons (de_var 2) (dd_starT (de_slT (de_var 5) (do_some (de_add (de_var 1) de_int)) do_none) dd_nil))) ?_) dd_nil)))) ?_) da_nil) (.mk _ h)))
      · rw [cutD_to _ (by omega), cutD_from _ (by omega)]
        simp
        omega
      · unfold setRow bkD rowsD
        rw [cutD_to _ (by omega), cutD_from _ (by omega), set_parts hi]
        have e : ((i : Int) + 1).toNat = i + 1 := by omega
        simp [e]
inductive FWithRow (K : PySem.W.Frag) : Fn
  | mk (b : Bk) (r : Rw) (h : Valid (withRow b r)) : FWithRow K [dat K (bkD b), dat K (rowD r)] (dat K (bkD (withRow b r)))
theorem ok_with_row (T : Txt K mg CA CW CB) : GFun P w K mg base "with_row" 7 (FWithRow K) :=
  gfun_mk (N := ["book", "row", "purses", "limits", "rows"]) (k := 6) T.d_with_row ["book", "row"] ⟨rfl, rfl, rfl, by decide +kernel, rfl, by decide +kernel, by decide +kernel⟩ (fun _ _ _ _ _ _ us hl => match us, hl with | [_, _], _ => rfl) (fun _ _ h => by cases h <;> rfl) fun f cdv A outer s H E0 g Es E hF => by
    cases hF with
    | mk b r h =>
      have h3 : b.rows.length + 1 ≤ 100 := by
        have := h.nr
        unfold withRow at this
        rw [List.length_append] at this
        exact this
      refine .inl (dr_cons (ds_asg (de_var 0) (pg_tupK (K := K) (m := 3) rfl (pgs_cons (pg_name (i := 2) (by exact g.nd) rfl (by first | exact Or.inl rfl | exact Or.inr rfl)) (pgs_cons (pg_name (i := 3) (by exact g.nd) rfl (by first | exact Or.inl rfl | exact Or.inr rfl)) (pgs_cons (pg_name (i := 4) (by exact g.nd) rfl (by first | exact Or.inl rfl | exact Or.inr rfl)) pgs_nil)))) (gb_tup (gbs_cons (gbn 2) (gbs_cons (gbn 3) (gbs_cons (gbn 4) gbs_nil))) rfl)) <| dr_ret (de_call (ok_checked T) g (da_cons (de_is (de_tup (dd_cons (de_var 2) (dd_cons (de_var 3) (dd_cons (de_tup (ds := _) (dd_starT (de_var 4) (dd_cons (de_var 1) dd_nil)) ?_) dd_nil)))) ?_) da_nil) (.mk _ h)))
      · simp
        omega
      · unfold withRow bkD rowsD
        simp
inductive FWithoutRow (K : PySem.W.Frag) : Fn
  | mk (b : Bk) (i : Nat) (hi : i < b.rows.length) (hz : b.rows.length ≤ 100) (h : Valid (outRow b i)) : FWithoutRow K [dat K (bkD b), dat K (.int (i : Nat))] (dat K (bkD (outRow b i)))
theorem ok_without_row (T : Txt K mg CA CW CB) : GFun P w K mg base "without_row" 7 (FWithoutRow K) :=
  gfun_mk (N := ["book", "t", "purses", "limits", "rows"]) (k := 6) T.d_without_row ["book", "t"] ⟨rfl, rfl, rfl, by decide +kernel, rfl, by decide +kernel, by decide +kernel⟩ (fun _ _ _ _ _ _ us hl => match us, hl with | [_, _], _ => rfl) (fun _ _ h => by cases h <;> rfl) fun f cdv A outer s H E0 g Es E hF => by
    cases hF with
    | mk b i hi hz h =>
      refine .inl (dr_cons (ds_expr (de_call (ok_require_row T) g (da_cons (de_var 0) (da_cons (de_var 1) da_nil)) (.mk b i (by omega) (by omega)))) <| dr_cons (ds_asg (de_var 0) (pg_tupK (K := K) (m := 3) rfl (pgs_cons (pg_name (i := 2) (by exact g.nd) rfl (by first | exact Or.inl rfl | exact Or.inr rfl)) (pgs_cons (pg_name (i := 3) (by exact g.nd) rfl (by first | exact Or.inl rfl | exact Or.inr rfl)) (pgs_cons (pg_name (i := 4) (by exact g.nd) rfl (by first | exact Or.inl rfl | exact Or.inr rfl)) pgs_nil)))) (gb_tup (gbs_cons (gbn 2) (gbs_cons (gbn 3) (gbs_cons (gbn 4) gbs_nil))) rfl)) <| dr_ret (de_call (ok_checked T) g (da_cons (de_is (de_tup (dd_cons (de_var 2) (dd_cons (de_var 3) (dd_cons (de_catT ?_ (de_slT (de_var 4) do_none (do_some (de_var 1))) (de_slT (de_var 4) (do_some (de_add (de_var 1) de_int)) do_none)) dd_nil)))) ?_) da_nil) (.mk _ h)))
      · rw [cutD_to _ (by omega), cutD_from _ (by omega)]
        simp
        omega
      · unfold outRow bkD rowsD
        rw [cutD_to _ (by omega), cutD_from _ (by omega), List.eraseIdx_eq_take_drop_succ]
        have e : ((i : Int) + 1).toNat = i + 1 := by omega
        simp [e]
inductive FWithAmount (K : PySem.W.Frag) : Fn
  | mk (b : Bk) (i : Nat) (d : Int) (k : Str) (a c : Int) (hr : b.rows[i]? = some (.buy d k a)) (h : Valid (setRow b i (.buy d k c))) : FWithAmount K [dat K (bkD b), dat K (.int (i : Nat)), dat K (.int c)] (dat K (bkD (setRow b i (.buy d k c))))
theorem ok_with_amount (T : Txt K mg CA CW CB) : GFun P w K mg base "with_amount" 8 (FWithAmount K) :=
  gfun_mk (N := ["book", "t", "amount", "word", "day", "kind", "before"]) (k := 7) T.d_with_amount ["book", "t", "amount"] ⟨rfl, rfl, rfl, by decide +kernel, rfl, by decide +kernel, by decide +kernel⟩ (fun _ _ _ _ _ _ us hl => match us, hl with | [_, _, _], _ => rfl) (fun _ _ h => by cases h <;> rfl) fun f cdv A outer s H E0 g Es E hF => by
    cases hF with
    | mk b i d k a c hr h =>
      have hi : i < b.rows.length := (List.getElem?_eq_some_iff.mp hr).1
      exact .inl (dr_cons (ds_expr (de_call (ok_require_open T) g (da_cons (de_var 0) (da_cons (de_var 1) da_nil)) (.mk b i d k a hr))) <| dr_cons (ds_asg (E := dat K (.tuple [.str "buy", .int d, .str k, .int a])) (de_ixT (de_ixTc (de_var 0)) (de_var 1) (row_atN hr)) (pg_tupK (K := K) (m := 4) rfl (pgs_cons (pg_name (i := 3) (by exact g.nd) rfl (by first | exact Or.inl rfl | exact Or.inr rfl)) (pgs_cons (pg_name (i := 4) (by exact g.nd) rfl (by first | exact Or.inl rfl | exact Or.inr rfl)) (pgs_cons (pg_name (i := 5) (by exact g.nd) rfl (by first | exact Or.inl rfl | exact Or.inr rfl)) (pgs_cons (pg_name (i := 6) (by exact g.nd) rfl (by first | exact Or.inl rfl | exact Or.inr rfl)) pgs_nil))))) (gb_tup (gbs_cons (gbn 3) (gbs_cons (gbn 4) (gbs_cons (gbn 5) (gbs_cons (gbn 6) gbs_nil)))) rfl)) <|
        dr_ret (de_call (ok_with_row_as T) g (da_cons (de_var 0) (da_cons (de_var 1) (da_cons (de_tup (dd_cons (de_var 3) (dd_cons (de_var 4) (dd_cons (de_var 5) (dd_cons (de_var 2) dd_nil))))) da_nil))) (.mk b i _ hi h)))
inductive FWithPaid (K : PySem.W.Frag) : Fn
  | mk (b : Bk) (i : Nat) (d : Int) (k : Str) (a : Int) (s : List Int) (hr : b.rows[i]? = some (.buy d k a)) (hs : ∀ x ∈ s, 0 ≤ x) (hz : s.length ≤ 1000) (ha : s.sum = a) (h : Valid (setRow b i (.paid d k s))) : FWithPaid K [dat K (bkD b), dat K (.int (i : Nat)), dat K (intsD s)] (dat K (bkD (setRow b i (.paid d k s))))
theorem ok_with_paid (T : Txt K mg CA CW CB) : GFun P w K mg base "with_paid" 8 (FWithPaid K) :=
  gfun_mk (N := ["book", "t", "shares", "word", "day", "kind", "amount"]) (k := 7) T.d_with_paid ["book", "t", "shares"] ⟨rfl, rfl, rfl, by decide +kernel, rfl, by decide +kernel, by decide +kernel⟩ (fun _ _ _ _ _ _ us hl => match us, hl with | [_, _, _], _ => rfl) (fun _ _ h => by cases h <;> rfl) fun f cdv A outer s H E0 g Es E hF => by
    cases hF with
    | mk b i d k a s hr hs hz ha h =>
      obtain ⟨tp, mp⟩ := T.g_PAID
      have hi : i < b.rows.length := (List.getElem?_eq_some_iff.mp hr).1
      exact .inl (dr_cons (ds_expr (de_call (ok_require_open T) g (da_cons (de_var 0) (da_cons (de_var 1) da_nil)) (.mk b i d k a hr))) <| dr_cons (ds_asg (E := dat K (.tuple [.str "buy", .int d, .str k, .int a])) (de_ixT (de_ixTc (de_var 0)) (de_var 1) (row_atN hr)) (pg_tupK (K := K) (m := 4) rfl (pgs_cons (pg_name (i := 3) (by exact g.nd) rfl (by first | exact Or.inl rfl | exact Or.inr rfl)) (pgs_cons (pg_name (i := 4) (by exact g.nd) rfl (by first | exact Or.inl rfl | exact Or.inr rfl)) (pgs_cons (pg_name (i := 5) (by exact g.nd) rfl (by first | exact Or.inl rfl | exact Or.inr rfl)) (pgs_cons (pg_name (i := 6) (by exact g.nd) rfl (by first | exact Or.inl rfl | exact Or.inr rfl)) pgs_nil))))) (gb_tup (gbs_cons (gbn 3) (gbs_cons (gbn 4) (gbs_cons (gbn 5) (gbs_cons (gbn 6) gbs_nil)))) rfl)) <|
        dr_cons (ds_skip <| dt_w <| dw_orF (nt (de_call (ok_are_numbers T) g (da_cons (de_var 2) da_nil) (.mk s hs hz))) <| dw_or1 <| cmp (dc_neI (de_sumT T.B g (de_var 2)) (de_var 6)) (by rw [ha]; simp)) <|
        dr_ret (de_call (ok_with_row_as T) g (da_cons (de_var 0) (da_cons (de_var 1) (da_cons (de_tup (dd_cons (de_gstr rfl mp) (dd_cons (de_var 4) (dd_cons (de_var 5) (dd_cons (de_var 2) dd_nil))))) da_nil))) (.mk b i _ hi h)))
inductive FWithShare (K : PySem.W.Frag) : Fn
  | mk (r : Rw) (n : Nat) (h : r.shares.length ≤ 1000) : FWithShare K [dat K (rowD r), dat K (.int (n : Nat))] (dat K (rowD (withShare n r)))
theorem ok_with_share (T : Txt K mg CA CW CB) : GFun P w K mg base "with_share" 1 (FWithShare K) :=
  gfun_mk (N := ["row", "spot", "word", "day", "kind", "rest"]) (k := 0) T.d_with_share ["row", "spot"] ⟨rfl, rfl, rfl, by decide +kernel, rfl, by decide +kernel, by decide +kernel⟩ (fun _ _ _ _ _ _ us hl => match us, hl with | [_, _], _ => rfl) (fun _ _ h => by cases h <;> rfl) fun f cdv A outer s H E0 g Es E hF => by
    cases hF with
    | mk r n h =>
      obtain ⟨tp, mp⟩ := T.g_PAID
      cases r with
      | buy d k a => exact .inl (dr_cons (ds_asg (E := dat K (.tuple [.str "buy", .int d, .str k, .int a])) (de_var 0) (pg_tupK (K := K) (m := 4) rfl (pgs_cons (pg_name (i := 2) (by exact g.nd) rfl (by first | exact Or.inl rfl | exact Or.inr rfl)) (pgs_cons (pg_name (i := 3) (by exact g.nd) rfl (by first | exact Or.inl rfl | exact Or.inr rfl)) (pgs_cons (pg_name (i := 4) (by exact g.nd) rfl (by first | exact Or.inl rfl | exact Or.inr rfl)) (pgs_cons (pg_name (i := 5) (by exact g.nd) rfl (by first | exact Or.inl rfl | exact Or.inr rfl)) pgs_nil))))) (gb_tup (gbs_cons (gbn 2) (gbs_cons (gbn 3) (gbs_cons (gbn 4) (gbs_cons (gbn 5) gbs_nil)))) rfl)) <| dr_ret (de_ifF (cmp (dc_eqS (de_var 2) (de_gstr rfl mp)) (decide_eq_false (by decide +kernel))) (de_var 0)))
      | paid d k s =>
        have h : s.length ≤ 1000 := h
        refine .inl (dr_cons (ds_asg (E := dat K (.tuple [.str "paid", .int d, .str k, intsD s])) (de_var 0) (pg_tupK (K := K) (m := 4) rfl (pgs_cons (pg_name (i := 2) (by exact g.nd) rfl (by first | exact Or.inl rfl | exact Or.inr rfl)) (pgs_cons (pg_name (i := 3) (by exact g.nd) rfl (by first | exact Or.inl rfl | exact Or.inr rfl)) (pgs_cons (pg_name (i := 4) (by exact g.nd) rfl (by first | exact Or.inl rfl | exact Or.inr rfl)) (pgs_cons (pg_name (i := 5) (by exact g.nd) rfl (by first | exact Or.inl rfl | exact Or.inr rfl)) pgs_nil))))) (gb_tup (gbs_cons (gbn 2) (gbs_cons (gbn 3) (gbs_cons (gbn 4) (gbs_cons (gbn 5) gbs_nil)))) rfl)) <| dr_ret (de_ifT (cmp (dc_eqS (de_var 2) (de_gstr rfl mp)) (decide_eq_true rfl))
          (de_is (de_tup (dd_cons (de_var 2) (dd_cons (de_var 3) (dd_cons (de_var 4) (dd_cons (de_tup (ds := _) (dd_starT (de_slT (ds := s.map PyData.int) (de_var 5) do_none (do_some (de_var 1))) (dd_cons de_int (dd_starT (de_slT (ds := s.map PyData.int) (de_var 5) (do_some (de_var 1)) do_none) dd_nil))) ?_) dd_nil))))) ?_)))
        · rw [cutD_to _ (by omega), cutD_from _ (by omega)]
          simp
          omega
        · rw [cutD_to _ (by omega), cutD_from _ (by omega)]
          simp [rowD, withShare, Rw.word, Rw.day, Rw.kind, Rw.rest, intsD]
inductive FWithPurse (K : PySem.W.Frag) : Fn
  | mk (b : Bk) (p : Purse) (hb : BkOk b) (hp : PurseOk p) (hn : p.name ∉ namesOf b) (h : Valid (withPurse b p)) : FWithPurse K [dat K (bkD b), dat K (purseD p)] (dat K (bkD (withPurse b p)))
theorem spot_le (b : Bk) (p : Purse) : spotOf b p ≤ b.purses.length := List.length_filter_le _ _
theorem ok_with_purse (T : Txt K mg CA CW CB) : GFun P w K mg base "with_purse" 7 (FWithPurse K) :=
  gfun_mk (N := ["book", "purse", "purses", "limits", "rows", "spot", "late", "own", "row"]) (k := 6) T.d_with_purse ["book", "purse"] ⟨rfl, rfl, rfl, by decide +kernel, rfl, by decide +kernel, by decide +kernel⟩ (fun _ _ _ _ _ _ us hl => match us, hl with | [_, _], _ => rfl) (fun _ _ h => by cases h <;> rfl) fun f cdv A outer s H E0 g Es E hF => by
    cases hF with
    | mk b p hb hp hn h =>
      have h1 := hb.np
      have h3 := hb.nr
      refine .inl (dr_cons (ds_asg (de_var 0) (pg_tupK (K := K) (m := 3) rfl (pgs_cons (pg_name (i := 2) (by exact g.nd) rfl (by first | exact Or.inl rfl | exact Or.inr rfl)) (pgs_cons (pg_name (i := 3) (by exact g.nd) rfl (by first | exact Or.inl rfl | exact Or.inr rfl)) (pgs_cons (pg_name (i := 4) (by exact g.nd) rfl (by first | exact Or.inl rfl | exact Or.inr rfl)) pgs_nil)))) (gb_tup (gbs_cons (gbn 2) (gbs_cons (gbn 3) (gbs_cons (gbn 4) gbs_nil))) rfl)) <| dr_cons (ds_skip <| dt_w <| dw_orF (nt (de_call (ok_is_purse T) g (da_cons (de_var 1) da_nil) (.mk p hp))) <| dw_or1 <| cmp (dc_inLs (l := namesOf b) g (de_ixTc (ds := [.str p.name, .str p.sponsor, strsD p.kinds, .int p.first, .int p.last]) (de_var 1)) (de_is (de_ld (de_lcA g (xs := b.purses) (f0 := purseD) (fun p => .str p.name) (di_T (de_var 2)) (blkOk_by (own := [("own", 7)]) (N := ["book", "purse", "purses", "limits", "rows", "spot", "late", "own", "row"]) (sc := defScope (top 61)) (by decide +kernel)) (fun _ _ _ _ _ => (pg_name (i := 7) (by exact g.nd) rfl (by first | exact Or.inl rfl | exact Or.inr rfl))) (fun x _ => gbn 7) (fun _ _ _ _ _ p hp => de_ixTc (de_var 7)) (fun _ _ => rfl) (by omega))) (congrArg PyData.list (names_map _)))) (decide_eq_false hn)) <|
        dr_cons (ds_set g 5 (de_is (d' := .int (spotOf b p : Nat)) (de_lenL T.B (de_ld (de_lc g (xs := b.purses) (f0 := purseD) (fun q => ltS q.name p.name) purseD (di_T (de_var 2)) (blkOk_by (own := [("own", 7)]) (N := ["book", "purse", "purses", "limits", "rows", "spot", "late", "own", "row"]) (sc := defScope (top 61)) (by decide +kernel)) (fun _ _ _ _ _ => (pg_name (i := 7) (by exact g.nd) rfl (by first | exact Or.inl rfl | exact Or.inr rfl))) (fun x _ => gbn 7) (fun _ _ _ _ _ q hq => dts_one (dt_c (dc_ltS (de_ixTc (ds := [.str q.name, .str q.sponsor, strsD q.kinds, .int q.first, .int q.last]) (de_var 7)) (de_ixTc (ds := [.str p.name, .str p.sponsor, strsD p.kinds, .int p.first, .int p.last]) (de_var 1))))) (fun _ _ _ _ _ q hq _ => de_var 7) (fun q _ _ => nl_purseD q) (by omega)))) (by rw [List.length_map]; rfl))) <|
        dr_cons (ds_set g 6 (de_is (d' := rowsD (b.rows.map (withShare (spotOf b p)))) (de_tupleL T.B (de_ld (de_lcA g (xs := b.rows) (f0 := rowD) (fun r => rowD (withShare (spotOf b p) r)) (di_T (de_var 4)) (blkOk_by (own := [("row", 8)]) (N := ["book", "purse", "purses", "limits", "rows", "spot", "late", "own", "row"]) (sc := defScope (top 61)) (by decide +kernel)) (fun _ _ _ _ _ => (pg_name (i := 8) (by exact g.nd) rfl (by first | exact Or.inl rfl | exact Or.inr rfl))) (fun x _ => gbn 8) (fun _ _ _ _ _ r hr => de_call (ok_with_share T) (g.blk _ _ _ _ _) (da_cons (de_var 8) (da_cons (de_var 5) da_nil)) (.mk r _ ?_)) (fun r _ => nl_rowD _) (by omega)))) (by unfold rowsD; rw [List.map_map]; rfl))) <|
        dr_ret (de_call (ok_checked T) g (da_cons (de_is (de_tup (dd_cons (de_tup (ds := _) (dd_starT (de_slT (ds := b.purses.map purseD) (de_var 2) do_none (do_some (de_var 5))) (dd_cons (de_var 1) (dd_starT (de_slT (ds := b.purses.map purseD) (de_var 2) (do_some (de_var 5)) do_none) dd_nil))) ?_) (dd_cons (de_var 3) (dd_cons (de_var 6) dd_nil)))) ?_) da_nil) (.mk _ h)))
      · have := (hb.rows r hr).rest
        cases r with
        | buy d k a => exact Nat.zero_le _
        | paid d k s => exact this.2
      · rw [cutD_to _ (by omega), cutD_from _ (by omega)]
        simp
        omega
      · rw [cutD_to _ (by omega), cutD_from _ (by omega)]
        simp [bkD, withPurse, pursesD]
inductive FWithLimit (K : PySem.W.Frag) : Fn
  | mk (b : Bk) (l : Limit) (h : Valid (withLimit b l)) : FWithLimit K [dat K (bkD b), dat K (limitD l)] (dat K (bkD (withLimit b l)))
theorem ok_with_limit (T : Txt K mg CA CW CB) : GFun P w K mg base "with_limit" 7 (FWithLimit K) :=
  gfun_mk (N := ["book", "limit", "purses", "limits", "rows"]) (k := 6) T.d_with_limit ["book", "limit"] ⟨rfl, rfl, rfl, by decide +kernel, rfl, by decide +kernel, by decide +kernel⟩ (fun _ _ _ _ _ _ us hl => match us, hl with | [_, _], _ => rfl) (fun _ _ h => by cases h <;> rfl) fun f cdv A outer s H E0 g Es E hF => by
    cases hF with
    | mk b r h =>
      have h3 : b.limits.length + 1 ≤ 100 := by
        have := h.nl
        unfold withLimit at this
        rw [List.length_append] at this
        exact this
      refine .inl (dr_cons (ds_asg (de_var 0) (pg_tupK (K := K) (m := 3) rfl (pgs_cons (pg_name (i := 2) (by exact g.nd) rfl (by first | exact Or.inl rfl | exact Or.inr rfl)) (pgs_cons (pg_name (i := 3) (by exact g.nd) rfl (by first | exact Or.inl rfl | exact Or.inr rfl)) (pgs_cons (pg_name (i := 4) (by exact g.nd) rfl (by first | exact Or.inl rfl | exact Or.inr rfl)) pgs_nil)))) (gb_tup (gbs_cons (gbn 2) (gbs_cons (gbn 3) (gbs_cons (gbn 4) gbs_nil))) rfl)) <| dr_ret (de_call (ok_checked T) g (da_cons (de_is (de_tup (dd_cons (de_var 2) (dd_cons (de_tup (ds := _) (dd_starT (de_var 3) (dd_cons (de_var 1) dd_nil)) ?_) (dd_cons (de_var 4) dd_nil)))) ?_) da_nil) (.mk _ h)))
      · simp
        omega
      · unfold withLimit bkD limitsD
        simp
inductive FWithCap (K : PySem.W.Frag) : Fn
  | mk (b : Bk) (i : Nat) (l : Limit) (c : Int) (hl : b.limits[i]? = some l) (h : Valid (setCap b i l c)) : FWithCap K [dat K (bkD b), dat K (.int (i : Nat)), dat K (.int c)] (dat K (bkD (setCap b i l c)))
theorem ok_with_cap (T : Txt K mg CA CW CB) : GFun P w K mg base "with_cap" 7 (FWithCap K) :=
  gfun_mk (N := ["book", "k", "cap", "purses", "limits", "rows"]) (k := 6) T.d_with_cap ["book", "k", "cap"] ⟨rfl, rfl, rfl, by decide +kernel, rfl, by decide +kernel, by decide +kernel⟩ (fun _ _ _ _ _ _ us hl => match us, hl with | [_, _, _], _ => rfl) (fun _ _ h => by cases h <;> rfl) fun f cdv A outer s H E0 g Es E hF => by
    cases hF with
    | mk b i l c hl h =>
      have hi : i < b.limits.length := (List.getElem?_eq_some_iff.mp hl).1
      have h3 : b.limits.length ≤ 100 := by
        have := h.nl
        unfold setCap at this
        rwa [List.length_set] at this
      refine .inl (dr_cons (ds_expr (de_call (ok_require_limit T) g (da_cons (de_var 0) (da_cons (de_var 1) da_nil)) (.mk b i (by omega) (by omega)))) <| dr_cons (ds_asg (de_var 0) (pg_tupK (K := K) (m := 3) rfl (pgs_cons (pg_name (i := 3) (by exact g.nd) rfl (by first | exact Or.inl rfl | exact Or.inr rfl)) (pgs_cons (pg_name (i := 4) (by exact g.nd) rfl (by first | exact Or.inl rfl | exact Or.inr rfl)) (pgs_cons (pg_name (i := 5) (by exact g.nd) rfl (by first | exact Or.inl rfl | exact Or.inr rfl)) pgs_nil)))) (gb_tup (gbs_cons (gbn 3) (gbs_cons (gbn 4) (gbs_cons (gbn 5) gbs_nil))) rfl)) <|
        dr_ret (de_call (ok_checked T) g (da_cons (de_is (de_tup (dd_cons (de_var 3) (dd_cons (de_tup (ds := _) (dd_starT (de_slT (ds := b.limits.map limitD) (de_var 4) do_none (do_some (de_var 1))) (dd_cons (de_is (d' := limitD (capped l c)) (de_tup (ds := _) (dd_starT (de_slT (ds := [strsD l.names, .int l.first, .int l.last, .int l.cap]) (de_ixT (de_var 4) (de_var 1) (limit_atN hl)) do_none (do_some de_int)) (dd_cons (de_var 2) dd_nil)) ?_) ?_) (dd_starT (de_slT (ds := b.limits.map limitD) (de_var 4) (do_some (de_add (de_var 1) de_int)) do_none) dd_nil))) ?_) (dd_cons (de_var 5) dd_nil)))) ?_) da_nil) (.mk _ h)))
      · rw [cutD_to _ (by omega)]
        simp
      · rw [cutD_to _ (by omega)]
        rfl
      · rw [cutD_to _ (by omega), cutD_from _ (by omega)]
        simp
        omega
      · unfold setCap bkD limitsD
        rw [cutD_to _ (by omega), cutD_from _ (by omega), set_parts hi]
        have e : ((i : Int) + 1).toNat = i + 1 := by omega
        simp [e]
end
end Lc
end
section
/-! The texts of books. -/
namespace Lc
open PySem L2 TL
def numS (n : Int) : Str := toString n
def wordOf (l : List Str) : Str := if l.isEmpty then "-" else PySem.Txt.join "," l
def purseWords (p : Purse) : List Str := ["purse", p.name, p.sponsor, numS p.first, numS p.last, wordOf p.kinds]
def limitWords (l : Limit) : List Str := ["limit", wordOf l.names, numS l.first, numS l.last, numS l.cap]
def Rw.restS : Rw → Str
  | .buy _ _ a => numS a
  | .paid _ _ s => wordOf (s.map numS)
def rowWords (r : Rw) : List Str := [r.word, numS r.day, r.kind, r.restS]
def purseText (p : Purse) : Str := PySem.Txt.join " " (purseWords p)
def limitText (l : Limit) : Str := PySem.Txt.join " " (limitWords l)
def rowText (r : Rw) : Str := PySem.Txt.join " " (rowWords r)
def bookLines (b : Bk) : List Str := b.purses.map purseText ++ b.limits.map limitText ++ b.rows.map rowText
def bookText (b : Bk) : Str := PySem.Txt.join "\n" (bookLines b)
/-- numbers that are written short -/
def NumOk (i : Int) : Prop := 0 ≤ i ∧ i ≤ 1000000
structure SmallP (p : Purse) : Prop where
  first : p.first ≤ 1000000
  last : p.last ≤ 1000000
  kinds : p.kinds.length ≤ 20
structure SmallL (l : Limit) : Prop where
  last : l.last ≤ 1000000
  cap : l.cap ≤ 1000000
  names : l.names.length ≤ 100
def SmallR : Rw → Prop
  | .buy d _ a => d ≤ 1000000 ∧ a ≤ 1000000
  | .paid d _ s => d ≤ 1000000 ∧ (∀ x ∈ s, x ≤ 1000000) ∧ s.length ≤ 100
structure Small (b : Bk) : Prop where
  purses : ∀ p ∈ b.purses, SmallP p
  limits : ∀ l ∈ b.limits, SmallL l
  rows : ∀ r ∈ b.rows, SmallR r
theorem num_log {i : Int} (h : NumOk i) : i.natAbs.log2 < 1920 := by
  obtain ⟨h0, h1⟩ := h
  by_cases e : i.natAbs = 0
  · rw [e]
    decide
  · have : i.natAbs.log2 < 20 := (Nat.log2_lt e).mpr (by
      have : i.natAbs ≤ 1000000 := by omega
      exact Nat.lt_of_le_of_lt this (by decide))
    omega
theorem tl_numS {i : Int} (h : 0 ≤ i) : tl (numS i) = numL i.toNat := by
  obtain ⟨n, rfl⟩ := Int.eq_ofNat_of_zero_le h
  exact tl_num n
theorem numS_len {i : Int} (h : NumOk i) : (numS i).length ≤ 7 := by
  rw [len_tl, tl_numS h.1]
  refine numL_len (by decide) ?_
  have := h.1
  have := h.2
  omega
theorem join_len (y : Str) : ∀ l : List Str, (PySem.Txt.join y l).length ≤ (l.map (·.length)).sum + l.length * y.length := by
  intro l
  rw [join_eq]
  induction l with
  | nil => exact Nat.zero_le _
  | cons x r ih =>
    cases r with
    | nil =>
      show x.length ≤ _
      simp
    | cons z r =>
      show (x ++ y ++ Str.join y (z :: r)).length ≤ _
      rw [len_app, len_app, List.map_cons, List.sum_cons, List.length_cons, Nat.succ_mul]
      omega
theorem sum_le {l : List Str} {m : Nat} (h : ∀ x ∈ l, x.length ≤ m) : (l.map (·.length)).sum ≤ l.length * m := by
  induction l with
  | nil => exact Nat.zero_le _
  | cons x r ih =>
    rw [List.map_cons, List.sum_cons, List.length_cons, Nat.succ_mul]
    have h1 := h x (by simp)
    have h2 := ih fun z hz => h z (by simp [hz])
    omega
theorem wordOf_len {l : List Str} {m : Nat} (h : ∀ x ∈ l, x.length ≤ m) : (wordOf l).length ≤ l.length * (m + 1) + 1 := by
  unfold wordOf
  cases l with
  | nil =>
    show ("-" : Str).length ≤ _
    exact Nat.le_of_ble_eq_true rfl
  | cons x r =>
    show (PySem.Txt.join "," (x :: r)).length ≤ _
    refine Nat.le_trans (join_len _ _) ?_
    have := sum_le h
    have e : (("," : Str)).length = 1 := by decide
    rw [e, Nat.mul_add]
    omega
theorem rest_len {r : Rw} (h : RowOk r) (s : SmallR r) : r.restS.length ≤ 801 := by
  cases r with
  | buy d k a => exact Nat.le_trans (numS_len ⟨h.rest, s.2⟩) (by decide)
  | paid d k l =>
    have := wordOf_len (l := l.map numS) (m := 7) (fun x hx => by
      obtain ⟨i, hi, rfl⟩ := List.mem_map.mp hx
      exact numS_len ⟨h.rest.1 i hi, s.2.1 i hi⟩)
    rw [List.length_map] at this
    have h2 := s.2.2
    show (wordOf (l.map numS)).length ≤ 801
    omega
theorem word_len (r : Rw) : r.word.length ≤ 4 := by
  cases r with
  | buy d k a => exact Nat.le_of_ble_eq_true rfl
  | paid d k s => exact Nat.le_of_ble_eq_true rfl
theorem glueP (a b c d e : Str) : glue ["purse ", a, " ", b, " ", c, " ", d, " ", e] Str.empty = PySem.Txt.join " " ["purse", a, b, c, d, e] := by
  apply ext_tl
  rw [join_eq, tl_join]
  have e1 : tl ("purse " : Str) = tl ("purse" : Str) ++ tl (" " : Str) := by decide
  simp only [glue, List.foldl_cons, List.foldl_nil, tl_append, e1, List.map_cons, List.map_nil, joinL]
  simp [tl, Str.empty]
theorem glueL (a b c d : Str) : glue ["limit ", a, " ", b, " ", c, " ", d] Str.empty = PySem.Txt.join " " ["limit", a, b, c, d] := by
  apply ext_tl
  rw [join_eq, tl_join]
  have e1 : tl ("limit " : Str) = tl ("limit" : Str) ++ tl (" " : Str) := by decide
  simp only [glue, List.foldl_cons, List.foldl_nil, tl_append, e1, List.map_cons, List.map_nil, joinL]
  simp [tl, Str.empty]
theorem glueR (a b c d : Str) : glue [a, " ", b, " ", c, " ", d] Str.empty = PySem.Txt.join " " [a, b, c, d] := by
  apply ext_tl
  rw [join_eq, tl_join]
  simp only [glue, List.foldl_cons, List.foldl_nil, tl_append, List.map_cons, List.map_nil, joinL]
  simp [tl, Str.empty]
theorem purse_len {p : Purse} (h : PurseOk p) (s : SmallP p) : (purseText p).length ≤ 1000 := by
  have h1 := h.name.hi
  have h2 := h.sponsor.hi
  have h3 := numS_len ⟨h.first, s.first⟩
  have h4 := numS_len (i := p.last) ⟨by have := h.first; have := h.last; omega, s.last⟩
  have h5 := wordOf_len (l := p.kinds) (m := 8) fun x hx => (h.kinds.all x hx).hi
  have h6 := s.kinds
  unfold purseText
  refine Nat.le_trans (join_len _ _) ?_
  have e1 : ("purse" : Str).length = 5 := by decide
  have e2 : (" " : Str).length = 1 := by decide
  simp only [purseWords, List.map_cons, List.map_nil, List.sum_cons, List.sum_nil, List.length_cons, List.length_nil, e1, e2]
  omega
theorem limit_len {l : Limit} (h : LimitOk l) (s : SmallL l) : (limitText l).length ≤ 1000 := by
  have h3 := numS_len (i := l.first) ⟨h.first, by have := h.last; have := s.last; omega⟩
  have h4 := numS_len (i := l.last) ⟨by have := h.first; have := h.last; omega, s.last⟩
  have h5 := numS_len (i := l.cap) ⟨h.cap, s.cap⟩
  have h7 := wordOf_len (l := l.names) (m := 8) fun x hx => (h.names.all x hx).hi
  have h6 := s.names
  unfold limitText
  refine Nat.le_trans (join_len _ _) ?_
  have e1 : ("limit" : Str).length = 5 := by decide
  have e2 : (" " : Str).length = 1 := by decide
  simp only [limitWords, List.map_cons, List.map_nil, List.sum_cons, List.sum_nil, List.length_cons, List.length_nil, e1, e2]
  omega
theorem smallR_day {r : Rw} (s : SmallR r) : r.day ≤ 1000000 := by
  cases r with
  | buy d k a => exact s.1
  | paid d k l => exact s.1
theorem row_len {r : Rw} (h : RowOk r) (s : SmallR r) : (rowText r).length ≤ 1000 := by
  have h1 := word_len r
  have h2 := numS_len (i := r.day) ⟨h.day, smallR_day s⟩
  have h3 := h.kind.hi
  have h4 := rest_len h s
  unfold rowText
  refine Nat.le_trans (join_len _ _) ?_
  have e2 : (" " : Str).length = 1 := by decide
  simp only [rowWords, List.map_cons, List.map_nil, List.sum_cons, List.sum_nil, List.length_cons, List.length_nil, e2]
  omega
theorem lines_len {b : Bk} (h : BkOk b) (s : Small b) : ∀ x ∈ bookLines b, x.length ≤ 1000 := by
  intro x hx
  unfold bookLines at hx
  rcases List.mem_append.mp hx with hx | hx
  · rcases List.mem_append.mp hx with hx | hx
    · obtain ⟨p, hp, rfl⟩ := List.mem_map.mp hx
      exact purse_len (h.purses p hp) (s.purses p hp)
    · obtain ⟨p, hp, rfl⟩ := List.mem_map.mp hx
      exact limit_len (h.limits p hp) (s.limits p hp)
  · obtain ⟨p, hp, rfl⟩ := List.mem_map.mp hx
    exact row_len (h.rows p hp) (s.rows p hp)
theorem lines_few {b : Bk} (h : BkOk b) : (bookLines b).length ≤ 300 := by
  have h1 := h.np
  have h2 := h.nl
  have h3 := h.nr
  unfold bookLines
  simp only [List.length_append, List.length_map]
  omega
theorem text_len {b : Bk} (h : BkOk b) (s : Small b) : ((bookLines b).map (·.length)).sum + (bookLines b).length * ("\n" : Str).length ≤ 1000000 := by
  have h1 := sum_le (lines_len h s)
  have h2 := lines_few h
  have e : ("\n" : Str).length = 1 := by decide
  rw [e]
  have : (bookLines b).length * 1000 ≤ 300 * 1000 := Nat.mul_le_mul_right _ h2
  omega
end Lc
end
section
/-! The module booktexts. -/
namespace Lc
open PySem L2
section
variable {P : Program} {w : World} {K : PySem.W.Frag} {mg : Str → Option Value} {base : Heap} {CA CW CB : Addr}
theorem len_pos_dec {α β : Type} (l : List α) (f : α → β) (n : α) (r : List α) (e : l = n :: r) : decide ((0 : Int) < ((l.map f).length : Nat)) = true := by
  subst e
  exact decide_eq_true (by simp)
inductive FTupleWord (K : PySem.W.Frag) : Fn
  | ofS (l : List Str) (h : ∀ x ∈ l, x.length ≤ 8) (hz : l.length ≤ 100) : FTupleWord K [dat K (strsD l)] (dat K (.str (wordOf l)))
  | ofI (l : List Int) (h : ∀ x ∈ l, NumOk x) (hz : l.length ≤ 100) : FTupleWord K [dat K (intsD l)] (dat K (.str (wordOf (l.map numS))))
theorem ok_tuple_word (T : Txt K mg CA CW CB) : GFun P w K mg base "tuple_word" 1 (FTupleWord K) :=
  gfun_mk (N := ["some", "one"]) (k := 0) T.d_tuple_word ["some"] ⟨rfl, rfl, rfl, by decide +kernel, rfl, by decide +kernel, by decide +kernel⟩ (fun _ _ _ _ _ _ us hl => match us, hl with | [_], _ => rfl) (fun _ _ h => by cases h <;> rfl) fun f cdv A outer s H E0 g Es E hF => by
    cases hF with
    | ofS l h hz =>
      obtain ⟨tn, mn⟩ := T.g_NONE_WORD
      refine .inl (dr_ret ?_)
      cases l with
      | nil => exact de_ifF (cmp (dc_gt (de_lenT T.B (ds := []) (de_var 0)) de_int)) (de_gstr rfl mn)
      | cons x r =>
        refine de_ifT (cmp (dc_gt (de_lenT T.B (ds := (x :: r).map PyData.str) (de_var 0)) de_int) (len_pos_dec (x :: r) PyData.str x r rfl)) (de_is (de_join (ys := x :: r) ?_ de_str (de_is (de_ld (de_lcA g (xs := x :: r) (f0 := PyData.str) PyData.str (di_T (de_var 0)) (blkOk_by (own := [("one", 1)]) (N := ["some", "one"]) (sc := defScope (top 66)) (by decide +kernel)) (fun _ _ _ _ _ => (pg_name (i := 1) (by exact g.nd) rfl (by first | exact Or.inl rfl | exact Or.inr rfl))) (fun x _ => gbn 1)
          (fun _ _ _ _ _ z hzz => de_fs1 (de_fmtS (Nat.le_trans (h z hzz) (by decide)) (de_var 1))) (fun _ _ => rfl) (by omega))) rfl)) rfl)
        have := sum_le h
        have e : (("," : Str)).length = 1 := by decide
        rw [e]
        omega
    | ofI l h hz =>
      obtain ⟨tn, mn⟩ := T.g_NONE_WORD
      refine .inl (dr_ret ?_)
      cases l with
      | nil => exact de_ifF (cmp (dc_gt (de_lenT T.B (ds := []) (de_var 0)) de_int)) (de_gstr rfl mn)
      | cons x r =>
        refine de_ifT (cmp (dc_gt (de_lenT T.B (ds := (x :: r).map PyData.int) (de_var 0)) de_int) (len_pos_dec (x :: r) PyData.int x r rfl)) (de_is (de_join (ys := (x :: r).map numS) ?_ de_str (de_is (de_ld (de_lcA g (xs := x :: r) (f0 := PyData.int) (fun i => .str (numS i)) (di_T (de_var 0)) (blkOk_by (own := [("one", 1)]) (N := ["some", "one"]) (sc := defScope (top 66)) (by decide +kernel)) (fun _ _ _ _ _ => (pg_name (i := 1) (by exact g.nd) rfl (by first | exact Or.inl rfl | exact Or.inr rfl))) (fun x _ => gbn 1)
          (fun _ _ _ _ _ z hzz => de_fs1 (de_fmtI (num_log (h z hzz)) (de_var 1))) (fun _ _ => rfl) (by omega))) (by rw [List.map_map]; rfl))) rfl)
        have := sum_le (l := (x :: r).map numS) (m := 7) (fun y hy => by
          obtain ⟨i, hi, rfl⟩ := List.mem_map.mp hy
          exact numS_len (h i hi))
        have e : (("," : Str)).length = 1 := by decide
        rw [List.length_map] at this ⊢
        rw [e]
        omega
theorem num_le {i : Int} (h : NumOk i) : (numS i).length ≤ 1000000 := Nat.le_trans (numS_len h) (by decide)
inductive FPurseText (K : PySem.W.Frag) : Fn
  | mk (p : Purse) (h : PurseOk p) (s : SmallP p) : FPurseText K [dat K (purseD p)] (dat K (.str (purseText p)))
theorem ok_purse_text (T : Txt K mg CA CW CB) : GFun P w K mg base "purse_text" 2 (FPurseText K) :=
  gfun_mk (N := ["purse", "name", "sponsor", "kinds", "first", "last"]) (k := 1) T.d_purse_text ["purse"] ⟨rfl, rfl, rfl, by decide +kernel, rfl, by decide +kernel, by decide +kernel⟩ (fun _ _ _ _ _ _ us hl => match us, hl with | [_], _ => rfl) (fun _ _ h => by cases h <;> rfl) fun f cdv A outer s H E0 g Es E hF => by
    cases hF with
    | mk p h s =>
      have n1 : NumOk p.first := ⟨h.first, s.first⟩
      have n2 : NumOk p.last := ⟨by have := h.first; have := h.last; omega, s.last⟩
      have h1 := h.name.hi
      have h2 := h.sponsor.hi
      have h3 := numS_len n1
      have h4 := numS_len n2
      have h5 := wordOf_len (l := p.kinds) (m := 8) fun x hx => (h.kinds.all x hx).hi
      have h6 := s.kinds
      refine .inl (dr_cons (ds_asg (de_var 0) (pg_tupK (K := K) (m := 5) rfl (pgs_cons (pg_name (i := 1) (by exact g.nd) rfl (by first | exact Or.inl rfl | exact Or.inr rfl)) (pgs_cons (pg_name (i := 2) (by exact g.nd) rfl (by first | exact Or.inl rfl | exact Or.inr rfl)) (pgs_cons (pg_name (i := 3) (by exact g.nd) rfl (by first | exact Or.inl rfl | exact Or.inr rfl)) (pgs_cons (pg_name (i := 4) (by exact g.nd) rfl (by first | exact Or.inl rfl | exact Or.inr rfl)) (pgs_cons (pg_name (i := 5) (by exact g.nd) rfl (by first | exact Or.inl rfl | exact Or.inr rfl)) pgs_nil)))))) (gb_tup (gbs_cons (gbn 1) (gbs_cons (gbn 2) (gbs_cons (gbn 3) (gbs_cons (gbn 4) (gbs_cons (gbn 5) gbs_nil))))) rfl)) <| dr_ret (de_is (de_fs (.cons de_str <| .cons (de_fmtS (by omega) (de_var 1)) <| .cons de_str <| .cons (de_fmtS (by omega) (de_var 2)) <| .cons de_str <| .cons (de_fmtI (num_log n1) (de_var 4)) <| .cons de_str <| .cons (de_fmtI (num_log n2) (de_var 5)) <| .cons de_str <|
        .cons (de_fmtS (by omega) (de_call (ok_tuple_word T) g (da_cons (de_var 3) da_nil) (.ofS p.kinds (fun x hx => (h.kinds.all x hx).hi) (by omega)))) .nil) ?_) (congrArg PyData.str (glueP p.name p.sponsor (numS p.first) (numS p.last) (wordOf p.kinds)))))
      show (("purse " : Str).length + (p.name.length + ((" " : Str).length + (p.sponsor.length + ((" " : Str).length + ((numS p.first).length + ((" " : Str).length + ((numS p.last).length + ((" " : Str).length + ((wordOf p.kinds).length + 0)))))))))) ≤ 1000000
      have e1 : ("purse " : Str).length = 6 := by decide
      have e2 : (" " : Str).length = 1 := by decide
      rw [e1, e2]
      omega
inductive FLimitText (K : PySem.W.Frag) : Fn
  | mk (l : Limit) (h : LimitOk l) (s : SmallL l) : FLimitText K [dat K (limitD l)] (dat K (.str (limitText l)))
theorem ok_limit_text (T : Txt K mg CA CW CB) : GFun P w K mg base "limit_text" 2 (FLimitText K) :=
  gfun_mk (N := ["limit", "names", "first", "last", "cap"]) (k := 1) T.d_limit_text ["limit"] ⟨rfl, rfl, rfl, by decide +kernel, rfl, by decide +kernel, by decide +kernel⟩ (fun _ _ _ _ _ _ us hl => match us, hl with | [_], _ => rfl) (fun _ _ h => by cases h <;> rfl) fun f cdv A outer s H E0 g Es E hF => by
    cases hF with
    | mk l h s =>
      have n1 : NumOk l.first := ⟨h.first, by have := h.last; have := s.last; omega⟩
      have n2 : NumOk l.last := ⟨by have := h.first; have := h.last; omega, s.last⟩
      have n3 : NumOk l.cap := ⟨h.cap, s.cap⟩
      have h3 := numS_len n1
      have h4 := numS_len n2
      have h1 := numS_len n3
      have h5 := wordOf_len (l := l.names) (m := 8) fun x hx => (h.names.all x hx).hi
      have h6 := s.names
      refine .inl (dr_cons (ds_asg (de_var 0) (pg_tupK (K := K) (m := 4) rfl (pgs_cons (pg_name (i := 1) (by exact g.nd) rfl (by first | exact Or.inl rfl | exact Or.inr rfl)) (pgs_cons (pg_name (i := 2) (by exact g.nd) rfl (by first | exact Or.inl rfl | exact Or.inr rfl)) (pgs_cons (pg_name (i := 3) (by exact g.nd) rfl (by first | exact Or.inl rfl | exact Or.inr rfl)) (pgs_cons (pg_name (i := 4) (by exact g.nd) rfl (by first | exact Or.inl rfl | exact Or.inr rfl)) pgs_nil))))) (gb_tup (gbs_cons (gbn 1) (gbs_cons (gbn 2) (gbs_cons (gbn 3) (gbs_cons (gbn 4) gbs_nil)))) rfl)) <| dr_ret (de_is (de_fs (.cons de_str <| .cons (de_fmtS (by omega) (de_call (ok_tuple_word T) g (da_cons (de_var 1) da_nil) (.ofS l.names (fun x hx => (h.names.all x hx).hi) (by omega)))) <| .cons de_str <| .cons (de_fmtI (num_log n1) (de_var 2)) <| .cons de_str <| .cons (de_fmtI (num_log n2) (de_var 3)) <| .cons de_str <|
        .cons (de_fmtI (num_log n3) (de_var 4)) .nil) ?_) (congrArg PyData.str (glueL (wordOf l.names) (numS l.first) (numS l.last) (numS l.cap)))))
      show (("limit " : Str).length + ((wordOf l.names).length + ((" " : Str).length + ((numS l.first).length + ((" " : Str).length + ((numS l.last).length + ((" " : Str).length + ((numS l.cap).length + 0)))))))) ≤ 1000000
      have e1 : ("limit " : Str).length = 6 := by decide
      have e2 : (" " : Str).length = 1 := by decide
      rw [e1, e2]
      omega
inductive FRowText (K : PySem.W.Frag) : Fn
  | mk (r : Rw) (h : RowOk r) (s : SmallR r) : FRowText K [dat K (rowD r)] (dat K (.str (rowText r)))
theorem ok_row_text (T : Txt K mg CA CW CB) : GFun P w K mg base "row_text" 2 (FRowText K) :=
  gfun_mk (N := ["row", "word", "day", "kind", "rest"]) (k := 1) T.d_row_text ["row"] ⟨rfl, rfl, rfl, by decide +kernel, rfl, by decide +kernel, by decide +kernel⟩ (fun _ _ _ _ _ _ us hl => match us, hl with | [_], _ => rfl) (fun _ _ h => by cases h <;> rfl) fun f cdv A outer s H E0 g Es E hF => by
    cases hF with
    | mk r h s =>
      have n1 : NumOk r.day := ⟨h.day, smallR_day s⟩
      have h1 := word_len r
      have h2 := numS_len n1
      have h3 := h.kind.hi
      have h4 := rest_len h s
      refine .inl (dr_cons (ds_asg (de_var 0) (pg_tupK (K := K) (m := 4) rfl (pgs_cons (pg_name (i := 1) (by exact g.nd) rfl (by first | exact Or.inl rfl | exact Or.inr rfl)) (pgs_cons (pg_name (i := 2) (by exact g.nd) rfl (by first | exact Or.inl rfl | exact Or.inr rfl)) (pgs_cons (pg_name (i := 3) (by exact g.nd) rfl (by first | exact Or.inl rfl | exact Or.inr rfl)) (pgs_cons (pg_name (i := 4) (by exact g.nd) rfl (by first | exact Or.inl rfl | exact Or.inr rfl)) pgs_nil))))) (gb_tup (gbs_cons (gbn 1) (gbs_cons (gbn 2) (gbs_cons (gbn 3) (gbs_cons (gbn 4) gbs_nil)))) rfl)) <| dr_ret (de_is (de_fs (.cons (de_fmtS (by omega) (de_var 1)) <| .cons de_str <| .cons (de_fmtI (num_log n1) (de_var 2)) <| .cons de_str <| .cons (de_fmtS (by omega) (de_var 3)) <| .cons de_str <|
        .cons (z := r.restS) ?_ .nil) ?_) (congrArg PyData.str (glueR r.word (numS r.day) r.kind r.restS))))
      · cases r with
        | buy d k a => exact de_fmtI (num_log ⟨h.rest, s.2⟩) (de_ifF (dt_val (de_isTuple T.B (d := .int a) (de_var 4))) (de_var 4))
        | paid d k l => exact de_fmtS (Nat.le_trans h4 (by decide)) (de_ifT (dt_val (de_isTuple T.B (d := intsD l) (de_var 4))) (de_call (ok_tuple_word T) g (da_cons (de_var 4) da_nil) (.ofI l (fun x hx => ⟨h.rest.1 x hx, s.2.1 x hx⟩) s.2.2)))
      · show (r.word.length + ((" " : Str).length + ((numS r.day).length + ((" " : Str).length + (r.kind.length + ((" " : Str).length + (r.restS.length + 0))))))) ≤ 1000000
        have e2 : (" " : Str).length = 1 := by decide
        rw [e2]
        omega
inductive FBookText (K : PySem.W.Frag) : Fn
  | mk (b : Bk) (h : BkOk b) (s : Small b) : FBookText K [dat K (bkD b)] (dat K (.str (bookText b)))
theorem ok_book_text (T : Txt K mg CA CW CB) : GFun P w K mg base "book_text" 3 (FBookText K) :=
  gfun_mk (N := ["book", "purses", "limits", "rows", "lines", "own", "row"]) (k := 2) T.d_book_text ["book"] ⟨rfl, rfl, rfl, by decide +kernel, rfl, by decide +kernel, by decide +kernel⟩ (fun _ _ _ _ _ _ us hl => match us, hl with | [_], _ => rfl) (fun _ _ h => by cases h <;> rfl) fun f cdv A outer s H E0 g Es E hF => by
    cases hF with
    | mk b h s =>
      have h1 := h.np
      have h2 := h.nl
      have h3 := h.nr
      refine .inl (dr_cons (ds_asg (de_var 0) (pg_tupK (K := K) (m := 3) rfl (pgs_cons (pg_name (i := 1) (by exact g.nd) rfl (by first | exact Or.inl rfl | exact Or.inr rfl)) (pgs_cons (pg_name (i := 2) (by exact g.nd) rfl (by first | exact Or.inl rfl | exact Or.inr rfl)) (pgs_cons (pg_name (i := 3) (by exact g.nd) rfl (by first | exact Or.inl rfl | exact Or.inr rfl)) pgs_nil)))) (gb_tup (gbs_cons (gbn 1) (gbs_cons (gbn 2) (gbs_cons (gbn 3) gbs_nil))) rfl)) <|
        dr_cons (ds_set g 4 (de_catL (ds := b.purses.map fun p => .str (purseText p)) (ds' := b.limits.map fun l => .str (limitText l)) (by simp; omega) (de_lcA g (xs := b.purses) (f0 := purseD) (fun p => .str (purseText p)) (di_T (de_var 1)) (blkOk_by (own := [("own", 5)]) (N := ["book", "purses", "limits", "rows", "lines", "own", "row"]) (sc := defScope (top 70)) (by decide +kernel)) (fun _ _ _ _ _ => (pg_name (i := 5) (by exact g.nd) rfl (by first | exact Or.inl rfl | exact Or.inr rfl))) (fun x _ => gbn 5)
            (fun _ _ _ _ _ p hp => de_call (ok_purse_text T) (g.blk _ _ _ _ _) (da_cons (de_var 5) da_nil) (.mk p (h.purses p hp) (s.purses p hp))) (fun _ _ => rfl) (by omega))
          (de_lcA g (xs := b.limits) (f0 := limitD) (fun l => .str (limitText l)) (di_T (de_var 2)) (blkOk_by (own := [("own", 5)]) (N := ["book", "purses", "limits", "rows", "lines", "own", "row"]) (sc := defScope (top 70)) (by decide +kernel)) (fun _ _ _ _ _ => (pg_name (i := 5) (by exact g.nd) rfl (by first | exact Or.inl rfl | exact Or.inr rfl))) (fun x _ => gbn 5)
            (fun _ _ _ _ _ p hp => de_call (ok_limit_text T) (g.blk _ _ _ _ _) (da_cons (de_var 5) da_nil) (.mk p (h.limits p hp) (s.limits p hp))) (fun _ _ => rfl) (by omega)))) <|
        dr_ret (de_join (ys := bookLines b) (text_len h s) de_str (de_is (de_lst (ds := _) (dd_starL (de_var 4) (dd_starL (de_ld (de_lcA g (xs := b.rows) (f0 := rowD) (fun r => .str (rowText r)) (di_T (de_var 3)) (blkOk_by (own := [("row", 6)]) (N := ["book", "purses", "limits", "rows", "lines", "own", "row"]) (sc := defScope (top 70)) (by decide +kernel)) (fun _ _ _ _ _ => (pg_name (i := 6) (by exact g.nd) rfl (by first | exact Or.inl rfl | exact Or.inr rfl))) (fun x _ => gbn 6)
            (fun _ _ _ _ _ p hp => de_call (ok_row_text T) (g.blk _ _ _ _ _) (da_cons (de_var 6) da_nil) (.mk p (h.rows p hp) (s.rows p hp))) (fun _ _ => rfl) (by omega))) dd_nil)) ?_) ?_)))
      · simp
        omega
      · unfold bookLines
        simp
        rfl
end
end Lc
end
section
/-! The module bookreadings, what reads words. -/
namespace Lc
open PySem L2 TL
/-! ### the texts' signs -/
theorem name_signs {z : Str} (h : NameOk z) : ∀ c ∈ tl z, 97 ≤ c ∧ c ≤ 122 := by
  have ha : ∀ c ∈ tl alpha, 97 ≤ c ∧ c ≤ 122 := by decide +kernel
  exact fun c hc => ha c (h.az c hc)
theorem num_signs {i : Int} (h : 0 ≤ i) : ∀ c ∈ tl (numS i), 48 ≤ c ∧ c ≤ 57 := by
  rw [tl_numS h]
  exact fun c hc => numL_digits _ c hc
theorem numL_head : ∀ n : Nat, 1 ≤ n → ∃ c r, numL n = c :: r ∧ c ≠ 48 := by
  intro n
  induction n using Nat.strongRecOn with
  | _ n ih =>
    intro h
    by_cases hn : n < 10
    · exact ⟨48 + n, [], numL_lt hn, by omega⟩
    · obtain ⟨c, r, e, hc⟩ := ih (n / 10) (by omega) (by omega)
      exact ⟨c, r ++ [48 + n % 10], by rw [numL_step (by omega), e]; rfl, hc⟩
theorem num_head {i : Int} (h : 0 ≤ i) : ∃ c r, tl (numS i) = c :: r ∧ 48 ≤ c ∧ c ≤ 57 ∧ (i ≠ 0 → c ≠ 48) := by
  have hs := num_signs h
  rw [tl_numS h] at hs ⊢
  by_cases e : i.toNat = 0
  · rw [e] at hs ⊢
    exact ⟨48, [], by rw [numL_lt (by decide)], by decide, by decide, fun k => absurd e (by omega)⟩
  · obtain ⟨c, r, e1, e2⟩ := numL_head i.toNat (by omega)
    rw [e1] at hs ⊢
    exact ⟨c, r, rfl, (hs c (by simp)).1, (hs c (by simp)).2, fun _ => e2⟩
theorem num_reads {i : Int} (h : NumOk i) : PySem.intText? (numS i) = some i := by
  obtain ⟨n, rfl⟩ := Int.eq_ofNat_of_zero_le h.1
  refine int_num ?_
  have := numL_len (n := n) (k := 7) (by decide) (by have := h.2; omega)
  omega
theorem wordOf_ne {l : List Str} (h : l ≠ []) : wordOf l = PySem.Txt.join "," l := by
  unfold wordOf
  cases l with
  | nil => exact absurd rfl h
  | cons x r => rfl
theorem tl_comma : tl ("," : Str) = 44 :: [] := by decide
theorem split_names {l : List Str} (h : NamesOk l) : PySem.Txt.split (wordOf l) "," = l := by
  rw [wordOf_ne h.ne]
  exact split_join tl_comma (by decide +kernel) h.ne fun p hp hc => by
    have := name_signs (h.all p hp) 44 hc
    omega
theorem split_nums {s : List Int} (h : s ≠ []) (h0 : ∀ x ∈ s, 0 ≤ x) : PySem.Txt.split (wordOf (s.map numS)) "," = s.map numS := by
  have hne : s.map numS ≠ [] := fun e => h (List.map_eq_nil_iff.mp e)
  rw [wordOf_ne hne]
  exact split_join tl_comma (by decide +kernel) hne fun p hp hc => by
    obtain ⟨i, hi, rfl⟩ := List.mem_map.mp hp
    have := num_signs (h0 i hi) 44 hc
    omega
theorem nums_dash {s : List Int} (h : s ≠ []) (h0 : ∀ x ∈ s, 0 ≤ x) : wordOf (s.map numS) ≠ "-" := by
  cases s with
  | nil => exact absurd rfl h
  | cons i r =>
    intro e
    have e1 := congrArg tl e
    rw [wordOf_ne (by simp), join_eq, tl_join] at e1
    obtain ⟨c, q, e2, h1, h2, _⟩ := num_head (h0 i (by simp))
    have e3 : tl ("-" : Str) = [45] := by decide
    rw [e3] at e1
    cases r with
    | nil =>
      have e1 : tl (numS i) = [45] := e1
      rw [e2] at e1
      cases e1
      omega
    | cons j r =>
      have e1 : tl (numS i) ++ _ = [45] := e1
      rw [e2] at e1
      have e1 := (List.cons.inj e1).1
      omega
section
variable {P : Program} {w : World} {K : PySem.W.Frag} {mg : Str → Option Value} {base : Heap} {CA CW CB : Addr}
theorem de_gtup {X : Cx} {ρ : Rho} {x : Str} {pos : Pos} {a : Addr} {ys : List Str} (hg : Gl X x) (hm : X.mg x = some (.ref a)) (hk : ∃ (o : Obj) (its : Array Value) (n : Nat), X.K.lookup a = some o ∧ o.cls = .type "tuple" ∧ o.data = .seq its n ∧ its.size ≤ sizeLine ∧ Vals (ys.map V.str) its.toList) (hd : (x == ("__debug__" : Str)) = false := by decide) :
    DE X ρ (.Name x pos) (dat X.K (strsD ys)) :=
  PE.imp (pe_glob (v := .ref a) hg hm rfl hd) fun _ H _ _ q => q.2 _ H (Same.refl H) (.tup (.inr hk) (dpAll_ofStrs ys))
inductive FNumberOrNone (K : PySem.W.Frag) : Fn
  | mk (i : Int) (h : NumOk i) : FNumberOrNone K [dat K (.str (numS i))] (dat K (.int i))
theorem ok_number_or_none (T : Txt K mg CA CW CB) : GFun P w K mg base "number_or_none" 1 (FNumberOrNone K) :=
  gfun_mk (N := ["word", "char"]) (k := 0) T.d_number_or_none ["word"] ⟨rfl, rfl, rfl, by decide +kernel, rfl, by decide +kernel, by decide +kernel⟩ (fun _ _ _ _ _ _ us hl => match us, hl with | [_], _ => rfl) (fun _ _ h => by cases h <;> rfl) fun f cdv A outer s H E0 g Es E hF => by
    cases hF with
    | mk i h =>
      obtain ⟨tm, mm⟩ := T.g_MOST_DIGITS
      obtain ⟨td, md⟩ := T.g_DIGITS
      have hl := numS_len h
      obtain ⟨c, r, hc, c1, c2, c3⟩ := num_head h.1
      have hp : 1 ≤ (numS i).length := by rw [len_tl, hc]; simp
      refine .inl (dr_cons (ds_skip <| dt_w <| dw_orF (dt_is (dt_not (dt_chainLe de_int (de_lenS T.B (y := numS i) (by omega) (de_var 0)) (de_gint rfl mm))) ?_) <| dw_or1 <| nt (de_b (de_allX T.B g (de_lcA g (xs := tl (numS i)) (f0 := fun c => .str ⟨#[c]⟩) (fun c => .bool (decide (c ∈ tl ("0123456789" : Str)))) (di_S (de_var 0)) (blkOk_by (own := [("char", 1)]) (N := ["word", "char"]) (sc := defScope (top 77)) (by decide +kernel)) (fun _ _ _ _ _ => (pg_name (i := 1) (by exact g.nd) rfl (by first | exact Or.inl rfl | exact Or.inr rfl))) (fun x _ => gbn 1)
        (fun _ _ _ _ _ c hc => de_c (dc_inS (de_var 1) (de_gstr rfl md))) (fun _ _ => rfl) (by rw [← len_tl]; omega))) ?_)) (dr_ret (de_ifT (dt_w ?_) (de_intS T.B (num_reads h) (by omega) (de_var 0)))))
      · rw [decide_eq_true (show (1 : Int) ≤ ((numS i).length : Nat) by omega), decide_eq_true (show (((numS i).length : Nat) : Int) ≤ 60 by omega)]
        rfl
      · rw [List.all_eq_true]
        intro c hc
        have ha : ∀ c : Nat, 48 ≤ c → c ≤ 57 → c ∈ tl ("0123456789" : Str) := by
          intro c h1 h2
          have : c = 48 ∨ c = 49 ∨ c = 50 ∨ c = 51 ∨ c = 52 ∨ c = 53 ∨ c = 54 ∨ c = 55 ∨ c = 56 ∨ c = 57 := by omega
          rcases this with rfl | rfl | rfl | rfl | rfl | rfl | rfl | rfl | rfl | rfl <;> decide +kernel
        have := num_signs h.1 c hc
        exact decide_eq_true (ha c this.1 this.2)
      · by_cases e : i = 0
        · subst e
          exact dw_orT (cmp (dc_eqS (de_var 0) de_str) (decide_eq_true (by decide +kernel)))
        · have hne : ¬ numS i = "0" := by
            intro q
            have q := congrArg tl q
            rw [hc] at q
            have e3 : tl ("0" : Str) = [48] := by decide
            rw [e3] at q
            cases q
            exact c3 e rfl
          refine dw_orF (cmp (dc_eqS (de_var 0) de_str) (decide_eq_false hne)) (dw_or1 (cmp (dc_neS (de_ixS (z := numS i) (n := 0) (x := c) (by omega) (de_var 0) de_int (by show (tl (numS i))[0]? = some c; rw [hc]; rfl)) de_str) ?_))
          rw [decide_eq_false]
          · rfl
          · intro q
            have q := congrArg tl q
            have e3 : tl ("0" : Str) = [48] := by decide
            rw [e3] at q
            cases q
            exact c3 e rfl
inductive FNumbersOrNone (K : PySem.W.Frag) : Fn
  | mk (s : List Int) (hne : s ≠ []) (h : ∀ x ∈ s, NumOk x) (hz : s.length ≤ 100) : FNumbersOrNone K [dat K (.str (wordOf (s.map numS)))] (dat K (intsD s))
theorem ok_numbers_or_none (T : Txt K mg CA CW CB) : GFun P w K mg base "numbers_or_none" 2 (FNumbersOrNone K) :=
  gfun_mk (N := ["word", "found", "own"]) (k := 1) T.d_numbers_or_none ["word"] ⟨rfl, rfl, rfl, by decide +kernel, rfl, by decide +kernel, by decide +kernel⟩ (fun _ _ _ _ _ _ us hl => match us, hl with | [_], _ => rfl) (fun _ _ h => by cases h <;> rfl) fun f cdv A outer s H E0 g Es E hF => by
    cases hF with
    | mk s hne h hz =>
      obtain ⟨tn, mn⟩ := T.g_NONE_WORD
      have hl := wordOf_len (l := s.map numS) (m := 7) (fun x hx => by
        obtain ⟨i, hi, rfl⟩ := List.mem_map.mp hx
        exact numS_len (h i hi))
      rw [List.length_map] at hl
      refine .inl (dr_cons (ds_skip (cmp (dc_eqS (de_var 0) (de_gstr rfl mn)) (decide_eq_false (nums_dash hne fun x hx => (h x hx).1)))) <|
        dr_cons (ds_set g 1 (de_tupleL T.B (ds := s.map PyData.int) (de_ld (de_lcA g (xs := s) (f0 := fun i => .str (numS i)) PyData.int (di_is (di_L (de_split (z := wordOf (s.map numS)) (by decide) (by omega) (de_var 0) de_str)) ?_) (blkOk_by (own := [("own", 2)]) (N := ["word", "found", "own"]) (sc := defScope (top 78)) (by decide +kernel)) (fun _ _ _ _ _ => (pg_name (i := 2) (by exact g.nd) rfl (by first | exact Or.inl rfl | exact Or.inr rfl))) (fun x _ => gbn 2)
          (fun _ _ _ _ _ i hi => de_call (ok_number_or_none T) (g.blk _ _ _ _ _) (da_cons (de_var 2) da_nil) (.mk i (h i hi))) (fun _ _ => rfl) (by omega))))) <|
        dr_ret (de_ifF (cmp (dc_inT (ds := s.map PyData.int) g de_non (de_var 1) pl_none (nbAll_ints s)) ?_) (de_var 1)))
      · rw [split_nums hne fun x hx => (h x hx).1, List.map_map]
        rfl
      · rw [decide_eq_false_iff_not]
        intro q
        obtain ⟨i, _, e⟩ := List.mem_map.mp q
        cases e
inductive FNamesOrNone (K : PySem.W.Frag) : Fn
  | mk (l : List Str) (h : NamesOk l) (hz : l.length ≤ 100) : FNamesOrNone K [dat K (.str (wordOf l))] (dat K (strsD l))
theorem ok_names_or_none (T : Txt K mg CA CW CB) : GFun P w K mg base "names_or_none" 3 (FNamesOrNone K) :=
  gfun_mk (N := ["word", "found"]) (k := 2) T.d_names_or_none ["word"] ⟨rfl, rfl, rfl, by decide +kernel, rfl, by decide +kernel, by decide +kernel⟩ (fun _ _ _ _ _ _ us hl => match us, hl with | [_], _ => rfl) (fun _ _ h => by cases h <;> rfl) fun f cdv A outer s H E0 g Es E hF => by
    cases hF with
    | mk l h hz =>
      have hl := wordOf_len (l := l) (m := 8) fun x hx => (h.all x hx).hi
      exact .inl (dr_cons (ds_set g 1 (de_tupleL T.B (de_is (de_split (z := wordOf l) (by decide) (by omega) (de_var 0) de_str) (by rw [split_names h])))) <|
        dr_ret (de_ifT (dt_val (de_call (ok_are_names T) g (da_cons (de_var 1) da_nil) (.mk l h))) (de_var 1)))
def headsOf (z : Str) : List Str := if z = "" then ["purse"] else if z = "purse" then ["purse", "limit", "buy", "paid"] else if z = "limit" then ["limit", "buy", "paid"] else ["buy", "paid"]
inductive FHeadsBehind (K : PySem.W.Frag) : Fn
  | mk (z : Str) : FHeadsBehind K [dat K (.str z)] (dat K (strsD (headsOf z)))
theorem ok_heads_behind (T : Txt K mg CA CW CB) : GFun P w K mg base "heads_behind" 1 (FHeadsBehind K) :=
  gfun_mk (N := ["head"]) (k := 0) T.d_heads_behind ["head"] ⟨rfl, rfl, rfl, by decide +kernel, rfl, by decide +kernel, by decide +kernel⟩ (fun _ _ _ _ _ _ us hl => match us, hl with | [_], _ => rfl) (fun _ _ h => by cases h <;> rfl) fun f cdv A outer s H E0 g Es E hF => by
    cases hF with
    | mk z =>
      obtain ⟨tp, mp⟩ := T.g_PURSE
      obtain ⟨tl', ml⟩ := T.g_LIMIT
      obtain ⟨ar, mr, hr⟩ := T.g_ROW_WORDS
      replace hr : ∃ (o : Obj) (its : Array Value) (n : Nat), K.lookup ar = some o ∧ o.cls = .type "tuple" ∧ o.data = .seq its n ∧ its.size ≤ sizeLine ∧ Vals (((["buy", "paid"] : List Str)).map V.str) its.toList := hr
      refine .inl (dr_if (dt_c (dc_eqS (de_var 0) de_str)) (fun e => ?_) fun e => dr_if (dt_c (dc_eqS (de_var 0) (de_gstr rfl mp))) (fun e' => ?_) fun e' => ?_)
      · have e := of_decide_eq_true e
        subst e
        exact dr_ret (de_is (de_tup (dd_cons (de_gstr rfl mp) dd_nil)) rfl)
      · have e' := of_decide_eq_true e'
        subst e'
        exact dr_ret (de_is (de_tup (ds := _) (dd_cons (de_gstr rfl mp) (dd_cons (de_gstr rfl ml) (dd_starT (de_gtup rfl mr hr) dd_nil))) (Nat.le_of_ble_eq_true rfl)) rfl)
      · have e := of_decide_eq_false e
        have e' := of_decide_eq_false e'
        by_cases e2 : z = "limit"
        · subst e2
          exact dr_ret (de_ifT (cmp (dc_eqS (de_var 0) (de_gstr rfl ml)) (decide_eq_true rfl)) (de_is (de_tup (ds := _) (dd_cons (de_gstr rfl ml) (dd_starT (de_gtup rfl mr hr) dd_nil)) (Nat.le_of_ble_eq_true rfl)) rfl))
        · refine dr_ret (de_ifF (cmp (dc_eqS (de_var 0) (de_gstr rfl ml)) (decide_eq_false e2)) (de_is (de_gtup rfl mr hr) ?_))
          unfold headsOf
          rw [if_neg e, if_neg e', if_neg e2]
end
end Lc
end
section
/-! Lc, part U: instances that are made; attributes that are set. -/
namespace Lc
open PySem L2
section
variable {P : Program} {w : World} {K : PySem.W.Frag} {mg : Str → Option Value} {base : Heap} {C : Addr}
def GInit (P : Program) (w : World) (K : PySem.W.Frag) (mg : Str → Option Value) (base : Heap) (C : Addr) (k : Nat) (F : FnM) : Prop :=
  ∃ (f : Addr) (fd : FuncData) (ps : List Str), Mk K C f ∧ Binds K fd ps [] ∧ FnOk P w K mg base CX0 k f fd ps (spM C F)
theorem ginit_mk {qual : Str} {st : Stmt} {N : List Str} {k : Nat} {F : FnM} (h : HasInit K C qual st) (ps : List Str) (S : FnScope N ps (defScope st)) (hb : BindsOk "__init__" qual st ps) (hlen : ∀ Es E a T T', F Es E a T T' → Es.length = ps.length) (b : BodyM P w K mg base C N qual st k F) : GInit P w K mg base C (k + 1) F := by
  obtain ⟨f, fd, hF, hm⟩ := h.ex
  exact ⟨f, fd, ps, hm, hF.binds hb, fn_bodyM hF S hlen b⟩
/-- a new instance, nothing in it yet -/
def insS (C a : Addr) (fs : List (Str × V)) : Sta := ⟨fun H => ∃ dx, H a = some (.ins C dx fs), fun s h => by
  obtain ⟨dx, h⟩ := h
  exact ⟨dx, s _ _ h⟩⟩
end
section
variable {ρ ρ' ρ1 : Rho} {S S' T : Sta} {E : Ent} {X : Cx} {o e : Expr} {es : List Expr} {pos pos' pp : Pos} {j k : Nat} {Es : List Ent} {F : FnM} {x f : Str} {C a : Addr}
theorem de_make (G : GInit X.prog X.w X.K X.mg X.base C j F) (g : Gx X k) (hm : X.mg x = some (.ref C)) (ha : DA X ρ (e :: es) Es) (Tx : Addr → Sta) (hF : ∀ x, F (val (.ref x) :: Es) (dat X.K .none) x (insS C x []) (Tx x)) (hE : ∀ x H, (Tx x).is H → E.is (.ref x) H) (hj : j + 1 ≤ k := by decide) (hg : Gl X x := by rfl) (hdb : (x == ("__debug__" : Str)) = false := by decide)
    (he : starEach (e :: es) X.env = (false, eval e X.env) :: starEach es X.env := by rfl) (hpl : (backTo pos (starEach es X.env)).any (·.1) = false := by rfl) : DE X ρ (.Call (.Name x pp) (e :: es) [] pos) E := by
  obtain ⟨f, fd, ps, mk, hb, hf⟩ := G
  refine PE.imp (pe_make mk hf (g.room.mono hj) hg hm hb .nil pass0 ha hdb he hpl) fun σ H Q _ z => ⟨z.1, fun vs H1 s1 i1 a dx ha hdx hne => ?_⟩
  have s2 : Same H1 (upd (upd H1 dx (.own a)) a (.ins C dx [])) := fun b o hb => by
    rw [upd_ne (ne_of_none hb ha), upd_ne (ne_of_none hb hdx)]
    exact hb
  refine ⟨val (.ref a) :: Es, dat X.K .none, a, insS C a [], Tx a, hF a, ?_, ⟨dx, upd_same⟩, fun v H' kp i t => ⟨by cases i; rfl, z.2 _ H' (s1.trans ?_) (hE a H' t)⟩⟩
  · rw [List.append_nil]
    exact .cons rfl (i1.mono s2)
  · intro b o hb
    exact kp b o (s2 b o hb) (.inl (ne_of_none hb ha))
/-- o.f = e -/
theorem ms_fld (cl : Cls X.K C) (na : NoAttr X.K C f) (sr : SR C a S ρ) (ho : DE X ρ1 o (val (.ref a))) (hv : DE X ρ1 e E) (up : Up ρ S ρ1) (hs : ∀ H, S.is H → ∃ dx fs, H a = some (.ins C dx fs) ∧ fs.length < 1000) (hS : ∀ H u dx fs, S.is H → E.is u H → H a = some (.ins C dx fs) → S'.is (upd H a (.ins C dx (putF f u fs))))
    (hsw : swapsWith e (some (.Attribute o f pos')) pos.line X.env = pure false := by rfl) : MS X C ρ S (.Assign [.Attribute o f pos'] e pos) ρ S' :=
  PS.imp (ps_fld ho hv hsw) fun D σ H _ z => ⟨up σ H z.1 z.2.1, fun y H1 s1 i1 => ⟨(up σ H z.1 z.2.1).mono s1, fun v H2 s2 i2 => by
    cases i2
    have hS2 := S.mono (s1.trans s2) z.2.1
    obtain ⟨dx, fs, h1, h2⟩ := hs H2 hS2
    have kp : Kp C a H2 (upd H2 a (.ins C dx (putF f y fs))) := kp_upd h1 (fun q => q rfl)
    exact ⟨a, C, dx, fs, rfl, h1, cl, na, h2, z.2.2 σ _ ((Keep.same (s1.trans s2)).trans kp.keep) rfl (sr.env hS2 kp (z.1.mono (s1.trans s2))) (hS H2 y dx fs hS2 (E.mono s2 i1) h1)⟩⟩⟩
/-- o.f += e, ints -/
theorem ms_fldadd {i n : Int} (cl : Cls X.K C) (na : NoAttr X.K C f) (sr : SR C a S ρ) (ho : DE X ρ1 o (val (.ref a))) (hv : DE X ρ1 e (dat X.K (.int n))) (up : Up ρ S ρ1) (hs : ∀ H, S.is H → ∃ dx fs, H a = some (.ins C dx fs) ∧ fs.length < 1000 ∧ fs.lookup f = some (.int i))
    (hS : ∀ H dx fs, S.is H → H a = some (.ins C dx fs) → S'.is (upd H a (.ins C dx (putF f (.int (i + n)) fs)))) : MS X C ρ S (.AugAssign (.Attribute o f pos') .Add e pos) ρ S' :=
  PS.imp (ps_fldaug ho hv in_add) fun D σ H _ z => ⟨up σ H z.1 z.2.1, fun v H1 s1 i1 => by
    cases i1
    have hS1 := S.mono s1 z.2.1
    obtain ⟨dx, fs, h1, h2, h3⟩ := hs H1 hS1
    refine ⟨a, C, dx, fs, .int i, rfl, h1, cl, na, h3, (up σ H z.1 z.2.1).mono s1, fun y H2 s2 i2 => ?_⟩
    cases i2
    have hS2 := S.mono s2 hS1
    have kp : Kp C a H2 (upd H2 a (.ins C dx (putF f (.int (i + n)) fs))) := kp_upd (s2 _ _ h1) (fun q => q rfl)
    exact ⟨i, n, rfl, rfl, dx, fs, s2 _ _ h1, h2, z.2.2 σ _ ((Keep.same (s1.trans s2)).trans kp.keep) rfl (sr.env hS2 kp (z.1.mono (s1.trans s2))) (hS H2 dx fs hS2 (s2 _ _ h1))⟩⟩
end

/-! ### the reader of words -/
def rdF (w : V) (ln fd k : Int) : List (Str × V) := [("own_words", w), ("own_line", .int ln), ("own_field", .int fd), ("spot", .int k)]
def RdW (K : PySem.W.Frag) (CW a : Addr) (ws : List Str) (ln fd k : Int) : Sta := ⟨fun H => ∃ dx w, H a = some (.ins CW dx (rdF w ln fd k)) ∧ Dp K H w (.list (ws.map PyData.str)), fun s h => by
  obtain ⟨dx, w, h1, h2⟩ := h
  exact ⟨dx, w, s _ _ h1, dp_mono s h2⟩⟩
def rdE (K : PySem.W.Frag) (CW a : Addr) (ws : List Str) (ln fd k : Int) : Ent := ⟨fun v H => v = .ref a ∧ (RdW K CW a ws ln fd k).is H, fun s h => ⟨h.1, (RdW K CW a ws ln fd k).mono s h.2⟩⟩
theorem strs_any {K : PySem.W.Frag} {H H' : Hp} : ∀ {vs : List V} {l : List Str}, DpAll K H vs (l.map PyData.str) → DpAll K H' vs (l.map PyData.str) := fun {vs l} h => by
  rw [dpAll_strs h]
  exact dpAll_ofStrs l
/-- a list of texts stays where another object changes -/
theorem dpl_kp {K : PySem.W.Frag} {H H' : Hp} {CW a : Addr} {v : V} {l : List Str} (ha : ∀ xs, H a ≠ some (.lst xs)) (k : Kp CW a H H') (h : Dp K H v (.list (l.map PyData.str))) : Dp K H' v (.list (l.map PyData.str)) := by
  obtain ⟨b, xs, rfl, h1, h2⟩ := dp_list h
  refine .lst ?_ (strs_any h2)
  rcases h1 with (h1 | ⟨o, h1⟩) | h1
  · exact .inl (.inl (k b _ h1 (.inl fun e => by subst e; exact ha _ h1)))
  · exact .inl (.inr ⟨o, k b _ h1 (.inr True.intro)⟩)
  · exact .inr h1
end Lc
end
section
/-! The reader of words. -/
namespace Lc
open PySem L2 TL
/-- a reader in the making -/
def wrS (K : PySem.W.Frag) (CW a : Addr) (ws : List Str) (rest : List (Str × V)) : Sta := ⟨fun H => ∃ dx w, H a = some (.ins CW dx (("own_words", w) :: rest)) ∧ Dp K H w (.list (ws.map PyData.str)), fun s h => by
  obtain ⟨dx, w, h1, h2⟩ := h
  exact ⟨dx, w, s _ _ h1, dp_mono s h2⟩⟩
section
variable {P : Program} {w : World} {K : PySem.W.Frag} {mg : Str → Option Value} {base : Heap} {CA CW CB : Addr}
inductive FWrInit (K : PySem.W.Frag) (CW : Addr) : FnM
  | mk (ws : List Str) (ln fd : Int) (a : Addr) : FWrInit K CW [val (.ref a), dat K (.list (ws.map PyData.str)), dat K (.int ln), dat K (.int fd)] (dat K .none) a (insS CW a []) (RdW K CW a ws ln fd 0)
theorem wr_se {a : Addr} {S : Sta} {ws : List Str} (h : ∀ H, S.is H → ∃ dx fs, H a = some (.ins CW dx fs)) : SE CW a S (dat K (.list (ws.map PyData.str))) := fun v H H' s k q => dpl_kp (fun xs e => by
  obtain ⟨dx, fs, h⟩ := h H s
  rw [h] at e
  cases e) k q
theorem wr_put {a : Addr} {H : Hp} {ws : List Str} {v : V} {dx : Addr} {fs : List (Str × V)} {o : HO} (h : H a = some (.ins CW dx fs)) (q : Dp K H v (.list (ws.map PyData.str))) : Dp K (upd H a o) v (.list (ws.map PyData.str)) :=
  dpl_kp (CW := CW) (fun xs e => by rw [h] at e; cases e) (kp_upd h fun q => q rfl) q
theorem ok_WordReader_init (T : Txt K mg CA CW CB) : GInit P w K mg base CW 1 (FWrInit K CW) :=
  ginit_mk (N := ["self", "words", "line", "field"]) (k := 0) T.i_WordReader ["self", "words", "line", "field"] ⟨rfl, rfl, rfl, by decide +kernel, rfl, by decide +kernel, by decide +kernel⟩ (fun _ _ _ _ _ _ us hl => match us, hl with | [_, _, _, _], _ => rfl) (fun _ _ _ _ _ h => by cases h <;> rfl) fun f cdv A outer s H E0 g Es E a Ta Tb hF H0 hT0 => by
    cases hF with
    | mk ws ln fd a =>
      have st0 : ∀ H, (Fr CW a H0 (insS CW a [])).is H → ∃ dx fs, H a = some (.ins CW dx fs) := fun H h => by
        obtain ⟨⟨dx, h⟩, _⟩ := h
        exact ⟨dx, _, h⟩
      have st1 : ∀ rest H, (Fr CW a H0 (wrS K CW a ws rest)).is H → ∃ dx fs, H a = some (.ins CW dx fs) := fun rest H h => by
        obtain ⟨⟨dx, w, h, _⟩, _⟩ := h
        exact ⟨dx, _, h⟩
      have put : ∀ (f : Str) (u : V) (rest : List (Str × V)) H dx fs, (Fr CW a H0 (wrS K CW a ws rest)).is H → H a = some (.ins CW dx fs) → f ≠ "own_words" → (Fr CW a H0 (wrS K CW a ws (putF f u rest))).is (upd H a (.ins CW dx (putF f u fs))) := fun f u rest H dx fs h ha hne => by
        obtain ⟨⟨dx', w, h1, h2⟩, h3⟩ := h
        rw [ha] at h1
        cases h1
        refine ⟨⟨dx, w, ?_, wr_put ha h2⟩, h3.trans (kp_upd ha fun q => q rfl)⟩
        rw [upd_same, putF, if_neg (Ne.symm hne)]
      have sr : ∀ S : Sta, (∀ H, S.is H → ∃ dx fs, H a = some (.ins CW dx fs)) → SR CW a S (startR ["self", "words", "line", "field"] [val (.ref a), dat K (.list (ws.map PyData.str)), dat K (.int ln), dat K (.int fd)]) := fun S h =>
        SR.start (.cons ke_val.se (.cons (wr_se h) (.cons (ke_dat rfl).se (.cons (ke_dat rfl).se .nil))))
      refine .inr ⟨_, mn_cons (ms_fld (S' := Fr CW a H0 (wrS K CW a ws [])) T.c_WordReader T.na_CW_own_words (sr _ st0) (de_var 0) (de_var 1) .refl (fun H h => ?_) (fun H u dx fs h i ha => ?_)) <|
        mn_cons (ms_fld (S' := Fr CW a H0 (wrS K CW a ws [("own_line", .int ln)])) T.c_WordReader T.na_CW_own_line (sr _ (st1 _)) (de_var 0) (de_var 2) .refl (fun H h => ?_) (fun H u dx fs h i ha => ?_)) <|
        mn_cons (ms_fld (S' := Fr CW a H0 (wrS K CW a ws [("own_line", .int ln), ("own_field", .int fd)])) T.c_WordReader T.na_CW_own_field (sr _ (st1 _)) (de_var 0) (de_var 3) .refl (fun H h => ?_) (fun H u dx fs h i ha => ?_)) <|
        mn_one (ms_fld (S' := Fr CW a H0 (RdW K CW a ws ln fd 0)) T.c_WordReader T.na_CW_spot (sr _ (st1 _)) (de_var 0) de_int .refl (fun H h => ?_) (fun H u dx fs h i ha => ?_)), rfl⟩
      · obtain ⟨⟨dx, h⟩, _⟩ := h
        exact ⟨dx, [], h, Nat.le_of_ble_eq_true rfl⟩
      · obtain ⟨⟨dx', h⟩, h3⟩ := h
        rw [ha] at h
        cases h
        exact ⟨⟨_, u, upd_same, wr_put ha i⟩, h3.trans (kp_upd ha fun q => q rfl)⟩
      · obtain ⟨⟨dx, w, h, _⟩, _⟩ := h
        exact ⟨dx, _, h, Nat.le_of_ble_eq_true rfl⟩
      · cases i
        exact put "own_line" (.int ln) [] H dx fs h ha (by decide)
      · obtain ⟨⟨dx, w, h, _⟩, _⟩ := h
        exact ⟨dx, _, h, Nat.le_of_ble_eq_true rfl⟩
      · cases i
        exact put "own_field" (.int fd) [("own_line", .int ln)] H dx fs h ha (by decide)
      · obtain ⟨⟨dx, w, h, _⟩, _⟩ := h
        exact ⟨dx, _, h, Nat.le_of_ble_eq_true rfl⟩
      · cases i
        exact put "spot" (.int 0) [("own_line", .int ln), ("own_field", .int fd)] H dx fs h ha (by decide)
/-- what a reader's attributes are -/
theorem rd_words {a : Addr} {ws : List Str} {ln fd k : Int} : ∀ v H, (rdE K CW a ws ln fd k).is v H → ∃ b dx fs u, v = .ref b ∧ H b = some (.ins CW dx fs) ∧ fs.lookup ("own_words" : Str) = some u ∧ (dat K (.list (ws.map PyData.str))).is u H := fun v H h => by
  obtain ⟨rfl, dx, w, h1, h2⟩ := h
  exact ⟨a, dx, _, w, rfl, h1, rfl, h2⟩
theorem rd_spot {a : Addr} {ws : List Str} {ln fd k : Int} : ∀ v H, (rdE K CW a ws ln fd k).is v H → ∃ b dx fs u, v = .ref b ∧ H b = some (.ins CW dx fs) ∧ fs.lookup ("spot" : Str) = some u ∧ (dat K (.int k)).is u H := fun v H h => by
  obtain ⟨rfl, dx, w, h1, h2⟩ := h
  exact ⟨a, dx, _, .int k, rfl, h1, rfl, .int k⟩
theorem rd_ins {a : Addr} {ws : List Str} {ln fd k : Int} {m : Str} (hm : (rdF .non 0 0 0).all (fun p => !decide (p.1 = m)) = true) : InsOf CW m (rdE K CW a ws ln fd k) := fun v H h => by
  obtain ⟨rfl, dx, w, h1, h2⟩ := h
  refine ⟨a, dx, _, rfl, h1, ?_⟩
  simp only [rdF, List.all_cons, List.all_nil, Bool.and_true, Bool.and_eq_true, Bool.not_eq_true', decide_eq_false_iff_not] at hm
  obtain ⟨m1, m2, m3, m4⟩ := hm
  simp only [rdF, List.lookup_cons]
  have e1 : (m == ("own_words" : Str)) = false := beq_eq_false_iff_ne.mpr (Ne.symm m1)
  have e2 : (m == ("own_line" : Str)) = false := beq_eq_false_iff_ne.mpr (Ne.symm m2)
  have e3 : (m == ("own_field" : Str)) = false := beq_eq_false_iff_ne.mpr (Ne.symm m3)
  have e4 : (m == ("spot" : Str)) = false := beq_eq_false_iff_ne.mpr (Ne.symm m4)
  simp only [e1, e2, e3, e4, List.lookup_nil]
theorem rd_val {a : Addr} {ws : List Str} {ln fd k : Int} : ∀ v H, (rdE K CW a ws ln fd k).is v H → (val (.ref a)).is v H := fun _ _ h => h.1
inductive FNextWord (K : PySem.W.Frag) (CW : Addr) : Fn
  | mk (a : Addr) (ws : List Str) (ln fd : Int) (n : Nat) (z : Str) (h : ws[n]? = some z) : FNextWord K CW [rdE K CW a ws ln fd (n : Int)] (dat K (.str z))
theorem ok_WordReader_next_word (T : Txt K mg CA CW CB) : GMeth P w K mg base CW "next_word" 1 (FNextWord K CW) :=
  gmeth_mk (N := ["self"]) (k := 0) T.m_WordReader_next_word ["self"] ⟨rfl, rfl, rfl, by decide +kernel, rfl, by decide +kernel, by decide +kernel⟩ (fun _ _ _ _ _ _ us hl => match us, hl with | [_], _ => rfl) (fun _ _ h => by cases h <;> rfl) fun f cdv A outer s H E0 g Es E hF => by
    cases hF with
    | mk a ws ln fd n z h =>
      have hn : n < ws.length := (List.getElem?_eq_some_iff.mp h).1
      exact .inl (dr_cons (ds_skip (cmp (dc_ge (de_fld T.c_WordReader T.na_CW_spot (rd_spot (a := a) (ws := ws) (ln := ln) (fd := fd) (k := n)) (de_var 0)) (de_lenL T.B (ds := ws.map PyData.str) (de_fld T.c_WordReader T.na_CW_own_words rd_words (de_var 0)))) (decide_eq_false (by rw [List.length_map]; omega)))) <|
        dr_ret (de_ixL (n := n) (ds := ws.map PyData.str) (de_fld T.c_WordReader T.na_CW_own_words rd_words (de_var 0)) (de_fld T.c_WordReader T.na_CW_spot (rd_spot (a := a) (ws := ws) (ln := ln) (fd := fd) (k := n)) (de_var 0)) (by rw [List.getElem?_map, h]; rfl)))
inductive FEnd (K : PySem.W.Frag) (CW : Addr) : Fn
  | mk (a : Addr) (ws : List Str) (ln fd : Int) (n : Nat) (h : ws.length = n) : FEnd K CW [rdE K CW a ws ln fd (n : Int)] (dat K .none)
theorem ok_WordReader_end (T : Txt K mg CA CW CB) : GMeth P w K mg base CW "end" 1 (FEnd K CW) :=
  gmeth_mk (N := ["self"]) (k := 0) T.m_WordReader_end ["self"] ⟨rfl, rfl, rfl, by decide +kernel, rfl, by decide +kernel, by decide +kernel⟩ (fun _ _ _ _ _ _ us hl => match us, hl with | [_], _ => rfl) (fun _ _ h => by cases h <;> rfl) fun f cdv A outer s H E0 g Es E hF => by
    cases hF with
    | mk a ws ln fd n h =>
      exact .inr ⟨_, dn_one (ds_skip (cmp (dc_lt (de_fld T.c_WordReader T.na_CW_spot (rd_spot (a := a) (ws := ws) (ln := ln) (fd := fd) (k := n)) (de_var 0)) (de_lenL T.B (ds := ws.map PyData.str) (de_fld T.c_WordReader T.na_CW_own_words rd_words (de_var 0)))) (decide_eq_false (by rw [List.length_map]; omega)))), rfl⟩
inductive FTakeFound (K : PySem.W.Frag) (CW : Addr) : FnM
  | mk (a : Addr) (ws : List Str) (ln fd : Int) (n : Nat) (d : D) (h : nl d = true) (hd : d ≠ .none) : FTakeFound K CW [val (.ref a), dat K d] (dat K d) a (RdW K CW a ws ln fd (n : Int)) (RdW K CW a ws ln fd ((n + 1 : Nat) : Int))
theorem ok_WordReader_take_found (T : Txt K mg CA CW CB) : GMethM P w K mg base CW CW "take_found" 1 (FTakeFound K CW) :=
  gmethM_mk (N := ["self", "found"]) (k := 0) T.m_WordReader_take_found ["self", "found"] ⟨rfl, rfl, rfl, by decide +kernel, rfl, by decide +kernel, by decide +kernel⟩ (fun _ _ _ _ _ _ us hl => match us, hl with | [_, _], _ => rfl) (fun _ _ _ _ _ h => by cases h <;> rfl) fun f cdv A outer s H E0 g Es E a Ta Tb hF H0 hT0 => by
    cases hF with
    | mk a ws ln fd n d h hd =>
      refine .inl (mr_cons (ms_skip (cmp (dc_isN (de_var 1)) (by cases d <;> first | rfl | exact absurd rfl hd)) .refl) <| mr_cons (ms_fldadd (S' := Fr CW a H0 (RdW K CW a ws ln fd ((n + 1 : Nat) : Int))) (i := n) T.c_WordReader T.na_CW_spot (SR.start (.cons ke_val.se (.cons (ke_dat h).se .nil))) (de_var 0) de_int .refl (fun H hh => ?_) (fun H dx fs hh ha => ?_)) <| mr_ret (a := a) .fr (me_p (de_var 1)))
      · obtain ⟨⟨dx, w, h1, _⟩, _⟩ := hh
        exact ⟨dx, _, h1, Nat.le_of_ble_eq_true rfl, rfl⟩
      · obtain ⟨⟨dx', w, h1, h2⟩, h3⟩ := hh
        rw [ha] at h1
        cases h1
        exact ⟨⟨_, w, upd_same, wr_put ha h2⟩, h3.trans (kp_upd ha fun q => q rfl)⟩
end
end Lc
end
section
/-! The reader of words: what it takes. -/
namespace Lc
open PySem L2 TL
section
variable {P : Program} {w : World} {K : PySem.W.Frag} {mg : Str → Option Value} {base : Heap} {CA CW CB : Addr}
theorem upW {ρ : Rho} {a : Addr} {ws : List Str} {ln fd k : Int} (i : Nat) (h : ρ[i]? = some (some (val (.ref a)))) : Up ρ (RdW K CW a ws ln fd k) (ρ.set i (some (rdE K CW a ws ln fd k))) := Up.at (fun v H s e => ⟨e, s⟩) h
theorem upF {ρ : Rho} {a : Addr} {H0 : Hp} {ws : List Str} {ln fd k : Int} (i : Nat) (h : ρ[i]? = some (some (val (.ref a)))) : Up ρ (Fr CW a H0 (RdW K CW a ws ln fd k)) (ρ.set i (some (rdE K CW a ws ln fd k))) := Up.at (fun v H s e => ⟨e, s.1⟩) h
inductive FTakeWord (K : PySem.W.Frag) (CW : Addr) : FnM
  | mk (a : Addr) (ws : List Str) (ln fd : Int) (n : Nat) (z : Str) (ys : List Str) (h : ws[n]? = some z) (hm : z ∈ ys) : FTakeWord K CW [val (.ref a), dat K (strsD ys)] (dat K (.str z)) a (RdW K CW a ws ln fd (n : Int)) (RdW K CW a ws ln fd ((n + 1 : Nat) : Int))
theorem ok_WordReader_take_word (T : Txt K mg CA CW CB) : GMethM P w K mg base CW CW "take_word" 2 (FTakeWord K CW) :=
  gmethM_mk (N := ["self", "words", "word"]) (k := 1) T.m_WordReader_take_word ["self", "words"] ⟨rfl, rfl, rfl, by decide +kernel, rfl, by decide +kernel, by decide +kernel⟩ (fun _ _ _ _ _ _ us hl => match us, hl with | [_, _], _ => rfl) (fun _ _ _ _ _ h => by cases h <;> rfl) fun f cdv A outer s H E0 g Es E a Ta Tb hF H0 hT0 => by
    cases hF with
    | mk a ws ln fd n z ys h hm =>
      exact .inl (mr_cons (ms_set .fr g 2 (me_of (de_meth0 (ok_WordReader_next_word T) T.c_WordReader (rd_ins rfl) g (de_var 0) (.mk a ws ln fd n z h)) (upW 0 rfl))) <|
        mr_ret .fr (me_meth (ok_WordReader_take_found T) T.c_WordReader (rd_ins rfl) rd_val g (de_var 0) (da_cons (de_ifT (cmp (dc_inTs (l := ys) g (de_var 2) (de_var 1)) (decide_eq_true hm)) (de_var 2)) da_nil) (upW 0 rfl) (.mk a ws ln fd n (.str z) rfl (fun q => by cases q)) (by repeat' first | refine SR.set ?_ ?_ | exact sr_bkR | exact (ke_dat (nl_ln _)).se | refine SR.wipe ?_ _ | refine SR.start ?_ | refine SEs.cons ?_ ?_ | exact SEs.nil | exact ke_val.se | exact (ke_dat rfl).se | exact (ke_dat (nl_strsD _)).se | exact (ke_dat (nl_intsD _)).se | exact (ke_dat (nl_purseD _)).se | exact (ke_dat (nl_limitD _)).se | exact (ke_dat (nl_rowD _)).se | assumption)))
inductive FTakeName (K : PySem.W.Frag) (CW : Addr) : FnM
  | mk (a : Addr) (ws : List Str) (ln fd : Int) (n : Nat) (z : Str) (h : ws[n]? = some z) (hz : NameOk z) : FTakeName K CW [val (.ref a)] (dat K (.str z)) a (RdW K CW a ws ln fd (n : Int)) (RdW K CW a ws ln fd ((n + 1 : Nat) : Int))
theorem ok_WordReader_take_name (T : Txt K mg CA CW CB) : GMethM P w K mg base CW CW "take_name" 2 (FTakeName K CW) :=
  gmethM_mk (N := ["self", "word"]) (k := 1) T.m_WordReader_take_name ["self"] ⟨rfl, rfl, rfl, by decide +kernel, rfl, by decide +kernel, by decide +kernel⟩ (fun _ _ _ _ _ _ us hl => match us, hl with | [_], _ => rfl) (fun _ _ _ _ _ h => by cases h <;> rfl) fun f cdv A outer s H E0 g Es E a Ta Tb hF H0 hT0 => by
    cases hF with
    | mk a ws ln fd n z h hz =>
      exact .inl (mr_cons (ms_set .fr g 1 (me_of (de_meth0 (ok_WordReader_next_word T) T.c_WordReader (rd_ins rfl) g (de_var 0) (.mk a ws ln fd n z h)) (upW 0 rfl))) <|
        mr_ret .fr (me_meth (ok_WordReader_take_found T) T.c_WordReader (rd_ins rfl) rd_val g (de_var 0) (da_cons (de_ifT (dt_val (de_call (ok_is_name T) g (da_cons (de_var 1) da_nil) (.mk z hz))) (de_var 1)) da_nil) (upW 0 rfl) (.mk a ws ln fd n (.str z) rfl (fun q => by cases q)) (by repeat' first | refine SR.set ?_ ?_ | exact sr_bkR | exact (ke_dat (nl_ln _)).se | refine SR.wipe ?_ _ | refine SR.start ?_ | refine SEs.cons ?_ ?_ | exact SEs.nil | exact ke_val.se | exact (ke_dat rfl).se | exact (ke_dat (nl_strsD _)).se | exact (ke_dat (nl_intsD _)).se | exact (ke_dat (nl_purseD _)).se | exact (ke_dat (nl_limitD _)).se | exact (ke_dat (nl_rowD _)).se | assumption)))
inductive FTakeNumber (K : PySem.W.Frag) (CW : Addr) : FnM
  | mk (a : Addr) (ws : List Str) (ln fd : Int) (n : Nat) (i : Int) (h : ws[n]? = some (numS i)) (hi : NumOk i) : FTakeNumber K CW [val (.ref a)] (dat K (.int i)) a (RdW K CW a ws ln fd (n : Int)) (RdW K CW a ws ln fd ((n + 1 : Nat) : Int))
theorem ok_WordReader_take_number (T : Txt K mg CA CW CB) : GMethM P w K mg base CW CW "take_number" 2 (FTakeNumber K CW) :=
  gmethM_mk (N := ["self"]) (k := 1) T.m_WordReader_take_number ["self"] ⟨rfl, rfl, rfl, by decide +kernel, rfl, by decide +kernel, by decide +kernel⟩ (fun _ _ _ _ _ _ us hl => match us, hl with | [_], _ => rfl) (fun _ _ _ _ _ h => by cases h <;> rfl) fun f cdv A outer s H E0 g Es E a Ta Tb hF H0 hT0 => by
    cases hF with
    | mk a ws ln fd n i h hi =>
      exact .inl (mr_ret .fr (me_meth (ok_WordReader_take_found T) T.c_WordReader (rd_ins rfl) rd_val g (de_var 0) (da_cons (de_call (ok_number_or_none T) g (da_cons (de_meth0 (ok_WordReader_next_word T) T.c_WordReader (rd_ins rfl) g (de_var 0) (.mk a ws ln fd n _ h)) da_nil) (.mk i hi)) da_nil) (upW 0 rfl) (.mk a ws ln fd n (.int i) rfl (fun q => by cases q)) (by repeat' first | refine SR.set ?_ ?_ | exact sr_bkR | exact (ke_dat (nl_ln _)).se | refine SR.wipe ?_ _ | refine SR.start ?_ | refine SEs.cons ?_ ?_ | exact SEs.nil | exact ke_val.se | exact (ke_dat rfl).se | exact (ke_dat (nl_strsD _)).se | exact (ke_dat (nl_intsD _)).se | exact (ke_dat (nl_purseD _)).se | exact (ke_dat (nl_limitD _)).se | exact (ke_dat (nl_rowD _)).se | assumption)))
inductive FTakeLast (K : PySem.W.Frag) (CW : Addr) : FnM
  | mk (a : Addr) (ws : List Str) (ln fd : Int) (n : Nat) (i j : Int) (h : ws[n]? = some (numS i)) (hi : NumOk i) (hj : j ≤ i) : FTakeLast K CW [val (.ref a), dat K (.int j)] (dat K (.int i)) a (RdW K CW a ws ln fd (n : Int)) (RdW K CW a ws ln fd ((n + 1 : Nat) : Int))
theorem ok_WordReader_take_last (T : Txt K mg CA CW CB) : GMethM P w K mg base CW CW "take_last" 2 (FTakeLast K CW) :=
  gmethM_mk (N := ["self", "first", "found"]) (k := 1) T.m_WordReader_take_last ["self", "first"] ⟨rfl, rfl, rfl, by decide +kernel, rfl, by decide +kernel, by decide +kernel⟩ (fun _ _ _ _ _ _ us hl => match us, hl with | [_, _], _ => rfl) (fun _ _ _ _ _ h => by cases h <;> rfl) fun f cdv A outer s H E0 g Es E a Ta Tb hF H0 hT0 => by
    cases hF with
    | mk a ws ln fd n i j h hi hj =>
      exact .inl (mr_cons (ms_set .fr g 2 (me_of (de_call (ok_number_or_none T) g (da_cons (de_meth0 (ok_WordReader_next_word T) T.c_WordReader (rd_ins rfl) g (de_var 0) (.mk a ws ln fd n _ h)) da_nil) (.mk i hi)) (upW 0 rfl))) <|
        mr_ret .fr (me_meth (ok_WordReader_take_found T) T.c_WordReader (rd_ins rfl) rd_val g (de_var 0) (da_cons (de_ifT (dt_w (dw_andT (cmp (dc_notN (de_var 2))) (dw_and1 (cmp (dc_ge (de_var 2) (de_var 1)) (decide_eq_true hj))))) (de_var 2)) da_nil) (upW 0 rfl) (.mk a ws ln fd n (.int i) rfl (fun q => by cases q)) (by repeat' first | refine SR.set ?_ ?_ | exact sr_bkR | exact (ke_dat (nl_ln _)).se | refine SR.wipe ?_ _ | refine SR.start ?_ | refine SEs.cons ?_ ?_ | exact SEs.nil | exact ke_val.se | exact (ke_dat rfl).se | exact (ke_dat (nl_strsD _)).se | exact (ke_dat (nl_intsD _)).se | exact (ke_dat (nl_purseD _)).se | exact (ke_dat (nl_limitD _)).se | exact (ke_dat (nl_rowD _)).se | assumption)))
inductive FTakeNames (K : PySem.W.Frag) (CW : Addr) : FnM
  | mk (a : Addr) (ws : List Str) (ln fd : Int) (n : Nat) (l : List Str) (h : ws[n]? = some (wordOf l)) (hl : NamesOk l) (hz : l.length ≤ 100) : FTakeNames K CW [val (.ref a)] (dat K (strsD l)) a (RdW K CW a ws ln fd (n : Int)) (RdW K CW a ws ln fd ((n + 1 : Nat) : Int))
theorem ok_WordReader_take_names (T : Txt K mg CA CW CB) : GMethM P w K mg base CW CW "take_names" 4 (FTakeNames K CW) :=
  gmethM_mk (N := ["self"]) (k := 3) T.m_WordReader_take_names ["self"] ⟨rfl, rfl, rfl, by decide +kernel, rfl, by decide +kernel, by decide +kernel⟩ (fun _ _ _ _ _ _ us hl => match us, hl with | [_], _ => rfl) (fun _ _ _ _ _ h => by cases h <;> rfl) fun f cdv A outer s H E0 g Es E a Ta Tb hF H0 hT0 => by
    cases hF with
    | mk a ws ln fd n l h hl hz =>
      exact .inl (mr_ret .fr (me_meth (ok_WordReader_take_found T) T.c_WordReader (rd_ins rfl) rd_val g (de_var 0) (da_cons (de_call (ok_names_or_none T) g (da_cons (de_meth0 (ok_WordReader_next_word T) T.c_WordReader (rd_ins rfl) g (de_var 0) (.mk a ws ln fd n _ h)) da_nil) (.mk l hl hz)) da_nil) (upW 0 rfl) (.mk a ws ln fd n (strsD l) (nl_strsD l) (fun q => by cases q)) (by repeat' first | refine SR.set ?_ ?_ | exact sr_bkR | exact (ke_dat (nl_ln _)).se | refine SR.wipe ?_ _ | refine SR.start ?_ | refine SEs.cons ?_ ?_ | exact SEs.nil | exact ke_val.se | exact (ke_dat rfl).se | exact (ke_dat (nl_strsD _)).se | exact (ke_dat (nl_intsD _)).se | exact (ke_dat (nl_purseD _)).se | exact (ke_dat (nl_limitD _)).se | exact (ke_dat (nl_rowD _)).se | assumption)))
inductive FTakeNumbers (K : PySem.W.Frag) (CW : Addr) : FnM
  | mk (a : Addr) (ws : List Str) (ln fd : Int) (n : Nat) (s : List Int) (h : ws[n]? = some (wordOf (s.map numS))) (hne : s ≠ []) (hs : ∀ x ∈ s, NumOk x) (hz : s.length ≤ 100) : FTakeNumbers K CW [val (.ref a)] (dat K (intsD s)) a (RdW K CW a ws ln fd (n : Int)) (RdW K CW a ws ln fd ((n + 1 : Nat) : Int))
theorem ok_WordReader_take_numbers (T : Txt K mg CA CW CB) : GMethM P w K mg base CW CW "take_numbers" 3 (FTakeNumbers K CW) :=
  gmethM_mk (N := ["self"]) (k := 2) T.m_WordReader_take_numbers ["self"] ⟨rfl, rfl, rfl, by decide +kernel, rfl, by decide +kernel, by decide +kernel⟩ (fun _ _ _ _ _ _ us hl => match us, hl with | [_], _ => rfl) (fun _ _ _ _ _ h => by cases h <;> rfl) fun f cdv A outer s H E0 g Es E a Ta Tb hF H0 hT0 => by
    cases hF with
    | mk a ws ln fd n s h hne hs hz =>
      exact .inl (mr_ret .fr (me_meth (ok_WordReader_take_found T) T.c_WordReader (rd_ins rfl) rd_val g (de_var 0) (da_cons (de_call (ok_numbers_or_none T) g (da_cons (de_meth0 (ok_WordReader_next_word T) T.c_WordReader (rd_ins rfl) g (de_var 0) (.mk a ws ln fd n _ h)) da_nil) (.mk s hne hs hz)) da_nil) (upW 0 rfl) (.mk a ws ln fd n (intsD s) (nl_intsD s) (fun q => by cases q)) (by repeat' first | refine SR.set ?_ ?_ | exact sr_bkR | exact (ke_dat (nl_ln _)).se | refine SR.wipe ?_ _ | refine SR.start ?_ | refine SEs.cons ?_ ?_ | exact SEs.nil | exact ke_val.se | exact (ke_dat rfl).se | exact (ke_dat (nl_strsD _)).se | exact (ke_dat (nl_intsD _)).se | exact (ke_dat (nl_purseD _)).se | exact (ke_dat (nl_limitD _)).se | exact (ke_dat (nl_rowD _)).se | assumption)))
end
end Lc
end
section
/-! The lines of a book's text. -/
namespace Lc
open PySem L2 TL
inductive Ln where
  | p (x : Purse)
  | l (x : Limit)
  | r (x : Rw)
def Ln.words : Ln → List Str
  | .p x => purseWords x
  | .l x => limitWords x
  | .r x => rowWords x
def Ln.text (x : Ln) : Str := PySem.Txt.join " " x.words
def Ln.data : Ln → D
  | .p x => purseD x
  | .l x => limitD x
  | .r x => rowD x
def Ln.word : Ln → Str
  | .p _ => "purse"
  | .l _ => "limit"
  | .r x => x.word
def Ln.asP : Ln → Option Purse
  | .p x => some x
  | _ => none
def Ln.asL : Ln → Option Limit
  | .l x => some x
  | _ => none
def Ln.asR : Ln → Option Rw
  | .r x => some x
  | _ => none
def lns (b : Bk) : List Ln := b.purses.map .p ++ b.limits.map .l ++ b.rows.map .r
/-- a line that can be read -/
def Ln.Ok : Ln → Prop
  | .p x => PurseOk x ∧ SmallP x
  | .l x => LimitOk x ∧ SmallL x
  | .r x => RowOk x ∧ SmallR x ∧ (x.isPaid = true → x.shares ≠ [])
theorem lns_text (b : Bk) : (lns b).map Ln.text = bookLines b := by
  unfold lns bookLines
  simp only [List.map_append, List.map_map]
  rfl
theorem fm_some {α β : Type} (f : β → α) (g : α → Option β) (h : ∀ x, g (f x) = some x) : ∀ l : List β, (l.map f).filterMap g = l
  | [] => rfl
  | x :: l => by rw [List.map_cons, List.filterMap_cons, h]; simp only; rw [fm_some f g h l]
theorem fm_none {α β γ : Type} (f : β → α) (g : α → Option γ) (h : ∀ x, g (f x) = none) : ∀ l : List β, (l.map f).filterMap g = []
  | [] => rfl
  | x :: l => by rw [List.map_cons, List.filterMap_cons, h]; simp only; rw [fm_none f g h l]
theorem lns_p (b : Bk) : (lns b).filterMap Ln.asP = b.purses := by
  unfold lns
  rw [List.filterMap_append, List.filterMap_append, fm_some Ln.p Ln.asP (fun _ => rfl), fm_none Ln.l Ln.asP (fun _ => rfl), fm_none Ln.r Ln.asP (fun _ => rfl)]
  simp
theorem lns_l (b : Bk) : (lns b).filterMap Ln.asL = b.limits := by
  unfold lns
  rw [List.filterMap_append, List.filterMap_append, fm_none Ln.p Ln.asL (fun _ => rfl), fm_some Ln.l Ln.asL (fun _ => rfl), fm_none Ln.r Ln.asL (fun _ => rfl)]
  simp
theorem lns_r (b : Bk) : (lns b).filterMap Ln.asR = b.rows := by
  unfold lns
  rw [List.filterMap_append, List.filterMap_append, fm_none Ln.p Ln.asR (fun _ => rfl), fm_none Ln.l Ln.asR (fun _ => rfl), fm_some Ln.r Ln.asR (fun _ => rfl)]
  simp
/-- the word of the line ahead of the i-th -/
def headAt (ls : List Ln) : Nat → Str
  | 0 => ""
  | i + 1 => match ls[i]? with
    | some x => x.word
    | none => ""
/-- purses, then limits, then rows -/
def rankOf : Ln → Nat
  | .p _ => 0
  | .l _ => 1
  | .r _ => 2
theorem lns_ranks (b : Bk) : ((lns b).map rankOf).Pairwise (· ≤ ·) := by
  unfold lns
  simp only [List.map_append, List.map_map]
  have e1 : b.purses.map (rankOf ∘ Ln.p) = List.replicate b.purses.length 0 := by
    rw [List.eq_replicate_iff]
    exact ⟨List.length_map .., fun x hx => by obtain ⟨_, _, rfl⟩ := List.mem_map.mp hx; rfl⟩
  have e2 : b.limits.map (rankOf ∘ Ln.l) = List.replicate b.limits.length 1 := by
    rw [List.eq_replicate_iff]
    exact ⟨List.length_map .., fun x hx => by obtain ⟨_, _, rfl⟩ := List.mem_map.mp hx; rfl⟩
  have e3 : b.rows.map (rankOf ∘ Ln.r) = List.replicate b.rows.length 2 := by
    rw [List.eq_replicate_iff]
    exact ⟨List.length_map .., fun x hx => by obtain ⟨_, _, rfl⟩ := List.mem_map.mp hx; rfl⟩
  rw [e1, e2, e3, List.pairwise_append, List.pairwise_append]
  refine ⟨⟨?_, ?_, ?_⟩, ?_, ?_⟩
  · exact List.pairwise_replicate.mpr (.inr (Nat.le_refl _))
  · exact List.pairwise_replicate.mpr (.inr (Nat.le_refl _))
  · intro x hx y hy
    rw [(List.mem_replicate.mp hx).2, (List.mem_replicate.mp hy).2]
    decide
  · exact List.pairwise_replicate.mpr (.inr (Nat.le_refl _))
  · intro x hx y hy
    rw [(List.mem_replicate.mp hy).2]
    rcases List.mem_append.mp hx with hx | hx
    · rw [(List.mem_replicate.mp hx).2]; decide
    · rw [(List.mem_replicate.mp hx).2]; decide
theorem word_rank_head : ∀ x y : Ln, rankOf x ≤ rankOf y → y.word ∈ headsOf x.word := by
  intro x y h
  have hb : ∀ r : Rw, r.word = "buy" ∨ r.word = "paid" := fun r => by cases r <;> simp [Rw.word]
  have e1 : headsOf ("purse" : Str) = (["purse", "limit", "buy", "paid"] : List Str) := by decide +kernel
  have e2 : headsOf ("limit" : Str) = (["limit", "buy", "paid"] : List Str) := by decide +kernel
  have e3 : headsOf ("buy" : Str) = (["buy", "paid"] : List Str) := by decide +kernel
  have e4 : headsOf ("paid" : Str) = (["buy", "paid"] : List Str) := by decide +kernel
  cases x with
  | p x =>
    show y.word ∈ headsOf ("purse" : Str)
    rw [e1]
    cases y with
    | p y => exact List.mem_cons_self ..
    | l y => exact List.mem_cons_of_mem _ (List.mem_cons_self ..)
    | r y => rcases hb y with e | e <;> simp [Ln.word, e]
  | l x =>
    show y.word ∈ headsOf ("limit" : Str)
    rw [e2]
    cases y with
    | p y => exact absurd h (by decide : ¬ (1 : Nat) ≤ 0)
    | l y => exact List.mem_cons_self ..
    | r y => rcases hb y with e | e <;> simp [Ln.word, e]
  | r x =>
    show y.word ∈ headsOf x.word
    have hx : headsOf x.word = (["buy", "paid"] : List Str) := by rcases hb x with e | e <;> rw [e] <;> assumption
    rw [hx]
    cases y with
    | p y => exact absurd h (by decide : ¬ (2 : Nat) ≤ 0)
    | l y => exact absurd h (by decide : ¬ (2 : Nat) ≤ 1)
    | r y => rcases hb y with e | e <;> simp [Ln.word, e]
theorem head_ok {b : Bk} (hne : b.purses ≠ []) {i : Nat} {x : Ln} (h : (lns b)[i]? = some x) : x.word ∈ headsOf (headAt (lns b) i) := by
  cases i with
  | zero =>
    have e1 : headsOf ("" : Str) = (["purse"] : List Str) := by decide +kernel
    show x.word ∈ headsOf ("" : Str)
    rw [e1]
    cases hp : b.purses with
    | nil => exact absurd hp hne
    | cons p r =>
      unfold lns at h
      rw [hp] at h
      cases h
      exact List.mem_cons_self ..
  | succ i =>
    obtain ⟨y, hy⟩ : ∃ y, (lns b)[i]? = some y := by
      have := (List.getElem?_eq_some_iff.mp h).1
      exact ⟨_, List.getElem?_eq_getElem (by omega)⟩
    show x.word ∈ headsOf (match (lns b)[i]? with | some x => x.word | none => "")
    rw [hy]
    refine word_rank_head y x ?_
    have hp := lns_ranks b
    rw [List.pairwise_iff_getElem] at hp
    obtain ⟨h1, h2⟩ := List.getElem?_eq_some_iff.mp h
    obtain ⟨h3, h4⟩ := List.getElem?_eq_some_iff.mp hy
    have := hp i (i + 1) (by simpa using h3) (by simpa using h1) (by omega)
    rw [List.getElem_map, List.getElem_map, h2, h4] at this
    exact this
/-- a line split again -/
theorem tl_space : tl (" " : Str) = 32 :: [] := by decide
theorem name_free {z : Str} (h : NameOk z) {c : Nat} (hc : c < 97) : c ∉ tl z := fun hm => by
  have := name_signs h c hm
  omega
theorem num_free {i : Int} (h : 0 ≤ i) {c : Nat} (hc : c < 48) : c ∉ tl (numS i) := fun hm => by
  have := num_signs h c hm
  omega
theorem joinL_mem {S : List Nat} : ∀ {l : List (List Nat)} {c : Nat}, c ∈ joinL S l → c ∈ S ∨ ∃ p ∈ l, c ∈ p
  | [], c, h => by cases h
  | [p], c, h => .inr ⟨p, by simp, h⟩
  | p :: q :: r, c, h => by
    have h : c ∈ p ++ (S ++ joinL S (q :: r)) := h
    rcases List.mem_append.mp h with h | h
    · exact .inr ⟨p, by simp, h⟩
    · rcases List.mem_append.mp h with h | h
      · exact .inl h
      · rcases joinL_mem h with h | ⟨z, hz, h⟩
        · exact .inl h
        · exact .inr ⟨z, by simp at hz ⊢; exact .inr hz, h⟩
theorem wordOf_free {l : List Str} {c : Nat} (h : ∀ z ∈ l, c ∉ tl z) (hc : c < 44) : c ∉ tl (wordOf l) := by
  unfold wordOf
  cases l with
  | nil =>
    show c ∉ tl ("-" : Str)
    have e : tl ("-" : Str) = [45] := by decide
    rw [e]
    simp
    omega
  | cons x r =>
    show c ∉ tl (PySem.Txt.join "," (x :: r))
    rw [join_eq, tl_join]
    intro hm
    rcases joinL_mem hm with hm | ⟨p, hp, hm⟩
    · rw [tl_comma] at hm
      simp at hm
      omega
    · obtain ⟨z, hz, rfl⟩ := List.mem_map.mp hp
      exact h z hz hm
theorem rest_free {r : Rw} (h : RowOk r) {c : Nat} (hc : c < 44) : c ∉ tl r.restS := by
  cases r with
  | buy d k a => exact num_free h.rest (by omega)
  | paid d k s => exact wordOf_free (fun z hz => by
      obtain ⟨i, hi, rfl⟩ := List.mem_map.mp hz
      exact num_free (h.rest.1 i hi) (by omega)) hc
theorem words_free {x : Ln} (h : x.Ok) {c : Nat} (hc : c < 44) : ∀ z ∈ x.words, c ∉ tl z := by
  have w : ∀ (z : Str), (∀ d ∈ tl z, 97 ≤ d) → c ∉ tl z := fun z hz hm => by
    have := hz c hm
    omega
  cases x with
  | p x =>
    obtain ⟨h, _⟩ := h
    intro z hz
    simp only [Ln.words, purseWords, List.mem_cons, List.not_mem_nil, or_false] at hz
    rcases hz with rfl | rfl | rfl | rfl | rfl | rfl
    · exact w _ (by decide +kernel)
    · exact name_free h.name (by omega)
    · exact name_free h.sponsor (by omega)
    · exact num_free h.first (by omega)
    · exact num_free (by have := h.first; have := h.last; omega) (by omega)
    · exact wordOf_free (fun z hz => name_free (h.kinds.all z hz) (by omega)) hc
  | l x =>
    obtain ⟨h, _⟩ := h
    intro z hz
    simp only [Ln.words, limitWords, List.mem_cons, List.not_mem_nil, or_false] at hz
    rcases hz with rfl | rfl | rfl | rfl | rfl
    · exact w _ (by decide +kernel)
    · exact wordOf_free (fun z hz => name_free (h.names.all z hz) (by omega)) hc
    · exact num_free h.first (by omega)
    · exact num_free (by have := h.first; have := h.last; omega) (by omega)
    · exact num_free h.cap (by omega)
  | r x =>
    obtain ⟨h, _⟩ := h
    intro z hz
    simp only [Ln.words, rowWords, List.mem_cons, List.not_mem_nil, or_false] at hz
    rcases hz with rfl | rfl | rfl | rfl
    · cases x with
      | buy d k a => exact w ("buy" : Str) (by decide +kernel)
      | paid d k s => exact w ("paid" : Str) (by decide +kernel)
    · exact num_free h.day (by omega)
    · exact name_free h.kind (by omega)
    · exact rest_free h hc
theorem words_ne (x : Ln) : x.words ≠ [] := by cases x <;> intro h <;> cases h
theorem split_line {x : Ln} (h : x.Ok) : PySem.Txt.split x.text " " = x.words :=
  split_join tl_space (by decide +kernel) (words_ne x) (words_free h (by omega))
theorem text_free {x : Ln} (h : x.Ok) : 10 ∉ tl x.text := by
  unfold Ln.text
  rw [join_eq, tl_join]
  intro hm
  rcases joinL_mem hm with hm | ⟨p, hp, hm⟩
  · rw [tl_space] at hm
    simp at hm
  · obtain ⟨z, hz, rfl⟩ := List.mem_map.mp hp
    exact words_free h (by omega) z hz hm
theorem tl_line : tl ("\n" : Str) = 10 :: [] := by decide
theorem split_book {b : Bk} (hne : b.purses ≠ []) (h : ∀ x ∈ lns b, x.Ok) : PySem.Txt.split (bookText b) "\n" = bookLines b := by
  refine split_join tl_line (by decide +kernel) (fun e => ?_) fun p hp => ?_
  · unfold bookLines at e
    rw [List.append_eq_nil_iff, List.append_eq_nil_iff] at e
    exact hne (List.map_eq_nil_iff.mp e.1.1)
  · rw [← lns_text, List.mem_map] at hp
    obtain ⟨x, hx, rfl⟩ := hp
    exact text_free (h x hx)
end Lc
end
section
/-! Lc, part V: own lists that grow; continuations with new objects. -/
namespace Lc
open PySem L2
/-- lists made since H0, each with what is known of its items -/
structure OwnL (H0 : Hp) (L : List (Addr × List Ent)) (H : Hp) : Prop where
  has : ∀ q ∈ L, ∃ vs, H q.1 = some (.lst vs) ∧ All2 H vs q.2
  new : ∀ q ∈ L, H0 q.1 = none
  nd : (L.map (·.1)).Nodup
def KL (CW : Addr) (L : List (Addr × List Ent)) : Prop := ∀ q ∈ L, ∀ E ∈ q.2, KE CW E
section
variable {CW a b : Addr} {H0 H H' : Hp} {L A B : List (Addr × List Ent)} {Es : List Ent} {E : Ent} {R : Sta}
theorem OwnL.mono (o : OwnL H0 L H) (s : Same H H') : OwnL H0 L H' := ⟨fun q hq => by
  obtain ⟨vs, h1, h2⟩ := o.has q hq
  exact ⟨vs, s _ _ h1, h2.mono s⟩, o.new, o.nd⟩
theorem OwnL.kp (o : OwnL H0 L H) (k : Kp CW a H H') (hne : ∀ q ∈ L, q.1 ≠ a) (ke : KL CW L) : OwnL H0 L H' := ⟨fun q hq => by
  obtain ⟨vs, h1, h2⟩ := o.has q hq
  exact ⟨vs, k _ _ h1 (.inl (hne q hq)), h2.keeps k.keep (ke q hq)⟩, o.new, o.nd⟩
theorem OwnL.not_ins (o : OwnL H0 L H) {C dx : Addr} {fs : List (Str × V)} (h : H a = some (.ins C dx fs)) : ∀ q ∈ L, q.1 ≠ a := fun q hq e => by
  obtain ⟨vs, h1, _⟩ := o.has q hq
  rw [e, h] at h1
  cases h1
theorem OwnL.old (o : OwnL H0 L H) (h : H0 a ≠ none) : ∀ q ∈ L, q.1 ≠ a := fun q hq e => h (e ▸ o.new q hq)
theorem new_same (h0 : Same H0 H) (hb : H b = none) : H0 b = none := by
  cases e : H0 b with
  | none => rfl
  | some u =>
    have := h0 b u e
    rw [hb] at this
    cases this
theorem new_kp (h0 : Kp CW a H0 H) (ha : H a ≠ none) (hb : H b = none) : H0 b = none := by
  cases e : H0 b with
  | none => rfl
  | some u =>
    have := h0 b u e (.inl fun e => ha (e ▸ hb))
    rw [hb] at this
    cases this
/-- a new list -/
theorem OwnL.add (o : OwnL H0 L H) {vs : List V} (hb : H b = none) (hn : H0 b = none) (hi : All2 H vs Es) : OwnL H0 ((b, Es) :: L) (upd H b (.lst vs)) := by
  have s : Same H (upd H b (.lst vs)) := Same.new hb
  refine ⟨fun q hq => ?_, fun q hq => ?_, ?_⟩
  · rcases List.mem_cons.mp hq with rfl | hq
    · exact ⟨vs, upd_same, hi.mono s⟩
    · exact (o.mono s).has q hq
  · rcases List.mem_cons.mp hq with rfl | hq
    · exact hn
    · exact o.new q hq
  · rw [List.map_cons, List.nodup_cons]
    refine ⟨fun hm => ?_, o.nd⟩
    obtain ⟨q, hq, e⟩ := List.mem_map.mp hm
    obtain ⟨ws, h1, _⟩ := o.has q hq
    rw [e, hb] at h1
    cases h1
/-- an item more -/
theorem OwnL.app (o : OwnL H0 (A ++ (b, Es) :: B) H) {vs : List V} {u : V} (hb : H b = some (.lst vs)) (hu : E.is u H) (ke : KL CW (A ++ (b, Es) :: B)) (kE : KE CW E) : OwnL H0 (A ++ (b, Es ++ [E]) :: B) (upd H b (.lst (vs ++ [u]))) := by
  have k : Keep CW H (upd H b (.lst (vs ++ [u]))) := (kp_upd (CW := CW) hb (fun q => q)).keep
  have nd := o.nd
  rw [List.map_append, List.map_cons] at nd
  have hne : ∀ q ∈ A ++ B, q.1 ≠ b := fun q hq e => by
    rw [List.nodup_append] at nd
    obtain ⟨n1, n2, n3⟩ := nd
    rcases List.mem_append.mp hq with hq | hq
    · exact n3 q.1 (List.mem_map_of_mem hq) b (by simp) e
    · have hm : q.1 ∈ B.map (·.1) := List.mem_map_of_mem hq
      rw [e] at hm
      exact (List.nodup_cons.mp n2).1 hm
  refine ⟨fun q hq => ?_, fun q hq => ?_, ?_⟩
  · rcases List.mem_append.mp hq with hq | hq
    · obtain ⟨ws, h1, h2⟩ := o.has q (List.mem_append_left _ hq)
      exact ⟨ws, by rw [upd_ne (hne q (List.mem_append_left _ hq))]; exact h1, h2.keeps k (ke q (List.mem_append_left _ hq))⟩
    · rcases List.mem_cons.mp hq with rfl | hq
      · obtain ⟨ws, h1, h2⟩ := o.has (b, Es) (by simp)
        have h1 : H b = some (.lst ws) := h1
        rw [hb] at h1
        cases h1
        exact ⟨_, upd_same, (h2.keeps k (ke (b, Es) (by simp))).append (.cons (kE _ _ _ k hu) .nil)⟩
      · obtain ⟨ws, h1, h2⟩ := o.has q (List.mem_append_right _ (List.mem_cons_of_mem _ hq))
        exact ⟨ws, by rw [upd_ne (hne q (List.mem_append_right _ hq))]; exact h1, h2.keeps k (ke q (List.mem_append_right _ (List.mem_cons_of_mem _ hq)))⟩
  · rcases List.mem_append.mp hq with hq | hq
    · exact o.new q (List.mem_append_left _ hq)
    · rcases List.mem_cons.mp hq with rfl | hq
      · exact o.new (b, Es) (by simp)
      · exact o.new q (List.mem_append_right _ (List.mem_cons_of_mem _ hq))
  · rw [List.map_append, List.map_cons]
    exact nd
theorem OwnL.nil : OwnL H0 [] H := ⟨fun q hq => (nomatch hq), fun q hq => (nomatch hq), List.nodup_nil⟩
theorem OwnL.perm {L' : List (Addr × List Ent)} (o : OwnL H0 L H) (p : L.Perm L') : OwnL H0 L' H := ⟨fun q hq => o.has q (p.mem_iff.mpr hq), fun q hq => o.new q (p.mem_iff.mpr hq), (p.map _).nodup_iff.mp o.nd⟩
theorem KL.nil : KL CW [] := fun q hq => by cases hq
theorem KL.cons (h : ∀ E ∈ Es, KE CW E) (k : KL CW L) : KL CW ((b, Es) :: L) := fun q hq => by
  rcases List.mem_cons.mp hq with rfl | hq
  · exact h
  · exact k q hq
theorem KL.dat {K : PySem.W.Frag} {ds : List D} (h : nlAll ds = true) : ∀ E ∈ ds.map (Lc.dat K), KE CW E := by
  induction ds with
  | nil => intro E hE; cases hE
  | cons d ds ih =>
    simp only [nlAll, Bool.and_eq_true] at h
    intro E hE
    rcases List.mem_cons.mp hE with rfl | hE
    · exact ke_dat h.1
    · exact ih h.2 E hE
end
/-- a state R and own lists -/
def FrL (R : Sta) (H0 : Hp) (L : List (Addr × List Ent)) : Sta := ⟨fun H => R.is H ∧ OwnL H0 L H, fun s h => ⟨R.mono s h.1, h.2.mono s⟩⟩
def sameS (H0 : Hp) : Sta := ⟨fun H => Same H0 H, fun s h => h.trans s⟩
section
variable {CW a b : Addr} {ρ ρ' ρ1 : Rho} {T T' : Sta} {S S' S1 : Sta} {E F0 : Ent} {X : Cx} {c e o : Expr} {es : List Expr} {pos pp apos : Pos} {st : Stmt} {sts : List Stmt} {j k : Nat} {Es : List Ent} {F : FnM} {x : Str} {C : Addr}
theorem Stp.id : Stp CW a S S S S := ⟨fun _ h => h, fun _ _ _ _ t => t⟩
theorem sizeLine_big {n : Nat} (h : n < 1000000) : n < sizeLine := Nat.lt_of_lt_of_le h (by decide)
/-- the first of the arguments known less well -/
theorem EnvOk.weak1 {σ : L2.St} {H : Hp} {N : List Str} {E F : Ent} {Es : List Ent} (h : EnvOk σ H (startR N (E :: Es))) (w : ∀ v H, E.is v H → F.is v H) : EnvOk σ H (startR N (F :: Es)) := fun i G q => by
  cases i with
  | zero =>
    cases q
    obtain ⟨v, h1, h2⟩ := h 0 E rfl
    exact ⟨v, h1, w v H h2⟩
  | succ i => exact h (i + 1) G q
/-- xs.append(e) -/
theorem ms_append (sp : Stp CW a S T S1 T') (i : Nat) (b : Addr) {p0 : Pos} (hρ : ρ[i]? = some (some (val (.ref b))) := by rfl) (he : ME X CW a ρ T e E T') (sr : SR CW b S1 ρ) (hs0 : ∀ H, S.is H → ∃ vs, H b = some (.lst vs)) (hs : ∀ H, S1.is H → ∃ vs, H b = some (.lst vs) ∧ vs.length < 1000000) (hS : ∀ H u vs, S1.is H → E.is u H → H b = some (.lst vs) → S'.is (upd H b (.lst (vs ++ [u]))))
    (hN : X.N[i]? = some x := by rfl) (hv : Vis X.env.scope x := by first | exact Or.inl rfl | exact Or.inr (Or.inl rfl) | exact Or.inr (Or.inr rfl)) (hd : (x == ("__debug__" : Str)) = false := by decide) (hcd : (x == ("__classdict__" : Str)) = false := by decide)
    (hst : starEach [e] X.env = (false, eval e X.env) :: starEach [] X.env := by rfl)
    (hfew : ((((backTo pos (starEach [e] X.env)).all fun x => !x.fst) && (backToKw pos (keywordEach [] X.env)).all fun x => x.fst.isSome) && decide (([e].length + ([] : List Keyword).length + if ([] : List Keyword).isEmpty = true then 0 else 1) < 30)) = true := by rfl) (hbase : attributeBase (.Name x p0) "append" X.env (eval (.Name x p0) X.env) = eval (.Name x p0) X.env := by rfl) (hline : (apos.endLine == pos.line) = true := by rfl)
    (hsw : swapsWith (.Call (.Attribute (.Name x p0) "append" apos) [e] [] pos) none pp.line X.env = pure false := by rfl) : MS X CW ρ S (.Expr (.Call (.Attribute (.Name x p0) "append" apos) [e] [] pos) pp) ρ S' :=
  PS.imp (ps_expr (pe_bm PySem.F.plainAttrs_list PySem.F.slot_list_append PySem.F.type_list_append mt_append (pe_var hN hv hd hcd) (pa_cons he pa_nil hst) (hbase := hbase) (hline := hline) (hs := hst) (hfew := hfew)) hsw) fun D σ H hl z => by
    obtain ⟨v, h1, h2⟩ := z.1 i _ hρ
    cases h2
    obtain ⟨vs0, hb0⟩ := hs0 H z.2.1
    refine ⟨.ref b, h1, .inl ⟨rfl, vs0, SqL.of hb0⟩, z.1, sp.before H z.2.1, fun u H1 k1 e1 i1 t1 => ?_⟩
    have s1 := sp.after H H1 z.2.1 k1 t1
    obtain ⟨vs, hb, hz⟩ := hs H1 s1
    have kp : Kp CW b H1 (upd H1 b (.lst (vs ++ [u]))) := kp_upd hb fun q => q
    exact ⟨b, vs, u, rfl, rfl, hb, sizeLine_big hz, z.2.2 σ _ (k1.keep.trans kp.keep) rfl (sr.env s1 kp e1) (hS H1 u vs s1 i1 hb)⟩
/-- x = [], the rest told for every address -/
theorem mn_new (g : Gx X k) (n : Nat) {ρ2 : Rho} {pos' : Pos} (Sp : Addr → Sta) (hS : ∀ H p, S.is H → H p = none → (Sp p).is (upd H p (.lst []))) (r : ∀ p, MN X CW (ρ.set n (some (val (.ref p)))) (Sp p) sts ρ2 S') (hi : X.N[n]? = some x := by rfl) (hx : Loc X.env.scope x := by first | exact .inl rfl | exact .inr rfl)
    (hs : swapsWith (.List [] pp) (some (.Name x pos')) pos.line X.env = pure false := by rfl) (hf : X.fn x = true ∨ X.env.scope.names.lookup x = some .local := by first | exact .inl rfl | exact .inr rfl) : MN X CW ρ S (.Assign [.Name x pos'] (.List [] pp) pos :: sts) ρ2 S' := by
  refine ⟨fun pins s σ H D I z => ?_⟩
  have h1 := ps_set (i := n) (pos' := pos') (pos := pos) g.nd hi hx (pe_lst (pos := pp) (X := X) pa_nil) hs hf
  refine wpAny_execs_cons (thn (h1.run pins s σ H { D with nx := fun σ1 H1 => ∃ p, H p = none ∧ σ1 = σ.set n (some (.ref p)) ∧ H1 = upd H p (.lst []) } I ⟨Nat.zero_le _, fun p hp => ⟨p, hp, rfl, rfl⟩⟩) fun f s1 q => ?_)
  cases f with
  | next =>
    obtain ⟨σ1, H1, I1, p, hp, rfl, rfl⟩ := q
    have sm := Same.new (o := .lst []) hp
    refine (r p).run pins s1 _ _ D I1 ⟨(z.1.mono sm).set ?_ rfl, hS H p z.2.1 hp, fun σ' H' kk l e' t => z.2.2 σ' H' ((Keep.same sm).trans kk) (by rw [l, List.length_set]) e' t⟩
    rw [I.len]
    exact (List.getElem?_eq_some_iff.mp hi).1
  | ret v => exact q
  | brk => exact q
  | cont => exact q
theorem mr_new (g : Gx X k) (n : Nat) {pos' : Pos} (Sp : Addr → Sta) (hS : ∀ H p, S.is H → H p = none → (Sp p).is (upd H p (.lst []))) (r : ∀ p, MR X CW (ρ.set n (some (val (.ref p)))) (Sp p) sts E S') (hi : X.N[n]? = some x := by rfl) (hx : Loc X.env.scope x := by first | exact .inl rfl | exact .inr rfl)
    (hs : swapsWith (.List [] pp) (some (.Name x pos')) pos.line X.env = pure false := by rfl) (hf : X.fn x = true ∨ X.env.scope.names.lookup x = some .local := by first | exact .inl rfl | exact .inr rfl) : MR X CW ρ S (.Assign [.Name x pos'] (.List [] pp) pos :: sts) E S' := by
  refine ⟨fun pins s σ H D I z => ?_⟩
  have h1 := ps_set (i := n) (pos' := pos') (pos := pos) g.nd hi hx (pe_lst (pos := pp) (X := X) pa_nil) hs hf
  refine wpAny_execs_cons (thn (h1.run pins s σ H { D with nx := fun σ1 H1 => ∃ p, H p = none ∧ σ1 = σ.set n (some (.ref p)) ∧ H1 = upd H p (.lst []) } I ⟨Nat.zero_le _, fun p hp => ⟨p, hp, rfl, rfl⟩⟩) fun f s1 q => ?_)
  cases f with
  | next =>
    obtain ⟨σ1, H1, I1, p, hp, rfl, rfl⟩ := q
    have sm := Same.new (o := .lst []) hp
    refine (r p).run pins s1 _ _ D I1 ⟨(z.1.mono sm).set ?_ rfl, hS H p z.2.1 hp, fun v H' kk i t => z.2.2 v H' ((Keep.same sm).trans kk) i t⟩
    rw [I.len]
    exact (List.getElem?_eq_some_iff.mp hi).1
  | ret v => exact q
  | brk => exact q
  | cont => exact q
/-- x = C(..), the rest told for every address -/
theorem mn_make (G : GInit X.prog X.w X.K X.mg X.base C j F) (g : Gx X k) (n : Nat) {y : Str} {ρ2 : Rho} {pos' np : Pos} (Tx Sx : Addr → Sta) (hm : X.mg x = some (.ref C)) (ha : DA X ρ1 (e :: es) Es) (up : Up ρ S ρ1) (hF : ∀ x, F (val (.ref x) :: Es) (dat X.K .none) x (insS C x []) (Tx x))
    (hS : ∀ H H' x, S.is H → H x = none → Same H H' → (Tx x).is H' → (Sx x).is H') (r : ∀ x, MN X CW (ρ.set n (some (val (.ref x)))) (Sx x) sts ρ2 S') (hj : j + 1 ≤ k := by decide) (hg : Gl X x := by rfl) (hdb : (x == ("__debug__" : Str)) = false := by decide)
    (he : starEach (e :: es) X.env = (false, eval e X.env) :: starEach es X.env := by rfl) (hpl : (backTo apos (starEach es X.env)).any (·.1) = false := by rfl) (hi : X.N[n]? = some y := by rfl) (hx : Loc X.env.scope y := by first | exact .inl rfl | exact .inr rfl)
    (hs : swapsWith (.Call (.Name x np) (e :: es) [] apos) (some (.Name y pos')) pos.line X.env = pure false := by rfl) (hf : X.fn y = true ∨ X.env.scope.names.lookup y = some .local := by first | exact .inl rfl | exact .inr rfl) : MN X CW ρ S (.Assign [.Name y pos'] (.Call (.Name x np) (e :: es) [] apos) pos :: sts) ρ2 S' := by
  obtain ⟨f, fd, ps, mk, hb, hfn⟩ := G
  refine ⟨fun pins s σ H D I z => ?_⟩
  have h1 := ps_set (i := n) (pos' := pos') (pos := pos) g.nd hi hx (pe_make mk hfn (g.room.mono hj) hg hm hb .nil pass0 ha hdb he hpl) hs hf
  refine wpAny_execs_cons (thn (h1.run pins s σ H { D with nx := fun σ1 H1 => ∃ p, σ1 = σ.set n (some (.ref p)) ∧ Same H H1 ∧ (Sx p).is H1 } I ⟨up σ H z.1 z.2.1, fun vs H1 s1 i1 p dx hp hdx hne => ?_⟩) fun f s1 q => ?_)
  · have s2 : Same H1 (upd (upd H1 dx (.own p)) p (.ins C dx [])) := fun b o hb => by
      rw [upd_ne (ne_of_none hb hp), upd_ne (ne_of_none hb hdx)]
      exact hb
    refine ⟨val (.ref p) :: Es, dat X.K .none, p, insS C p [], Tx p, hF p, ?_, ⟨dx, upd_same⟩, fun v H' kp i t => ?_⟩
    · rw [List.append_nil]
      exact .cons rfl (i1.mono s2)
    · have s3 : Same H1 H' := fun b o hb => kp b o (s2 b o hb) (.inl (ne_of_none hb hp))
      cases i
      exact ⟨rfl, p, rfl, s1.trans s3, hS H1 H' p (S.mono s1 z.2.1) hp s3 t⟩
  · cases f with
    | next =>
      obtain ⟨σ1, H1, I1, p, rfl, sm, sx⟩ := q
      refine (r p).run pins s1 _ _ D I1 ⟨(z.1.mono sm).set ?_ rfl, sx, fun σ' H' kk l e' t => z.2.2 σ' H' ((Keep.same sm).trans kk) (by rw [l, List.length_set]) e' t⟩
      rw [I.len]
      exact (List.getElem?_eq_some_iff.mp hi).1
    | ret v => exact q
    | brk => exact q
    | cont => exact q
/-- for i, x in enumerate(z.split(y)) -/
theorem ms_forSplit (gc : Gx X k) (B : Bt X.mg) {z y : Str} {zs : List Str} {gg : TG} {js : List Nat} {f : Nat → Str → Rho → Rho} {tgs : List Expr} {kk : Nat} {tp p1 p2 p3 : Pos} {body : List Stmt} (Pv : Nat → Rho) (Sv : Addr → Nat → Sta) (hp : PassesOwn (model X.prog X.w) X.A X.env X.xe) (hzs : PySem.Txt.split z y = zs) (hy : (y.length == 0) = false) (hz : z.length ≤ 1000000)
    (ho : DE X ρ1 o (dat X.K (.str z))) (he : DE X ρ1 e (dat X.K (.str y))) (up : Up ρ S ρ1) (hg : PG X (.Tuple tgs kk tp) gg) (hgb : ∀ (i : Nat) (u : Str), zs[i]? = some u → GB X.N.length gg (dat X.K (.tuple [.int (i : Nat), .str u])) js (f i u))
    (h0 : ∀ σ H, EnvOk σ H ρ → EnvOk σ H (Pv 0)) (hinit : ∀ H ll, S.is H → H ll = none → (Sv ll 0).is (upd H ll (.lst (zs.map V.str)))) (hkeep : ∀ ll i H, (Sv ll i).is H → H ll = some (.lst (zs.map V.str)))
    (hb : ∀ ll i u, zs[i]? = some u → MN X CW (f i u (Pv i)) (Sv ll i) body (Pv (i + 1)) (Sv ll (i + 1))) (hend : ∀ ll H, (Sv ll zs.length).is H → S'.is H)
    (hgl : Gl X "enumerate" := by rfl) (hs : starEach [.Call (.Attribute o "split" apos) [e] [] p1] X.env = [(false, eval (.Call (.Attribute o "split" apos) [e] [] p1) X.env)] := by rfl) (hs1 : starEach [e] X.env = [(false, eval e X.env)] := by rfl) (hbase : attributeBase o "split" X.env (eval o X.env) = eval o X.env := by rfl) (hline : (apos.endLine == p1.line) = true := by rfl)
    (hfo : ∀ x, foldedSetIterable (.Call (.Name "enumerate" p2) [.Call (.Attribute o "split" apos) [e] [] p1] [] p3) X.env x = pure x := by intro _; rfl) :
    MS X CW ρ S (.For (.Tuple tgs kk tp) (.Call (.Name "enumerate" p2) [.Call (.Attribute o "split" apos) [e] [] p1] [] p3) body [] pos) (Pv zs.length) S' := by
  subst hzs
  generalize hzs : PySem.Txt.split z y = zs at *
  have hbody : PSs X body (fun D σ H => ∃ ll i u, zs[i]? = some u ∧ tMS CW (f i u (Pv i)) (Sv ll i) (Pv (i + 1)) (Sv ll (i + 1)) D σ H) := ⟨fun pins s σ H D I ⟨ll, i, u, hu, q⟩ => (hb ll i u hu).run pins s σ H D I q⟩
  refine PS.imp (ps_for hp gc.calm (pi_enum hgl B.enumerate (pa_cons (pe_split ho he hs1 hbase hline) pa_nil (by rw [hs] <;> rfl)) hs) hg hbody hfo) fun D σ H hn w => ?_
  refine ⟨up σ H w.1 w.2.1, fun v H1 s1 i1 => ⟨by cases i1; exact ⟨z, rfl⟩, (up σ H w.1 w.2.1).mono s1, fun v2 H2 s2 i2 => ?_⟩⟩
  cases i1
  cases i2
  refine ⟨z, y, rfl, rfl, hy, Nat.le_trans (Nat.add_le_add_right hz 2) (by decide), fun ll hll => ?_⟩
  rw [hzs]
  have S2 := S.mono (s1.trans s2) w.2.1
  have sn := Same.new (o := .lst (zs.map V.str)) hll
  refine ⟨ll, zs.map V.str, rfl, SqL.of upd_same, ?_⟩
  refine ⟨fun i m σ' H' => m = zs.length - i ∧ i ≤ zs.length ∧ Keep CW H H' ∧ σ'.length = σ.length ∧ EnvOk σ' H' (Pv i) ∧ (Sv ll i).is H', ⟨zs.length, by simp, Nat.zero_le _, .same ((s1.trans s2).trans sn), rfl, (h0 σ H w.1).mono ((s1.trans s2).trans sn), hinit H2 ll S2 hll⟩, ?_⟩
  rintro i m σ' H' ⟨rfl, hi, kk, hl, hE, hS⟩
  have hk := hkeep ll i H' hS
  by_cases hlt : i < zs.length
  · have hu : zs[i]? = some zs[i] := List.getElem?_eq_getElem hlt
    generalize zs[i] = u at hu
    refine .inr ⟨⟨_, .str u, SqL.of hk, by rw [List.getElem?_map, hu]; rfl⟩, fun σ2 H2 => Keep CW H H2 ∧ σ2.length = σ.length ∧ EnvOk σ2 H2 (Pv (i + 1)) ∧ (Sv ll (i + 1)).is H2, fun σ2 H2 h2 => ⟨zs.length - (i + 1), by omega, rfl, hlt, h2⟩, fun v H2 hyl => ?_⟩
    obtain ⟨Tt, x, rfl, hT, rfl, hxx⟩ := hyl
    have hx := hxx _ (SqL.of hk)
    rw [List.getElem?_map, hu] at hx
    cases hx
    have sT := Same.new (o := .tup [.int (i : Nat), .str u]) hT
    refine hgb i u hu _ σ' _ _ (hl.trans hn) (dp_newT hT (.cons (.int _) (.cons (.str _) .nil))) fun σ2 l2 o2 e2 => ⟨ll, i, u, hu, e2 _ (hE.mono sT), (Sv ll i).mono sT hS, fun σ3 H3 k3 l3 e3 t3 => ⟨(kk.trans (.same sT)).trans k3, (l3.trans l2).trans hl, e3, t3⟩⟩
  · have e : i = zs.length := by omega
    subst e
    exact .inl ⟨⟨_, SqL.of hk, by simp⟩, w.2.2 σ' H' kk hl hE (hend ll H' hS)⟩
end
end Lc
end
section
/-! The reader of words: purses, limits, rows, lines. -/
namespace Lc
open PySem L2 TL
section
variable {P : Program} {w : World} {K : PySem.W.Frag} {mg : Str → Option Value} {base : Heap} {CA CW CB : Addr}
inductive FTakePurse (K : PySem.W.Frag) (CW : Addr) : FnM
  | mk (a : Addr) (ln fd : Int) (p : Purse) (h : PurseOk p) (s : SmallP p) : FTakePurse K CW [val (.ref a)] (dat K (purseD p)) a (RdW K CW a (purseWords p) ln fd ((0 : Nat) : Int)) (RdW K CW a (purseWords p) ln fd ((6 : Nat) : Int))
theorem last_ok {i j : Int} (h0 : 0 ≤ i) (h : i ≤ j) (h1 : j ≤ 1000000) : NumOk i ∧ NumOk j := ⟨⟨h0, by omega⟩, by omega, h1⟩
theorem ok_WordReader_take_purse (T : Txt K mg CA CW CB) : GMethM P w K mg base CW CW "take_purse" 5 (FTakePurse K CW) :=
  gmethM_mk (N := ["self", "name", "sponsor", "first", "last"]) (k := 4) T.m_WordReader_take_purse ["self"] ⟨rfl, rfl, rfl, by decide +kernel, rfl, by decide +kernel, by decide +kernel⟩ (fun _ _ _ _ _ _ us hl => match us, hl with | [_], _ => rfl) (fun _ _ _ _ _ h => by cases h <;> rfl) fun f cdv A outer s H E0 g Es E a Ta Tb hF H0 hT0 => by
    cases hF with
    | mk a ln fd p h s =>
      obtain ⟨tp, mp⟩ := T.g_PURSE
      obtain ⟨n1, n2⟩ := last_ok h.first h.last s.last
      have hk := s.kinds
      exact .inl (mr_cons (ms_expr .fr (me_meth (ok_WordReader_take_word T) T.c_WordReader (rd_ins rfl) rd_val g (de_var 0) (da_cons (de_is (d' := strsD ["purse"]) (de_tup (dd_cons (de_gstr rfl mp) dd_nil)) rfl) da_nil) (upW 0 rfl) (.mk a (purseWords p) ln fd 0 "purse" ["purse"] rfl (by simp)) (by repeat' first | refine SR.set ?_ ?_ | exact sr_bkR | exact (ke_dat (nl_ln _)).se | refine SR.wipe ?_ _ | refine SR.start ?_ | refine SEs.cons ?_ ?_ | exact SEs.nil | exact ke_val.se | exact (ke_dat rfl).se | exact (ke_dat (nl_strsD _)).se | exact (ke_dat (nl_intsD _)).se | exact (ke_dat (nl_purseD _)).se | exact (ke_dat (nl_limitD _)).se | exact (ke_dat (nl_rowD _)).se | assumption))) <|
        mr_cons (ms_par .fr g 1 2 (ma_cons (me_meth0 (ok_WordReader_take_name T) T.c_WordReader (rd_ins rfl) rd_val g (de_var 0) (upW 0 rfl) (.mk a (purseWords p) ln fd 1 p.name rfl h.name) (by repeat' first | refine SR.set ?_ ?_ | exact sr_bkR | exact (ke_dat (nl_ln _)).se | refine SR.wipe ?_ _ | refine SR.start ?_ | refine SEs.cons ?_ ?_ | exact SEs.nil | exact ke_val.se | exact (ke_dat rfl).se | exact (ke_dat (nl_strsD _)).se | exact (ke_dat (nl_intsD _)).se | exact (ke_dat (nl_purseD _)).se | exact (ke_dat (nl_limitD _)).se | exact (ke_dat (nl_rowD _)).se | assumption)) (ma_cons (me_meth0 (ok_WordReader_take_name T) T.c_WordReader (rd_ins rfl) rd_val g (de_var 0) (upW 0 rfl) (.mk a (purseWords p) ln fd 2 p.sponsor rfl h.sponsor) (by repeat' first | refine SR.set ?_ ?_ | exact sr_bkR | exact (ke_dat (nl_ln _)).se | refine SR.wipe ?_ _ | refine SR.start ?_ | refine SEs.cons ?_ ?_ | exact SEs.nil | exact ke_val.se | exact (ke_dat rfl).se | exact (ke_dat (nl_strsD _)).se | exact (ke_dat (nl_intsD _)).se | exact (ke_dat (nl_purseD _)).se | exact (ke_dat (nl_limitD _)).se | exact (ke_dat (nl_rowD _)).se | assumption)) ma_nil (ke_dat rfl)) (ke_dat rfl))) <|
        mr_cons (ms_set .fr g 3 (me_meth0 (ok_WordReader_take_number T) T.c_WordReader (rd_ins rfl) rd_val g (de_var 0) (upW 0 rfl) (.mk a (purseWords p) ln fd 3 p.first rfl n1) (by repeat' first | refine SR.set ?_ ?_ | exact sr_bkR | exact (ke_dat (nl_ln _)).se | refine SR.wipe ?_ _ | refine SR.start ?_ | refine SEs.cons ?_ ?_ | exact SEs.nil | exact ke_val.se | exact (ke_dat rfl).se | exact (ke_dat (nl_strsD _)).se | exact (ke_dat (nl_intsD _)).se | exact (ke_dat (nl_purseD _)).se | exact (ke_dat (nl_limitD _)).se | exact (ke_dat (nl_rowD _)).se | assumption))) <|
        mr_cons (ms_set .fr g 4 (me_meth (ok_WordReader_take_last T) T.c_WordReader (rd_ins rfl) rd_val g (de_var 0) (da_cons (de_var 3) da_nil) (upW 0 rfl) (.mk a (purseWords p) ln fd 4 p.last p.first rfl n2 h.last) (by repeat' first | refine SR.set ?_ ?_ | exact sr_bkR | exact (ke_dat (nl_ln _)).se | refine SR.wipe ?_ _ | refine SR.start ?_ | refine SEs.cons ?_ ?_ | exact SEs.nil | exact ke_val.se | exact (ke_dat rfl).se | exact (ke_dat (nl_strsD _)).se | exact (ke_dat (nl_intsD _)).se | exact (ke_dat (nl_purseD _)).se | exact (ke_dat (nl_limitD _)).se | exact (ke_dat (nl_rowD _)).se | assumption))) <|
        mr_ret .fr (me_imp (me_tup (Es := [PyData.str p.name, .str p.sponsor, strsD p.kinds, .int p.first, .int p.last].map (dat K)) (ma_cons (me_p (de_var 1)) (ma_cons (me_p (de_var 2)) (ma_cons (me_meth0 (ok_WordReader_take_names T) T.c_WordReader (rd_ins rfl) rd_val g (de_var 0) (upW 0 rfl) (.mk a (purseWords p) ln fd 5 p.kinds rfl h.kinds (by omega)) (by repeat' first | refine SR.set ?_ ?_ | exact sr_bkR | exact (ke_dat (nl_ln _)).se | refine SR.wipe ?_ _ | refine SR.start ?_ | refine SEs.cons ?_ ?_ | exact SEs.nil | exact ke_val.se | exact (ke_dat rfl).se | exact (ke_dat (nl_strsD _)).se | exact (ke_dat (nl_intsD _)).se | exact (ke_dat (nl_purseD _)).se | exact (ke_dat (nl_limitD _)).se | exact (ke_dat (nl_rowD _)).se | assumption)) (ma_cons (me_p (de_var 3)) (ma_cons (me_p (de_var 4)) ma_nil (ke_dat rfl)) (ke_dat rfl)) (ke_dat (nl_strsD _))) (ke_dat rfl)) (ke_dat rfl))) fun v H q => tup_dat q))
inductive FTakeLimit (K : PySem.W.Frag) (CW : Addr) : FnM
  | mk (a : Addr) (ln fd : Int) (l : Limit) (h : LimitOk l) (s : SmallL l) : FTakeLimit K CW [val (.ref a)] (dat K (limitD l)) a (RdW K CW a (limitWords l) ln fd ((0 : Nat) : Int)) (RdW K CW a (limitWords l) ln fd ((5 : Nat) : Int))
theorem ok_WordReader_take_limit (T : Txt K mg CA CW CB) : GMethM P w K mg base CW CW "take_limit" 5 (FTakeLimit K CW) :=
  gmethM_mk (N := ["self", "names", "first"]) (k := 4) T.m_WordReader_take_limit ["self"] ⟨rfl, rfl, rfl, by decide +kernel, rfl, by decide +kernel, by decide +kernel⟩ (fun _ _ _ _ _ _ us hl => match us, hl with | [_], _ => rfl) (fun _ _ _ _ _ h => by cases h <;> rfl) fun f cdv A outer s H E0 g Es E a Ta Tb hF H0 hT0 => by
    cases hF with
    | mk a ln fd l h s =>
      obtain ⟨tp, mp⟩ := T.g_LIMIT
      obtain ⟨n1, n2⟩ := last_ok h.first h.last s.last
      exact .inl (mr_cons (ms_expr .fr (me_meth (ok_WordReader_take_word T) T.c_WordReader (rd_ins rfl) rd_val g (de_var 0) (da_cons (de_is (d' := strsD ["limit"]) (de_tup (dd_cons (de_gstr rfl mp) dd_nil)) rfl) da_nil) (upW 0 rfl) (.mk a (limitWords l) ln fd 0 "limit" ["limit"] rfl (by simp)) (by repeat' first | refine SR.set ?_ ?_ | exact sr_bkR | exact (ke_dat (nl_ln _)).se | refine SR.wipe ?_ _ | refine SR.start ?_ | refine SEs.cons ?_ ?_ | exact SEs.nil | exact ke_val.se | exact (ke_dat rfl).se | exact (ke_dat (nl_strsD _)).se | exact (ke_dat (nl_intsD _)).se | exact (ke_dat (nl_purseD _)).se | exact (ke_dat (nl_limitD _)).se | exact (ke_dat (nl_rowD _)).se | assumption))) <|
        mr_cons (ms_set .fr g 1 (me_meth0 (ok_WordReader_take_names T) T.c_WordReader (rd_ins rfl) rd_val g (de_var 0) (upW 0 rfl) (.mk a (limitWords l) ln fd 1 l.names rfl h.names s.names) (by repeat' first | refine SR.set ?_ ?_ | exact sr_bkR | exact (ke_dat (nl_ln _)).se | refine SR.wipe ?_ _ | refine SR.start ?_ | refine SEs.cons ?_ ?_ | exact SEs.nil | exact ke_val.se | exact (ke_dat rfl).se | exact (ke_dat (nl_strsD _)).se | exact (ke_dat (nl_intsD _)).se | exact (ke_dat (nl_purseD _)).se | exact (ke_dat (nl_limitD _)).se | exact (ke_dat (nl_rowD _)).se | assumption))) <|
        mr_cons (ms_set .fr g 2 (me_meth0 (ok_WordReader_take_number T) T.c_WordReader (rd_ins rfl) rd_val g (de_var 0) (upW 0 rfl) (.mk a (limitWords l) ln fd 2 l.first rfl n1) (by repeat' first | refine SR.set ?_ ?_ | exact sr_bkR | exact (ke_dat (nl_ln _)).se | refine SR.wipe ?_ _ | refine SR.start ?_ | refine SEs.cons ?_ ?_ | exact SEs.nil | exact ke_val.se | exact (ke_dat rfl).se | exact (ke_dat (nl_strsD _)).se | exact (ke_dat (nl_intsD _)).se | exact (ke_dat (nl_purseD _)).se | exact (ke_dat (nl_limitD _)).se | exact (ke_dat (nl_rowD _)).se | assumption))) <|
        mr_ret .fr (me_imp (me_tup (Es := [strsD l.names, .int l.first, .int l.last, .int l.cap].map (dat K)) (ma_cons (me_p (de_var 1)) (ma_cons (me_p (de_var 2)) (ma_cons (me_meth (ok_WordReader_take_last T) T.c_WordReader (rd_ins rfl) rd_val g (de_var 0) (da_cons (de_var 2) da_nil) (upW 0 rfl) (.mk a (limitWords l) ln fd 3 l.last l.first rfl n2 h.last) (by repeat' first | refine SR.set ?_ ?_ | exact sr_bkR | exact (ke_dat (nl_ln _)).se | refine SR.wipe ?_ _ | refine SR.start ?_ | refine SEs.cons ?_ ?_ | exact SEs.nil | exact ke_val.se | exact (ke_dat rfl).se | exact (ke_dat (nl_strsD _)).se | exact (ke_dat (nl_intsD _)).se | exact (ke_dat (nl_purseD _)).se | exact (ke_dat (nl_limitD _)).se | exact (ke_dat (nl_rowD _)).se | assumption)) (ma_cons (me_meth0 (ok_WordReader_take_number T) T.c_WordReader (rd_ins rfl) rd_val g (de_var 0) (upW 0 rfl) (.mk a (limitWords l) ln fd 4 l.cap rfl ⟨h.cap, s.cap⟩) (by repeat' first | refine SR.set ?_ ?_ | exact sr_bkR | exact (ke_dat (nl_ln _)).se | refine SR.wipe ?_ _ | refine SR.start ?_ | refine SEs.cons ?_ ?_ | exact SEs.nil | exact ke_val.se | exact (ke_dat rfl).se | exact (ke_dat (nl_strsD _)).se | exact (ke_dat (nl_intsD _)).se | exact (ke_dat (nl_purseD _)).se | exact (ke_dat (nl_limitD _)).se | exact (ke_dat (nl_rowD _)).se | assumption)) ma_nil (ke_dat rfl)) (ke_dat rfl)) (ke_dat rfl)) (ke_dat (nl_strsD _)))) fun v H q => tup_dat q))
inductive FTakeRow (K : PySem.W.Frag) (CW : Addr) : FnM
  | mk (a : Addr) (ln fd : Int) (r : Rw) (h : RowOk r) (s : SmallR r) (hp : r.isPaid = true → r.shares ≠ []) : FTakeRow K CW [val (.ref a)] (dat K (rowD r)) a (RdW K CW a (rowWords r) ln fd ((0 : Nat) : Int)) (RdW K CW a (rowWords r) ln fd ((4 : Nat) : Int))
theorem ok_WordReader_take_row (T : Txt K mg CA CW CB) : GMethM P w K mg base CW CW "take_row" 5 (FTakeRow K CW) :=
  gmethM_mk (N := ["self", "word", "day", "kind"]) (k := 4) T.m_WordReader_take_row ["self"] ⟨rfl, rfl, rfl, by decide +kernel, rfl, by decide +kernel, by decide +kernel⟩ (fun _ _ _ _ _ _ us hl => match us, hl with | [_], _ => rfl) (fun _ _ _ _ _ h => by cases h <;> rfl) fun f cdv A outer s H E0 g Es E a Ta Tb hF H0 hT0 => by
    cases hF with
    | mk a ln fd r h s hp =>
      obtain ⟨tb, mb⟩ := T.g_BUY
      obtain ⟨ar, mr, hr⟩ := T.g_ROW_WORDS
      replace hr : ∃ (o : Obj) (its : Array Value) (n : Nat), K.lookup ar = some o ∧ o.cls = .type "tuple" ∧ o.data = .seq its n ∧ its.size ≤ sizeLine ∧ Vals ((([("buy" : Str), "paid"] : List Str)).map V.str) its.toList := hr
      have hw : r.word ∈ [("buy" : Str), "paid"] := by cases r <;> simp [Rw.word]
      refine .inl (mr_cons (ms_set .fr g 1 (me_meth (ok_WordReader_take_word T) T.c_WordReader (rd_ins rfl) rd_val g (de_var 0) (da_cons (de_gtup rfl mr hr) da_nil) (upW 0 rfl) (.mk a (rowWords r) ln fd 0 r.word _ rfl hw) (by repeat' first | refine SR.set ?_ ?_ | exact sr_bkR | exact (ke_dat (nl_ln _)).se | refine SR.wipe ?_ _ | refine SR.start ?_ | refine SEs.cons ?_ ?_ | exact SEs.nil | exact ke_val.se | exact (ke_dat rfl).se | exact (ke_dat (nl_strsD _)).se | exact (ke_dat (nl_intsD _)).se | exact (ke_dat (nl_purseD _)).se | exact (ke_dat (nl_limitD _)).se | exact (ke_dat (nl_rowD _)).se | assumption))) <|
        mr_cons (ms_par .fr g 2 3 (ma_cons (me_meth0 (ok_WordReader_take_number T) T.c_WordReader (rd_ins rfl) rd_val g (de_var 0) (upW 0 rfl) (.mk a (rowWords r) ln fd 1 r.day rfl ⟨h.day, smallR_day s⟩) (by repeat' first | refine SR.set ?_ ?_ | exact sr_bkR | exact (ke_dat (nl_ln _)).se | refine SR.wipe ?_ _ | refine SR.start ?_ | refine SEs.cons ?_ ?_ | exact SEs.nil | exact ke_val.se | exact (ke_dat rfl).se | exact (ke_dat (nl_strsD _)).se | exact (ke_dat (nl_intsD _)).se | exact (ke_dat (nl_purseD _)).se | exact (ke_dat (nl_limitD _)).se | exact (ke_dat (nl_rowD _)).se | assumption)) (ma_cons (me_meth0 (ok_WordReader_take_name T) T.c_WordReader (rd_ins rfl) rd_val g (de_var 0) (upW 0 rfl) (.mk a (rowWords r) ln fd 2 r.kind rfl h.kind) (by repeat' first | refine SR.set ?_ ?_ | exact sr_bkR | exact (ke_dat (nl_ln _)).se | refine SR.wipe ?_ _ | refine SR.start ?_ | refine SEs.cons ?_ ?_ | exact SEs.nil | exact ke_val.se | exact (ke_dat rfl).se | exact (ke_dat (nl_strsD _)).se | exact (ke_dat (nl_intsD _)).se | exact (ke_dat (nl_purseD _)).se | exact (ke_dat (nl_limitD _)).se | exact (ke_dat (nl_rowD _)).se | assumption)) ma_nil (ke_dat rfl)) (ke_dat rfl))) <|
        mr_ret .fr (me_imp (me_tup (Es := [PyData.str r.word, .int r.day, .str r.kind, r.rest].map (dat K)) (ma_cons (me_p (de_var 1)) (ma_cons (me_p (de_var 2)) (ma_cons (me_p (de_var 3)) (ma_cons (E := dat K r.rest) ?_ ma_nil (ke_dat (nl_rest _))) (ke_dat rfl)) (ke_dat rfl)) (ke_dat rfl))) fun v H q => tup_dat (ds := [.str r.word, .int r.day, .str r.kind, r.rest]) q))
      cases r with
      | buy d k x => exact me_ifT (cmp (dc_eqS (i := "buy") (de_var 1) (de_gstr rfl mb)) (decide_eq_true rfl)) .refl (me_meth0 (ok_WordReader_take_number T) T.c_WordReader (rd_ins rfl) rd_val g (de_var 0) (upW 0 rfl) (.mk a (rowWords (.buy d k x)) ln fd 3 x rfl ⟨h.rest, s.2⟩) (by repeat' first | refine SR.set ?_ ?_ | exact sr_bkR | exact (ke_dat (nl_ln _)).se | refine SR.wipe ?_ _ | refine SR.start ?_ | refine SEs.cons ?_ ?_ | exact SEs.nil | exact ke_val.se | exact (ke_dat rfl).se | exact (ke_dat (nl_strsD _)).se | exact (ke_dat (nl_intsD _)).se | exact (ke_dat (nl_purseD _)).se | exact (ke_dat (nl_limitD _)).se | exact (ke_dat (nl_rowD _)).se | assumption))
      | paid d k l => exact me_ifF (cmp (dc_eqS (i := "paid") (de_var 1) (de_gstr rfl mb)) (decide_eq_false (by decide +kernel))) .refl (me_meth0 (ok_WordReader_take_numbers T) T.c_WordReader (rd_ins rfl) rd_val g (de_var 0) (upW 0 rfl) (.mk a (rowWords (.paid d k l)) ln fd 3 l rfl (hp rfl) (fun x hx => ⟨h.rest.1 x hx, s.2.1 x hx⟩) s.2.2) (by repeat' first | refine SR.set ?_ ?_ | exact sr_bkR | exact (ke_dat (nl_ln _)).se | refine SR.wipe ?_ _ | refine SR.start ?_ | refine SEs.cons ?_ ?_ | exact SEs.nil | exact ke_val.se | exact (ke_dat rfl).se | exact (ke_dat (nl_strsD _)).se | exact (ke_dat (nl_intsD _)).se | exact (ke_dat (nl_purseD _)).se | exact (ke_dat (nl_limitD _)).se | exact (ke_dat (nl_rowD _)).se | assumption))
inductive FLineRead (K : PySem.W.Frag) (CW : Addr) : FnM
  | mk (a : Addr) (ln fd : Int) (x : Ln) (h : x.Ok) : FLineRead K CW [rdE K CW a x.words ln fd ((0 : Nat) : Int)] (dat K x.data) a (RdW K CW a x.words ln fd ((0 : Nat) : Int)) (RdW K CW a x.words ln fd (x.words.length : Nat))
theorem nl_ln (x : Ln) : nl x.data = true := by
  cases x with
  | p x => exact nl_purseD x
  | l x => exact nl_limitD x
  | r x => exact nl_rowD x
theorem mr_down {X : Cx} {ρ ρ' : Rho} {S S' : Sta} {E : Ent} {sts : List Stmt} (w : ∀ σ H, EnvOk σ H ρ → EnvOk σ H ρ') (h : MR X CW ρ' S sts E S') : MR X CW ρ S sts E S' := PSs.imp h fun D σ H _ z => ⟨w σ H z.1, z.2⟩
theorem ok_line_read (T : Txt K mg CA CW CB) : GFunM P w K mg base CW "line_read" 6 (FLineRead K CW) :=
  gfunM_mk (N := ["reader", "word", "found"]) (k := 5) T.d_line_read ["reader"] ⟨rfl, rfl, rfl, by decide +kernel, rfl, by decide +kernel, by decide +kernel⟩ (fun _ _ _ _ _ _ us hl => match us, hl with | [_], _ => rfl) (fun _ _ _ _ _ h => by cases h <;> rfl) fun f cdv A outer s H E0 g Es E a Ta Tb hF H0 hT0 => by
    cases hF with
    | mk a ln fd x h =>
      obtain ⟨tp, mp⟩ := T.g_PURSE
      obtain ⟨tl', ml⟩ := T.g_LIMIT
      refine .inl (mr_down (ρ' := startR ["reader", "word", "found"] [val (.ref a)]) (fun σ H e => e.weak1 rd_val) ?_)
      refine mr_cons (ms_set .fr g 1 (me_of (de_meth0 (ok_WordReader_next_word T) T.c_WordReader (rd_ins rfl) g (de_var 0) (.mk a x.words ln fd 0 x.word (by cases x <;> rfl))) (upW 0 rfl))) <|
        mr_cons (ρ' := ((startR ["reader", "word", "found"] [val (.ref a)]).set 1 (some (dat K (.str x.word)))).set 2 (some (dat K x.data))) (S1 := Fr CW a H0 (RdW K CW a x.words ln fd (x.words.length : Nat))) ?_ <|
        mr_cons (ms_expr .fr (me_of (de_meth0 (ok_WordReader_end T) T.c_WordReader (rd_ins rfl) g (de_var 0) (.mk a x.words ln fd x.words.length rfl)) (upW 0 rfl))) <| mr_ret .fr (me_p (de_var 2))
      cases x with
      | p x => exact ms_ifT (cmp (dc_eqS (i := "purse") (de_var 1) (de_gstr rfl mp)) (decide_eq_true rfl)) .refl (mn_one (ms_set .fr g 2 (me_meth0 (ok_WordReader_take_purse T) T.c_WordReader (rd_ins rfl) rd_val g (de_var 0) (upW 0 rfl) (.mk a ln fd x h.1 h.2) (by repeat' first | refine SR.set ?_ ?_ | exact sr_bkR | exact (ke_dat (nl_ln _)).se | refine SR.wipe ?_ _ | refine SR.start ?_ | refine SEs.cons ?_ ?_ | exact SEs.nil | exact ke_val.se | exact (ke_dat rfl).se | exact (ke_dat (nl_strsD _)).se | exact (ke_dat (nl_intsD _)).se | exact (ke_dat (nl_purseD _)).se | exact (ke_dat (nl_limitD _)).se | exact (ke_dat (nl_rowD _)).se | assumption))))
      | l x => exact ms_ifF (cmp (dc_eqS (i := "limit") (de_var 1) (de_gstr rfl mp)) (decide_eq_false (by decide +kernel))) .refl (mn_one (ms_ifT (cmp (dc_eqS (i := "limit") (de_var 1) (de_gstr rfl ml)) (decide_eq_true rfl)) .refl (mn_one (ms_set .fr g 2 (me_meth0 (ok_WordReader_take_limit T) T.c_WordReader (rd_ins rfl) rd_val g (de_var 0) (upW 0 rfl) (.mk a ln fd x h.1 h.2) (by repeat' first | refine SR.set ?_ ?_ | exact sr_bkR | exact (ke_dat (nl_ln _)).se | refine SR.wipe ?_ _ | refine SR.start ?_ | refine SEs.cons ?_ ?_ | exact SEs.nil | exact ke_val.se | exact (ke_dat rfl).se | exact (ke_dat (nl_strsD _)).se | exact (ke_dat (nl_intsD _)).se | exact (ke_dat (nl_purseD _)).se | exact (ke_dat (nl_limitD _)).se | exact (ke_dat (nl_rowD _)).se | assumption))))))
      | r x =>
        have h1 : ¬ x.word = "purse" := by
          cases x with
          | buy d k a => exact (by decide +kernel : ¬ ("buy" : Str) = "purse")
          | paid d k s => exact (by decide +kernel : ¬ ("paid" : Str) = "purse")
        have h2 : ¬ x.word = "limit" := by
          cases x with
          | buy d k a => exact (by decide +kernel : ¬ ("buy" : Str) = "limit")
          | paid d k s => exact (by decide +kernel : ¬ ("paid" : Str) = "limit")
        exact ms_ifF (cmp (dc_eqS (i := x.word) (de_var 1) (de_gstr rfl mp)) (decide_eq_false h1)) .refl (mn_one (ms_ifF (cmp (dc_eqS (i := x.word) (de_var 1) (de_gstr rfl ml)) (decide_eq_false h2)) .refl (mn_one (ms_set .fr g 2 (me_meth0 (ok_WordReader_take_row T) T.c_WordReader (rd_ins rfl) rd_val g (de_var 0) (upW 0 rfl) (.mk a ln fd x h.1 h.2.1 h.2.2) (by repeat' first | refine SR.set ?_ ?_ | exact sr_bkR | exact (ke_dat (nl_ln _)).se | refine SR.wipe ?_ _ | refine SR.start ?_ | refine SEs.cons ?_ ?_ | exact SEs.nil | exact ke_val.se | exact (ke_dat rfl).se | exact (ke_dat (nl_strsD _)).se | exact (ke_dat (nl_intsD _)).se | exact (ke_dat (nl_purseD _)).se | exact (ke_dat (nl_limitD _)).se | exact (ke_dat (nl_rowD _)).se | assumption))))))
end
end Lc
end
section
/-! book_read. -/
namespace Lc
open PySem L2 TL
/-! ### defs with keyword-only defaults -/
section
variable {P : Program} {w : World} {K : PySem.W.Frag} {mg : Str → Option Value} {base : Heap} {CA CW CB : Addr}
/-- the def x keeps F, called with the defaults dvs behind what is written -/
def GKw (P : Program) (w : World) (K : PySem.W.Frag) (mg : Str → Option Value) (base : Heap) (x : Str) (k : Nat) (dvs : List V) (F : Fn) : Prop :=
  ∃ (f : Addr) (fd : FuncData) (ps : List Str) (ds : List Value), mg x = some (.ref f) ∧ PySem.W.keepIn K (.ref f) = true ∧ Binds K fd ps ds ∧ Vals dvs ds ∧ FnOk P w K mg base CX0 k f fd ps (spP F)
theorem de_callKw {X : Cx} {ρ : Rho} {e : Expr} {es : List Expr} {E : Ent} {Es Ds : List Ent} {F : Fn} {pos pp : Pos} {x : Str} {j k : Nat} {dvs : List V} (G : GKw X.prog X.w X.K X.mg X.base x j dvs F) (g : Gx X k) (ha : DA X ρ (e :: es) Es) (hd : ∀ H, All2 H dvs Ds) (hF : F (Es ++ Ds) E) (hj : j ≤ k := by decide) (hg : Gl X x := by rfl) (hdb : (x == ("__debug__" : Str)) = false := by decide) (he : starEach (e :: es) X.env = (false, eval e X.env) :: starEach es X.env := by rfl)
    (hpl : (backTo pos (starEach es X.env)).any (·.1) = false := by rfl) : DE X ρ (.Call (.Name x pp) (e :: es) [] pos) E := by
  obtain ⟨f, fd, ps, ds, hm, hk, hb, hv, hf⟩ := G
  exact PE.imp (pe_call hf (g.room.mono hj) hg hm hk hb hv pass0 ha hdb he hpl) fun σ H Q _ z => ⟨z.1, fun vs H1 s1 i1 => ⟨Es ++ Ds, E, hF, i1.append (hd H1), fun v H' s i => z.2 v H' (s1.trans s) i⟩⟩
end

/-! ### the state of the loop -/
section
variable {P : Program} {w : World} {K : PySem.W.Frag} {mg : Str → Option Value} {base : Heap} {CA CW CB : Addr} {H0 : Hp}
def bkR (K : PySem.W.Frag) (z : Str) (p l r : Addr) (hd : Str) : Rho := [some (dat K (.str z)), some (dat K (.int 0)), some (val (.ref p)), some (val (.ref l)), some (val (.ref r)), some (dat K (.str hd)), none, none, none, none, none]
def psAt (K : PySem.W.Frag) (ls : List Ln) (i : Nat) : List Ent := (((ls.take i).filterMap Ln.asP).map purseD).map (dat K)
def lsAt (K : PySem.W.Frag) (ls : List Ln) (i : Nat) : List Ent := (((ls.take i).filterMap Ln.asL).map limitD).map (dat K)
def rsAt (K : PySem.W.Frag) (ls : List Ln) (i : Nat) : List Ent := (((ls.take i).filterMap Ln.asR).map rowD).map (dat K)
def bkL (K : PySem.W.Frag) (ls : List Ln) (ll p l r : Addr) (i : Nat) : List (Addr × List Ent) := [(ll, (ls.map fun x => PyData.str x.text).map (dat K)), (p, psAt K ls i), (l, lsAt K ls i), (r, rsAt K ls i)]
theorem kl_bk (ls : List Ln) (ll p l r : Addr) (i : Nat) : KL CW (bkL K ls ll p l r i) :=
  .cons (KL.dat (nlAll_map _ _ fun _ _ => rfl)) (.cons (KL.dat (nlAll_map _ _ fun x _ => nl_purseD x)) (.cons (KL.dat (nlAll_map _ _ fun x _ => nl_limitD x)) (.cons (KL.dat (nlAll_map _ _ fun x _ => nl_rowD x)) .nil)))
def andS (S T : Sta) : Sta := ⟨fun H => S.is H ∧ T.is H, fun s h => ⟨S.mono s h.1, T.mono s h.2⟩⟩
/-- own lists L, and a reader at a that was made since H0 -/
def rdS (K : PySem.W.Frag) (CW : Addr) (H0 : Hp) (L : List (Addr × List Ent)) (a : Addr) (ws : List Str) (ln fd k : Int) : Sta := ⟨fun H => (FrL (sameS H0) H0 L).is H ∧ (RdW K CW a ws ln fd k).is H ∧ H0 a = none, fun s h => ⟨(FrL (sameS H0) H0 L).mono s h.1, (RdW K CW a ws ln fd k).mono s h.2.1, h.2.2⟩⟩
theorem rdS_stp {L : List (Addr × List Ent)} {a : Addr} {ws : List Str} {ln fd k k' : Int} (ke : KL CW L) : Stp CW a (rdS K CW H0 L a ws ln fd k) (RdW K CW a ws ln fd k) (rdS K CW H0 L a ws ln fd k') (RdW K CW a ws ln fd k') := ⟨fun _ h => h.2.1, fun H H' h kp t => by
  obtain ⟨⟨h1, h2⟩, ⟨dx, w, h3, _⟩, h4⟩ := h
  exact ⟨⟨fun b o hb => kp b o (h1 b o hb) (.inl fun e => by subst e; rw [h4] at hb; cases hb), h2.kp kp (h2.not_ins h3) ke⟩, t, h4⟩⟩
theorem sr_bkR {T : Sta} {a p l r : Addr} {z hd : Str} : SR CW a T (bkR K z p l r hd) := by
  intro i E h
  unfold bkR at h
  match i, h with
  | 0, h => cases h; exact (ke_dat rfl).se
  | 1, h => cases h; exact (ke_dat rfl).se
  | 2, h => cases h; exact ke_val.se
  | 3, h => cases h; exact ke_val.se
  | 4, h => cases h; exact ke_val.se
  | 5, h => cases h; exact (ke_dat rfl).se
  | 6, h => cases h
  | 7, h => cases h
  | 8, h => cases h
  | 9, h => cases h
  | 10, h => cases h
  | n + 11, h => simp at h
theorem psAt_next {ls : List Ln} {i : Nat} {x : Purse} (h : ls[i]? = some (.p x)) : psAt K ls (i + 1) = psAt K ls i ++ [dat K (purseD x)] ∧ lsAt K ls (i + 1) = lsAt K ls i ∧ rsAt K ls (i + 1) = rsAt K ls i := by
  unfold psAt lsAt rsAt
  rw [List.take_add_one, h]
  simp [Ln.asP, Ln.asL, Ln.asR]
theorem lsAt_next {ls : List Ln} {i : Nat} {x : Limit} (h : ls[i]? = some (.l x)) : psAt K ls (i + 1) = psAt K ls i ∧ lsAt K ls (i + 1) = lsAt K ls i ++ [dat K (limitD x)] ∧ rsAt K ls (i + 1) = rsAt K ls i := by
  unfold psAt lsAt rsAt
  rw [List.take_add_one, h]
  simp [Ln.asP, Ln.asL, Ln.asR]
theorem rsAt_next {ls : List Ln} {i : Nat} {x : Rw} (h : ls[i]? = some (.r x)) : psAt K ls (i + 1) = psAt K ls i ∧ lsAt K ls (i + 1) = lsAt K ls i ∧ rsAt K ls (i + 1) = rsAt K ls i ++ [dat K (rowD x)] := by
  unfold psAt lsAt rsAt
  rw [List.take_add_one, h]
  simp [Ln.asP, Ln.asL, Ln.asR]
theorem at_len (ls : List Ln) (i : Nat) : (psAt K ls i).length ≤ ls.length ∧ (lsAt K ls i).length ≤ ls.length ∧ (rsAt K ls i).length ≤ ls.length := by
  unfold psAt lsAt rsAt
  simp only [List.length_map]
  have h : (ls.take i).length ≤ ls.length := by rw [List.length_take]; exact Nat.min_le_right _ _
  exact ⟨Nat.le_trans (List.length_filterMap_le _ _) h, Nat.le_trans (List.length_filterMap_le _ _) h, Nat.le_trans (List.length_filterMap_le _ _) h⟩
theorem same_upd {H : Hp} {p : Addr} {o : HO} (h : Same H0 H) (hp : H0 p = none) : Same H0 (upd H p o) := fun b u hb => by
  rw [upd_ne (ne_of_none hb hp)]
  exact h b u hb
/-- a, b, c, d = [], [], [], "" -/
theorem mr_lists {X : Cx} {ρ : Rho} {S' : Sta} {E : Ent} {sts : List Stmt} {k : Nat} {pos tp vp q1 q2 q3 q4 l1 l2 l3 sp : Pos} {kt k2 k3} {x1 x2 x3 x4 : Str} {i1 i2 i3 i4 : Nat} (g : Gx X k) (r : ∀ p l r, MR X CW ((((ρ.set i1 (some (val (.ref p)))).set i2 (some (val (.ref l)))).set i3 (some (val (.ref r)))).set i4 (some (dat X.K (.str "")))) (FrL (sameS H0) H0 [(r, []), (l, []), (p, [])]) sts E S')
    (hg : PG X (.Tuple [.Name x1 q1, .Name x2 q2, .Name x3 q3, .Name x4 q4] kt tp) (gTup X.K 4 (gCons (gName i1) (gCons (gName i2) (gCons (gName i3) (gCons (gName i4) gNil)))))) (h1 : i1 < X.N.length) (h2 : i2 < X.N.length) (h3 : i3 < X.N.length) (h4 : i4 < X.N.length)
    (hs : swapsWithSole [.Tuple [.Name x1 q1, .Name x2 q2, .Name x3 q3, .Name x4 q4] kt tp] (.Tuple [.List [] l1, .List [] l2, .List [] l3, .Constant (.str "") k3 sp] k2 vp) pos.line X.env = pure false := by rfl)
    (hw : swappedStores [.Tuple [.Name x1 q1, .Name x2 q2, .Name x3 q3, .Name x4 q4] kt tp] (.Tuple [.List [] l1, .List [] l2, .List [] l3, .Constant (.str "") k3 sp] k2 vp) X.env = pure none := by rfl)
    (ha : (assignEach [.Tuple [.Name x1 q1, .Name x2 q2, .Name x3 q3, .Name x4 q4] kt tp] X.env).map (·.2) = [assign (.Tuple [.Name x1 q1, .Name x2 q2, .Name x3 q3, .Name x4 q4] kt tp) X.env] := by rfl)
    (s1 : starEach [.List [] l1, .List [] l2, .List [] l3, .Constant (.str "") k3 sp] X.env = (false, eval (.List [] l1) X.env) :: starEach [.List [] l2, .List [] l3, .Constant (.str "") k3 sp] X.env := by rfl)
    (s2 : starEach [.List [] l2, .List [] l3, .Constant (.str "") k3 sp] X.env = (false, eval (.List [] l2) X.env) :: starEach [.List [] l3, .Constant (.str "") k3 sp] X.env := by rfl)
    (s3 : starEach [.List [] l3, .Constant (.str "") k3 sp] X.env = (false, eval (.List [] l3) X.env) :: starEach [.Constant (.str "") k3 sp] X.env := by rfl)
    (s4 : starEach [.Constant (.str "") k3 sp] X.env = (false, eval (.Constant (.str "") k3 sp) X.env) :: starEach [] X.env := by rfl) :
    MR X CW ρ (sameS H0) (.Assign [.Tuple [.Name x1 q1, .Name x2 q2, .Name x3 q3, .Name x4 q4] kt tp] (.Tuple [.List [] l1, .List [] l2, .List [] l3, .Constant (.str "") k3 sp] k2 vp) pos :: sts) E S' := by
  refine ⟨fun pins s σ H D I z => ?_⟩
  have hst := ps_asg (pos := pos) (pe_tup (pos := vp) (x1 := k2) (X := X) (pa_cons (pe_lst pa_nil) (pa_cons (pe_lst pa_nil) (pa_cons (pe_lst pa_nil) (pa_cons pe_str pa_nil s4) s3) s2) s1)) hg hs hw ha
  refine wpAny_execs_cons (thn (hst.run pins s σ H { D with nx := fun σ1 H1 => ∃ p l r, σ1 = (((σ.set i1 (some (.ref p))).set i2 (some (.ref l))).set i3 (some (.ref r))).set i4 (some (.str "")) ∧ Same H H1 ∧ (FrL (sameS H0) H0 [(r, []), (l, []), (p, [])]).is H1 } I ?_) fun f s1 q => ?_)
  · refine ⟨Nat.zero_le _, fun p hp => ⟨Nat.zero_le _, fun l hl => ⟨Nat.zero_le _, fun r hr => ⟨Nat.le_of_ble_eq_true rfl, fun t ht => ?_⟩⟩⟩⟩
    have a1 := Same.new (o := .lst []) hp
    have a2 := Same.new (o := .lst []) hl
    have a3 := Same.new (o := .lst []) hr
    have a4 := Same.new (o := .tup [.ref p, .ref l, .ref r, .str ""]) ht
    refine ⟨t, [.ref p, .ref l, .ref r, .str ""], rfl, SqT.of upd_same, rfl, ?_⟩
    refine ⟨_, _, rfl, ⟨_, _, rfl, ⟨_, _, rfl, ⟨_, _, rfl, ⟨rfl, p, l, r, rfl, ((a1.trans a2).trans a3).trans a4, ?_⟩⟩⟩⟩⟩
    have o1 : OwnL H0 [(p, [])] (upd H p (.lst [])) := OwnL.add (L := []) .nil hp (new_same z.2.1 hp) .nil
    have o2 := o1.add (Es := []) hl (new_same (z.2.1.trans a1) hl) All2.nil
    have o3 := o2.add (Es := []) hr (new_same ((z.2.1.trans a1).trans a2) hr) All2.nil
    exact ⟨(((z.2.1.trans a1).trans a2).trans a3).trans a4, o3.mono a4⟩
  · cases f with
    | next =>
      obtain ⟨σ1, H1, I1, p, l, rr, rfl, sm, fr⟩ := q
      have hl : σ.length = X.N.length := I.len
      refine (r p l rr).run pins s1 _ _ D I1 ⟨((((z.1.mono sm).set (by omega) rfl).set (by rw [List.length_set]; omega) rfl).set (by rw [List.length_set, List.length_set]; omega) rfl).set (by rw [List.length_set, List.length_set, List.length_set]; omega) (.str _), fr, fun v H' kk i t => z.2.2 v H' ((Keep.same sm).trans kk) i t⟩
    | ret v => exact q
    | brk => exact q
    | cont => exact q
theorem gkw_mk {x : Str} {st : Stmt} {N : List Str} {k : Nat} {F : Fn} {kws : List (Str × V)} (h : HasKw K mg x st kws) (hk : kws ≠ []) (n : Nat) (ps : List Str) (S : FnScope N ps (defScope st)) (hn : n + kws.length = ps.length) (hlen : ∀ Es E, F Es E → Es.length = ps.length)
    (hb : ∀ (D : Addr) (doc pm : Value) (an : Option Addr) (cdv ct : Value) (us ks : List Value), us.length = n → ks.length = kws.length → KwChain D ((kws.map (·.1)).zip ks) (bindArgs (PySem.W.fnOf x x (defArgs st) (defBody st) (defScope st) .none (.ref D) doc pm an cdv ct) ⟨us, []⟩) (ps.zip (us ++ ks)))
    (b : ∀ (f : Addr) (cdv : Value) (A : Around) (outer : List Env) (s : Shared) (H : Hp) (E0 : XK), Gx (cx P w K mg base N x st f cdv A outer s H E0) k → ∀ Es E, F Es E → ∀ H0, MR (cx P w K mg base N x st f cdv A outer s H E0) CW (startR N Es) (sameS H0) (defBody st) E (sameS H0)) : GKw P w K mg base x (k + 1) (kws.map (·.2)) F := by
  obtain ⟨f, fd, hF, hm⟩ := h.ex
  obtain ⟨ds, hv, hB⟩ := hF.binds0 (ps := ps) n hk hn hb
  refine ⟨f, fd, ps, ds, hm, hF.kp, hB, hv, hF.ok S (fun vs H Q E h => ?_) fun cdv A outer s H vs Q E hr h => ?_⟩
  · obtain ⟨Es, E', h1, h2, _⟩ := h
    rw [h2.length, hlen Es E' h1]
  · obtain ⟨Es, E', h1, h2, h3⟩ := h
    have hb := b f cdv A outer s H E ⟨rfl, hr, S.nd⟩ Es E' h1 H
    exact ⟨_, hb.nox, env_start h2, .refl H, fun v H' _ i t => h3 v H' t i⟩
theorem mn_weak {X : Cx} {ρ ρ' ρ'' : Rho} {S S' : Sta} {sts : List Stmt} (h : MN X CW ρ S sts ρ' S') (w : ∀ σ H, EnvOk σ H ρ' → EnvOk σ H ρ'') : MN X CW ρ S sts ρ'' S' := PSs.imp h fun D σ H _ z => ⟨z.1, z.2.1, fun σ' H' k l e' t => z.2.2 σ' H' k l (w σ' H' e') t⟩
theorem lst_at {L : List (Addr × List Ent)} {H : Hp} {q : Addr × List Ent} (o : OwnL H0 L H) (hq : q ∈ L) {n : Nat} (hn : q.2.length ≤ n) : ∃ vs, H q.1 = some (.lst vs) ∧ vs.length ≤ n := by
  obtain ⟨vs, h1, h2⟩ := o.has q hq
  exact ⟨vs, h1, by rw [h2.length]; exact hn⟩
theorem up_list {ρ : Rho} {S : Sta} {i : Nat} {p : Addr} {ds : List D} (hS : ∀ H, S.is H → ∃ L, OwnL H0 L H ∧ (p, ds.map (dat K)) ∈ L) (h : ρ[i]? = some (some (val (.ref p)))) : Up ρ S (ρ.set i (some (dat K (.list ds)))) := Up.at (fun v H s e => by
  cases e
  obtain ⟨L, o, hm⟩ := hS H s
  obtain ⟨vs, h1, h2⟩ := o.has _ hm
  exact .lst (SqL.of h1) (dp_all2 h2)) h
theorem Up.trans {ρ ρ1 ρ2 : Rho} {S : Sta} (a : Up ρ S ρ1) (b : Up ρ1 S ρ2) : Up ρ S ρ2 := fun σ H e s => b σ H (a σ H e s) s
/-- the state after a line is taken in -/
theorem rdS_app {A B : List (Addr × List Ent)} {a b : Addr} {ws : List Str} {ln fd k : Int} {Es : List Ent} {E : Ent} {H : Hp} {vs : List V} {u : V} (h : (rdS K CW H0 (A ++ (b, Es) :: B) a ws ln fd k).is H) (hb : H b = some (.lst vs)) (hu : E.is u H) (ke : KL CW (A ++ (b, Es) :: B)) (kE : KE CW E) :
    (FrL (sameS H0) H0 (A ++ (b, Es ++ [E]) :: B)).is (upd H b (.lst (vs ++ [u]))) := by
  obtain ⟨⟨h1, h2⟩, _, _⟩ := h
  exact ⟨same_upd h1 (h2.new (b, Es) (by simp)), h2.app hb hu ke kE⟩
def bkEnd (K : PySem.W.Frag) (H0 : Hp) (ls : List Ln) (p l r : Addr) (n : Nat) : Sta := ⟨fun H => ∃ ll, (FrL (sameS H0) H0 (bkL K ls ll p l r n)).is H, fun {H H'} s h => let ⟨ll, h⟩ := h; ⟨ll, (FrL (sameS H0) H0 (bkL K ls ll p l r n)).mono s h⟩⟩
theorem bkEnd_stp {ls : List Ln} {p l r a : Addr} {n : Nat} : Stp CW a (bkEnd K H0 ls p l r n) (bkEnd K H0 ls p l r n) (sameS H0) (bkEnd K H0 ls p l r n) := ⟨fun _ h => h, fun _ _ _ _ t => let ⟨_, h⟩ := t; h.1⟩
inductive FBookRead (K : PySem.W.Frag) : Fn
  | mk (b : Bk) (h : BkOk b) (s : Small b) (hne : b.purses ≠ []) (ok : ∀ x ∈ lns b, x.Ok) : FBookRead K [dat K (.str (bookText b)), dat K (.int 0)] (dat K (bkD b))
theorem ok_book_read (T : Txt K mg CA CW CB) : GKw P w K mg base "book_read" 7 [.int 0] (FBookRead K) :=
  gkw_mk (CW := CW) (N := ["text", "line", "purses", "limits", "rows", "head", "k", "own", "reader", "word", "found"]) (k := 6) T.d_book_read (by simp) 1 ["text", "line"] ⟨rfl, rfl, rfl, by decide +kernel, rfl, by decide +kernel, by decide +kernel⟩ rfl (fun _ _ h => by cases h <;> rfl) (fun D doc pm an cdv ct us ks h1 h2 => match us, h1, ks, h2 with | [_], _, [_], _ => ⟨_, _, _, _, _, _, rfl, rfl, rfl⟩) fun f cdv A outer s H E0 g Es E hF H0 => by
    cases hF with
    | mk b h s hne ok =>
      obtain ⟨tp, mp⟩ := T.g_PURSE
      obtain ⟨tl', ml⟩ := T.g_LIMIT
      have hfew := lines_few h
      have hlns : (lns b).length ≤ 300 := by
        have := congrArg List.length (lns_text b)
        rw [List.length_map] at this
        omega
      have hz : (bookText b).length ≤ 1000000 := Nat.le_trans (join_len _ _) (text_len h s)
      have hzs : PySem.Txt.split (bookText b) "\n" = (lns b).map Ln.text := by rw [split_book hne ok, lns_text]
      refine mr_lists g (fun p l r => ?_) (pg_tupK (K := K) (m := 4) rfl (pgs_cons (pg_name (i := 2) (by exact g.nd) rfl (by first | exact Or.inl rfl | exact Or.inr rfl)) (pgs_cons (pg_name (i := 3) (by exact g.nd) rfl (by first | exact Or.inl rfl | exact Or.inr rfl)) (pgs_cons (pg_name (i := 4) (by exact g.nd) rfl (by first | exact Or.inl rfl | exact Or.inr rfl)) (pgs_cons (pg_name (i := 5) (by exact g.nd) rfl (by first | exact Or.inl rfl | exact Or.inr rfl)) pgs_nil))))) (Nat.le_of_ble_eq_true rfl) (Nat.le_of_ble_eq_true rfl) (Nat.le_of_ble_eq_true rfl) (Nat.le_of_ble_eq_true rfl)
      refine mr_cons (ρ' := bkR K (bookText b) p l r (headAt (lns b) ((lns b).map Ln.text).length)) (S1 := bkEnd K H0 (lns b) p l r ((lns b).map Ln.text).length) ?_ ?_
      · have hm : ((lns b).map Ln.text).length = (lns b).length := List.length_map ..
        refine ms_forSplit g T.B (zs := (lns b).map Ln.text) (fun i => bkR K (bookText b) p l r (headAt (lns b) i)) (fun ll i => FrL (sameS H0) H0 (bkL K (lns b) ll p l r i)) PassesOwn.never hzs (by decide) hz (de_var 0) de_str .refl (pg_tupK (K := K) (m := 2) rfl (pgs_cons (pg_name (i := 6) (by exact g.nd) rfl (by first | exact Or.inl rfl | exact Or.inr rfl)) (pgs_cons (pg_name (i := 7) (by exact g.nd) rfl (by first | exact Or.inl rfl | exact Or.inr rfl)) pgs_nil))) (fun i u _ => (gb_tup (gbs_cons (gbn 6) (gbs_cons (gbn 7) gbs_nil)) rfl)) (fun σ H e => e.le ?_) (fun H ll hS hll => ?_) (fun ll i H hS => ?_) (fun ll i u hu => ?_) (fun ll H hS => ⟨ll, hS⟩)
        · exact .keep (.keep (.keep (.keep (.keep (.keep (.keep (.keep (.keep (.keep (.keep .nil))))))))))
        · obtain ⟨h1, h2⟩ := hS
          have h3 : OwnL H0 [(p, []), (l, []), (r, [])] H := h2.perm (List.reverse_perm [(p, []), (l, []), (r, [])])
          refine ⟨same_upd h1 (new_same h1 hll), h3.add hll (new_same h1 hll) ?_⟩
          have e : ((lns b).map fun x => PyData.str x.text) = ((lns b).map Ln.text).map PyData.str := by rw [List.map_map]; rfl
          rw [e]
          exact all2_dp (dpAll_ofStrs _)
        · obtain ⟨vs, h1, h2⟩ := hS.2.has (ll, _) (List.mem_cons_self ..)
          have e : ((lns b).map fun x => PyData.str x.text) = ((lns b).map Ln.text).map PyData.str := by rw [List.map_map]; rfl
          rw [e] at h2
          rw [h1, dpAll_strs (dp_all2 h2)]
        · rw [List.getElem?_map] at hu
          cases hx : (lns b)[i]? with
          | none => rw [hx] at hu; cases hu
          | some x =>
            rw [hx] at hu
            cases hu
            have hok := ok x (List.mem_of_getElem? hx)
            have hhead := head_ok hne hx
            have ke := kl_bk (K := K) (CW := CW) (lns b) ll p l r i
            obtain ⟨z1, z2, z3⟩ := at_len (K := K) (lns b) i
            have hnext : headAt (lns b) (i + 1) = x.word := by
              show (match (lns b)[i]? with | some x => x.word | none => "") = _
              rw [hx]
            have htx : x.text.length ≤ 1000000 := by
              have := lines_len h s x.text (by rw [← lns_text]; exact List.mem_map_of_mem (List.mem_of_getElem? hx))
              omega
            refine mn_make (ok_WordReader_init T) g 8 (fun a => RdW K CW a x.words (0 + (i : Int)) 0 0) (fun a => rdS K CW H0 (bkL K (lns b) ll p l r i) a x.words (0 + (i : Int)) 0 ((0 : Nat) : Int)) T.g_WordReader (da_cons (de_is (de_split (z := x.text) (by decide) htx (de_var 7) de_str) (by rw [split_line hok])) (da_cons (de_add (de_var 1) (de_var 6)) (da_cons de_int da_nil))) .refl (fun a => .mk x.words _ 0 a) (fun H H' a hS ha sm t => ⟨(FrL (sameS H0) H0 _).mono sm hS, t, new_same hS.1 ha⟩) (fun a => mn_weak (ρ' := (((((bkR K (bookText b) p l r (headAt (lns b) i)).set 6 (some (dat K (.int (i : Nat))))).set 7 (some (dat K (.str x.text)))).set 8 (some (val (.ref a)))).set 9 (some (dat K (.str x.word)))).set 10 (some (dat K x.data)) |>.set 5 (some (dat K (.str x.word)))) ?_ fun σ H e => e.le ?_)
            rotate_left
            · rw [hnext]
              exact .keep (.keep (.keep (.keep (.keep (.keep (.drop (.drop (.drop (.drop (.drop .nil))))))))))
            · refine mn_cons (ms_set (rdS_stp ke) g 9 (me_of (de_meth0 (ok_WordReader_next_word T) T.c_WordReader (rd_ins rfl) g (de_var 8) (.mk a x.words _ 0 0 x.word (by cases x <;> rfl))) (upW 8 rfl))) <|
                mn_cons (ms_skip (cmp (dc_niTs (l := headsOf (headAt (lns b) i)) g (de_var 9) (de_call (ok_heads_behind T) g (da_cons (de_var 5) da_nil) (.mk _))) (decide_eq_false (not_not_intro hhead))) .refl) <|
                mn_cons (ms_set (rdS_stp ke) g 10 (me_call (ok_line_read T) g (da_cons (de_var 8) da_nil) (upW 8 rfl) (.mk a _ 0 x hok) (by repeat' first | refine SR.set ?_ ?_ | exact sr_bkR | exact (ke_dat (nl_ln _)).se | refine SR.wipe ?_ _ | refine SR.start ?_ | refine SEs.cons ?_ ?_ | exact SEs.nil | exact ke_val.se | exact (ke_dat rfl).se | exact (ke_dat (nl_strsD _)).se | exact (ke_dat (nl_intsD _)).se | exact (ke_dat (nl_purseD _)).se | exact (ke_dat (nl_limitD _)).se | exact (ke_dat (nl_rowD _)).se | assumption))) <|
                mn_cons (ρ' := ((((bkR K (bookText b) p l r (headAt (lns b) i)).set 6 (some (dat K (.int (i : Nat))))).set 7 (some (dat K (.str x.text)))).set 8 (some (val (.ref a)))).set 9 (some (dat K (.str x.word))) |>.set 10 (some (dat K x.data))) (S1 := FrL (sameS H0) H0 (bkL K (lns b) ll p l r (i + 1))) ?_ (mn_one (ms_set (a := a) Stp.id g 5 (me_p (de_var 9))))
              cases x with
              | p x =>
                obtain ⟨y1, y2, y3⟩ := psAt_next (K := K) hx
                refine ms_ifT (cmp (dc_eqS (i := "purse") (de_var 9) (de_gstr rfl mp)) (decide_eq_true rfl)) .refl (mn_one (ms_append (a := a) Stp.id 2 p (he := me_p (de_var 10)) (sr := (by repeat' first | refine SR.set ?_ ?_ | exact sr_bkR | exact (ke_dat (nl_ln _)).se | refine SR.wipe ?_ _ | refine SR.start ?_ | refine SEs.cons ?_ ?_ | exact SEs.nil | exact ke_val.se | exact (ke_dat rfl).se | exact (ke_dat (nl_strsD _)).se | exact (ke_dat (nl_intsD _)).se | exact (ke_dat (nl_purseD _)).se | exact (ke_dat (nl_limitD _)).se | exact (ke_dat (nl_rowD _)).se | assumption)) (hs0 := fun H hS => ?_) (hs := fun H hS => ?_) (hS := fun H u vs hS hu hb => ?_)))
                · obtain ⟨vs, h1, _⟩ := hS.1.2.has (p, _) (List.mem_cons_of_mem _ (List.mem_cons_self ..))
                  exact ⟨vs, h1⟩
                · obtain ⟨vs, h1, h2⟩ := lst_at hS.1.2 (q := (p, _)) (List.mem_cons_of_mem _ (List.mem_cons_self ..)) z1
                  exact ⟨vs, h1, by omega⟩
                · unfold bkL at hS ⊢
                  rw [y1, y2, y3]
                  exact rdS_app (A := [(ll, _)]) (B := [(l, _), (r, _)]) hS hb hu ke (ke_dat (nl_purseD x))
              | l x =>
                obtain ⟨y1, y2, y3⟩ := lsAt_next (K := K) hx
                refine ms_ifF (cmp (dc_eqS (i := "limit") (de_var 9) (de_gstr rfl mp)) (decide_eq_false (by decide +kernel))) .refl (mn_one (ms_ifT (cmp (dc_eqS (i := "limit") (de_var 9) (de_gstr rfl ml)) (decide_eq_true rfl)) .refl (mn_one (ms_append (a := a) Stp.id 3 l (he := me_p (de_var 10)) (sr := (by repeat' first | refine SR.set ?_ ?_ | exact sr_bkR | exact (ke_dat (nl_ln _)).se | refine SR.wipe ?_ _ | refine SR.start ?_ | refine SEs.cons ?_ ?_ | exact SEs.nil | exact ke_val.se | exact (ke_dat rfl).se | exact (ke_dat (nl_strsD _)).se | exact (ke_dat (nl_intsD _)).se | exact (ke_dat (nl_purseD _)).se | exact (ke_dat (nl_limitD _)).se | exact (ke_dat (nl_rowD _)).se | assumption)) (hs0 := fun H hS => ?_) (hs := fun H hS => ?_) (hS := fun H u vs hS hu hb => ?_)))))
                · obtain ⟨vs, h1, _⟩ := hS.1.2.has (l, _) (List.mem_cons_of_mem _ (List.mem_cons_of_mem _ (List.mem_cons_self ..)))
                  exact ⟨vs, h1⟩
                · obtain ⟨vs, h1, h2⟩ := lst_at hS.1.2 (q := (l, _)) (List.mem_cons_of_mem _ (List.mem_cons_of_mem _ (List.mem_cons_self ..))) z2
                  exact ⟨vs, h1, by omega⟩
                · unfold bkL at hS ⊢
                  rw [y1, y2, y3]
                  exact rdS_app (A := [(ll, _), (p, _)]) (B := [(r, _)]) hS hb hu ke (ke_dat (nl_limitD x))
              | r x =>
                obtain ⟨y1, y2, y3⟩ := rsAt_next (K := K) hx
                have h1 : ¬ x.word = "purse" := by
                  cases x with
                  | buy d k a => exact (by decide +kernel : ¬ ("buy" : Str) = "purse")
                  | paid d k s => exact (by decide +kernel : ¬ ("paid" : Str) = "purse")
                have h2 : ¬ x.word = "limit" := by
                  cases x with
                  | buy d k a => exact (by decide +kernel : ¬ ("buy" : Str) = "limit")
                  | paid d k s => exact (by decide +kernel : ¬ ("paid" : Str) = "limit")
                refine ms_ifF (cmp (dc_eqS (i := x.word) (de_var 9) (de_gstr rfl mp)) (decide_eq_false h1)) .refl (mn_one (ms_ifF (cmp (dc_eqS (i := x.word) (de_var 9) (de_gstr rfl ml)) (decide_eq_false h2)) .refl (mn_one (ms_append (a := a) Stp.id 4 r (he := me_p (de_var 10)) (sr := (by repeat' first | refine SR.set ?_ ?_ | exact sr_bkR | exact (ke_dat (nl_ln _)).se | refine SR.wipe ?_ _ | refine SR.start ?_ | refine SEs.cons ?_ ?_ | exact SEs.nil | exact ke_val.se | exact (ke_dat rfl).se | exact (ke_dat (nl_strsD _)).se | exact (ke_dat (nl_intsD _)).se | exact (ke_dat (nl_purseD _)).se | exact (ke_dat (nl_limitD _)).se | exact (ke_dat (nl_rowD _)).se | assumption)) (hs0 := fun H hS => ?_) (hs := fun H hS => ?_) (hS := fun H u vs hS hu hb => ?_)))))
                · obtain ⟨vs, h1, _⟩ := hS.1.2.has (r, _) (List.mem_cons_of_mem _ (List.mem_cons_of_mem _ (List.mem_cons_of_mem _ (List.mem_cons_self ..))))
                  exact ⟨vs, h1⟩
                · obtain ⟨vs, h1, h2⟩ := lst_at hS.1.2 (q := (r, _)) (List.mem_cons_of_mem _ (List.mem_cons_of_mem _ (List.mem_cons_of_mem _ (List.mem_cons_self ..)))) z3
                  exact ⟨vs, h1, by omega⟩
                · unfold bkL at hS ⊢
                  rw [y1, y2, y3]
                  exact rdS_app (A := [(ll, _), (p, _), (l, _)]) (B := []) hS hb hu ke (ke_dat (nl_rowD x))
      · have e1 : psAt K (lns b) ((lns b).map Ln.text).length = (b.purses.map purseD).map (dat K) := by unfold psAt; rw [List.length_map, List.take_length, lns_p]
        have e2 : lsAt K (lns b) ((lns b).map Ln.text).length = (b.limits.map limitD).map (dat K) := by unfold lsAt; rw [List.length_map, List.take_length, lns_l]
        have e3 : rsAt K (lns b) ((lns b).map Ln.text).length = (b.rows.map rowD).map (dat K) := by unfold rsAt; rw [List.length_map, List.take_length, lns_r]
        refine mr_ret (a := p) bkEnd_stp (me_of (de_tup (ds := [pursesD b.purses, limitsD b.limits, rowsD b.rows]) (dd_cons (de_tupleL T.B (de_var 2)) (dd_cons (de_tupleL T.B (de_var 3)) (dd_cons (de_tupleL T.B (de_var 4)) dd_nil)))) (Up.trans (up_list (H0 := H0) (ds := b.purses.map purseD) (i := 2) (p := p) (fun H hS => ?_) rfl) (Up.trans (up_list (H0 := H0) (ds := b.limits.map limitD) (i := 3) (p := l) (fun H hS => ?_) rfl) (up_list (H0 := H0) (ds := b.rows.map rowD) (i := 4) (p := r) (fun H hS => ?_) rfl))))
        · obtain ⟨ll, _, o⟩ := hS
          refine ⟨_, o, ?_⟩
          show (p, (b.purses.map purseD).map (dat K)) ∈ _
          rw [← e1]
          exact List.mem_cons_of_mem _ (List.mem_cons_self ..)
        · obtain ⟨ll, _, o⟩ := hS
          refine ⟨_, o, ?_⟩
          show (l, (b.limits.map limitD).map (dat K)) ∈ _
          rw [← e2]
          exact List.mem_cons_of_mem _ (List.mem_cons_of_mem _ (List.mem_cons_self ..))
        · obtain ⟨ll, _, o⟩ := hS
          refine ⟨_, o, ?_⟩
          show (r, (b.rows.map rowD).map (dat K)) ∈ _
          rw [← e3]
          exact List.mem_cons_of_mem _ (List.mem_cons_of_mem _ (List.mem_cons_of_mem _ (List.mem_cons_self ..)))
end
end Lc
end
section
/-! Lc, part W: operators on instances. -/
namespace Lc
open PySem L2 PySem.Spec PyProof.Rows
section
variable {X : Cx} {ρ ρ1 : Rho} {a b c e o : Expr} {es : List Expr} {E Ea Eb Eo : Ent} {Es : List Ent} {F : Fn} {pos pp apos : Pos} {x m : Str} {j k : Nat} {C : Addr}
/-- the call of a method's def, wherever it is asked for -/
theorem call_own {f : Addr} {fd : FuncData} {ps : List Str} {vs : List V} {us : List Value} {A : Around} {pins : List (Addr × Obj)} {σ : L2.St} {H : Hp} {s : Shared} {Q : Value → Shared → Prop} {Er : Value → Shared → Prop} (hf : FnOk X.prog X.w X.K X.mg X.base CX0 j f fd ps (spP F)) (hb : Binds X.K fd ps []) (hr : Room j A) (hfr : A.frames = X.A.frames) (I : Inv X pins σ H s) (r : Vals vs us) (hF : F Es E) (h2 : All2 H vs Es)
    (q : ∀ u v H' s', Inv X pins σ H' s' → RelV v u → Same H H' → E.is v H' → Q u s') : wpAny (model X.prog X.w) A (call (.ref f) us) Q Er s := by
  have hsp : spP F vs H (fun v H' => Same H H' ∧ E.is v H') (fun _ _ _ => False) := ⟨Es, E, hF, h2, fun v H' sm i => ⟨sm, i⟩⟩
  have e0 : Env0 X.prog X.w X.K X.mg X.base A X.stack s H := by
    have e := I.env0
    exact ⟨by rw [hfr]; exact e.frames, e.mod, e.bs, e.bsz, e.funs, e.frf, e.hok, e.bare⟩
  have hl := hf.len _ _ _ _ hsp
  refine wpAny_call (codeAny_mono (hf.run A X.stack s H ⟨us, []⟩ us vs _ _ hr e0 (by
    have := hb s us I.kIn (by rw [List.append_nil, ← r.length]; exact hl)
    rw [List.append_nil] at this
    exact this) r hsp) fun rr s' hq => ?_)
  cases rr with
  | error e => exact False.elim hq
  | ok fl =>
    cases fl with
    | ret w =>
      obtain ⟨z, H', I', rz, sm, iz⟩ := I.after hq
      exact q w z H' s' I' rz sm iz
    | next => exact False.elim hq
    | brk => exact False.elim hq
    | cont => exact False.elim hq
/-- a value is an instance of the class at C -/
def IsIns (C : Addr) (v : V) (H : Hp) : Prop := ∃ a dx fs, v = .ref a ∧ H a = some (.ins C dx fs)
def InsE (C : Addr) (Eo : Ent) : Prop := ∀ v H, Eo.is v H → IsIns C v H
/-- what a method promises of two values -/
def rMt (C : Addr) (F : Fn) (op2 : Bool) : R2 := fun x y H Q => IsIns C x H ∧ (op2 = true → IsIns C y H) ∧ ∃ Es E, F Es E ∧ All2 H [x, y] Es ∧ (∀ v H', E.is v H' → (∃ q, v = .bl q) ∨ ∃ q, v = .ref q) ∧ ∀ v H', Same H H' → E.is v H' → Q v H'
theorem ins_at {pins : List (Addr × Obj)} {σ : L2.St} {H : Hp} {s : Shared} {a dx : Addr} {fs : List (Str × V)} (I : Inv X pins σ H s) (h : H a = some (.ins C dx fs)) : ∃ od, PySem.W.InstAt s.heap a (PySem.W.instObj C dx) C (some od) := by
  obtain ⟨mA, O, _⟩ := ins_get I.hok h
  obtain ⟨od, J, _⟩ := O.look
  exact ⟨od, J⟩
theorem back_ok {Q : Value → Shared → Prop} {u : Value} {v : V} {s' : Shared} (r : RelV v u) (hv : (∃ q, v = .bl q) ∨ ∃ q, v = .ref q) (h : Q u s') : PySem.W.CmpBack Q u s' := by
  rcases hv with ⟨q, rfl⟩ | ⟨q, rfl⟩
  · cases r
    exact h
  · cases r
    exact h
theorem op_eqOwn (G : GMeth X.prog X.w X.K X.mg X.base C "__eq__" j F) (hr : Room j X.A) : OpR X (compareOp .Eq) (rMt C F true) := by
  obtain ⟨f, fd, ps, hm, hb, hf⟩ := G
  intro pins s σ H x y v u Q I rx ry h
  obtain ⟨⟨a, dx, fs, rfl, ha⟩, hy, Es, E, hF, h2, hv, q⟩ := h
  obtain ⟨b, dy, gs, rfl, hb'⟩ := hy rfl
  cases rx
  cases ry
  obtain ⟨od, J⟩ := ins_at I ha
  obtain ⟨od', J'⟩ := ins_at I hb'
  obtain ⟨mm, hFr⟩ := I.fr
  show wpAny (model X.prog X.w) X.A (richCompare .Eq (.ref a) (.ref b)) (EP X pins σ Q) X.xe s
  refine PySem.W.cmp_K (op := .Eq) (tb := .ref C) hr.units0 hFr I.ok.mod.kin J J'.type (by simp [PySem.W.notFirst]) hm.at_ hm.fn ?_
  exact call_own (vs := [.ref a, .ref b]) hf hb hr rfl I (.cons rfl (.cons rfl .nil)) hF h2 fun w z H' s' I' rz sm iz => back_ok rz (hv z H' iz) ⟨z, H', I', rz, q z H' sm iz⟩
/-- the class reads != from object -/
structure NeOf (K : PySem.W.Frag) (C : Addr) : Prop where
  ne : PySem.W.findIn K (.ref C) "__ne__" = some (some (.builtin "object.__ne__"))
  ob : PySem.W.mroIn K C (.type "object") = some true
theorem op_neOwn (G : GMeth X.prog X.w X.K X.mg X.base C "__eq__" j F) (no : NeOf X.K C) (hr : Room (j + 1) X.A) (hbool : ∀ Es E, F Es E → ∀ v H, E.is v H → ∃ q, v = .bl q) : OpR X (compareOp .NotEq) (fun x y H Q => rMt C F true x y H (fun v H' => ∃ q, v = .bl q ∧ Q (.bl (!q)) H')) := by
  obtain ⟨f, fd, ps, hm, hb, hf⟩ := G
  intro pins s σ H x y v u Q I rx ry h
  obtain ⟨⟨a, dx, fs, rfl, ha⟩, hy, Es, E, hF, h2, hv, q⟩ := h
  obtain ⟨b, dy, gs, rfl, hb'⟩ := hy rfl
  cases rx
  cases ry
  obtain ⟨od, J⟩ := ins_at I ha
  obtain ⟨od', J'⟩ := ins_at I hb'
  have KX := I.kIn
  have hu := hr.un
  show wpAny (model X.prog X.w) X.A (richCompare .NotEq (.ref a) (.ref b)) (EP X pins σ Q) X.xe s
  unfold richCompare
  simp only [oneThing_ref]
  refine wpAny_holding (wpAny_bind (wpAny_cRoomFor hr.units0 ?_))
  rw [cmpInfo_NotEq]
  dsimp only
  refine wpAny_bind (J.type.here (wpAny_bind (J'.type.here ?_)))
  rw [show (Value.ref C != Value.ref C) = false from by simp]
  simp only [Bool.false_eq_true, if_false]
  refine wpAny_bind (wpAny_pure ?_)
  simp only [Bool.false_eq_true, if_false]
  have slot := PySem.F.cmp_object.ne
  have ent : wpAny (model X.prog X.w) X.A (call (.builtin "object.__ne__") [.ref a, .ref b]) (fun w s' => EP X pins σ Q w s' ∧ ∃ q, w = .bool q) X.xe s := by
    have hi : PySem.W.Looks (model X.prog X.w) s.heap (isInstance (.ref a) (.type "object")) true := J.type.andThen (PySem.W.looks_mroIn KX no.ob)
    refine wpAny_call (codeAny_call_builtin slot.plain PySem.F.cmpEntry_ne (PySem.W.check_slot PySem.F.cmpKind_ne PySem.F.cmpSplit_ne hi (PySem.F.cmpArgs_ne _ _) ?_))
    unfold Builtin.«object.__ne__»
    refine wpAny_bind (m := slotArgs "__ne__" 1 ⟨[.ref a, .ref b], []⟩) (wpAny_pure ?_)
    dsimp only
    refine wpAny_bind (m := cRoomFor _ _) (wpAny_cRoomFor hr.in1.units0 ?_)
    refine wpAny_bind (PySem.W.ifBound_K KX J hm.at_ hm.fn (call_own (vs := [.ref a, .ref b]) hf hb hr.in1 rfl I (.cons rfl (.cons rfl .nil)) hF h2 fun w z H' s' I' rz sm iz => ?_))
    obtain ⟨qq, rfl⟩ := hbool Es E hF z H' iz
    cases rz
    dsimp only
    refine wpAny_bind (wpAny_truthy_bool ?_)
    obtain ⟨q2, e2, hq⟩ := q _ H' sm iz
    cases e2
    exact wpAny_pure ⟨⟨.bl (!qq), H', I', rfl, hq⟩, _, rfl⟩
  have tr : wpAny (model X.prog X.w) X.A (tryCompare (.ref a) "__ne__" (.ref b)) (fun r s' => ∃ w, r = some w ∧ EP X pins σ Q w s') X.xe s := by
    unfold tryCompare
    refine wpAny_bind (m := callSpecialIfBound? (.ref a) "__ne__" [.ref b]) ?_
    simp only [callSpecialIfBound?, bindSpecialIfBound?]
    refine wpAny_holding (wpAny_bind (wpAny_bind (wpAny_bind (J.type.here ((PySem.W.looks_findIn KX no.ne).here ?_)))))
    simp only [slot.bind]
    refine wpAny_bind (wpAny_askSetting (wpAny_ite ?_))
    have fin : wpAny (model X.prog X.w) X.A (call (.builtin "object.__ne__") ([.ref a] ++ [.ref b]) >>= fun v => pure (some v)) (fun r s' => wpAny (model X.prog X.w) X.A (match r with
      | some .notImplemented | none => pure none
      | some w => pure (some w)) (fun r s' => ∃ w, r = some w ∧ EP X pins σ Q w s') X.xe s') X.xe s :=
      wpAny_bind (wpAny_mono ent (fun w s' h' => by
        obtain ⟨h1, q, rfl⟩ := h'
        exact wpAny_pure (wpAny_pure ⟨_, rfl, h1⟩)) fun _ _ h' => h')
    split
    · exact wpAny_bind (wpAny_pure (wpAny_pure fin))
    · exact wpAny_tryCatch (wpAny_bind (wpAny_pure (wpAny_pure fin)))
  refine wpAny_bind (wpAny_mono tr (fun r s' z => ?_) fun _ _ e => e)
  obtain ⟨w, rfl, hq⟩ := z
  exact wpAny_pure hq
end
end Lc
end
section
/-! Lc, part X: instances that are walked, looked into. -/
namespace Lc
open PySem L2 PySem.Spec PyProof.Rows
section
variable {X : Cx} {ρ ρ1 : Rho} {a b c e o tg : Expr} {es : List Expr} {E Ea Eb Eo : Ent} {Es : List Ent} {F : Fn} {pos pp apos : Pos} {x m : Str} {j k : Nat} {C : Addr} {ds : List D}
theorem dc_eqOwn {r : Bool} (G : GMeth X.prog X.w X.K X.mg X.base C "__eq__" j F) (g : Gx X k) (ha : DE X ρ a Ea) (hb : DE X ρ b Eb) (ia : InsE C Ea) (ib : InsE C Eb) (hF : F [Ea, Eb] (dat X.K (.bool r))) (hj : j ≤ k := by decide) : DC X ρ .Eq a b (dat X.K (.bool r)) :=
  dc_cmp2 (op_eqOwn G (g.room.mono hj)) ha hb fun x y H Q hx hy z => ⟨ia x H hx, fun _ => ib y H hy, [Ea, Eb], _, hF, .cons hx (.cons hy .nil), fun v H' i => by cases i; exact .inl ⟨_, rfl⟩, fun v H' s i => z v H' s i⟩
theorem dc_neOwn {r : Bool} (G : GMeth X.prog X.w X.K X.mg X.base C "__eq__" j F) (no : NeOf X.K C) (hbool : ∀ Es E, F Es E → ∀ v H, E.is v H → ∃ q, v = .bl q) (g : Gx X k) (ha : DE X ρ a Ea) (hb : DE X ρ b Eb) (ia : InsE C Ea) (ib : InsE C Eb) (hF : F [Ea, Eb] (dat X.K (.bool r))) (hj : j + 1 ≤ k := by decide) : DC X ρ .NotEq a b (dat X.K (.bool (!r))) :=
  dc_cmp2 (op_neOwn G no (g.room.mono hj) hbool) ha hb fun x y H Q hx hy z => ⟨ia x H hx, fun _ => ib y H hy, [Ea, Eb], _, hF, .cons hx (.cons hy .nil), fun v H' i => by cases i; exact .inl ⟨_, rfl⟩, fun v H' s i => by cases i; exact ⟨r, rfl, z _ H' s (.bl _)⟩⟩
/-! ### in -/
theorem op_inOwn {r : Bool} (G : GMeth X.prog X.w X.K X.mg X.base C "__contains__" j F) (hr : Room j X.A) : OpR X (compareOp .In) (fun x y H Q => IsIns C y H ∧ ∃ Es, F Es (dat X.K (.bool r)) ∧ All2 H [y, x] Es ∧ ∀ H', Same H H' → Q (.bl r) H') := by
  obtain ⟨f, fd, ps, hm, hb, hf⟩ := G
  intro pins s σ H x y v u Q I rx ry h
  obtain ⟨⟨a, dx, fs, rfl, ha⟩, Es, hF, h2, q⟩ := h
  cases ry
  obtain ⟨od, J⟩ := ins_at I ha
  obtain ⟨mm, hFr⟩ := I.fr
  refine PySem.W.in_K hFr I.ok.mod.kin J hm.at_ hm.fn ?_
  refine call_own (vs := [.ref a, x]) hf hb hr rfl I (.cons rfl (.cons rx .nil)) hF h2 fun w z H' s' I' rz sm iz => ?_
  cases iz
  cases rz
  exact wpAny_truthy_bool ⟨.bl r, H', I', rfl, q H' sm⟩
theorem op_niOwn {r : Bool} (G : GMeth X.prog X.w X.K X.mg X.base C "__contains__" j F) (hr : Room j X.A) : OpR X (compareOp .NotIn) (fun x y H Q => IsIns C y H ∧ ∃ Es, F Es (dat X.K (.bool r)) ∧ All2 H [y, x] Es ∧ ∀ H', Same H H' → Q (.bl (!r)) H') := by
  obtain ⟨f, fd, ps, hm, hb, hf⟩ := G
  intro pins s σ H x y v u Q I rx ry h
  obtain ⟨⟨a, dx, fs, rfl, ha⟩, Es, hF, h2, q⟩ := h
  cases ry
  obtain ⟨od, J⟩ := ins_at I ha
  obtain ⟨mm, hFr⟩ := I.fr
  refine PySem.W.notIn_K hFr I.ok.mod.kin J hm.at_ hm.fn ?_
  refine call_own (vs := [.ref a, x]) hf hb hr rfl I (.cons rfl (.cons rx .nil)) hF h2 fun w z H' s' I' rz sm iz => ?_
  cases iz
  cases rz
  exact wpAny_truthy_bool ⟨.bl (!r), H', I', rfl, q H' sm⟩
theorem dc_inOwn {r : Bool} (G : GMeth X.prog X.w X.K X.mg X.base C "__contains__" j F) (g : Gx X k) (ha : DE X ρ a Ea) (hb : DE X ρ b Eb) (ib : InsE C Eb) (hF : F [Eb, Ea] (dat X.K (.bool r))) (hj : j ≤ k := by decide) : DC X ρ .In a b (dat X.K (.bool r)) :=
  dc_cmp2 (op_inOwn G (g.room.mono hj)) ha hb fun x y H Q hx hy z => ⟨ib y H hy, [Eb, Ea], hF, .cons hy (.cons hx .nil), fun H' s => z _ H' s (.bl _)⟩
theorem dc_niOwn {r : Bool} (G : GMeth X.prog X.w X.K X.mg X.base C "__contains__" j F) (g : Gx X k) (ha : DE X ρ a Ea) (hb : DE X ρ b Eb) (ib : InsE C Eb) (hF : F [Eb, Ea] (dat X.K (.bool r))) (hj : j ≤ k := by decide) : DC X ρ .NotIn a b (dat X.K (.bool (!r))) :=
  dc_cmp2 (op_niOwn G (g.room.mono hj)) ha hb fun x y H Q hx hy z => ⟨ib y H hy, [Eb, Ea], hF, .cons hy (.cons hx .nil), fun H' s => z _ H' s (.bl _)⟩
/-! ### o[i] -/
theorem de_ixOwn (G : GMeth X.prog X.w X.K X.mg X.base C "__getitem__" j F) (g : Gx X k) (ha : DE X ρ a Ea) (hb : DE X ρ b Eb) (ia : InsE C Ea) (hF : F [Ea, Eb] E) (hfi : ∀ f, Meth X.K C "__getitem__" f → PySem.W.fnIn X.K f = true) (hsl : ∀ v i, subscripted b true v i = runValue (.builtin "lifetime.subscript" ⟨[v, i], []⟩) := by intro _ _; rfl) (hj : j + 1 ≤ k := by decide) : DE X ρ (.Subscript a b pos) E := by
  obtain ⟨f, fd, ps, hm, hb', hf⟩ := G
  refine ⟨fun pins s σ H Q I h => ?_⟩
  refine Subscript_ (thn (ha.run pins s σ H (fun x H1 => Same H H1 ∧ Ea.is x H1) I ⟨h.1, fun x H1 s1 i1 => ⟨s1, i1⟩⟩) fun v s1 ⟨x, H1, I1, r1, sm1, i1⟩ => ?_)
  refine thn (hb.run pins s1 σ H1 (fun y H2 => Same H1 H2 ∧ Eb.is y H2) I1 ⟨h.1.mono sm1, fun x H1 s1 i1 => ⟨s1, i1⟩⟩) fun u s2 ⟨y, H2, I2, r2, sm2, i2⟩ => ?_
  obtain ⟨p, dx, fs, rfl, hp⟩ := ia x H2 (Ea.mono sm2 i1)
  cases r1
  obtain ⟨od, J⟩ := ins_at I2 hp
  obtain ⟨mm, hFr⟩ := I2.fr
  have rm := (g.room.mono hj).in1
  refine PySem.W.sub_K hFr I2.ok.mod.kin J hm.at_ (hfi f hm) hm.fn ?_ (hsl _ _)
  exact call_own (vs := [.ref p, y]) hf hb' rm rfl I2 (.cons rfl (.cons r2 .nil)) hF (.cons (Ea.mono sm2 i1) (.cons i2 .nil)) fun w z H' s' I' rz sm iz => ⟨z, H', I', rz, h.2 z H' ((sm1.trans sm2).trans sm) iz⟩
/-! ### len(o), str(o) -/
theorem cr_lenOwn {n : Nat} (G : GMeth X.prog X.w X.K X.mg X.base C "__len__" j F) (hr : Room (j + 1) X.A) (hn : n < 2 ^ 62) : CallR X (.builtin "len") (fun vs H Q => ∃ v Eo, vs = [v] ∧ IsIns C v H ∧ Eo.is v H ∧ F [Eo] (dat X.K (.int (n : Nat))) ∧ ∀ H', Same H H' → Q (.int (n : Nat)) H') := by
  obtain ⟨f, fd, ps, hm, hb, hf⟩ := G
  intro pins s σ H vs us Q I r h
  obtain ⟨v, Eo, rfl, ⟨p, dx, fs, rfl, hp⟩, hv, hF, q⟩ := h
  rw [Vals.ref1 r]
  obtain ⟨od, J⟩ := ins_at I hp
  obtain ⟨mm, hFr⟩ := I.fr
  refine PySem.W.len_K hFr I.ok.mod.kin J hm.at_ hm.fn ?_
  refine call_own (vs := [.ref p]) hf hb hr.in1 rfl I (.cons rfl .nil) hF (.cons hv .nil) fun w z H' s' I' rz sm iz => ?_
  cases iz
  obtain ⟨t, rfl⟩ := rz
  exact ⟨⟨by omega, by omega⟩, .int (n : Nat), H', I'.tok _, ⟨_, rfl⟩, q H' sm⟩
theorem de_lenOwn {n : Nat} (B : Bt X.mg) (G : GMeth X.prog X.w X.K X.mg X.base C "__len__" j F) (g : Gx X k) (hn : n ≤ 1000000) (ha : DE X ρ a Ea) (ia : InsE C Ea) (hF : F [Ea] (dat X.K (.int (n : Nat)))) (hj : j + 1 ≤ k := by decide) (hg : Gl X "len" := by rfl) (hs : starEach [a] X.env = (false, eval a X.env) :: starEach [] X.env := by rfl) : DE X ρ (.Call (.Name "len" pp) [a] [] pos) (dat X.K (.int (n : Nat))) :=
  de_callB (cr_lenOwn G (g.room.mono hj) (n := n) (Nat.lt_of_le_of_lt hn (by decide))) hg B.len boot_len (da_cons ha da_nil hs) (he := hs) fun vs H Q h z => by
    obtain ⟨v, rfl, hv⟩ := a1 h
    exact ⟨v, Ea, rfl, ia v H hv, hv, hF, fun H' s => z _ H' s (.int _)⟩
theorem Room.in1' {k : Nat} {A : Around} (r : Room (k + 1) A) : Room k A.in1.in1 :=
  ⟨r.hd, by have := r.dp; show A.depth + 3 * k + 5 < _; omega, by have := r.un; show A.units + 1 + 1 + 16 * k + 200 < _; omega⟩
theorem cr_strOwn {z : Str} (G : GMeth X.prog X.w X.K X.mg X.base C "__str__" j F) (hr : Room (j + 1) X.A) : CallR X (.type "str") (fun vs H Q => ∃ v Eo, vs = [v] ∧ IsIns C v H ∧ Eo.is v H ∧ F [Eo] (dat X.K (.str z)) ∧ ∀ H', Same H H' → Q (.str z) H') := by
  obtain ⟨f, fd, ps, hm, hb, hf⟩ := G
  intro pins s σ H vs us Q I r h
  obtain ⟨v, Eo, rfl, ⟨p, dx, fs, rfl, hp⟩, hv, hF, q⟩ := h
  rw [Vals.ref1 r]
  obtain ⟨od, J⟩ := ins_at I hp
  refine PySem.W.kso_call (by have := hr.un; show X.A.units + 1 + 1 < cLine; omega) I.kIn J hm.at_ hm.fn ?_
  refine call_own (vs := [.ref p]) hf hb (Room.in1' hr) rfl I (.cons rfl .nil) hF (.cons hv .nil) fun w z' H' s' I' rz sm iz => ?_
  cases iz
  obtain ⟨t, rfl⟩ := rz
  exact ⟨.str z, H', I', ⟨_, rfl⟩, q H' sm⟩
theorem de_strOwn {z : Str} (B : Bt X.mg) (G : GMeth X.prog X.w X.K X.mg X.base C "__str__" j F) (g : Gx X k) (ha : DE X ρ a Ea) (ia : InsE C Ea) (hF : F [Ea] (dat X.K (.str z))) (hj : j + 1 ≤ k := by decide) (hg : Gl X "str" := by rfl) (hs : starEach [a] X.env = (false, eval a X.env) :: starEach [] X.env := by rfl) : DE X ρ (.Call (.Name "str" pp) [a] [] pos) (dat X.K (.str z)) :=
  de_callTy (cr_strOwn G (g.room.mono hj)) hg B.str (by decide +kernel) (da_cons ha da_nil hs) (he := hs) fun vs H Q h q => by
    obtain ⟨v, rfl, hv⟩ := a1 h
    exact ⟨v, Ea, rfl, ia v H hv, hv, hF, fun H' s => q _ H' s (.str _)⟩
end
end Lc
end
section
/-! Lc, part Y: instances: iter, + and the like, o(..), properties, class methods, static methods. -/
namespace Lc
open PySem L2 PySem.Spec PyProof.Rows
section
variable {X : Cx} {ρ ρ1 : Rho} {a b c e o tg : Expr} {es : List Expr} {E Ea Eb Eo : Ent} {Es : List Ent} {F : Fn} {pos pp apos : Pos} {x m : Str} {j k : Nat} {C : Addr} {ds : List D}

/-! ### iter of a tuple, as a value -/
def TItO (p it : Addr) : HO := .ext fun h => h.IsTupleIter it p 0
theorem titO_ok {P : Program} {w : World} {H : Hp} {h : Heap} {p it : Addr} (e : h.IsTupleIter it p 0) : ObjOk P w H h it (TItO p it) := ⟨e, by obtain ⟨o, ho, _⟩ := e; exact ⟨o, ho⟩, fun h1 h2 q k => by
  obtain ⟨o, ho, r⟩ := q
  exact ⟨o, k _ ho, r⟩⟩
def rIterT (K : PySem.W.Frag) (n : Nat) : List V → Hp → VK → Prop := fun xs H Q => ∃ (l : Addr) (zs : List V), xs = [.ref l] ∧ SqT K H l zs ∧ ∀ it, H it = none → n ≤ it → Q (.ref it) (upd H it (TItO l it))
theorem call_iterT : CallR X (.builtin "iter") (rIterT X.K X.s_0.heap.objs.size) := by
  intro pins s σ H xs us Q I r h
  obtain ⟨l, zs, rfl, hq, q⟩ := h
  obtain rfl := Vals.ref1 r
  obtain ⟨its, rv, pl, hz⟩ := I.tuple hq
  refine Calls.call_function_entry (by decide +kernel) (by decide +kernel) PySem.W.kdk_entry_iter (PySem.W.kdk_args_iter _) ?_
  unfold Builtin.«iter»
  refine wpAny_bind (m := someArgs "iter" 1 2 _) (wpAny_of_eq (a := [Value.ref l]) (by first | rfl | kernel_rfl!) ?_)
  show wpAny _ _ (pyIter (.ref l) >>= _) _ _ _
  refine wpAny_bind (wpAny_pyIter_tuple (show s.heap.IsTuple l its.toArray from pl) ?_)
  exact wpAny_pure ⟨_, rfl, ⟨.ref s.heap.objs.size, _, I.laid (t' := s.toks) (fun b u e => Heap.get?_push_of_some _ e) (Nat.le_refl _) (titO_ok ⟨_, Heap.get?_push_size _ rfl, rfl, rfl⟩), rfl, q _ (I.hok.fresh (Nat.le_refl _)) I.sz⟩⟩
/-- a def's body run here and now (fn_of tells it of every heap; this one is told of the heap at hand) -/
theorem fn_now {P : Program} {w : World} {K : PySem.W.Frag} {mg : Str → Option Value} {base : Heap} {nm qual : Str} {st : Stmt} {f : Addr} {fd : FuncData} {N ps : List Str} {vs : List V} {us : List Value} {Q : VK} {A : Around} {outer : List Env} {s : Shared} {H : Hp} (hf : Fun K nm qual st f fd) (S : FnScope N ps (defScope st)) (room : Room (k + 1) A) (env : Env0 P w K mg base A outer s H)
    (hb : BindsTo s fd ⟨us, []⟩ (ps.zip us)) (rel : Vals vs us) (hlen : vs.length = ps.length)
    (body : ∀ cdv, Room k (A.deeper (envOfC qual (defScope st) s.heap.objs.size f cdv)) → ∃ t, PSs (cx P w K mg base N qual st f cdv A outer s H (fun _ _ _ => False)) (defBody st) t ∧ t { nx := fun _ _ => False, rt := Q } (L2.start N vs) H) :
    codeAny (model P w) A (.call (.ref f) ⟨us, []⟩) (CR CX0 outer P w H s Q (fun _ _ _ => False)) s := by
  obtain ⟨cls, dct, kV, doc, pm, an, cdv, ct, slots, rfl, look, code⟩ := hf.ex
  have kin : K.In s.heap := env.mod.kin.keeps fun p u q => (env.bs p u q).1
  have nolim : s.heap.NoLimit := env.mod.nolimit.keeps fun p u q => (env.bs p u q).1
  refine codeAny_call_function room.depth (kin _ _ look) rfl S.co S.gen rfl (PySem.W.codeRec_of kin code) (hb _ _ _ _ ?_)
  refine wpAny_newFunctionEnv_cells S.kind (fun p hp => ?_) fun e1 he1 s1 new => ?_
  · rcases S.par p.1 (List.of_mem_zip (a := p.1) (b := p.2) hp).1 with q | q
    · exact Or.inl q
    · exact Or.inr ⟨q, PySem.W.cellsFrom_some _ _ _ (Or.inl q)⟩
  · subst he1
    refine ⟨nolim.keeps new.toInCall.keep, codeAny_func ?_⟩
    obtain ⟨t, ht, hq⟩ := body cdv (room.deeper _)
    have I := inv_start (CX := CX0) (E := fun _ _ _ => False) (mg := mg) (qual := qual) (f := f) (cd := cdv) S room.hd env hlen rel new
    refine wpAny_mono (ht.nox.run [] s1 (L2.start N vs) H _ I hq) (fun fl s2 z => ?_) fun _ _ z => z
    cases fl with
    | ret u =>
      obtain ⟨v, σ2, H2, J, rv, q⟩ := z
      exact ⟨v, H2, J.os, J.bare, J.base, J.hok, rv, q⟩
    | next =>
      obtain ⟨_, _, _, q⟩ := z
      exact q.elim
    | brk =>
      obtain ⟨_, _, _, q⟩ := z
      exact q.elim
    | cont =>
      obtain ⟨_, _, _, q⟩ := z
      exact q.elim
/-- an __iter__ that hands back the iterator of the tuple in the attribute fld -/
def IterBody (P : Program) (w : World) (K : PySem.W.Frag) (mg : Str → Option Value) (base : Heap) (C : Addr) (fld qual : Str) (st : Stmt) : Prop :=
  ∀ (f : Addr) (cdv : Value) (A : Around) (outer : List Env) (s : Shared) (H : Hp), A.handled = none → ∃ t, PSs (cx P w K mg base ["self"] qual st f cdv A outer s H (fun _ _ _ => False)) (defBody st) t ∧
    ∀ p dx fs l zs (Q : VK), H p = some (.ins C dx fs) → fs.lookup fld = some (.ref l) → SqT K H l zs → (∀ it, H it = none → s.heap.objs.size ≤ it → Q (.ref it) (upd H it (TItO l it))) → t { nx := fun _ _ => False, rt := Q } (L2.start ["self"] [.ref p]) H
structure GIter (P : Program) (w : World) (K : PySem.W.Frag) (mg : Str → Option Value) (base : Heap) (C : Addr) (fld : Str) : Prop where
  ex : ∃ (f : Addr) (fd : FuncData) (qual : Str) (st : Stmt), Fun K "__iter__" qual st f fd ∧ Meth K C "__iter__" f ∧ FnScope ["self"] ["self"] (defScope st) ∧ Binds K fd ["self"] [] ∧ IterBody P w K mg base C fld qual st
theorem giter_mk {P : Program} {w : World} {K : PySem.W.Frag} {mg : Str → Option Value} {base : Heap} {fld qual : Str} {st : Stmt} (h : HasMeth K C "__iter__" qual st) (S : FnScope ["self"] ["self"] (defScope st)) (hb : BindsOk "__iter__" qual st ["self"]) (b : IterBody P w K mg base C fld qual st) : GIter P w K mg base C fld := by
  obtain ⟨f, fd, hF, hm⟩ := h.ex
  exact ⟨f, fd, qual, st, hF, hm, S, hF.binds hb, b⟩
def iOwn (K : PySem.W.Frag) (C : Addr) (fld : Str) (te : TE) : TI := fun σ H R => te σ H fun v H1 => ∃ p dx fs l zs, v = .ref p ∧ H1 p = some (.ins C dx fs) ∧ fs.lookup fld = some (.ref l) ∧ SqT K H1 l zs ∧ R (Itt K l) H1
theorem pi_own {fld : Str} {te : TE} (G : GIter X.prog X.w X.K X.mg X.base C fld) (g : Gx X k) (he : PE X e te) (hj : 1 ≤ k := by decide) : PI X tg e (iOwn X.K C fld te) := by
  obtain ⟨f, fd, qual, st, hF, hm, S, hb, hbody⟩ := G.ex
  refine ⟨fun pins s σ H R I h => thn (he.run pins s σ H _ I h) fun u s1 ⟨v, H1, I1, r1, p, dx, fs, l, zs, ev, hp, hl, hq, q⟩ => ?_⟩
  subst ev
  cases r1
  obtain ⟨od, J⟩ := ins_at I1 hp
  obtain ⟨mm, hFr⟩ := I1.fr
  refine PySem.W.owit_iter hFr I1.ok.mod.kin J hm.at_ hm.fn ?_
  refine wpAny_call (codeAny_mono (fn_now (k := 0) (vs := [.ref p]) (N := ["self"]) (ps := ["self"]) (Q := fun v H' => ∃ it, v = .ref it ∧ H1 it = none ∧ s1.heap.objs.size ≤ it ∧ H' = upd H1 it (TItO l it)) (outer := X.stack) (H := H1) (mg := X.mg) (base := X.base) hF S (g.room.mono hj) I1.env0 (by
    have := hb s1 [.ref p] I1.kIn rfl
    simpa using this) (.cons rfl .nil) rfl fun cdv hr => ?_) fun rr s' hq' => ?_)
  · obtain ⟨t, ht, hq2⟩ := hbody f cdv X.A X.stack s1 H1 g.room.hd
    exact ⟨t, ht, hq2 p dx fs l zs _ hp hl hq fun it h1 h2 => ⟨it, rfl, h1, h2, rfl⟩⟩
  · cases rr with
    | error e => exact False.elim hq'
    | ok fl =>
      cases fl with
      | ret w =>
        obtain ⟨z, H', I', rz, it, rfl, hit, hsz, rfl⟩ := I1.after hq'
        cases rz
        have ht : s'.heap.IsTupleIter it l 0 := (I'.hok it _ upd_same).1
        have e1 : ItX.dropH (upd H1 it (TItO l it)) it = H1 := ItX.dropH_upd hit
        have I2 : Inv X pins σ H1 s' := by
          have := ItX.inv_drop I' (upd_same (H := H1) (a := it) (o := TItO l it))
          rw [e1] at this
          exact this
        have fp := ItX.inv_fp I' (upd_same (H := H1) (a := it) (o := TItO l it)) (Nat.le_trans I1.sz hsz)
        rw [e1] at fp
        show PySem.W.OwitIt (model X.prog X.w) X.A _ _ (.ref it) s'
        unfold PySem.W.OwitIt
        refine wpAny_specialOf ht.typeIs PySem.F.slot_tuple_iterator_next.lookup ?_
        refine ⟨it, [it], _, _, H1, rfl, I2, turn_tuple l it, ht, fun b hb => ?_, q⟩
        have e : b = it := by simpa using hb
        subst e
        exact fp
      | next => exact False.elim hq'
      | brk => exact False.elim hq'
      | cont => exact False.elim hq'
/-- an instance is walked by the tuple in its attribute -/
def FldT (K : PySem.W.Frag) (C : Addr) (fld : Str) (Eo : Ent) (ds : List D) : Prop := ∀ v H, Eo.is v H → ∃ p dx fs l, v = .ref p ∧ H p = some (.ins C dx fs) ∧ fs.lookup fld = some (.ref l) ∧ Dp K H (.ref l) (.tuple ds)
theorem di_own {fld : Str} (G : GIter X.prog X.w X.K X.mg X.base C fld) (g : Gx X k) (he : DE X ρ e Eo) (hi : FldT X.K C fld Eo ds) (hj : 1 ≤ k := by decide) : DID X ρ tg e ds :=
  PI.imp (pi_own G g he hj) fun σ H R _ z => ⟨z.1, fun x H1 s1 i1 => by
    obtain ⟨p, dx, fs, l, rfl, h1, h2, h3⟩ := hi x H1 i1
    obtain ⟨l', xs, e1, hx, hd⟩ := dp_tuple h3
    cases e1
    exact ⟨p, dx, fs, l, xs, rfl, h1, h2, hx, z.2 _ H1 s1 (wk_seq hd (fun i H hi s => ⟨xs, xs[i], seqT_same s hx, by simp [hi]⟩) (fun H s => ⟨xs, seqT_same s hx, Nat.le_refl _⟩) fun i H x H' _ s y => ⟨y.1, y.2 xs (seqT_same s hx)⟩)⟩⟩
end
end Lc
end
section
/-! Lc, part Z: instances: + and the like, o(..), properties, class methods, static methods. -/
namespace Lc
open PySem L2 PySem.Spec PyProof.Rows ClX
/-- what a class needs that its operators be asked -/
structure OpsOf (K : PySem.W.Frag) (C : Addr) (nm : String) : Prop where
  self : PySem.W.selfFirst K C = true
  back : PySem.W.findIn K (.ref C) (dunderR nm) = some none
section
variable {X : Cx} {ρ ρ1 : Rho} {a b c e o tg : Expr} {es : List Expr} {E Ea Eb Eo : Ent} {Es : List Ent} {F : Fn} {pos pp apos : Pos} {x m : Str} {j k : Nat} {C : Addr} {ds : List D}
/-- o op y, y of a built-in type that looks at the operator, too -/
theorem own_left {op : Operator} {T : String} {p f : Addr} {od : Option Obj} {ox : Obj} {y : Value} {A : Around} {Er : Value → Shared → Prop} {s : Shared} {fo ro : Option Value} {Q : Value → Shared → Prop} (kin : X.K.In s.heap) (J : PySem.W.InstAt s.heap p ox C od) (ty : PySem.W.Looks (model X.prog X.w) s.heap (typeOf y) (.type T)) (oo : OpsOf X.K C op.info.2)
    (hm : Meth X.K C (PySem.dunder op.info.2) f) (t1 : PySem.W.findIn X.K (.type T) (PySem.dunder op.info.2) = some fo) (t2 : PySem.W.findIn X.K (.type T) (dunderR op.info.2) = some ro) (t3 : PySem.W.subIn X.K (.type T) (.ref C) = some false)
    (run : wpAny (model X.prog X.w) A (call (.ref f) [.ref p, y]) (PySem.W.CmpBack Q) Er s) : wpAny (model X.prog X.w) A (binaryOp op (.ref p) y) Q Er s := by
  obtain ⟨cd, rest, hcd, hmro⟩ := PySem.W.ksp_first oo.self
  have try1 := PySem.W.ksp_try kin J hm.at_ hm.fn run
  have back := oo.back
  have hat := hm.at_
  rcases info : op.info with ⟨sy, nm⟩
  rw [info] at t1 t2 try1 back hat
  dsimp only at t1 t2 try1 back hat
  obtain ⟨hp, gn, dr, tk, os⟩ := s
  have k1 : PySem.W.Looks (model X.prog X.w) hp (typeOf (.ref p)) (.ref C) := J.type
  have k2 : PySem.W.Looks (model X.prog X.w) hp (typeOf y) (.type T) := ty
  have k3 : PySem.W.Looks (model X.prog X.w) hp (fillsNumberSlot (.ref C) nm) true := PySem.W.fills_K kin hcd hmro hat
  have k4 : PySem.W.Looks (model X.prog X.w) hp (fillsNumberSlot (.type T) nm) ((fo.isSome && !isSeqSlot fo) || (ro.isSome && !isSeqSlot ro)) := PySem.W.ksp_fillsT kin t1 t2
  have k5 : PySem.W.Looks (model X.prog X.w) hp (isSubtype (.type T) (.ref C)) false := PySem.W.looks_subIn kin t3
  have k6 : PySem.W.Looks (model X.prog X.w) hp (numberSlotInPython (.ref C) nm) true := PySem.W.ksp_inPy kin hat back (.inl rfl)
  have k7 : PySem.W.Looks (model X.prog X.w) hp (numberSlotInPython (.type T) nm) false := .of_pure rfl
  have k8 : PySem.W.Looks (model X.prog X.w) hp (typeLookup (.type T) (dunderR nm)) ro := PySem.W.looks_findIn kin t2
  generalize ((fo.isSome && !isSeqSlot fo) || (ro.isSome && !isSeqSlot ro)) = fills at k4
  have ne : (Value.ref C == Value.type T) = false := Bool.eq_false_iff.mpr fun q => by cases beq_iff_eq.mp q
  simp only [binaryOp, info]
  refine wpAny_holding (wpAny_bind ?_)
  unfold binaryOp1
  refine wpAny_bind (k1.at (wpAny_bind (k2.at (wpAny_bind (k3.at ?_)))))
  simp only [ne, Bool.false_eq_true, if_false]
  cases fills
  · ksp_lk
    refine wpAny_mono try1 (fun r s2 z => ?_) fun _ _ z => z
    obtain ⟨v, rfl, hq⟩ := z
    ksp_lk
    exact hq
  · ksp_lk
    refine wpAny_mono try1 (fun r s2 z => ?_) fun _ _ z => z
    obtain ⟨v, rfl, hq⟩ := z
    ksp_lk
    exact hq
/-- the type that a value shows -/
def Shows (T : String) (v : V) (K : PySem.W.Frag) (H : Hp) : Prop := (T = "int" ∧ ∃ i, v = .int i) ∨ (T = "tuple" ∧ ∃ p xs, v = .ref p ∧ SqT K H p xs)
theorem shows_looks {T : String} {pins : List (Addr × Obj)} {σ : L2.St} {H : Hp} {s : Shared} {v : V} {u : Value} (I : Inv X pins σ H s) (r : RelV v u) (h : Shows T v X.K H) : PySem.W.Looks (model X.prog X.w) s.heap (typeOf u) (.type T) := by
  rcases h with ⟨rfl, i, rfl⟩ | ⟨rfl, p, xs, rfl, hx⟩
  · obtain ⟨t, rfl⟩ := r
    exact .of_pure rfl
  · cases r
    obtain ⟨its, rv, pl, hz⟩ := I.tuple hx
    obtain ⟨ob, ho, hc, _⟩ := pl
    refine (PySem.W.Looks.ld (part := none) ho).andThen ?_
    rw [hc]
    exact .now
def rOpT (C : Addr) (T : String) (K : PySem.W.Frag) (F : Fn) : R2 := fun x y H Q => IsIns C x H ∧ Shows T y K H ∧ ∃ Es E, F Es E ∧ All2 H [x, y] Es ∧ (∀ v H', E.is v H' → ∃ q, v = .ref q) ∧ ∀ v H', Same H H' → E.is v H' → Q v H'
theorem op_ownT {op : Operator} {T : String} {fo ro : Option Value} (G : GMeth X.prog X.w X.K X.mg X.base C (PySem.dunder op.info.2) j F) (oo : OpsOf X.K C op.info.2) (t1 : PySem.W.findIn X.K (.type T) (PySem.dunder op.info.2) = some fo) (t2 : PySem.W.findIn X.K (.type T) (dunderR op.info.2) = some ro) (t3 : PySem.W.subIn X.K (.type T) (.ref C) = some false) (hr : Room j X.A) : OpR X (binaryOp op) (rOpT C T X.K F) := by
  obtain ⟨f, fd, ps, hm, hb, hf⟩ := G
  intro pins s σ H x y v u Q I rx ry h
  obtain ⟨⟨p, dx, fs, rfl, ha⟩, sh, Es, E, hF, h2, hv, q⟩ := h
  cases rx
  obtain ⟨od, J⟩ := ins_at I ha
  exact own_left I.kIn J (shows_looks I ry sh) oo hm t1 t2 t3 (call_own (vs := [.ref p, y]) hf hb hr rfl I (.cons rfl (.cons ry .nil)) hF h2 fun w z H' s' I' rz sm iz => back_ok rz (.inr (hv z H' iz)) ⟨z, H', I', rz, q z H' sm iz⟩)
theorem op_ownC {op : Operator} (G : GMeth X.prog X.w X.K X.mg X.base C (PySem.dunder op.info.2) j F) (sf : PySem.W.selfFirst X.K C = true) (hr : Room j X.A) : OpR X (binaryOp op) (fun x y H Q => IsIns C x H ∧ IsIns C y H ∧ ∃ Es E, F Es E ∧ All2 H [x, y] Es ∧ (∀ v H', E.is v H' → ∃ q, v = .ref q) ∧ ∀ v H', Same H H' → E.is v H' → Q v H') := by
  obtain ⟨f, fd, ps, hm, hb, hf⟩ := G
  intro pins s σ H x y v u Q I rx ry h
  obtain ⟨⟨p, dx, fs, rfl, ha⟩, ⟨p', dx', fs', rfl, ha'⟩, Es, E, hF, h2, hv, q⟩ := h
  cases rx
  cases ry
  obtain ⟨od, J⟩ := ins_at I ha
  obtain ⟨od', J'⟩ := ins_at I ha'
  obtain ⟨mm, hFr⟩ := I.fr
  exact PySem.W.binop_K hFr I.ok.mod.kin J J'.type sf hm.at_ hm.fn (call_own (vs := [.ref p, .ref p']) hf hb hr rfl I (.cons rfl (.cons rfl .nil)) hF h2 fun w z H' s' I' rz sm iz => back_ok rz (.inr (hv z H' iz)) ⟨z, H', I', rz, q z H' sm iz⟩)
def RefE (E : Ent) : Prop := ∀ v H, E.is v H → ∃ q, v = .ref q
theorem de_opT {op : Operator} {T : String} {fo ro : Option Value} (G : GMeth X.prog X.w X.K X.mg X.base C (PySem.dunder op.info.2) j F) (oo : OpsOf X.K C op.info.2) (t1 : PySem.W.findIn X.K (.type T) (PySem.dunder op.info.2) = some fo) (t2 : PySem.W.findIn X.K (.type T) (dunderR op.info.2) = some ro) (t3 : PySem.W.subIn X.K (.type T) (.ref C) = some false) (g : Gx X k) (ha : DE X ρ a Ea) (hb : DE X ρ b Eb) (ia : InsE C Ea) (ib : ∀ v H, Eb.is v H → Shows T v X.K H) (hF : F [Ea, Eb] E) (re : RefE E) (hj : j ≤ k := by decide) : DE X ρ (.BinOp a op b pos) E :=
  de_op2 (op_ownT G oo t1 t2 t3 (g.room.mono hj)) ha hb fun x y H Q hx hy z => ⟨ia x H hx, ib y H hy, [Ea, Eb], _, hF, .cons hx (.cons hy .nil), re, fun v H' s i => z v H' s i⟩
theorem de_opC {op : Operator} (G : GMeth X.prog X.w X.K X.mg X.base C (PySem.dunder op.info.2) j F) (sf : PySem.W.selfFirst X.K C = true) (g : Gx X k) (ha : DE X ρ a Ea) (hb : DE X ρ b Eb) (ia : InsE C Ea) (ib : InsE C Eb) (hF : F [Ea, Eb] E) (re : RefE E) (hj : j ≤ k := by decide) : DE X ρ (.BinOp a op b pos) E :=
  de_op2 (op_ownC G sf (g.room.mono hj)) ha hb fun x y H Q hx hy z => ⟨ia x H hx, ib y H hy, [Ea, Eb], _, hF, .cons hx (.cons hy .nil), re, fun v H' s i => z v H' s i⟩
/-! ### o(e, ..) -/
theorem de_callO (G : GMeth X.prog X.w X.K X.mg X.base C "__call__" j F) (hfi : ∀ f, Meth X.K C "__call__" f → PySem.W.fnIn X.K f = true) (g : Gx X k) (ho : DE X ρ o Eo) (io : InsE C Eo) (ha : DA X ρ (e :: es) Es) (hF : F (Eo :: Es) E) (hj : j ≤ k := by decide)
    (ht : eval (.Call o (e :: es) [] pos) X.env = (do callWith pos (← eval o X.env) [] (backTo pos (starEach (e :: es) X.env)) (backToKw pos (keywordEach [] X.env))) := by rfl)
    (he : starEach (e :: es) X.env = (false, eval e X.env) :: starEach es X.env := by rfl) (hpl : (backTo pos (starEach es X.env)).any (·.1) = false := by rfl) : DE X ρ (.Call o (e :: es) [] pos) E := by
  obtain ⟨f, fd, ps, hm, hb, hf⟩ := G
  have hR : FnR X.prog X.w X.K X.mg X.base CX0 j f (spP F) := by
    have := hf.raw hb .nil
    simpa using this
  refine PE.imp (StX.pe_callO ho ⟨hm.at_, hm.fn, hfi f hm⟩ hR (g.room.mono hj) pass0 ha ht he hpl) fun σ H Q _ z => ⟨z.1, fun v H1 s1 i1 => ?_⟩
  obtain ⟨p, dx, fs, rfl, hp⟩ := io v H1 i1
  refine ⟨p, rfl, z.1.mono s1, fun vs H2 s2 i2 => ⟨.inr ⟨dx, fs, s2 _ _ hp⟩, Eo :: Es, E, hF, .cons (Eo.mono s2 i1) i2, fun v H' s i => z.2 v H' ((s1.trans s2).trans s) i⟩⟩
/-! ### properties -/
structure HasProp (K : PySem.W.Frag) (C : Addr) (nm qual : Str) (st : Stmt) : Prop where
  ex : ∃ (p f : Addr) (fd : FuncData), Fun K nm qual st f fd ∧ PropOf K C nm p f
def GProp (P : Program) (w : World) (K : PySem.W.Frag) (mg : Str → Option Value) (base : Heap) (C : Addr) (m : Str) (k : Nat) (F : Fn) : Prop :=
  ∃ (p f : Addr) (fd : FuncData) (ps : List Str), PropOf K C m p f ∧ Binds K fd ps [] ∧ FnOk P w K mg base CX0 k f fd ps (spP F)
theorem gprop_mk {P : Program} {w : World} {K : PySem.W.Frag} {mg : Str → Option Value} {base : Heap} {m qual : Str} {st : Stmt} {N : List Str} {k : Nat} {F : Fn} {C : Addr} (h : HasProp K C m qual st) (ps : List Str) (S : FnScope N ps (defScope st)) (hb : BindsOk m qual st ps) (hlen : ∀ Es E, F Es E → Es.length = ps.length) (b : BodyOk P w K mg base N qual st k F) : GProp P w K mg base C m (k + 1) F := by
  obtain ⟨p, f, fd, hF, hm⟩ := h.ex
  exact ⟨p, f, fd, ps, hm, hF.binds hb, fn_body hF S hlen b⟩
theorem de_prop (G : GProp X.prog X.w X.K X.mg X.base C m j F) (cl : Cls X.K C) (g : Gx X k) (ho : DE X ρ o Eo) (io : InsE C Eo) (hF : F [Eo] E) (hj : j + 1 ≤ k := by decide) (hab : attributeBase o m X.env (eval o X.env) = eval o X.env := by rfl) : DE X ρ (.Attribute o m pos) E := by
  obtain ⟨p, f, fd, ps, hm, hb, hf⟩ := G
  refine PE.imp (pe_prop ho cl hm hf (g.room.mono hj) hb .nil (E := fun _ _ _ => False) (CX := CX0) (fun _ _ _ _ _ _ _ h => False.elim h) hab) fun σ H Q _ z => ⟨z.1, fun v H1 s1 i1 => ?_⟩
  obtain ⟨q, dx, fs, rfl, hp⟩ := io v H1 i1
  exact ⟨q, dx, fs, rfl, hp, [Eo], E, hF, .cons i1 .nil, fun v H' s i => z.2 v H' (s1.trans s) i⟩
/-! ### class methods, static methods -/
structure HasCm (K : PySem.W.Frag) (C : Addr) (nm qual : Str) (st : Stmt) : Prop where
  ex : ∃ (mc : Value) (p f : Addr) (fd : FuncData), Fun K nm qual st f fd ∧ CRead K C mc ∧ CMet K C mc nm p f
structure HasSm (K : PySem.W.Frag) (C : Addr) (nm qual : Str) (st : Stmt) : Prop where
  ex : ∃ (mc : Value) (p f : Addr) (fd : FuncData), Fun K nm qual st f fd ∧ CRead K C mc ∧ PySem.W.findCls K (.ref C) mc nm = some (.get (.builtin "staticmethod.__get__") (.ref p) .none (.ref C)) ∧ ∃ rest, PySem.W.recIn K p "staticmethod" = some (.ref f :: rest)
def GCm (P : Program) (w : World) (K : PySem.W.Frag) (mg : Str → Option Value) (base : Heap) (C : Addr) (m : Str) (k : Nat) (F : Fn) : Prop :=
  ∃ (mc : Value) (p f : Addr) (fd : FuncData) (ps : List Str), CRead K C mc ∧ CMet K C mc m p f ∧ Binds K fd ps [] ∧ FnOk P w K mg base CX0 k f fd ps (spP F)
def GSm (P : Program) (w : World) (K : PySem.W.Frag) (mg : Str → Option Value) (base : Heap) (C : Addr) (m : Str) (k : Nat) (F : Fn) : Prop :=
  ∃ (mc : Value) (p f : Addr) (fd : FuncData) (ps : List Str), CRead K C mc ∧ PySem.W.findCls K (.ref C) mc m = some (.get (.builtin "staticmethod.__get__") (.ref p) .none (.ref C)) ∧ (∃ rest, PySem.W.recIn K p "staticmethod" = some (.ref f :: rest)) ∧ PySem.W.keepIn K (.ref f) = true ∧ Binds K fd ps [] ∧ FnOk P w K mg base CX0 k f fd ps (spP F)
theorem gcm_mk {P : Program} {w : World} {K : PySem.W.Frag} {mg : Str → Option Value} {base : Heap} {m qual : Str} {st : Stmt} {N : List Str} {k : Nat} {F : Fn} {C : Addr} (h : HasCm K C m qual st) (ps : List Str) (S : FnScope N ps (defScope st)) (hb : BindsOk m qual st ps) (hlen : ∀ Es E, F Es E → Es.length = ps.length) (b : BodyOk P w K mg base N qual st k F) : GCm P w K mg base C m (k + 1) F := by
  obtain ⟨mc, p, f, fd, hF, hr, hm⟩ := h.ex
  exact ⟨mc, p, f, fd, ps, hr, hm, hF.binds hb, fn_body hF S hlen b⟩
theorem gsm_mk {P : Program} {w : World} {K : PySem.W.Frag} {mg : Str → Option Value} {base : Heap} {m qual : Str} {st : Stmt} {N : List Str} {k : Nat} {F : Fn} {C : Addr} (h : HasSm K C m qual st) (ps : List Str) (S : FnScope N ps (defScope st)) (hb : BindsOk m qual st ps) (hlen : ∀ Es E, F Es E → Es.length = ps.length) (b : BodyOk P w K mg base N qual st k F) : GSm P w K mg base C m (k + 1) F := by
  obtain ⟨mc, p, f, fd, hF, hr, hm, hrec⟩ := h.ex
  exact ⟨mc, p, f, fd, ps, hr, hm, hrec, hF.kp, hF.binds hb, fn_body hF S hlen b⟩
theorem de_cm (G : GCm X.prog X.w X.K X.mg X.base C m j F) (g : Gx X k) {pl : Sem Bool} (hC : X.mg x = some (.ref C)) (ha : DA X ρ (e :: es) Es) (hF : F (val (.ref C) :: Es) E) (hj : j ≤ k := by decide) (hg : Gl X x := by rfl) (hdb : (x == ("__debug__" : Str)) = false := by decide)
    (hst : starEach (e :: es) X.env = (false, eval e X.env) :: starEach es X.env := by rfl) (hpl : (backTo pos (starEach es X.env)).any (·.1) = false := by rfl)
    (ht : eval (.Call (.Attribute (.Name x pp) m apos) (e :: es) [] pos) X.env = (do
      let ov ← eval (.Name x pp) X.env
      standAt apos.atName
      let (f, first) ← holding [ov] (getMethod ov m pl)
      callWith pos f first (backTo pos (starEach (e :: es) X.env)) (backToKw pos (keywordEach [] X.env))) := by rfl) : DE X ρ (.Call (.Attribute (.Name x pp) m apos) (e :: es) [] pos) E := by
  obtain ⟨mc, p, f, fd, ps, hr, hm, hb, hf⟩ := G
  have hR : FnR X.prog X.w X.K X.mg X.base CX0 j f (spP F) := by
    have := hf.raw hb .nil
    simpa using this
  exact PE.imp (pe_cmeth (pe_glob (v := .ref C) hg hC rfl hdb) hr hm hR (g.room.mono hj) pass0 ha hst hpl ht) fun σ H Q _ z => ⟨rfl, z.1, fun vs H2 s2 i2 => ⟨val (.ref C) :: Es, E, hF, .cons rfl i2, fun v H' s i => z.2 v H' (s2.trans s) i⟩⟩
theorem de_sm (G : GSm X.prog X.w X.K X.mg X.base C m j F) (g : Gx X k) {pl : Sem Bool} (hC : X.mg x = some (.ref C)) (ha : DA X ρ (e :: es) Es) (hF : F Es E) (hj : j ≤ k := by decide) (hg : Gl X x := by rfl) (hdb : (x == ("__debug__" : Str)) = false := by decide)
    (hst : starEach (e :: es) X.env = (false, eval e X.env) :: starEach es X.env := by rfl) (hpl : (backTo pos (starEach es X.env)).any (·.1) = false := by rfl)
    (ht : eval (.Call (.Attribute (.Name x pp) m apos) (e :: es) [] pos) X.env = (do
      let ov ← eval (.Name x pp) X.env
      standAt apos.atName
      let (f, first) ← holding [ov] (getMethod ov m pl)
      callWith pos f first (backTo pos (starEach (e :: es) X.env)) (backToKw pos (keywordEach [] X.env))) := by rfl) : DE X ρ (.Call (.Attribute (.Name x pp) m apos) (e :: es) [] pos) E := by
  obtain ⟨mc, p, f, fd, ps, hr, hm, ⟨rest, hrec⟩, hkp, hb, hf⟩ := G
  refine ⟨fun pins s σ H Q I h => ?_⟩
  refine PySem.W.methodCall_KW (pl := pl) (thn ((pe_glob (pos := pp) (v := .ref C) hg hC rfl hdb).run pins s σ H (fun v H1 => v = .ref C ∧ H1 = H) I ⟨rfl, rfl⟩) fun u s1 ⟨v, H1, I1, r1, q1⟩ => ?_) ht
  obtain ⟨rfl, rfl⟩ := q1
  cases r1
  refine PySem.W.method_cls I1.kIn hr.ga (PySem.W.cls_bind I1.kIn hr.rd hm (wpAny_call (PySem.W.sm_get (s := { s1 with toks := s1.toks + 1 }) I1.kIn hrec (PySem.W.handed_on rfl ?_))))
  have I2 := I1.tok (s1.toks + 1)
  refine PySem.W.callWith_K (h₀ := X.base) I.ok.mod.kin hkp (thn (ha.run pos pins _ σ H1 (fun vs H2 => Same H1 H2 ∧ All2 H2 vs Es) I2 ⟨h.1, fun vs H2 s2 i2 => ⟨s2, i2⟩⟩) fun us s3 ⟨vs, H2, I3, rv, sm, i2⟩ => ⟨I3.kIn, ?_⟩) hst hpl
  exact run_fn hf (g.room.mono hj) hb .nil pass0 I3 rv ⟨Es, E, hF, by rw [List.append_nil]; exact i2, fun v H' s i => h.2 v H' (sm.trans s) i⟩
/-! ### str(text); a class under a local name -/
theorem de_strS {z : Str} (B : Bt X.mg) (ha : DE X ρ a (dat X.K (.str z))) (hg : Gl X "str" := by rfl) (hs : starEach [a] X.env = (false, eval a X.env) :: starEach [] X.env := by rfl) : DE X ρ (.Call (.Name "str" pp) [a] [] pos) (dat X.K (.str z)) :=
  de_callTy (r := fun vs H Q => vs = [.str z] ∧ Q (.str z) H) (fun pins s σ H vs us Q I r h => by
    obtain ⟨rfl, q⟩ := h
    cases r with
    | cons r1 r2 =>
      cases r2
      obtain ⟨t, rfl⟩ := r1
      exact PySem.P.str_of_str ⟨.str z, H, I, ⟨_, rfl⟩, q⟩) hg B.str (by decide +kernel) (da_cons ha da_nil hs) (he := hs) fun vs H Q h q => by
    obtain ⟨v, rfl, hv⟩ := a1 h
    cases hv
    exact ⟨rfl, q _ H (Same.refl H) (.str _)⟩
theorem de_makeL {i : Nat} {F : FnM} (G : GInit X.prog X.w X.K X.mg X.base C j F) (g : Gx X k) (hρ : ρ[i]? = some (some (val (.ref C)))) (ha : DA X ρ (e :: es) Es) (Tx : Addr → Sta) (hF : ∀ x, F (val (.ref x) :: Es) (dat X.K .none) x (insS C x []) (Tx x)) (hE : ∀ x H, (Tx x).is H → E.is (.ref x) H) (hj : j + 1 ≤ k := by decide) (hN : X.N[i]? = some x := by rfl) (hv : Vis X.env.scope x := by first | exact Or.inl rfl | exact Or.inr (Or.inl rfl) | exact Or.inr (Or.inr rfl)) (hdb : (x == ("__debug__" : Str)) = false := by decide) (hcd : (x == ("__classdict__" : Str)) = false := by decide)
    (he : starEach (e :: es) X.env = (false, eval e X.env) :: starEach es X.env := by rfl) (hpl : (backTo pos (starEach es X.env)).any (·.1) = false := by rfl) : DE X ρ (.Call (.Name x pp) (e :: es) [] pos) E := by
  obtain ⟨f, fd, ps, mk, hb, hf⟩ := G
  refine ⟨fun pins s σ H Q I h => ?_⟩
  obtain ⟨v0, hs0, rfl⟩ := h.1 i _ hρ
  refine wpAny_Call_Name_kw (thn ((pe_var (pos := pp) hN hv hdb hcd).run pins s σ H (fun v H1 => v = .ref C ∧ H1 = H) I ⟨.ref C, hs0, rfl, rfl⟩) fun u s1 ⟨v, H1, I1, r1, q1⟩ => ?_)
  obtain ⟨rfl, rfl⟩ := q1
  cases r1
  refine PySem.W.callWith_K (h₀ := X.base) I.ok.mod.kin mk.kp (thn (ha.run pos pins s1 σ H1 (fun vs H2 => Same H1 H2 ∧ All2 H2 vs Es) I1 ⟨h.1, fun vs H2 s2 i2 => ⟨s2, i2⟩⟩) fun us s2 ⟨vs, H2, I2, rv, sm, i2⟩ => ⟨I2.kIn, ?_⟩) he hpl
  refine run_make mk hf (g.room.mono hj) hb .nil pass0 I2 rv fun a dx ha hdx hne => ?_
  have s2 : Same H2 (upd (upd H2 dx (.own a)) a (.ins C dx [])) := fun b o hb => by
    rw [upd_ne (ne_of_none hb ha), upd_ne (ne_of_none hb hdx)]
    exact hb
  refine ⟨val (.ref a) :: Es, dat X.K .none, a, insS C a [], Tx a, hF a, ?_, ⟨dx, upd_same⟩, fun v H' kp i t => ⟨by cases i; rfl, h.2 _ H' (sm.trans fun b o hb => kp b o (s2 b o hb) (.inl (ne_of_none hb ha))) (hE a H' t)⟩⟩
  rw [List.append_nil]
  exact .cons rfl (i2.mono s2)
end
end Lc
end
section
namespace Lc
open PySem L2
/-- what the top has left, more -/
structure TxtB (K : PySem.W.Frag) (mg : Str → Option Value) (CA CW CB : Addr) : Prop extends Txt K mg CA CW CB where
  p_form : HasProp K CB "form" "Book.form" (inClass (top 86) 2)
  p_purse_rows : HasProp K CB "purse_rows" "Book.purse_rows" (inClass (top 86) 3)
  p_limit_rows : HasProp K CB "limit_rows" "Book.limit_rows" (inClass (top 86) 4)
  p_row_rows : HasProp K CB "row_rows" "Book.row_rows" (inClass (top 86) 5)
  c_parsed : HasCm K CB "parsed" "Book.parsed" (inClass (top 86) 1)
  s_box : HasSm K CA "box" "Area.box" (inClass (top 26) 1)
  m_Book_payable : HasMeth K CB "payable" "Book.payable" (inClass (top 86) 7)
  no_Book : NeOf K CB
  no_Area : NeOf K CA
  ic_Book : C8.InsC K CB
  ic_Area : C8.InsC K CA
  oo_add : OpsOf K CB (Operator.Add).info.2
  oo_sub : OpsOf K CB (Operator.Sub).info.2
  sf_Area : PySem.W.selfFirst K CA = true
instance {K : PySem.W.Frag} {mg : Str → Option Value} {CA CW CB : Addr} : Coe (TxtB K mg CA CW CB) (Txt K mg CA CW CB) := ⟨fun T => T.toTxt⟩
theorem fnIn_of {K : PySem.W.Frag} {C : Addr} {m qual : Str} {st : Stmt} (h : HasMeth K C m qual st) : ∀ f, Meth K C m f → PySem.W.fnIn K f = true := fun f hm => by
  obtain ⟨f', fd, hF, hm'⟩ := h.ex
  have e := hm.at_
  rw [hm'.at_] at e
  cases e
  obtain ⟨oc, od, kV, doc, pm, an, cdv, ct, osl, rfl, lk, _⟩ := hF.ex
  unfold PySem.W.fnIn
  rw [lk]
/-! ### the objects -/
def BkSt (K : PySem.W.Frag) (CB a : Addr) (b : Bk) : Sta := ⟨fun H => ∃ dx w r, H a = some (.ins CB dx [("own_book", w), ("own_rows", r)]) ∧ Dp K H w (bkD b) ∧ Dp K H r (rowsD b.rows), fun s h => by
  obtain ⟨dx, w, r, h1, h2, h3⟩ := h
  exact ⟨dx, w, r, s _ _ h1, dp_mono s h2, dp_mono s h3⟩⟩
def bookE (K : PySem.W.Frag) (CB : Addr) (b : Bk) : Ent := ⟨fun v H => ∃ a, v = .ref a ∧ (BkSt K CB a b).is H, fun s h => by
  obtain ⟨a, h1, h2⟩ := h
  exact ⟨a, h1, (BkSt K CB a b).mono s h2⟩⟩
def ArSt (K : PySem.W.Frag) (CA a : Addr) (l : List Slot) : Sta := ⟨fun H => ∃ dx w, H a = some (.ins CA dx [("own_slots", w)]) ∧ Dp K H w (slotsD l), fun s h => by
  obtain ⟨dx, w, h1, h2⟩ := h
  exact ⟨dx, w, s _ _ h1, dp_mono s h2⟩⟩
def areaE (K : PySem.W.Frag) (CA : Addr) (l : List Slot) : Ent := ⟨fun v H => ∃ a, v = .ref a ∧ (ArSt K CA a l).is H, fun s h => by
  obtain ⟨a, h1, h2⟩ := h
  exact ⟨a, h1, (ArSt K CA a l).mono s h2⟩⟩
section
variable {K : PySem.W.Frag} {CA CB : Addr} {b : Bk} {l : List Slot} {m : Str}
theorem bk_ins : InsE CB (bookE K CB b) := fun v H h => by
  obtain ⟨a, rfl, dx, w, r, h1, _⟩ := h
  exact ⟨a, dx, _, rfl, h1⟩
theorem bk_ref : RefE (bookE K CB b) := fun v H h => by
  obtain ⟨a, rfl, _⟩ := h
  exact ⟨a, rfl⟩
theorem bk_insOf (hm : ([("own_book" : Str), "own_rows"].all fun p => !decide (p = m)) = true) : InsOf CB m (bookE K CB b) := fun v H h => by
  obtain ⟨a, rfl, dx, w, r, h1, _⟩ := h
  refine ⟨a, dx, _, rfl, h1, ?_⟩
  simp only [List.all_cons, List.all_nil, Bool.and_true, Bool.and_eq_true, Bool.not_eq_true', decide_eq_false_iff_not] at hm
  have e1 : (m == ("own_book" : Str)) = false := beq_eq_false_iff_ne.mpr (Ne.symm hm.1)
  have e2 : (m == ("own_rows" : Str)) = false := beq_eq_false_iff_ne.mpr (Ne.symm hm.2)
  simp only [List.lookup_cons, e1, e2, List.lookup_nil]
theorem bk_book : ∀ v H, (bookE K CB b).is v H → ∃ a dx fs u, v = .ref a ∧ H a = some (.ins CB dx fs) ∧ fs.lookup ("own_book" : Str) = some u ∧ (dat K (bkD b)).is u H := fun v H h => by
  obtain ⟨a, rfl, dx, w, r, h1, h2, _⟩ := h
  exact ⟨a, dx, _, w, rfl, h1, rfl, h2⟩
theorem bk_rows : ∀ v H, (bookE K CB b).is v H → ∃ a dx fs u, v = .ref a ∧ H a = some (.ins CB dx fs) ∧ fs.lookup ("own_rows" : Str) = some u ∧ (dat K (rowsD b.rows)).is u H := fun v H h => by
  obtain ⟨a, rfl, dx, w, r, h1, _, h3⟩ := h
  exact ⟨a, dx, _, r, rfl, h1, rfl, h3⟩
theorem bk_fld : FldT K CB "own_rows" (bookE K CB b) (b.rows.map rowD) := fun v H h => by
  obtain ⟨a, rfl, dx, w, r, h1, _, h3⟩ := h
  obtain ⟨p, xs, rfl, _, _⟩ := dp_tuple h3
  exact ⟨a, dx, _, p, rfl, h1, rfl, h3⟩
theorem ar_ins : InsE CA (areaE K CA l) := fun v H h => by
  obtain ⟨a, rfl, dx, w, h1, _⟩ := h
  exact ⟨a, dx, _, rfl, h1⟩
theorem ar_ref : RefE (areaE K CA l) := fun v H h => by
  obtain ⟨a, rfl, _⟩ := h
  exact ⟨a, rfl⟩
theorem ar_insOf (hm : ("own_slots" : Str) ≠ m) : InsOf CA m (areaE K CA l) := fun v H h => by
  obtain ⟨a, rfl, dx, w, h1, _⟩ := h
  refine ⟨a, dx, _, rfl, h1, ?_⟩
  have e1 : (m == ("own_slots" : Str)) = false := beq_eq_false_iff_ne.mpr (Ne.symm hm)
  simp only [List.lookup_cons, e1, List.lookup_nil]
theorem ar_slots : ∀ v H, (areaE K CA l).is v H → ∃ a dx fs u, v = .ref a ∧ H a = some (.ins CA dx fs) ∧ fs.lookup ("own_slots" : Str) = some u ∧ (dat K (slotsD l)).is u H := fun v H h => by
  obtain ⟨a, rfl, dx, w, h1, h2⟩ := h
  exact ⟨a, dx, _, w, rfl, h1, rfl, h2⟩
theorem ar_fld : FldT K CA "own_slots" (areaE K CA l) (l.map slotD) := fun v H h => by
  obtain ⟨a, rfl, dx, w, h1, h2⟩ := h
  obtain ⟨p, xs, rfl, _, _⟩ := dp_tuple h2
  exact ⟨a, dx, _, p, rfl, h1, rfl, h2⟩
end
/-! ### __init__ with defaults -/
section
variable {P : Program} {w : World} {K : PySem.W.Frag} {mg : Str → Option Value} {base : Heap} {C : Addr}
def GInitD (P : Program) (w : World) (K : PySem.W.Frag) (mg : Str → Option Value) (base : Heap) (C : Addr) (k : Nat) (F : FnM) : Prop :=
  ∃ (f : Addr) (fd : FuncData) (ps : List Str) (t : Addr) (ds : List Value), Mk K C f ∧ Binds K fd ps [] ∧ Vals [V.ref t] ds ∧ Binds K fd ps ds ∧ EmptyT K t ∧ FnOk P w K mg base CX0 k f fd ps (spM C F)
theorem GInitD.to3 {k : Nat} {F : FnM} (G : GInitD P w K mg base C k F) : GInit P w K mg base C k F := by
  obtain ⟨f, fd, ps, t, ds, h1, h2, _, _, _, h3⟩ := G
  exact ⟨f, fd, ps, h1, h2, h3⟩
theorem ginitd_mk {qual : Str} {st : Stmt} {N : List Str} {k : Nat} {F : FnM} (h : HasInitD K C qual st) (ps : List Str) (hps : ps.length = 4) (S : FnScope N ps (defScope st))
    (hb4 : ∀ (T : Addr) (kV doc pm : Value) (an : Option Addr) (cdv ct : Value) (us its : List Value), us.length = 4 → its.length = 2 → ∃ k, bindArgs (PySem.W.fnOf "__init__" qual (defArgs st) (defBody st) (defScope st) (.ref T) kV doc pm an cdv ct) ⟨us, []⟩ = seqItems? (.ref T) >>= k ∧ k (some its.toArray) = pure (ps.zip (us ++ its.drop 2)))
    (hb3 : ∀ (T : Addr) (kV doc pm : Value) (an : Option Addr) (cdv ct : Value) (us its : List Value), us.length = 3 → its.length = 2 → ∃ k, bindArgs (PySem.W.fnOf "__init__" qual (defArgs st) (defBody st) (defScope st) (.ref T) kV doc pm an cdv ct) ⟨us, []⟩ = seqItems? (.ref T) >>= k ∧ k (some its.toArray) = pure (ps.zip (us ++ its.drop 1)))
    (hlen : ∀ Es E a T T', F Es E a T T' → Es.length = ps.length) (b : BodyM P w K mg base C N qual st k F) : GInitD P w K mg base C (k + 1) F := by
  obtain ⟨f, fd, t, t', hF, mk, e1, e2⟩ := h.ex
  obtain ⟨ds0, v0, b0⟩ := hF.binds1 (ps := ps) 4 2 (by simp) (by simp [hps]) hb4
  obtain ⟨ds1, v1, b1⟩ := hF.binds1 (ps := ps) 3 1 (by simp) (by simp [hps]) hb3
  cases v0
  refine ⟨f, fd, ps, t', ds1, mk, b0, v1, b1, e2, hF.ok S (fun vs H Q E h => ?_) fun cdv A outer s H vs Q E hr h => ?_⟩
  · obtain ⟨Es, E', a, T, T', h1, h2, _⟩ := h
    rw [h2.length, hlen Es E' a T T' h1]
  · obtain ⟨Es, E', a, T, T', h1, h2, h3, h4⟩ := h
    rcases b f cdv A outer s H E ⟨rfl, hr, S.nd⟩ Es E' a T T' h1 H h3 with hb | ⟨ρ', hb, rfl⟩
    · exact ⟨_, hb.nox, env_start h2, ⟨h3, .refl H⟩, fun v H' _ i t => h4 v H' t.2 i t.1⟩
    · exact ⟨_, hb.nox, env_start h2, ⟨h3, .refl H⟩, fun σ' H' _ _ _ t => h4 .non H' t.2 .non t.1⟩
end
section
variable {ρ : Rho} {E : Ent} {X : Cx} {e : Expr} {es : List Expr} {pos pp : Pos} {j k : Nat} {Es : List Ent} {F : FnM} {x : Str} {C : Addr}
/-- C(..) with the last default -/
theorem de_makeD (G : GInitD X.prog X.w X.K X.mg X.base C j F) (g : Gx X k) (hm : X.mg x = some (.ref C)) (ha : DA X ρ (e :: es) Es) (Tx : Addr → Sta) (hF : ∀ x, F (val (.ref x) :: (Es ++ [dat X.K (.tuple [])])) (dat X.K .none) x (insS C x []) (Tx x)) (hE : ∀ x H, (Tx x).is H → E.is (.ref x) H) (hj : j + 1 ≤ k := by decide) (hg : Gl X x := by rfl) (hdb : (x == ("__debug__" : Str)) = false := by decide)
    (he : starEach (e :: es) X.env = (false, eval e X.env) :: starEach es X.env := by rfl) (hpl : (backTo pos (starEach es X.env)).any (·.1) = false := by rfl) : DE X ρ (.Call (.Name x pp) (e :: es) [] pos) E := by
  obtain ⟨f, fd, ps, t, ds, mk, _, hv, hb, he', hf⟩ := G
  refine PE.imp (pe_make mk hf (g.room.mono hj) hg hm hb hv pass0 ha hdb he hpl) fun σ H Q _ z => ⟨z.1, fun vs H1 s1 i1 a dx ha hdx hne => ?_⟩
  have s2 : Same H1 (upd (upd H1 dx (.own a)) a (.ins C dx [])) := fun b o hb => by
    rw [upd_ne (ne_of_none hb ha), upd_ne (ne_of_none hb hdx)]
    exact hb
  exact ⟨val (.ref a) :: (Es ++ [dat X.K (.tuple [])]), dat X.K .none, a, insS C a [], Tx a, hF a, .cons rfl ((i1.mono s2).append (.cons (.tup (.inr he') .nil) .nil)), ⟨dx, upd_same⟩, fun v H' kp i t => ⟨by cases i; rfl, z.2 _ H' (s1.trans fun b o hb => kp b o (s2 b o hb) (.inl (ne_of_none hb ha))) (hE a H' t)⟩⟩
theorem de_gcls (hm : X.mg x = some (.ref C)) (hg : Gl X x := by rfl) (hd : (x == ("__debug__" : Str)) = false := by decide) : DE X ρ (.Name x pos) (val (.ref C)) :=
  PE.imp (pe_glob (v := .ref C) hg hm rfl hd) fun _ H _ _ q => q.2 _ H (Same.refl H) rfl
theorem de_isOwn {Eo : Ent} {a b : Expr} (B : Bt X.mg) (c : C8.InsC X.K C) (ho : DE X ρ a Eo) (io : InsE C Eo) (hb : DE X ρ b (val (.ref C))) (hg : Gl X "isinstance" := by rfl)
    (hs : starEach [a, b] X.env = (false, eval a X.env) :: starEach [b] X.env := by rfl) (hs2 : starEach [b] X.env = (false, eval b X.env) :: starEach [] X.env := by rfl) (hpl : (backTo pos (starEach [b] X.env)).any (·.1) = false := by rfl) :
    DE X ρ (.Call (.Name "isinstance" pp) [a, b] [] pos) (dat X.K (.bool true)) :=
  de_callB (C8.call_isC c) hg B.isinstance (by decide +kernel) (da_cons ho (da_cons hb da_nil hs2) hs) (he := hs) (hpl := hpl) fun vs H Q h z => by
    obtain ⟨v, w, rfl, hv, hw⟩ := a2 h
    cases hw
    obtain ⟨p, dx, fs, rfl, hp⟩ := io v H hv
    exact ⟨p, dx, fs, rfl, hp, z _ H (Same.refl H) (.bl _)⟩
end
end Lc
end
section
/-! The class Book. -/
namespace Lc
open PySem L2 TL
theorem nl_bkD (b : Bk) : nl (bkD b) = true := by
  unfold bkD pursesD limitsD rowsD
  simp only [nl, nlAll, Bool.and_true, Bool.and_eq_true]
  exact ⟨nlAll_map _ _ fun p _ => nl_purseD p, nlAll_map _ _ fun p _ => nl_limitD p, nlAll_map _ _ fun p _ => nl_rowD p⟩
theorem nl_rowsD (l : List Rw) : nl (rowsD l) = true := by
  unfold rowsD
  simp only [nl]
  exact nlAll_map _ _ fun p _ => nl_rowD p
theorem nl_pursesD (l : List Purse) : nl (pursesD l) = true := by
  unfold pursesD
  simp only [nl]
  exact nlAll_map _ _ fun p _ => nl_purseD p
theorem nl_limitsD (l : List Limit) : nl (limitsD l) = true := by
  unfold limitsD
  simp only [nl]
  exact nlAll_map _ _ fun p _ => nl_limitD p
theorem nb_strsD (l : List Str) : nb (strsD l) = true := by unfold strsD; simpa [nb] using nbAll_strs l
theorem nb_intsD (l : List Int) : nb (intsD l) = true := by unfold intsD; simpa [nb] using nbAll_ints l
theorem nb_purseD (p : Purse) : nb (purseD p) = true := by unfold purseD; simp [nb, nbAll, nb_strsD]
theorem nb_limitD (p : Limit) : nb (limitD p) = true := by unfold limitD; simp [nb, nbAll, nb_strsD]
theorem nb_rest (r : Rw) : nb r.rest = true := by
  cases r with
  | buy d k a => rfl
  | paid d k s => exact nb_intsD s
theorem nb_rowD (p : Rw) : nb (rowD p) = true := by unfold rowD; simp [nb, nbAll, nb_rest]
theorem nb_bkD (b : Bk) : nb (bkD b) = true := by
  unfold bkD pursesD limitsD rowsD
  simp only [nb, nbAll, Bool.and_true, Bool.and_eq_true]
  exact ⟨nbAll_map _ _ fun p _ => nb_purseD p, nbAll_map _ _ fun p _ => nb_limitD p, nbAll_map _ _ fun p _ => nb_rowD p⟩
theorem dp_strsD (l : List Str) : (strsD l).depth ≤ 1 := by
  unfold strsD
  simp only [PyData.depth]
  have := depthAll_map PyData.str 0 l fun _ _ => Nat.le_refl _
  omega
theorem dp_intsD (l : List Int) : (intsD l).depth ≤ 1 := by
  unfold intsD
  simp only [PyData.depth]
  have := depthAll_map PyData.int 0 l fun _ _ => Nat.le_refl _
  omega
theorem dp_purseD (p : Purse) : (purseD p).depth ≤ 2 := by
  have := dp_strsD p.kinds
  unfold purseD
  simp only [PyData.depth, PyData.depthAll]
  omega
theorem dp_limitD (p : Limit) : (limitD p).depth ≤ 2 := by
  have := dp_strsD p.names
  unfold limitD
  simp only [PyData.depth, PyData.depthAll]
  omega
theorem dp_rest (r : Rw) : r.rest.depth ≤ 1 := by
  cases r with
  | buy d k a => exact Nat.zero_le _
  | paid d k s => exact dp_intsD s
theorem dp_rowD (p : Rw) : (rowD p).depth ≤ 2 := by
  have := dp_rest p
  unfold rowD
  simp only [PyData.depth, PyData.depthAll]
  omega
theorem dp_bkD (b : Bk) : (bkD b).depth ≤ 4 := by
  have h1 := depthAll_map purseD 2 b.purses fun p _ => dp_purseD p
  have h2 := depthAll_map limitD 2 b.limits fun p _ => dp_limitD p
  have h3 := depthAll_map rowD 2 b.rows fun p _ => dp_rowD p
  unfold bkD pursesD limitsD rowsD
  simp only [PyData.depth, PyData.depthAll]
  omega
theorem pl_bkD (b : Bk) : Pl (bkD b) := ⟨nb_bkD b, Nat.le_trans (dp_bkD b) (by decide)⟩
theorem pl_rowD (b : Rw) : Pl (rowD b) := ⟨nb_rowD b, Nat.le_trans (dp_rowD b) (by decide)⟩
open Classical in
noncomputable def bkEq (b c : Bk) : Bool := decide (bkD b = bkD c)
section
variable {P : Program} {w : World} {K : PySem.W.Frag} {mg : Str → Option Value} {base : Heap} {CA CW CB : Addr}
inductive FBookInit (K : PySem.W.Frag) (CB : Addr) : FnM
  | mk (a : Addr) (b : Bk) (h : Valid b) : FBookInit K CB [val (.ref a), dat K (pursesD b.purses), dat K (limitsD b.limits), dat K (rowsD b.rows)] (dat K .none) a (insS CB a []) (BkSt K CB a b)
def bkS1 (K : PySem.W.Frag) (CB a : Addr) (b : Bk) : Sta := ⟨fun H => ∃ dx w, H a = some (.ins CB dx [("own_book", w)]) ∧ Dp K H w (bkD b), fun s h => by
  obtain ⟨dx, w, h1, h2⟩ := h
  exact ⟨dx, w, s _ _ h1, dp_mono s h2⟩⟩
theorem ok_Book_init (T : TxtB K mg CA CW CB) : GInitD P w K mg base CB 6 (FBookInit K CB) :=
  ginitd_mk (N := ["self", "purses", "limits", "rows", "whole"]) (k := 5) T.i_Book ["self", "purses", "limits", "rows"] rfl ⟨rfl, rfl, rfl, by decide +kernel, rfl, by decide +kernel, by decide +kernel⟩ (fun T kV doc pm an cdv ct us its h1 h2 => match us, h1, its, h2 with | [_, _, _, _], _, [_, _], _ => ⟨_, rfl, rfl⟩) (fun T kV doc pm an cdv ct us its h1 h2 => match us, h1, its, h2 with | [_, _, _], _, [_, _], _ => ⟨_, rfl, rfl⟩) (fun _ _ _ _ _ h => by cases h <;> rfl) fun f cdv A outer s H E0 g Es E a Ta Tb hF H0 hT0 => by
    cases hF with
    | mk a b h =>
      have sr : ∀ S : Sta, SR CB a S ((startR ["self", "purses", "limits", "rows", "whole"] [val (.ref a), dat K (pursesD b.purses), dat K (limitsD b.limits), dat K (rowsD b.rows)]).set 4 (some (dat K (bkD b)))) := fun S =>
        (SR.start (.cons ke_val.se (.cons (ke_dat (nl_pursesD _)).se (.cons (ke_dat (nl_limitsD _)).se (.cons (ke_dat (nl_rowsD _)).se .nil))))).set (ke_dat (nl_bkD _)).se
      refine .inr ⟨_, mn_cons (ms_set .fr g 4 (me_p (de_tup (ds := [pursesD b.purses, limitsD b.limits, rowsD b.rows]) (dd_cons (de_var 1) (dd_cons (de_var 2) (dd_cons (de_var 3) dd_nil)))))) <| mn_cons (ms_expr .fr (me_p (de_call (ok_lets_book T.toTxt) g (da_cons (de_var 4) da_nil) (.mk b h)))) <|
        mn_cons (ms_fld (S' := Fr CB a H0 (bkS1 K CB a b)) T.c_Book T.na_CB_own_book (sr _) (de_var 0) (de_var 4) .refl (fun H hh => ?_) (fun H u dx fs hh i ha => ?_)) <|
        mn_one (ms_fld (S' := Fr CB a H0 (BkSt K CB a b)) T.c_Book T.na_CB_own_rows (sr _) (de_var 0) (de_var 3) .refl (fun H hh => ?_) (fun H u dx fs hh i ha => ?_)), rfl⟩
      · obtain ⟨⟨dx, hh⟩, _⟩ := hh
        exact ⟨dx, _, hh, Nat.le_of_ble_eq_true rfl⟩
      · obtain ⟨⟨dx', hh⟩, h3⟩ := hh
        rw [ha] at hh
        cases hh
        have kp : Kp CB a H (upd H a (.ins CB dx (putF "own_book" u []))) := kp_upd ha fun q => q rfl
        exact ⟨⟨_, u, upd_same, ke_dat (nl_bkD b) _ _ _ kp.keep i⟩, h3.trans kp⟩
      · obtain ⟨⟨dx, w, hh, _⟩, _⟩ := hh
        exact ⟨dx, _, hh, Nat.le_of_ble_eq_true rfl⟩
      · obtain ⟨⟨dx', w, hh, hw⟩, h3⟩ := hh
        rw [ha] at hh
        cases hh
        have kp : Kp CB a H (upd H a (.ins CB dx (putF "own_rows" u [("own_book", w)]))) := kp_upd ha fun q => q rfl
        exact ⟨⟨_, w, u, upd_same, ke_dat (nl_bkD b) _ _ _ kp.keep hw, ke_dat (nl_rowsD _) _ _ _ kp.keep i⟩, h3.trans kp⟩
inductive FBookOf (K : PySem.W.Frag) (CB : Addr) : Fn
  | mk (b : Bk) (h : Valid b) : FBookOf K CB [dat K (bkD b)] (bookE K CB b)
theorem ok_book_of (T : TxtB K mg CA CW CB) : GFun P w K mg base "book_of" 8 (FBookOf K CB) :=
  gfun_mk (N := ["form", "purses", "limits", "rows"]) (k := 7) T.d_book_of ["form"] ⟨rfl, rfl, rfl, by decide +kernel, rfl, by decide +kernel, by decide +kernel⟩ (fun _ _ _ _ _ _ us hl => match us, hl with | [_], _ => rfl) (fun _ _ h => by cases h <;> rfl) fun f cdv A outer s H E0 g Es E hF => by
    cases hF with
    | mk b h =>
      exact .inl (dr_cons (ds_asg (de_var 0) (pg_tupK (K := K) (m := 3) rfl (pgs_cons (pg_name (i := 1) (by exact g.nd) rfl (by first | exact Or.inl rfl | exact Or.inr rfl)) (pgs_cons (pg_name (i := 2) (by exact g.nd) rfl (by first | exact Or.inl rfl | exact Or.inr rfl)) (pgs_cons (pg_name (i := 3) (by exact g.nd) rfl (by first | exact Or.inl rfl | exact Or.inr rfl)) pgs_nil)))) (gb_tup (gbs_cons (gbn 1) (gbs_cons (gbn 2) (gbs_cons (gbn 3) gbs_nil))) rfl)) <| dr_ret (de_make (ok_Book_init T).to3 g T.g_Book (da_cons (de_var 1) (da_cons (de_var 2) (da_cons (de_var 3) da_nil))) (fun a => BkSt K CB a b) (fun a => .mk a b h) (fun a H t => ⟨a, rfl, t⟩)))
inductive FForm (K : PySem.W.Frag) (CB : Addr) : Fn
  | mk (b : Bk) : FForm K CB [bookE K CB b] (dat K (bkD b))
theorem ok_Book_form (T : TxtB K mg CA CW CB) : GProp P w K mg base CB "form" 1 (FForm K CB) :=
  gprop_mk (N := ["self"]) (k := 0) T.p_form ["self"] ⟨rfl, rfl, rfl, by decide +kernel, rfl, by decide +kernel, by decide +kernel⟩ (fun _ _ _ _ _ _ us hl => match us, hl with | [_], _ => rfl) (fun _ _ h => by cases h <;> rfl) fun f cdv A outer s H E0 g Es E hF => by
    cases hF with
    | mk b => exact .inl (dr_ret (de_fld T.c_Book T.na_CB_own_book bk_book (de_var 0)))
inductive FPurseRows (K : PySem.W.Frag) (CB : Addr) : Fn
  | mk (b : Bk) : FPurseRows K CB [bookE K CB b] (dat K (pursesD b.purses))
theorem ok_Book_purse_rows (T : TxtB K mg CA CW CB) : GProp P w K mg base CB "purse_rows" 1 (FPurseRows K CB) :=
  gprop_mk (N := ["self"]) (k := 0) T.p_purse_rows ["self"] ⟨rfl, rfl, rfl, by decide +kernel, rfl, by decide +kernel, by decide +kernel⟩ (fun _ _ _ _ _ _ us hl => match us, hl with | [_], _ => rfl) (fun _ _ h => by cases h <;> rfl) fun f cdv A outer s H E0 g Es E hF => by
    cases hF with
    | mk b => exact .inl (dr_ret (de_ixTc (ds := [pursesD b.purses, limitsD b.limits, rowsD b.rows]) (de_fld T.c_Book T.na_CB_own_book bk_book (de_var 0))))
inductive FLimitRows (K : PySem.W.Frag) (CB : Addr) : Fn
  | mk (b : Bk) : FLimitRows K CB [bookE K CB b] (dat K (limitsD b.limits))
theorem ok_Book_limit_rows (T : TxtB K mg CA CW CB) : GProp P w K mg base CB "limit_rows" 1 (FLimitRows K CB) :=
  gprop_mk (N := ["self"]) (k := 0) T.p_limit_rows ["self"] ⟨rfl, rfl, rfl, by decide +kernel, rfl, by decide +kernel, by decide +kernel⟩ (fun _ _ _ _ _ _ us hl => match us, hl with | [_], _ => rfl) (fun _ _ h => by cases h <;> rfl) fun f cdv A outer s H E0 g Es E hF => by
    cases hF with
    | mk b => exact .inl (dr_ret (de_ixTc (ds := [pursesD b.purses, limitsD b.limits, rowsD b.rows]) (de_fld T.c_Book T.na_CB_own_book bk_book (de_var 0))))
inductive FRowRows (K : PySem.W.Frag) (CB : Addr) : Fn
  | mk (b : Bk) : FRowRows K CB [bookE K CB b] (dat K (rowsD b.rows))
theorem ok_Book_row_rows (T : TxtB K mg CA CW CB) : GProp P w K mg base CB "row_rows" 1 (FRowRows K CB) :=
  gprop_mk (N := ["self"]) (k := 0) T.p_row_rows ["self"] ⟨rfl, rfl, rfl, by decide +kernel, rfl, by decide +kernel, by decide +kernel⟩ (fun _ _ _ _ _ _ us hl => match us, hl with | [_], _ => rfl) (fun _ _ h => by cases h <;> rfl) fun f cdv A outer s H E0 g Es E hF => by
    cases hF with
    | mk b => exact .inl (dr_ret (de_ixTc (ds := [pursesD b.purses, limitsD b.limits, rowsD b.rows]) (de_fld T.c_Book T.na_CB_own_book bk_book (de_var 0))))
inductive FResized (K : PySem.W.Frag) (CB : Addr) : Fn
  | mk (b : Bk) (i : Nat) (d : Int) (k : Str) (a c : Int) (hr : b.rows[i]? = some (.buy d k a)) (h : Valid (setRow b i (.buy d k c))) : FResized K CB [bookE K CB b, dat K (.int (i : Nat)), dat K (.int c)] (bookE K CB (setRow b i (.buy d k c)))
theorem ok_Book_resized (T : TxtB K mg CA CW CB) : GMeth P w K mg base CB "resized" 9 (FResized K CB) :=
  gmeth_mk (N := ["self", "t", "amount"]) (k := 8) T.m_Book_resized ["self", "t", "amount"] ⟨rfl, rfl, rfl, by decide +kernel, rfl, by decide +kernel, by decide +kernel⟩ (fun _ _ _ _ _ _ us hl => match us, hl with | [_, _, _], _ => rfl) (fun _ _ h => by cases h <;> rfl) fun f cdv A outer s H E0 g Es E hF => by
    cases hF with
    | mk b i d k a c hr h => exact .inl (dr_ret (de_call (ok_book_of T) g (da_cons (de_call (ok_with_amount T.toTxt) g (da_cons (de_fld T.c_Book T.na_CB_own_book bk_book (de_var 0)) (da_cons (de_var 1) (da_cons (de_var 2) da_nil))) (.mk b i d k a c hr h)) da_nil) (.mk _ h)))
inductive FSettled (K : PySem.W.Frag) (CB : Addr) : Fn
  | mk (b : Bk) (i : Nat) (d : Int) (k : Str) (a : Int) (s : List Int) (hr : b.rows[i]? = some (.buy d k a)) (hs : ∀ x ∈ s, 0 ≤ x) (hz : s.length ≤ 1000) (ha : s.sum = a) (h : Valid (setRow b i (.paid d k s))) : FSettled K CB [bookE K CB b, dat K (.int (i : Nat)), dat K (intsD s)] (bookE K CB (setRow b i (.paid d k s)))
theorem ok_Book_settled (T : TxtB K mg CA CW CB) : GMeth P w K mg base CB "settled" 9 (FSettled K CB) :=
  gmeth_mk (N := ["self", "t", "shares"]) (k := 8) T.m_Book_settled ["self", "t", "shares"] ⟨rfl, rfl, rfl, by decide +kernel, rfl, by decide +kernel, by decide +kernel⟩ (fun _ _ _ _ _ _ us hl => match us, hl with | [_, _, _], _ => rfl) (fun _ _ h => by cases h <;> rfl) fun f cdv A outer s H E0 g Es E hF => by
    cases hF with
    | mk b i d k a s hr hs hz ha h => exact .inl (dr_ret (de_call (ok_book_of T) g (da_cons (de_call (ok_with_paid T.toTxt) g (da_cons (de_fld T.c_Book T.na_CB_own_book bk_book (de_var 0)) (da_cons (de_var 1) (da_cons (de_var 2) da_nil))) (.mk b i d k a s hr hs hz ha h)) da_nil) (.mk _ h)))
inductive FJoined (K : PySem.W.Frag) (CB : Addr) : Fn
  | mk (b : Bk) (p : Purse) (hb : BkOk b) (hp : PurseOk p) (hn : p.name ∉ namesOf b) (h : Valid (withPurse b p)) : FJoined K CB [bookE K CB b, dat K (purseD p)] (bookE K CB (withPurse b p))
theorem ok_Book_joined (T : TxtB K mg CA CW CB) : GMeth P w K mg base CB "joined" 9 (FJoined K CB) :=
  gmeth_mk (N := ["self", "purse"]) (k := 8) T.m_Book_joined ["self", "purse"] ⟨rfl, rfl, rfl, by decide +kernel, rfl, by decide +kernel, by decide +kernel⟩ (fun _ _ _ _ _ _ us hl => match us, hl with | [_, _], _ => rfl) (fun _ _ h => by cases h <;> rfl) fun f cdv A outer s H E0 g Es E hF => by
    cases hF with
    | mk b p hb hp hn h => exact .inl (dr_ret (de_call (ok_book_of T) g (da_cons (de_call (ok_with_purse T.toTxt) g (da_cons (de_fld T.c_Book T.na_CB_own_book bk_book (de_var 0)) (da_cons (de_var 1) da_nil)) (.mk b p hb hp hn h)) da_nil) (.mk _ h)))
inductive FLimited (K : PySem.W.Frag) (CB : Addr) : Fn
  | mk (b : Bk) (l : Limit) (h : Valid (withLimit b l)) : FLimited K CB [bookE K CB b, dat K (limitD l)] (bookE K CB (withLimit b l))
theorem ok_Book_limited (T : TxtB K mg CA CW CB) : GMeth P w K mg base CB "limited" 9 (FLimited K CB) :=
  gmeth_mk (N := ["self", "limit"]) (k := 8) T.m_Book_limited ["self", "limit"] ⟨rfl, rfl, rfl, by decide +kernel, rfl, by decide +kernel, by decide +kernel⟩ (fun _ _ _ _ _ _ us hl => match us, hl with | [_, _], _ => rfl) (fun _ _ h => by cases h <;> rfl) fun f cdv A outer s H E0 g Es E hF => by
    cases hF with
    | mk b l h => exact .inl (dr_ret (de_call (ok_book_of T) g (da_cons (de_call (ok_with_limit T.toTxt) g (da_cons (de_fld T.c_Book T.na_CB_own_book bk_book (de_var 0)) (da_cons (de_var 1) da_nil)) (.mk b l h)) da_nil) (.mk _ h)))
inductive FCapped (K : PySem.W.Frag) (CB : Addr) : Fn
  | mk (b : Bk) (i : Nat) (l : Limit) (c : Int) (hl : b.limits[i]? = some l) (h : Valid (setCap b i l c)) : FCapped K CB [bookE K CB b, dat K (.int (i : Nat)), dat K (.int c)] (bookE K CB (setCap b i l c))
theorem ok_Book_capped (T : TxtB K mg CA CW CB) : GMeth P w K mg base CB "capped" 9 (FCapped K CB) :=
  gmeth_mk (N := ["self", "k", "cap"]) (k := 8) T.m_Book_capped ["self", "k", "cap"] ⟨rfl, rfl, rfl, by decide +kernel, rfl, by decide +kernel, by decide +kernel⟩ (fun _ _ _ _ _ _ us hl => match us, hl with | [_, _, _], _ => rfl) (fun _ _ h => by cases h <;> rfl) fun f cdv A outer s H E0 g Es E hF => by
    cases hF with
    | mk b i l c hl h => exact .inl (dr_ret (de_call (ok_book_of T) g (da_cons (de_call (ok_with_cap T.toTxt) g (da_cons (de_fld T.c_Book T.na_CB_own_book bk_book (de_var 0)) (da_cons (de_var 1) (da_cons (de_var 2) da_nil))) (.mk b i l c hl h)) da_nil) (.mk _ h)))
inductive FBookCall (K : PySem.W.Frag) (CB : Addr) : Fn
  | mk (b : Bk) (z : Str) (i : Int) (h : BkOk b) (hz : NameOk z) (hm : z ∈ b.purses.map (·.name)) (h0 : 0 ≤ i) : FBookCall K CB [bookE K CB b, dat K (.str z), dat K (.int i)] (dat K (intsD (limitsOver b z i)))
theorem ok_Book_call (T : TxtB K mg CA CW CB) : GMeth P w K mg base CB "__call__" 4 (FBookCall K CB) :=
  gmeth_mk (N := ["self", "purse", "day"]) (k := 3) T.m_Book_call ["self", "purse", "day"] ⟨rfl, rfl, rfl, by decide +kernel, rfl, by decide +kernel, by decide +kernel⟩ (fun _ _ _ _ _ _ us hl => match us, hl with | [_, _, _], _ => rfl) (fun _ _ h => by cases h <;> rfl) fun f cdv A outer s H E0 g Es E hF => by
    cases hF with
    | mk b z i h hz hm h0 => exact .inl (dr_ret (de_call (ok_limits_over T.toTxt) g (da_cons (de_fld T.c_Book T.na_CB_own_book bk_book (de_var 0)) (da_cons (de_var 1) (da_cons (de_var 2) da_nil))) (.mk b z i h hz hm h0)))
inductive FBookAdd (K : PySem.W.Frag) (CB : Addr) : Fn
  | mk (b : Bk) (r : Rw) (h : Valid (withRow b r)) : FBookAdd K CB [bookE K CB b, dat K (rowD r)] (bookE K CB (withRow b r))
theorem ok_Book_add (T : TxtB K mg CA CW CB) : GMeth P w K mg base CB "__add__" 9 (FBookAdd K CB) :=
  gmeth_mk (N := ["self", "row"]) (k := 8) T.m_Book_add ["self", "row"] ⟨rfl, rfl, rfl, by decide +kernel, rfl, by decide +kernel, by decide +kernel⟩ (fun _ _ _ _ _ _ us hl => match us, hl with | [_, _], _ => rfl) (fun _ _ h => by cases h <;> rfl) fun f cdv A outer s H E0 g Es E hF => by
    cases hF with
    | mk b r h => exact .inl (dr_ret (de_call (ok_book_of T) g (da_cons (de_call (ok_with_row T.toTxt) g (da_cons (de_fld T.c_Book T.na_CB_own_book bk_book (de_var 0)) (da_cons (de_var 1) da_nil)) (.mk b r h)) da_nil) (.mk _ h)))
inductive FBookSub (K : PySem.W.Frag) (CB : Addr) : Fn
  | mk (b : Bk) (i : Nat) (hi : i < b.rows.length) (hz : b.rows.length ≤ 100) (h : Valid (outRow b i)) : FBookSub K CB [bookE K CB b, dat K (.int (i : Nat))] (bookE K CB (outRow b i))
theorem ok_Book_sub (T : TxtB K mg CA CW CB) : GMeth P w K mg base CB "__sub__" 9 (FBookSub K CB) :=
  gmeth_mk (N := ["self", "t"]) (k := 8) T.m_Book_sub ["self", "t"] ⟨rfl, rfl, rfl, by decide +kernel, rfl, by decide +kernel, by decide +kernel⟩ (fun _ _ _ _ _ _ us hl => match us, hl with | [_, _], _ => rfl) (fun _ _ h => by cases h <;> rfl) fun f cdv A outer s H E0 g Es E hF => by
    cases hF with
    | mk b i hi hz h => exact .inl (dr_ret (de_call (ok_book_of T) g (da_cons (de_call (ok_without_row T.toTxt) g (da_cons (de_fld T.c_Book T.na_CB_own_book bk_book (de_var 0)) (da_cons (de_var 1) da_nil)) (.mk b i hi hz h)) da_nil) (.mk _ h)))
inductive FBookGet (K : PySem.W.Frag) (CB : Addr) : Fn
  | mk (b : Bk) (i : Nat) (r : Rw) (hr : b.rows[i]? = some r) : FBookGet K CB [bookE K CB b, dat K (.int (i : Nat))] (dat K (rowD r))
theorem ok_Book_getitem (T : TxtB K mg CA CW CB) : GMeth P w K mg base CB "__getitem__" 3 (FBookGet K CB) :=
  gmeth_mk (N := ["self", "t"]) (k := 2) T.m_Book_getitem ["self", "t"] ⟨rfl, rfl, rfl, by decide +kernel, rfl, by decide +kernel, by decide +kernel⟩ (fun _ _ _ _ _ _ us hl => match us, hl with | [_, _], _ => rfl) (fun _ _ h => by cases h <;> rfl) fun f cdv A outer s H E0 g Es E hF => by
    cases hF with
    | mk b i r hr =>
      have hi : i < b.rows.length := (List.getElem?_eq_some_iff.mp hr).1
      exact .inl (dr_cons (ds_expr (de_call (ok_require_row T.toTxt) g (da_cons (de_fld T.c_Book T.na_CB_own_book bk_book (de_var 0)) (da_cons (de_var 1) da_nil)) (.mk b i (by omega) (by omega)))) <| dr_ret (de_ixT (ds := b.rows.map rowD) (de_fld T.c_Book T.na_CB_own_rows bk_rows (de_var 0)) (de_var 1) (row_atN hr)))
inductive FBookHas (K : PySem.W.Frag) (CB : Addr) : Fn
  | mk (b : Bk) (r : Rw) (h : RowOk r) (hr : r ∈ b.rows) : FBookHas K CB [bookE K CB b, dat K (rowD r)] (dat K (.bool true))
theorem ok_Book_contains (T : TxtB K mg CA CW CB) : GMeth P w K mg base CB "__contains__" 4 (FBookHas K CB) :=
  gmeth_mk (N := ["self", "thing"]) (k := 3) T.m_Book_contains ["self", "thing"] ⟨rfl, rfl, rfl, by decide +kernel, rfl, by decide +kernel, by decide +kernel⟩ (fun _ _ _ _ _ _ us hl => match us, hl with | [_, _], _ => rfl) (fun _ _ h => by cases h <;> rfl) fun f cdv A outer s H E0 g Es E hF => by
    cases hF with
    | mk b r h hr =>
      classical
      have hm : decide (rowD r ∈ b.rows.map rowD) = true := decide_eq_true (List.mem_map_of_mem hr)
      exact .inl (dr_ret (de_andT (de_call (ok_is_row T.toTxt) g (da_cons (de_var 1) da_nil) (.mk r h)) (de_one (de_b (de_c (dc_inT (ds := b.rows.map rowD) g (de_var 1) (de_fld T.c_Book T.na_CB_own_rows bk_rows (de_var 0)) (pl_rowD r) (nbAll_map _ _ fun p _ => nb_rowD p))) hm))))
inductive FBookLen (K : PySem.W.Frag) (CB : Addr) : Fn
  | mk (b : Bk) : FBookLen K CB [bookE K CB b] (dat K (.int (b.rows.length : Nat)))
theorem ok_Book_len (T : TxtB K mg CA CW CB) : GMeth P w K mg base CB "__len__" 1 (FBookLen K CB) :=
  gmeth_mk (N := ["self"]) (k := 0) T.m_Book_len ["self"] ⟨rfl, rfl, rfl, by decide +kernel, rfl, by decide +kernel, by decide +kernel⟩ (fun _ _ _ _ _ _ us hl => match us, hl with | [_], _ => rfl) (fun _ _ h => by cases h <;> rfl) fun f cdv A outer s H E0 g Es E hF => by
    cases hF with
    | mk b => exact .inl (dr_ret (de_is (de_lenT T.B (ds := b.rows.map rowD) (de_fld T.c_Book T.na_CB_own_rows bk_rows (de_var 0))) (by rw [List.length_map])))
inductive FBookEq (K : PySem.W.Frag) (CB : Addr) : Fn
  | mk (b c : Bk) : FBookEq K CB [bookE K CB b, bookE K CB c] (dat K (.bool (bkEq b c)))
theorem ok_Book_eq (T : TxtB K mg CA CW CB) : GMeth P w K mg base CB "__eq__" 1 (FBookEq K CB) :=
  gmeth_mk (N := ["self", "other"]) (k := 0) T.m_Book_eq ["self", "other"] ⟨rfl, rfl, rfl, by decide +kernel, rfl, by decide +kernel, by decide +kernel⟩ (fun _ _ _ _ _ _ us hl => match us, hl with | [_, _], _ => rfl) (fun _ _ h => by cases h <;> rfl) fun f cdv A outer s H E0 g Es E hF => by
    cases hF with
    | mk b c => exact .inl (dr_ret (de_andT (de_isOwn T.B T.ic_Book (de_var 1) bk_ins (de_gcls T.g_Book)) (de_one (de_c (dc_eq g (de_fld T.c_Book T.na_CB_own_book bk_book (de_var 0)) (de_fld T.c_Book T.na_CB_own_book bk_book (de_var 1)) (pl_bkD b) (pl_bkD c))))))
inductive FBookStr (K : PySem.W.Frag) (CB : Addr) : Fn
  | mk (b : Bk) (h : BkOk b) (s : Small b) : FBookStr K CB [bookE K CB b] (dat K (.str (bookText b)))
theorem ok_Book_str (T : TxtB K mg CA CW CB) : GMeth P w K mg base CB "__str__" 4 (FBookStr K CB) :=
  gmeth_mk (N := ["self"]) (k := 3) T.m_Book_str ["self"] ⟨rfl, rfl, rfl, by decide +kernel, rfl, by decide +kernel, by decide +kernel⟩ (fun _ _ _ _ _ _ us hl => match us, hl with | [_], _ => rfl) (fun _ _ h => by cases h <;> rfl) fun f cdv A outer s H E0 g Es E hF => by
    cases hF with
    | mk b h s => exact .inl (dr_ret (de_strS T.B (de_call (ok_book_text T.toTxt) g (da_cons (de_fld T.c_Book T.na_CB_own_book bk_book (de_var 0)) da_nil) (.mk b h s))))
inductive FParsed (K : PySem.W.Frag) (CB : Addr) : Fn
  | mk (b : Bk) (h : Valid b) (s : Small b) (ok : ∀ x ∈ lns b, x.Ok) : FParsed K CB [val (.ref CB), dat K (.str (bookText b))] (bookE K CB b)
theorem ok_Book_parsed (T : TxtB K mg CA CW CB) : GCm P w K mg base CB "parsed" 8 (FParsed K CB) :=
  gcm_mk (N := ["cls", "text", "purses", "limits", "rows"]) (k := 7) T.c_parsed ["cls", "text"] ⟨rfl, rfl, rfl, by decide +kernel, rfl, by decide +kernel, by decide +kernel⟩ (fun _ _ _ _ _ _ us hl => match us, hl with | [_, _], _ => rfl) (fun _ _ h => by cases h <;> rfl) fun f cdv A outer s H E0 g Es E hF => by
    cases hF with
    | mk b h s ok =>
      exact .inl (dr_cons (ds_asg (de_callKw (ok_book_read T.toTxt) g (da_cons (de_var 1) da_nil) (fun H => .cons (show Dp _ H (.int 0) (.int 0) from .int 0) .nil) (.mk b h.toBkOk s h.ne ok)) (pg_tupK (K := K) (m := 3) rfl (pgs_cons (pg_name (i := 2) (by exact g.nd) rfl (by first | exact Or.inl rfl | exact Or.inr rfl)) (pgs_cons (pg_name (i := 3) (by exact g.nd) rfl (by first | exact Or.inl rfl | exact Or.inr rfl)) (pgs_cons (pg_name (i := 4) (by exact g.nd) rfl (by first | exact Or.inl rfl | exact Or.inr rfl)) pgs_nil)))) (gb_tup (gbs_cons (gbn 2) (gbs_cons (gbn 3) (gbs_cons (gbn 4) gbs_nil))) rfl)) <| dr_ret (de_makeL (i := 0) (ok_Book_init T).to3 g rfl (da_cons (de_var 2) (da_cons (de_var 3) (da_cons (de_var 4) da_nil))) (fun a => BkSt K CB a b) (fun a => .mk a b h) (fun a H t => ⟨a, rfl, t⟩)))
theorem ok_Book_iter (T : TxtB K mg CA CW CB) : GIter P w K mg base CB "own_rows" :=
  giter_mk T.m_Book_iter ⟨rfl, rfl, rfl, by decide +kernel, rfl, by decide +kernel, by decide +kernel⟩ (fun _ _ _ _ _ _ us hl => match us, hl with | [_], _ => rfl) fun f cdv A outer s H hd => by
    refine ⟨_, pss_one (ps_ret (pe_callB call_iterT (by rfl) T.B.iter (by decide +kernel) (pa_cons (pe_fld (pe_var (i := 0) rfl (.inl rfl) (by decide) (by decide)) rfl) pa_nil (by rfl)) (by decide) (by decide) (by rfl) (by rfl))), fun p dx fs l zs Q hp hl hz q => ?_⟩
    exact ⟨.ref p, rfl, p, CB, dx, fs, .ref l, rfl, hp, T.c_Book, T.na_CB_own_rows, hl, l, zs, rfl, hz, q⟩
end
end Lc
end
section
/-! A set whose members are tuples of plain values (texts among them): the table, the search, the adding. -/
namespace Lc
open PySem PySem.Spec L2
section
variable {P : Program} {w : World} {K : Type} [DecidableEq K] {kd : PySem.KeyKind P w K} {A : Around} {E : Value → Shared → Prop} {s : Shared}
theorem vl_noClass (n : Nat) {v : Value} (h : carriedByValue v = true) : ofAClassStatement n v = pure false := by
  cases v with
  | ref a => simp [carriedByValue] at h
  | _ => cases n <;> rfl
theorem vl_hashBy (n : Nat) {v : Value} (h : carriedByValue v = true) : ∃ b, hashByValue n v = pure b := by
  cases v with
  | ref a => simp [carriedByValue] at h
  | _ => cases n <;> exact ⟨_, rfl⟩
theorem tp_noClass {k : List K} {b : Addr} {Q : Bool → Shared → Prop} (x : IsTupleKey kd s.heap k b) (q : Q false s) : wpAny (model P w) A (ofAClassStatement 8 (.ref b)) Q E s := by
  have ty := x.typeIs
  obtain ⟨ob, xs, cap, at1, _, at2, mem⟩ := x
  unfold ofAClassStatement
  refine wpAny_bind (wpAny_typeOf ty ?_)
  dsimp only
  have yes : (("tuple" : String) == "tuple") = true := by rfl
  simp only [yes, if_true, Bool.not_true, Bool.false_eq_true, if_false]
  refine wpAny_bind (wpAny_pure ?_)
  try simp only [Bool.not_true, Bool.false_eq_true, if_false]
  show wpAny (model P w) A (seqItems? (.ref b) >>= _) Q E s
  refine wpAny_bind (wpAny_seqItems at1 at2 ?_)
  dsimp only
  refine wpAny_bind ?_
  show wpAny (model P w) A (forIn xs _ _) _ E s
  rw [← Array.forIn_toList]
  refine wpAny_forIn_list _ (fun more st u => st.1 = none ∧ u = s ∧ ∀ z ∈ more, carriedByValue z = true) _ (fun z more st u hz => ?_) (fun st u hz => ?_) _ _ ⟨rfl, rfl, mem.byValue⟩
  · obtain ⟨z1, rfl, z3⟩ := hz
    rw [vl_noClass 7 (z3 z List.mem_cons_self)]
    refine wpAny_bind (wpAny_pure ?_)
    simp only [Bool.false_eq_true, if_false]
    exact wpAny_pure ⟨rfl, rfl, fun y hy => z3 y (List.mem_cons_of_mem _ hy)⟩
  · obtain ⟨st1, st2⟩ := st
    obtain ⟨z1, rfl, _⟩ := hz
    dsimp only at z1
    subst z1
    exact wpAny_pure q
theorem tp_hashBy {k : List K} {b : Addr} {Q : Bool → Shared → Prop} (x : IsTupleKey kd s.heap k b) (q : ∀ r, Q r s) : wpAny (model P w) A (hashByValue 8 (.ref b)) Q E s := by
  have ty := x.typeIs
  obtain ⟨ob, xs, cap, at1, _, at2, mem⟩ := x
  unfold hashByValue
  refine wpAny_bind (wpAny_specialOf ty PySem.F.slot_tuple_hash.lookup ?_)
  show wpAny (model P w) A (seqItems? (.ref b) >>= _) Q E s
  refine wpAny_bind (wpAny_seqItems at1 at2 ?_)
  refine wpAny_bind ?_
  show wpAny (model P w) A (forIn xs _ _) _ E s
  rw [← Array.forIn_toList]
  refine wpAny_forIn_list _ (fun more st u => u = s ∧ st.1 = none ∧ ∀ z ∈ more, carriedByValue z = true) _ (fun z more st u hz => ?_) (fun st u hz => ?_) _ _ ⟨rfl, rfl, mem.byValue⟩
  · obtain ⟨rfl, z1, z3⟩ := hz
    obtain ⟨r, hr⟩ := vl_hashBy 7 (z3 z List.mem_cons_self)
    rw [hr]
    refine wpAny_bind (wpAny_pure ?_)
    cases r with
    | true =>
      simp only [Bool.not_true, Bool.false_eq_true, if_false]
      exact wpAny_pure ⟨rfl, rfl, fun y hy => z3 y (List.mem_cons_of_mem _ hy)⟩
    | false =>
      simp only [Bool.not_false, if_true]
      exact wpAny_pure (wpAny_pure (q _))
  · obtain ⟨st1, st2⟩ := st
    obtain ⟨rfl, z1, _⟩ := hz
    dsimp only at z1
    subst z1
    exact wpAny_pure (q _)
theorem tp_unseen {k : List K} {b : Addr} {Q : Bool → Shared → Prop} (x : IsTupleKey kd s.heap k b) {ys : List Value} (hy : ∀ y ∈ ys, ∃ k' c, y = Value.ref c ∧ IsTupleKey kd s.heap k' c) (q : Q false s) :
    wpAny (model P w) A (searchCouldBeSeen (.ref b) ys) Q E s := by
  unfold searchCouldBeSeen
  refine wpAny_bind ?_
  refine wpAny_forIn_list _ (fun more st u => u = s ∧ st.1 = none ∧ ∀ y ∈ more, ∃ k' c, y = Value.ref c ∧ IsTupleKey kd s.heap k' c) _ (fun z more st u hz => ?_) (fun st u hz => ?_) _ _ ⟨rfl, rfl, hy⟩
  · obtain ⟨rfl, z1, z3⟩ := hz
    obtain ⟨k2, c, rfl, y⟩ := z3 z List.mem_cons_self
    have on : ∀ v ∈ more, ∃ k' c, v = Value.ref c ∧ IsTupleKey kd u.heap k' c := fun v hv => z3 v (List.mem_cons_of_mem _ hv)
    dsimp only
    by_cases same : (b == c || (carriedByValue (.ref b) && carriedByValue (.ref c))) = true
    · exact wp_if_pos same (wpAny_pure ⟨rfl, rfl, on⟩)
    · refine wp_if_neg same (wpAny_bind (wpAny_eqIsQuiet_tuple x ?_))
      simp only [Bool.not_true, Bool.false_eq_true, if_false]
      refine wpAny_bind (wpAny_eqIsQuiet_tuple y ?_)
      simp only [Bool.not_true, Bool.false_eq_true, if_false]
      refine wpAny_bind (tp_noClass x ?_)
      simp only [Bool.false_eq_true, if_false]
      refine wpAny_bind (tp_noClass y ?_)
      simp only [Bool.false_eq_true, if_false]
      exact wpAny_pure ⟨rfl, rfl, on⟩
  · obtain ⟨st1, st2⟩ := st
    obtain ⟨rfl, z1, _⟩ := hz
    dsimp only at z1
    subst z1
    exact wpAny_pure q
/-! ### the table -/
def ents (kd : PySem.KeyKind P w K) (L : List (Addr × List K)) : List (Int × Value) := L.map fun p => (tupleKeyHash kd p.2, Value.ref p.1)
def hsh (kd : PySem.KeyKind P w K) (L : List (Addr × List K)) : List Int := L.map fun p => tupleKeyHash kd p.2
structure Tbl (kd : PySem.KeyKind P w K) (L : List (Addr × List K)) (es : Array (Int × Value)) (t : SetTable) : Prop where
  it : es.toList = ents kd L
  ok : TabOk t (hsh kd L)
  diff : (L.map (·.2)).Nodup
  seen : w.params.followText "set-order" = true ∨ t.led = true
  air : L.length * 5 < t.mask * 3
  small : L.length < 64
def Ats (kd : PySem.KeyKind P w K) (h : Heap) (L : List (Addr × List K)) : Prop := ∀ p ∈ L, IsTupleKey kd h p.2 p.1
theorem ents_len (kd : PySem.KeyKind P w K) (L : List (Addr × List K)) : (ents kd L).length = L.length := List.length_map _
theorem hsh_len (kd : PySem.KeyKind P w K) (L : List (Addr × List K)) : (hsh kd L).length = L.length := List.length_map _
theorem es_len {L : List (Addr × List K)} {es : Array (Int × Value)} (h : es.toList = ents kd L) : es.size = L.length := by
  rw [← Array.length_toList, h, ents_len]
theorem es_at {L : List (Addr × List K)} {es : Array (Int × Value)} (h : es.toList = ents kd L) {i : Nat} {p : Addr × List K} (hp : L[i]? = some p) : es[i]? = some (tupleKeyHash kd p.2, Value.ref p.1) := by
  rw [← Array.getElem?_toList, h]
  unfold ents
  rw [List.getElem?_map, hp]
  rfl
variable {a : Addr} {L : List (Addr × List K)} {es : Array (Int × Value)} {ep : Nat} {t : SetTable}
theorem Tbl.pl (T : Tbl kd L es t) : t.place.toList.length = L.length := by
  rw [Array.length_toList, T.ok.sz, hsh_len]
theorem Tbl.fits (T : Tbl kd L es t) : t.fits es.size = true := by
  have h1 := T.ok.sz
  rw [hsh_len] at h1
  have h2 := T.air
  unfold SetTable.fits SetTable.fill
  rw [T.ok.dm, Bool.and_eq_true, beq_iff_eq, decide_eq_true_eq, es_len T.it]
  exact ⟨h1, by show t.place.size + 0 ≤ t.mask; omega⟩
theorem Tbl.stays (T : Tbl kd L es t) : ¬ t.gaveWay = true := by
  unfold SetTable.gaveWay
  rw [mask_odd T.ok.mok]
  decide
/-- where the way of the hash h stands after c steps -/
abbrev stand (t : SetTable) (h : Int) (c : Nat) : SetTable.Probe := nth t.mask (t.probeStart h) c
theorem stand_j (t : SetTable) (h : Int) (c : Nat) : (stand t h c).j = way t.mask h c := rfl
theorem stand_add (t : SetTable) (h : Int) (c q : Nat) : nth t.mask (stand t h c) q = stand t h (c + q) := (nth_add t.mask c _ q).symm
theorem nth_clean (m : Nat) : ∀ (n : Nat) (p : SetTable.Probe), p.dummy = none → (nth m p n).dummy = none
  | 0, _, h => h
  | n + 1, p, h => nth_clean m n (adv m p) (by unfold adv; split <;> exact h)
theorem stand_clean (t : SetTable) (h : Int) (c : Nat) : (stand t h c).dummy = none := nth_clean t.mask c _ rfl
/-- the search, from the step c on: the entries passed so far hold other keys -/
theorem srch_on {o : Obj} (ho : s.heap.get? a = some o) (hd : o.data = .set es ep t) (T : Tbl kd L es t) (TA : Ats kd s.heap L) {x : Addr} {k : List K} (hx : IsTupleKey kd s.heap k x) (hu : A.units < cLine) {Z : Nat}
    (hZ : Z < 10 * SetTable.turns t.mask) (z1 : way t.mask (tupleKeyHash kd k) Z ∉ t.place.toList) (z2 : ∀ c, c < Z → way t.mask (tupleKeyHash kd k) c ∈ t.place.toList) {Q : SetFound → Shared → Prop}
    (yes : k ∈ L.map (·.2) → Q (.there none) s) (no : k ∉ L.map (·.2) → Q (.free (way t.mask (tupleKeyHash kd k) Z) false) s) :
    ∀ (f c : Nat) (from? : Option SetTable.Probe), from?.getD (t.probeStart (tupleKeyHash kd k)) = stand t (tupleKeyHash kd k) c → c ≤ Z → Z - c < f →
      (∀ (c' i : Nat) (p : Addr × List K), c' < c → t.place.toList[i]? = some (way t.mask (tupleKeyHash kd k) c') → L[i]? = some p → p.2 ≠ k) →
      wpAny (model P w) A (setSearchFrom a (.ref x) (tupleKeyHash kd k) true f from?) Q E s := by
  intro f
  induction f with
  | zero => exact fun c _ _ _ hf _ => absurd hf (Nat.not_lt_zero _)
  | succ f ih =>
    intro c from? hst hc hf past
    rw [setSearchFrom_succ]
    refine wpAny_bind (wpAny_setState_of ho hd T.fits ?_)
    dsimp only
    refine wp_if_neg T.stays ?_
    try refine wpAny_bind (wpAny_pure ?_)
    generalize hh : tupleKeyHash kd k = h at *
    let ha : Nat → Int := fun i => (es[i]?.map (·.1)).getD 0
    have ha_at : ∀ (i : Nat) p, L[i]? = some p → ha i = tupleKeyHash kd p.2 := fun i p hp => by
      show (es[i]?.map (·.1)).getD 0 = _
      rw [es_at T.it hp]
      rfl
    have spec := go_spec t T.ok.ris T.ok.dm ha h (10 * SetTable.turns t.mask) (Z - c) (stand t h c) (stand_clean t h c) (by omega)
      (fun q hq => by rw [stand_add]; exact z2 (c + q) (by omega)) (by rw [stand_add, Nat.add_sub_cancel' hc]; exact z1)
    have pr : ∀ m, SetTable.probe.go t ha h (10 * SetTable.turns t.mask) (stand t h c) = some m → t.probe (fun i => (es[i]?.map (·.1)).getD 0) h (from?.getD (t.probeStart h)) = some m := fun m e => by rw [hst]; exact e
    have hsq : ∀ i p, L[i]? = some p → p.2 = k → ha i = h := fun i p hp e => by rw [ha_at i p hp, e, hh]
    rcases spec with ⟨q, i, hq, hi, e1, hno, e2⟩ | ⟨hno, e2⟩
    · simp only [stand_add] at hi e2 hno
      rw [pr _ e2]
      dsimp only
      have hil : i < L.length := by rw [← T.pl]; exact (List.getElem?_eq_some_iff.mp hi).1
      obtain ⟨p, hp⟩ : ∃ p, L[i]? = some p := ⟨_, List.getElem?_eq_getElem hil⟩
      have pm : p ∈ L := List.mem_of_getElem? hp
      have lv : t.slot (stand t h (c + q)).j = .live i := slot_live T.ok.ris hi
      have last : wpAny (model P w) A (searchRest a (.ref x) h true f es t (stand t h (c + q)).j i (stand t h (c + (q + 1)))) Q E s := by
        unfold searchRest
        rw [es_at T.it hp]
        dsimp only
        refine wpAny_bind (wpAny_holding (wpAny_eqBool_tuple hu (TA p pm) hx ?_))
        refine wpAny_bind (wpAny_setState_of ho hd T.fits ?_)
        dsimp only
        by_cases eq : p.2 = k
        · exact wp_if_pos (by simp [eq]) (wpAny_pure (yes (List.mem_map.mpr ⟨p, pm, eq⟩)))
        · refine wp_if_neg (by simp [eq]) ?_
          try refine wpAny_bind (wpAny_pure ?_)
          rw [sameMem]
          dsimp only
          simp only [if_true, lv, es_at T.it hp]
          refine wpAny_bind (wpAny_isSame_ref_self (wpAny_bind (wpAny_pure ?_)))
          simp only [if_true]
          refine wp_if_neg (by simp [eq]) (ih (c + (q + 1)) _ rfl (by omega) (by omega) fun c' j r hc' hj hr => ?_)
          rcases Nat.lt_trichotomy c' (c + q) with lt | ec | gt
          · by_cases old : c' < c
            · exact past c' j r old hj hr
            · intro er
              refine hno (c' - c) j (by omega) ?_ (hsq j r hr er)
              rw [stand_j, show c + (c' - c) = c' by omega]
              exact hj
          · rw [ec] at hj
            have lv2 : t.slot (stand t h (c + q)).j = .live j := slot_live T.ok.ris hj
            rw [lv] at lv2
            injection lv2 with lv2
            rw [← lv2, hp] at hr
            cases hr
            exact eq
          · omega
      by_cases led : t.led = true
      · refine wp_if_neg (by simp [led]) ?_
        try refine wpAny_bind (wpAny_pure ?_)
        exact last
      · refine wp_if_pos (by simp [led]) (wpAny_bind (tp_unseen hx (fun y hy => ?_) ?_))
        · obtain ⟨e, he, rfl⟩ := List.mem_map.mp hy
          have he2 : e ∈ es.toList := by
            have he3 : e ∈ es ∧ e.1 = h := by simpa using he
            simpa using he3.1
          rw [T.it] at he2
          obtain ⟨r, hr, rfl⟩ := List.mem_map.mp he2
          exact ⟨r.2, r.1, rfl, TA r hr⟩
        · refine wp_if_neg (by decide) ?_
          try refine wpAny_bind (wpAny_pure ?_)
          exact last
    · simp only [stand_add] at hno e2
      rw [pr _ e2]
      dsimp only
      rw [Nat.add_sub_cancel' hc]
      refine wpAny_pure (no fun hm => ?_)
      obtain ⟨p, hpm, hpk⟩ := List.mem_map.mp hm
      obtain ⟨i, hil, hp⟩ := List.getElem_of_mem hpm
      have hp' : L[i]? = some p := by rw [List.getElem?_eq_getElem hil, hp]
      have hj : t.place.toList[i]? = some (t.place.toList[i]'(by rw [T.pl]; exact hil)) := List.getElem?_eq_getElem _
      have hi : (hsh kd L)[i]? = some h := by
        unfold hsh
        rw [List.getElem?_map, hp', ← hh, ← hpk]
        rfl
      obtain ⟨c', hc', e⟩ := T.ok.before z1 hi hj
      rw [← e] at hj
      by_cases old : c' < c
      · exact past c' i p old hj hp' hpk
      · refine hno (c' - c) i (by omega) ?_ (hsq i p hp' hpk)
        rw [stand_j, show c + (c' - c) = c' by omega]
        exact hj
/-- the search for a key that is to be added -/
theorem srch {o : Obj} (ho : s.heap.get? a = some o) (hd : o.data = .set es ep t) (T : Tbl kd L es t) (TA : Ats kd s.heap L) {x : Addr} {k : List K} (hx : IsTupleKey kd s.heap k x) (hu : A.units < cLine) {Q : SetFound → Shared → Prop}
    (yes : k ∈ L.map (·.2) → Q (.there none) s)
    (no : ∀ Z, k ∉ L.map (·.2) → way t.mask (tupleKeyHash kd k) Z ∉ t.place.toList → (∀ c, c < Z → way t.mask (tupleKeyHash kd k) c ∈ t.place.toList) → Q (.free (way t.mask (tupleKeyHash kd k) Z) false) s) :
    wpAny (model P w) A (setSearch a (.ref x) (tupleKeyHash kd k) true) Q E s := by
  have air := T.air
  obtain ⟨Z, h1, h2, h3⟩ := T.ok.first (by rw [hsh_len]; omega) (tupleKeyHash kd k)
  have lim : 10 * SetTable.turns t.mask ≤ 100000 := by
    unfold SetTable.turns
    rcases T.ok.mok with e | e | e <;> omega
  unfold setSearch
  exact srch_on ho hd T TA hx hu h1 h2 h3 yes (fun m => no Z m h2 h3) 100000 0 none rfl (Nat.zero_le _) (by omega) fun c' _ _ hc => absurd hc (Nat.not_lt_zero _)
end
end Lc
end
section
/-! A set whose members are tuples: putting one in. -/
namespace Lc
open PySem PySem.Spec L2
theorem range_at {α : Type} : ∀ l : List α, (List.range l.length).filterMap (fun i => l[i]?) = l
  | [] => rfl
  | x :: l => by
    rw [List.length_cons, List.range_succ_eq_map, List.filterMap_cons, List.filterMap_map]
    show x :: (List.range l.length).filterMap (fun i => l[i]?) = x :: l
    rw [range_at l]
theorem pick_map {α β : Type} (l : List α) (f : α → β) (g : Nat → β) : ∀ is : List Nat, (∀ i ∈ is, ∃ x, l[i]? = some x ∧ g i = f x) → (is.filterMap fun i => l[i]?).map f = is.map g
  | [], _ => rfl
  | i :: is, h => by
    obtain ⟨x, hx, e⟩ := h i List.mem_cons_self
    rw [List.filterMap_cons_some hx, List.map_cons, List.map_cons, e, pick_map l f g is fun j hj => h j (List.mem_cons_of_mem _ hj)]
section
variable {P : Program} {w : World} {K : Type} [DecidableEq K] {kd : PySem.KeyKind P w K} {A : Around} {E : Value → Shared → Prop} {s : Shared}
variable {a : Addr} {L : List (Addr × List K)} {es : Array (Int × Value)} {ep : Nat} {t : SetTable}
/-- the object at a is a set of the tuples L -/
def SetIs (kd : PySem.KeyKind P w K) (h : Heap) (a : Addr) (L : List (Addr × List K)) : Prop := ∃ o es ep t, h.get? a = some o ∧ o.ExactSet ∧ o.data = .set es ep t ∧ Tbl kd L es t
theorem tk_old {h h' : Heap} {k : List K} {a b : Addr} {o : Obj} (x : IsTupleKey kd h k b) (ho : h.get? a = some o) (hd : o.data = .set es ep t) (sb : Heap.SameBut a h h') : IsTupleKey kd h' k b := by
  obtain ⟨ob, xs, cap, at1, at0, at2, mem⟩ := x
  refine ⟨ob, xs, cap, (sb.2 b fun e => ?_).trans at1, at0, at2, mem⟩
  subst e
  rw [ho] at at1
  cases at1
  rw [hd] at at2
  cases at2
theorem tk_keep {h h' : Heap} {k : List K} {b : Addr} (x : IsTupleKey kd h k b) (keep : ∀ c o, h.get? c = some o → h'.get? c = some o) : IsTupleKey kd h' k b := by
  obtain ⟨ob, xs, cap, at1, r⟩ := x
  exact ⟨ob, xs, cap, keep _ _ at1, r⟩
theorem new_order {order : Array Nat} (it : es.toList = ents kd L) (pm : order.toList.Perm (List.range L.length)) :
    ∃ L', (order.filterMap (es[·]?)).toList = ents kd L' ∧ L'.Perm L ∧ hsh kd L' = order.toList.map fun i => (es.map (·.1)).getD i 0 := by
  have at_ : ∀ i : Nat, es[i]? = (L[i]?).map fun p : Addr × List K => (tupleKeyHash kd p.2, Value.ref p.1) := fun i => by
    rw [← Array.getElem?_toList, it]
    exact List.getElem?_map ..
  refine ⟨order.toList.filterMap fun i : Nat => L[i]?, ?_, ?_, ?_⟩
  · rw [Array.toList_filterMap]
    show order.toList.filterMap (fun i => es[i]?) = (order.toList.filterMap fun i => L[i]?).map _
    rw [List.map_filterMap]
    exact congrArg (fun f => order.toList.filterMap f) (funext at_)
  · have q := pm.filterMap fun i : Nat => L[i]?
    rw [range_at] at q
    exact q
  · refine pick_map L _ _ _ fun i hi => ?_
    have lt : i < L.length := List.mem_range.mp (pm.mem_iff.mp hi)
    refine ⟨L[i], List.getElem?_eq_getElem lt, ?_⟩
    have q : (es.map (·.1))[i]? = some (tupleKeyHash kd L[i].2) := by
      rw [Array.getElem?_map, at_, List.getElem?_eq_getElem lt]
      rfl
    simp [Array.getD_eq_getD_getElem?, q]
/-- the table laid anew -/
theorem lay_wide {o : Obj} (ho : s.heap.get? a = some o) (hex : o.ExactSet) (hd : o.data = .set es ep t) (it : es.toList = ents kd L) (ok : TabOk t (hsh kd L)) (fit : L.length ≤ t.mask) (diff : (L.map (·.2)).Nodup)
    (seen : w.params.followText "set-order" = true ∨ t.led = true) (small : L.length < 64) {want M : Nat} (e1 : SetTable.sizeAbove want = M + 1) (hM : MaskOk M) (air : L.length * 5 < M * 3) {Q : Unit → Shared → Prop}
    (q : ∀ h' L', Heap.SameBut a s.heap h' → SetIs kd h' a L' → L'.Perm L → Q () { s with heap := h' }) : wpAny (model P w) A (setRelay a want) Q E s := by
  have len := es_len it
  have psz : t.place.size = es.size := by rw [ok.sz, hsh_len, len]
  have fits : t.fits es.size = true := by
    unfold SetTable.fits SetTable.fill
    rw [ok.dm, Bool.and_eq_true, beq_iff_eq, decide_eq_true_eq]
    exact ⟨psz, by show t.place.size + 0 ≤ t.mask; omega⟩
  have le : M ≤ 127 := by rcases hM with e | e | e <;> omega
  obtain ⟨t', order, r1, r2, r3, r4, r5, _, _⟩ := relaid_ok t (hs := es.map (·.1)) (wanted := want) (M := M) (by rw [e1]; rfl) hM (by rw [Array.size_map, len]; omega)
  rw [Array.size_map, len] at r2
  obtain ⟨L', n1, n2, n3⟩ := new_order it r2
  rw [← n3] at r3
  have len' : (order.filterMap (es[·]?)).size = es.size := by rw [es_len n1, n2.length_eq, len]
  rw [setRelay_eq]
  refine wpAny_bind (wpAny_setState_of ho hd fits ?_)
  dsimp only
  refine wp_if_neg (by rw [sizeLine_eq, e1]; omega) ?_
  try refine wpAny_bind (wpAny_pure ?_)
  rw [r1]
  dsimp only
  refine wpAny_bind (wp_if_neg (by rw [len']; simp) ?_)
  try refine wpAny_bind (wpAny_pure ?_)
  refine wpAny_pure ?_
  dsimp only
  refine wpAny_storeSet_of ho hd ?_ (by rw [len', len, sizeLine_eq]; omega)
  refine q _ L' (Heap.SameBut.update ..) ⟨_, _, _, _, store_at ho hd, ⟨hex.1, hex.2.1, hex.2.2⟩, rfl, ?_⟩ n2
  exact ⟨n1, r3, (n2.map (·.2)).nodup_iff.mpr diff, by rw [r5]; exact seen, by rw [n2.length_eq, r4]; exact air, by rw [n2.length_eq]; exact small⟩
/-- one put in -/
theorem put_in (S : SetIs kd s.heap a L) (TA : Ats kd s.heap L) {x : Addr} {k : List K} (hx : IsTupleKey kd s.heap k x) (hu : A.units < cLine) (lim : L.length + 1 < 64) {Q : Bool → Shared → Prop}
    (q : ∀ b h' L', Heap.SameBut a s.heap h' → SetIs kd h' a L' → (k ∈ L.map (·.2) → L' = L) → (k ∉ L.map (·.2) → L'.Perm ((x, k) :: L)) → Q b { s with heap := h' }) :
    wpAny (model P w) A (setAddHashed a (.ref x) (tupleKeyHash kd k)) Q E s := by
  obtain ⟨o, es, ep, t, ho, hex, hd, T⟩ := S
  have len := es_len T.it
  have air := T.air
  unfold setAddHashed
  refine wpAny_holding ?_
  rw [show (100000 : Nat) = 99999 + 1 from rfl, setAddHashedIn_succ]
  refine wpAny_bind (wpAny_setState_of ho hd T.fits ?_)
  dsimp only
  refine wp_if_neg (by simp [byScan, Value.scannable]) ?_
  try refine wpAny_bind (wpAny_pure ?_)
  refine wpAny_bind (srch ho hd T TA hx hu (fun m => ?_) fun Z m z1 z2 => ?_)
  · dsimp only
    exact wpAny_pure (q false s.heap L (Heap.SameBut.refl a s.heap) ⟨o, es, ep, t, ho, hex, hd, T⟩ (fun _ => rfl) fun z => absurd m z)
  dsimp only
  refine wpAny_bind (wpAny_setState_of ho hd T.fits ?_)
  dsimp only
  obtain ⟨p1, p2, p3, p4, p5, _, _, _, p9⟩ := T.ok.put z1 z2
  generalize hput : t.put (way t.mask (tupleKeyHash kd k) Z) = both at p1 p3 p4 p5 p9 ⊢
  obtain ⟨t1, i⟩ := both
  dsimp only at p1 p3 p4 p5 p9 ⊢
  rw [← p1, hsh_len] at p2
  rw [← p1] at p3
  -- the entries with the new one
  let L1 := L.take i ++ (x, k) :: L.drop i
  have pm : L1.Perm ((x, k) :: L) := by
    have h : L1.Perm ((x, k) :: (L.take i ++ L.drop i)) := List.perm_middle
    rwa [List.take_append_drop] at h
  have hs1 : hsh kd L1 = (hsh kd L).take i ++ tupleKeyHash kd k :: (hsh kd L).drop i := by
    show (L.take i ++ (x, k) :: L.drop i).map _ = (L.map _).take i ++ _ :: (L.map _).drop i
    rw [List.map_append, List.map_cons, List.map_take, List.map_drop]
  have it1 : (SetTable.insertAt es i (tupleKeyHash kd k, Value.ref x)).toList = ents kd L1 := by
    rw [SetTable.toList_insertAt, T.it]
    show (L.map _).take i ++ _ :: (L.map _).drop i = (L.take i ++ (x, k) :: L.drop i).map _
    rw [List.map_append, List.map_cons, List.map_take, List.map_drop]
  rw [← hs1] at p3
  have len1 : L1.length = L.length + 1 := pm.length_eq
  have diff1 : (L1.map (·.2)).Nodup := by
    refine (pm.map (·.2)).nodup_iff.mpr ?_
    rw [List.map_cons]
    exact List.nodup_cons.mpr ⟨m, T.diff⟩
  have seen1 : w.params.followText "set-order" = true ∨ t1.led = true := by rw [p5]; exact T.seen
  have len2 := es_len it1
  generalize SetTable.insertAt es i (tupleKeyHash kd k, Value.ref x) = es1 at it1 len2 ⊢
  generalize L1 = M1 at pm it1 p3 len1 diff1 len2 ⊢
  -- whatever is noted of the hashes
  have rest : ∀ c : Bool, wpAny (model P w) A (do
      storeSet a es1 { t1 with plain := c }
      if !false && SetTable.tooFull { t1 with plain := c } then setRelay a (SetTable.grown (es.size + 1))
      return true) Q E s := by
    intro c
    have ok2 : TabOk { t1 with plain := c } (hsh kd M1) := ⟨p3.ris, p3.dm, p3.sz, p3.mok, p3.bd, p3.reach⟩
    refine wpAny_bind (wpAny_storeSet_of ho hd ?_ (by rw [len2, len1, sizeLine_eq]; omega))
    have sb : Heap.SameBut a s.heap (s.heap.update a (Obj.putSet es1 { t1 with plain := c })) := Heap.SameBut.update ..
    have ho1 := store_at (es' := es1) (t' := { t1 with plain := c }) ho hd
    generalize s.heap.update a (Obj.putSet es1 { t1 with plain := c }) = h1 at sb ho1 ⊢
    have fill : SetTable.tooFull { t1 with plain := c } = decide ((L.length + 1) * 5 ≥ t.mask * 3) := by
      have e : SetTable.fill { t1 with plain := c } = L.length + 1 := by rw [← hsh_len kd L]; exact p9
      unfold SetTable.tooFull
      rw [e]
      show decide ((L.length + 1) * 5 ≥ t1.mask * 3) = _
      rw [p4]
    by_cases full : (L.length + 1) * 5 ≥ t.mask * 3
    · have two : (t.mask = 7 ∧ L.length = 4) ∨ (t.mask = 31 ∧ L.length = 18) := by
        rcases T.ok.mok with e | e | e
        · exact .inl ⟨e, by omega⟩
        · exact .inr ⟨e, by omega⟩
        · omega
      have go : ∀ M, SetTable.sizeAbove (SetTable.grown (L.length + 1)) = M + 1 → MaskOk M → (L.length + 1) * 5 < M * 3 →
          wpAny (model P w) A (setRelay a (SetTable.grown (es.size + 1))) (fun _ u => wpAny (model P w) A (pure true) Q E u) E { s with heap := h1 } := fun M b1 b2 b3 => by
        rw [len]
        refine lay_wide (s := { s with heap := h1 }) ho1 ⟨hex.1, hex.2.1, hex.2.2⟩ rfl it1 ok2 (by show M1.length ≤ t1.mask; rw [len1, p4]; rcases two with ⟨e, e2⟩ | ⟨e, e2⟩ <;> omega) diff1 seen1 (by rw [len1]; exact lim) b1 b2 (by rw [len1]; exact b3) ?_
        intro h2 L2 sb2 S2 pm2
        exact wpAny_pure (q true h2 L2 (sb.trans sb2) S2 (fun z => absurd z m) fun _ => pm2.trans pm)
      have cond : (!false && SetTable.tooFull { t1 with plain := c }) = true := by rw [fill]; simpa using full
      first
        | (refine wpAny_bind (wp_if_pos cond ?_)
           rcases two with ⟨_, e2⟩ | ⟨_, e2⟩
           · exact go 31 (by rw [e2]; exact size_20) (.inr (.inl rfl)) (by omega)
           · exact go 127 (by rw [e2]; exact size_76) (.inr (.inr rfl)) (by omega))
        | (refine wp_if_pos cond (wpAny_bind ?_)
           rcases two with ⟨_, e2⟩ | ⟨_, e2⟩
           · exact go 31 (by rw [e2]; exact size_20) (.inr (.inl rfl)) (by omega)
           · exact go 127 (by rw [e2]; exact size_76) (.inr (.inr rfl)) (by omega))
    · have cond : ¬ (!false && SetTable.tooFull { t1 with plain := c }) = true := by rw [fill]; simpa using full
      have fin : wpAny (model P w) A (pure true) Q E { s with heap := h1 } := wpAny_pure (q true h1 M1 sb ⟨_, _, _, _, ho1, ⟨hex.1, hex.2.1, hex.2.2⟩, rfl, it1, ok2, diff1, seen1, by show M1.length * 5 < t1.mask * 3; rw [len1, p4]; omega, by rw [len1]; exact lim⟩ (fun z => absurd z m) fun _ => pm)
      first
        | exact wp_if_neg cond fin
        | exact wpAny_bind (wp_if_neg cond (wpAny_pure fin))
  by_cases hp : t1.plain = true
  · have ask : ∀ r : Bool, wpAny (model P w) A (do
        let t2 := if r then t1 else { t1 with plain := false }
        storeSet a es1 t2
        if !false && t2.tooFull then setRelay a (SetTable.grown (es.size + 1))
        return true) Q E s := fun r => by
      cases r with
      | true => exact rest t1.plain
      | false => exact rest false
    first
      | exact wpAny_bind (wp_if_pos hp (tp_hashBy hx ask))
      | exact wp_if_pos hp (wpAny_bind (tp_hashBy hx ask))
  · first
      | exact wpAny_bind (wp_if_neg hp (wpAny_pure (rest t1.plain)))
      | exact wp_if_neg hp (rest t1.plain)
      | exact wp_if_neg hp (wpAny_bind (wpAny_pure (rest t1.plain)))
end
end Lc
end
section
/-! set(t) of a tuple of tuples. -/
namespace Lc
open PySem PySem.Spec L2
section
variable {P : Program} {w : World} {K : Type} [DecidableEq K] {kd : PySem.KeyKind P w K} {A : Around} {E : Value → Shared → Prop} {s : Shared}
variable {a : Addr} {L : List (Addr × List K)}
theorem SetIs.keep {h h' : Heap} (S : SetIs kd h a L) (k : ∀ o, h.get? a = some o → h'.get? a = some o) : SetIs kd h' a L := by
  obtain ⟨o, es, ep, t, ho, r⟩ := S
  exact ⟨o, es, ep, t, k o ho, r⟩
/-- what has been gathered of the first i -/
structure Col (ks : List (Addr × List K)) (i : Nat) (L : List (Addr × List K)) : Prop where
  from_ : ∀ p ∈ L, p ∈ ks
  keys : ∀ k, k ∈ L.map (·.2) ↔ k ∈ (ks.take i).map (·.2)
  few : L.length ≤ i
theorem Col.none (ks : List (Addr × List K)) : Col ks 0 [] := ⟨fun _ h => (nomatch h), fun _ => Iff.rfl, Nat.le_refl 0⟩
theorem Col.next {ks L L' : List (Addr × List K)} {i : Nat} {p : Addr × List K} (c : Col ks i L) (hp : ks[i]? = some p) (h1 : p.2 ∈ L.map (·.2) → L' = L) (h2 : p.2 ∉ L.map (·.2) → L'.Perm ((p.1, p.2) :: L)) : Col ks (i + 1) L' := by
  have tk : (ks.take (i + 1)).map (·.2) = (ks.take i).map (·.2) ++ [p.2] := by
    rw [List.take_succ, hp, List.map_append]
    rfl
  rcases Classical.em (p.2 ∈ L.map (·.2)) with m | m
  · rw [h1 m]
    refine ⟨c.from_, fun k => ?_, Nat.le_succ_of_le c.few⟩
    rw [tk, List.mem_append, List.mem_singleton, ← c.keys k]
    exact ⟨.inl, fun z => z.elim id fun e => e ▸ m⟩
  · have pm := h2 m
    refine ⟨fun q hq => ?_, fun k => ?_, ?_⟩
    · rcases List.mem_cons.mp (pm.mem_iff.mp hq) with e | e
      · rw [e]; exact List.mem_of_getElem? hp
      · exact c.from_ q e
    · rw [(pm.map (·.2)).mem_iff, tk, List.mem_append, List.mem_singleton, ← c.keys k, List.map_cons, List.mem_cons]
      exact Or.comm
    · rw [pm.length_eq]
      exact Nat.succ_le_succ c.few
theorem fill_set {I S : Addr} {fp wr : List Addr} {G : Array GenState → Array GenState → Prop} {n : Nat} {At : Nat → Value → Prop} {St : Nat → Shared → Prop} {R : Result → Shared → Prop} (W : WalksS P w A.in1 I fp wr G n At St) (hS : S ∉ fp)
    {ks : List (Addr × List K)} (hn : n = ks.length) (lim : ks.length < 64) (val : ∀ i v, At i v → ∃ p, ks[i]? = some p ∧ v = .ref p.1) {h0 : Heap} (hk : Ats kd h0 ks) (nS : h0.get? S = .none) (nw : ∀ b ∈ wr, h0.get? b = .none) (hu : A.in1.units < cLine)
    (fin : ∀ u L, Moved (S :: wr) G s u → SetIs kd u.heap S L → Col ks n L → (∀ b o, h0.get? b = some o → u.heap.get? b = some o) → R (.ok (.ret .none)) u) :
    ∀ (m i : Nat) (u : Shared), i + m = n → St i u → Moved (S :: wr) G s u → (∀ b o, h0.get? b = some o → u.heap.get? b = some o) → (∃ L, SetIs kd u.heap S L ∧ Col ks i L) → codeAny (model P w) A (.builtin "set.update.loop" ⟨[.ref S, .ref I], []⟩) R u := by
  have out : S ∉ wr := fun z => hS (W.sub S z)
  have on : ∀ {u u' : Shared}, Moved wr G u u' → (∀ b o, h0.get? b = some o → u.heap.get? b = some o) → ∀ b o, h0.get? b = some o → u'.heap.get? b = some o := fun mv old b o e =>
    mv.heap b o (fun z => by rw [nw b z] at e; cases e) (old b o e)
  intro m
  induction m with
  | zero =>
    intro i u him hst mv old ⟨L, hL, c⟩
    have hin : i = n := him
    rw [hin] at hst c
    refine codeAny_builtin PyProof.Rows.F.entry_set_update_loop ?_
    rw [Around.under_plainId PyProof.Rows.F.plain_set_update_loop _]
    show wpAny (model P w) A.in1 (pyNext (.ref I) >>= _) _ _ u
    refine wpAny_bind (W.done u _ _ hst fun u' mv' => ?_)
    show wpAny (model P w) A.in1 (ret Value.none) _ _ u'
    exact wpAny_pure (fin u' L (Moved.trans W.gtrans mv (mv'.mono fun b hb => List.mem_cons_of_mem _ hb)) (hL.keep fun o e => mv'.heap S o out e) c (on mv' old))
  | succ m ih =>
    intro i u him hst mv old ⟨L, hL, c⟩
    refine codeAny_builtin PyProof.Rows.F.entry_set_update_loop ?_
    rw [Around.under_plainId PyProof.Rows.F.plain_set_update_loop _]
    show wpAny (model P w) A.in1 (pyNext (.ref I) >>= _) _ _ u
    refine wpAny_bind (W.item i u _ _ (by omega) hst fun v u' hv hst' mv' => ?_)
    obtain ⟨p, hp, rfl⟩ := val i v hv
    have old' := on mv' old
    have hL' : SetIs kd u'.heap S L := hL.keep fun o e => mv'.heap S o out e
    have TA : Ats kd u'.heap L := fun q hq => tk_keep (hk q (c.from_ q hq)) old'
    have hx : IsTupleKey kd u'.heap p.2 p.1 := tk_keep (hk p (List.mem_of_getElem? hp)) old'
    show wpAny (model P w) A.in1 (holding [Value.ref p.1] (setAdd S (.ref p.1)) >>= _) _ _ u'
    refine wpAny_bind (wpAny_holding ?_)
    unfold setAdd
    refine wpAny_holding (wpAny_bind (wpAny_pyHash_tuple hu hx ?_))
    refine put_in (s := { u' with toks := u'.toks + (p.2.length + 1) }) hL' TA hx hu (by have := c.few; omega) fun b h' L' sb hL2 c1 c2 => ?_
    have ne : ∀ b, b ∈ fp → b ≠ S := fun b hb z => hS (z ▸ hb)
    have mv2 : Moved (S :: wr) G u { u' with heap := h', toks := u'.toks + (p.2.length + 1) } := (mv'.mono fun b hb => List.mem_cons_of_mem _ hb).then_heap (Nat.le_add_right _ _) fun b o hb e =>
      (sb.2 b fun z => hb (z ▸ List.mem_cons_self)).trans e
    refine wpAny_pure ⟨plainId_quiet PyProof.Rows.F.plain_set_update_loop _, ih (i + 1) _ (by omega) ?_ (Moved.trans W.gtrans mv mv2) (fun b o e => ?_) ⟨L', hL2, c.next hp c1 c2⟩⟩
    · exact W.frame _ u' _ _ hst' (Nat.le_add_right _ _) fun b hb o e => (sb.2 b (ne b hb)).trans e
    · refine (sb.2 b fun z => ?_).trans (old' b o e)
      rw [z, nS] at e
      cases e
/-- a new set, nothing in it -/
abbrev blank (w : World) : Obj := { cls := .type "set", dict := .none, data := .set #[] 0 (.fresh 0 0 (!w.params.followText "set-order")) }
theorem setIs_blank {h : Heap} (ho : h.get? a = some (blank w)) : SetIs kd h a [] := by
  refine ⟨_, _, _, _, ho, ⟨rfl, rfl, rfl⟩, rfl, rfl, ⟨List.Pairwise.nil, rfl, rfl, .inl rfl, fun x hx => (nomatch hx), fun i h j hi => (by simp [hsh] at hi)⟩, List.nodup_nil, ?_, ?_, ?_⟩
  · show _ ∨ (!w.params.followText "set-order") = true
    cases w.params.followText "set-order"
    · exact .inr rfl
    · exact .inl rfl
  · show 0 * 5 < 7 * 3
    decide
  · show 0 < 64
    decide
set_option maxRecDepth 100000 in
set_option maxHeartbeats 3200000 in
theorem set_of_tup {l : Addr} {its : Array Value} {ks : List (Addr × List K)} {Q : Value → Shared → Prop} (hh : A.handled = .none) (hl : s.heap.IsTuple l its) (hit : its.toList = ks.map fun p => Value.ref p.1) (hk : Ats kd s.heap ks) (lim : ks.length < 64) (hu : A.units + 3 < cLine)
    (q : ∀ h' tk L, SetIs kd h' s.heap.objs.size L → Col ks ks.length L → (∀ b o, s.heap.get? b = some o → h'.get? b = some o) → Q (.ref s.heap.objs.size) { s with heap := h', toks := tk }) :
    wpAny (model P w) A (call (.type "set") [.ref l]) Q E s := by
  have isz : its.size = ks.length := by
    rw [← Array.length_toList, hit]
    exact List.length_map _
  obtain ⟨c1, cs, mro⟩ := PySem.F.called_set.mro
  have made := PySem.F.called_set.made
  have under := PySem.F.called_set.sub
  refine wpAny_call (codeAny_of_tree ?_)
  show wpAny (model P w) _ (callAny (.type "set") _) _ _ s
  refine wpAny_pure ⟨Code.quiet_builtin _ (by decide +kernel), codeAny_builtin PySem.F.entry_type_call ?_⟩
  rw [Around.under_plain (weight_type_call_type "set" [.ref l] []) rfl]
  have nt := PySem.F.called_set.notType
  have cc := PySem.F.called_set.canCreate
  have tc := PySem.F.typeCall_set_1 (.ref l)
  repeat (any_goals (first | assumption | wp_step))
  refine codeAny_mono (code_set_led1 (.ref l) (E := E) (Q₁ := fun v u => v = .ref s.heap.objs.size ∧ u = { s with heap := s.heap.push (blank w) }) ⟨rfl, rfl⟩) fun r u hr => ?_
  match r, hr with
  | .error _, hr => exact hr
  | .ok (.ret v), hr =>
    obtain ⟨rfl, rfl⟩ := hr
    have atS : (s.heap.push (blank w)).get? s.heap.objs.size = some (blank w) := Heap.get?_push_size _ rfl
    have tyS : Shared.TypeIs { s with heap := s.heap.push (blank w) } (.ref s.heap.objs.size) "set" := ⟨_, atS, rfl⟩
    have look := PySem.F.called_set.init.lookup
    have bind := PySem.F.called_set.init.bind (.ref s.heap.objs.size)
    repeat (any_goals (first | assumption | wp_step))
    refine codeAny_mono (codeAny_call_builtin (R := wants (fun v u => v = .none ∧ ∃ h' tk L, u = { s with heap := h', toks := tk } ∧ SetIs kd h' s.heap.objs.size L ∧ Col ks ks.length L ∧ (∀ b o, s.heap.get? b = some o → h'.get? b = some o)) E) PySem.F.called_set.init.plain PySem.F.entry_set_init (check_set_init_1 tyS ?_)) fun r2 u2 hr2 => ?_
    · have lt : l < s.heap.objs.size := by
        obtain ⟨o, ho, _⟩ := hl
        exact Heap.lt_size ho
      have hl1 : (s.heap.push (blank w)).IsTuple l its := hl.push _
      obtain ⟨ol, hol, hcl, nl, hdl⟩ := id hl1
      obtain ⟨ocls, odict, odata, oslots⟩ := ol
      simp only at hcl hdl
      subst hcl; subst hdl
      have ns1 := PySem.F.sub_tuple_set
      have ns2 := PySem.F.sub_tuple_frozenset
      have nd : (Value.type "tuple" == Value.type "dict") = false := by decide
      unfold Builtin.«set.__init__» noKeywords Builtin.Frozenset.updateFrom
      generalize ask : pyIter = it
      wp_walk
      subst ask
      refine wpAny_pyIter_tuple hl1 (wpAny_bind (wpAny_runValue ?_))
      have hh3 : A.in1.in1.in1.handled = .none := by simp [hh]
      have sz : (s.heap.push (blank w)).objs.size = s.heap.objs.size + 1 := Heap.size_push ..
      have free : ∀ b, s.heap.objs.size ≤ b → s.heap.get? b = .none := fun b hb => by
        cases e : s.heap.get? b with
        | none => rfl
        | some o => exact absurd (Heap.lt_size e) (Nat.not_lt.mpr hb)
      have ne1 : l ≠ (s.heap.push (blank w)).objs.size := by rw [sz]; exact Nat.ne_of_lt (Nat.lt_succ_of_lt lt)
      have ne2 : s.heap.objs.size ∉ [(s.heap.push (blank w)).objs.size, l] := by
        rw [sz]
        simp only [List.mem_cons, List.not_mem_nil, or_false, not_or]
        exact ⟨Nat.ne_of_lt (Nat.lt_succ_self _), Nat.ne_of_gt lt⟩
      refine fill_set ((Walks.tuple hh3 _ l ne1 its).toS) (S := s.heap.objs.size) ne2 isz lim (fun i v hv => ?_) hk (free _ (Nat.le_refl _))
        (fun b hb => free b (by rw [List.mem_singleton.mp hb, sz]; exact Nat.le_succ _)) hu (fun u L mv hL c old => ?_) its.size 0 _ (Nat.zero_add _) ⟨⟨_, Heap.get?_push_size _ rfl, rfl, rfl⟩, hl1.push _⟩ (Moved.refl fun _ => rfl)
        (fun b o e => Heap.get?_push_of_some _ (Heap.get?_push_of_some _ e)) ⟨[], setIs_blank (Heap.get?_push_of_some _ atS), Col.none ks⟩
      · have q1 : its.toList[i]? = some v := by rw [Array.getElem?_toList]; exact hv
        rw [hit, List.getElem?_map] at q1
        match hp : ks[i]?, q1 with
        | some p, q1 => exact ⟨p, rfl, (Option.some.inj q1).symm⟩
      · obtain ⟨h', g', d', tk', os'⟩ := u
        obtain rfl : g' = s.gens := mv.gens
        obtain rfl : d' = s.drawn := mv.drawn
        obtain rfl : os' = s.os := mv.os
        show wpAny _ _ _ _ _ _
        refine wpAny_pure ?_
        show wpAny _ _ (ret Value.none) _ _ _
        rw [isz] at c
        exact wpAny_pure ⟨rfl, h', tk', L, rfl, hL, c, old⟩
    · match r2, hr2 with
      | .error _, hr2 => exact hr2
      | .ok (.ret v), hr2 =>
        obtain ⟨rfl, h', tk, L, rfl, hL, c, old⟩ := hr2
        repeat (any_goals (first | assumption | wp_step))
        exact q h' tk L hL c old
end
end Lc
end
section
/-! Slots (a text and a number each): their order, sets of them, sorted lists of such sets. -/
namespace Lc
open PySem L2
/-! ### the order -/
def slotLt (x y : Slot) : Prop := x.1.cps.toList < y.1.cps.toList ∨ (x.1 = y.1 ∧ x.2 < y.2)
theorem str_cps {x y : Str} (h : x.cps.toList = y.cps.toList) : x = y := by
  obtain ⟨⟨x⟩⟩ := x
  obtain ⟨⟨y⟩⟩ := y
  cases h
  rfl
theorem dataLt_slot (x y : Slot) : PySem.W.dataLt (slotD x) (slotD y) = true ↔ slotLt x y := by
  unfold slotD slotLt
  rw [PySem.W.dataLt_pair (by simp [PySem.W.alike]) (by simp [PySem.W.alike]), PySem.W.dataLt_str, PySem.W.dataLt_int]
  simp only [PyData.eqv, beq_iff_eq]
  by_cases h1 : x.1 = y.1
  · have q : ¬ x.1.cps.toList < y.1.cps.toList := by rw [h1]; exact List.lt_irrefl _
    rw [if_pos h1]
    by_cases h2 : x.2 = y.2
    · rw [if_pos h2]
      exact ⟨fun z => (nomatch z), fun z => z.elim (fun z => absurd z q) fun z => absurd z.2 (by omega)⟩
    · rw [if_neg h2, decide_eq_true_eq]
      exact ⟨fun z => .inr ⟨h1, z⟩, fun z => z.elim (fun z => absurd z q) (·.2)⟩
  · rw [if_neg h1, decide_eq_true_eq]
    exact ⟨.inl, fun z => z.elim id fun z => absurd z.1 h1⟩
def leS (x y : Slot) : Bool := leD (slotD x) (slotD y)
theorem leS_iff (x y : Slot) : leS x y = true ↔ slotLt x y ∨ x = y := by
  unfold leS leD
  rw [Bool.not_eq_true', ← Bool.not_eq_true, dataLt_slot]
  unfold slotLt
  constructor
  · intro h
    by_cases h1 : x.1 = y.1
    · rcases Int.lt_trichotomy x.2 y.2 with c | c | c
      · exact .inl (.inr ⟨h1, c⟩)
      · exact .inr (Prod.ext h1 c)
      · exact absurd (.inr ⟨h1.symm, c⟩) h
    · have n : ¬ y.1.cps.toList < x.1.cps.toList := fun z => h (.inl z)
      have le : x.1.cps.toList ≤ y.1.cps.toList := List.not_lt.mp n
      by_cases lt : x.1.cps.toList < y.1.cps.toList
      · exact .inl (.inl lt)
      · exact absurd (str_cps (List.le_antisymm le (List.not_lt.mp lt))) h1
  · rintro ((h | ⟨h1, h2⟩) | rfl) (g | ⟨g1, g2⟩)
    · exact List.lt_asymm h g
    · rw [g1] at h; exact List.lt_irrefl _ h
    · rw [h1] at g; exact List.lt_irrefl _ g
    · omega
    · exact List.lt_irrefl _ g
    · omega
theorem slotLt_trans {x y z : Slot} (a : slotLt x y) (b : slotLt y z) : slotLt x z := by
  rcases a with a | ⟨a1, a2⟩
  · rcases b with b | ⟨b1, b2⟩
    · exact .inl (List.lt_trans a b)
    · exact .inl (by rw [← b1]; exact a)
  · rcases b with b | ⟨b1, b2⟩
    · exact .inl (by rw [a1]; exact b)
    · exact .inr ⟨a1.trans b1, Int.lt_trans a2 b2⟩
theorem leS_trans (x y z : Slot) (a : leS x y = true) (b : leS y z = true) : leS x z = true := by
  rw [leS_iff] at *
  rcases a with a | rfl
  · rcases b with b | rfl
    · exact .inl (slotLt_trans a b)
    · exact .inl a
  · exact b
theorem leS_total (x y : Slot) : (leS x y || leS y x) = true := by
  rw [Bool.or_eq_true, leS_iff, leS_iff]
  by_cases h : slotLt y x
  · exact .inr (.inl h)
  · refine .inl ((leS_iff x y).mp ?_)
    unfold leS leD
    rw [Bool.not_eq_true', ← Bool.not_eq_true, dataLt_slot]
    exact h
theorem leS_anti {x y : Slot} (a : leS x y = true) (b : leS y x = true) : x = y := by
  have n : ¬ slotLt y x := by
    have q := a
    unfold leS leD at q
    rw [Bool.not_eq_true', ← Bool.not_eq_true, dataLt_slot] at q
    exact q
  rw [leS_iff] at b
  rcases b with b | b
  · exact absurd b n
  · exact b.symm
theorem sortS_perm {l m : List Slot} (h : l.Perm m) : l.mergeSort leS = m.mergeSort leS := by
  refine List.Perm.eq_of_pairwise (le := fun x y => leS x y = true) (fun a b _ _ h1 h2 => leS_anti h1 h2) (List.pairwise_mergeSort leS_trans leS_total l) (List.pairwise_mergeSort leS_trans leS_total m) ?_
  exact (List.mergeSort_perm l leS).trans (h.trans (List.mergeSort_perm m leS).symm)
/-- each once -/
def ded : List Slot → List Slot
  | [] => []
  | x :: l => if x ∈ l then ded l else x :: ded l
theorem mem_ded {x : Slot} : ∀ {l : List Slot}, x ∈ ded l ↔ x ∈ l
  | [] => Iff.rfl
  | y :: l => by
    unfold ded
    split
    · rename_i h
      rw [mem_ded, List.mem_cons]
      exact ⟨.inr, fun z => z.elim (fun e => e ▸ h) id⟩
    · rw [List.mem_cons, List.mem_cons, mem_ded]
theorem nd_ded : ∀ l : List Slot, (ded l).Nodup
  | [] => List.nodup_nil
  | y :: l => by
    unfold ded
    split
    · exact nd_ded l
    · rename_i h
      exact List.nodup_cons.mpr ⟨fun z => h (mem_ded.mp z), nd_ded l⟩
theorem ded_len : ∀ l : List Slot, (ded l).length ≤ l.length
  | [] => Nat.le_refl _
  | y :: l => by
    unfold ded
    have := ded_len l
    split
    · exact Nat.le_succ_of_le this
    · exact Nat.succ_le_succ this
/-- what an Area keeps of the slots that it is given -/
def slotsOf (l : List Slot) : List Slot := (ded l).mergeSort leS
theorem mem_slotsOf {x : Slot} {l : List Slot} : x ∈ slotsOf l ↔ x ∈ l := by
  unfold slotsOf
  rw [(List.mergeSort_perm _ _).mem_iff, mem_ded]
theorem slotsOf_eq {l m : List Slot} (h : ∀ x, x ∈ l ↔ x ∈ m) : slotsOf l = slotsOf m :=
  sortS_perm ((List.perm_ext_iff_of_nodup (nd_ded l) (nd_ded m)).mpr fun x => by rw [mem_ded, mem_ded, h])
theorem slotsOf_len (l : List Slot) : (slotsOf l).length ≤ l.length := by
  unfold slotsOf
  rw [List.length_mergeSort]
  exact ded_len l
theorem merge_slots (l : List Slot) : (l.map slotD).mergeSort leD = (l.mergeSort leS).map slotD := by
  symm
  exact List.map_mergeSort (f := slotD) (r := leS) (s := leD) fun a _ b _ => rfl
/-! ### lists carried by a function -/
theorem perm_map {α β : Type} {f : α → β} {l m : List β} (h : l.Perm m) : ∀ {M : List α}, m = M.map f → ∃ L : List α, l = L.map f ∧ L.Perm M := by
  induction h with
  | nil => intro M e; exact ⟨M, e, .refl _⟩
  | cons x _ ih =>
    intro M e
    match M, e with
    | y :: M, e =>
      injection e with e1 e2
      obtain ⟨L, h1, h2⟩ := ih e2
      exact ⟨y :: L, by rw [List.map_cons, ← h1, e1], h2.cons y⟩
  | swap x y l =>
    intro M e
    match M, e with
    | a :: b :: M, e =>
      injection e with e1 e2
      injection e2 with e2 e3
      exact ⟨b :: a :: M, by rw [List.map_cons, List.map_cons, ← e1, ← e2, ← e3], .swap a b M⟩
  | trans _ _ ih1 ih2 =>
    intro M e
    obtain ⟨L, h1, h2⟩ := ih2 e
    obtain ⟨L', h3, h4⟩ := ih1 h1
    exact ⟨L', h3, h4.trans h2⟩
theorem lift_map {α β : Type} {f : α → β} {M : List α} : ∀ {l : List β}, (∀ x ∈ l, x ∈ M.map f) → ∃ L : List α, l = L.map f ∧ ∀ y ∈ L, y ∈ M
  | [], _ => ⟨[], rfl, fun _ h => nomatch h⟩
  | x :: l, h => by
    obtain ⟨y, hy, e⟩ := List.mem_map.mp (h x List.mem_cons_self)
    obtain ⟨L, h1, h2⟩ := lift_map fun z hz => h z (List.mem_cons_of_mem _ hz)
    exact ⟨y :: L, by rw [List.map_cons, ← h1, e], fun z hz => (List.mem_cons.mp hz).elim (fun q => q ▸ hy) (h2 z)⟩
end Lc
end
section
/-! Slots in the heap. -/
namespace Lc
open PySem L2
/-! ### slots in the heap -/
def slotK (s : Slot) : List Key := [.inr s.1, .inl s.2]
theorem slotK_inj {x y : Slot} (h : slotK x = slotK y) : x = y := by
  unfold slotK at h
  injection h with h1 h2
  injection h2 with h2 _
  injection h1 with h1
  injection h2 with h2
  exact Prod.ext h1 h2
def slG (p : Addr × Slot) : Addr × List Key := (p.1, slotK p.2)
def SlO (P : Program) (w : World) (a : Addr) (M : List (Addr × Slot)) : HO := .ext fun h => SetIs (mixKind P w) h a (M.map slG)
theorem slO_new {P : Program} {w : World} {H : Hp} {h : Heap} {a : Addr} {M : List (Addr × Slot)} (R : SetIs (mixKind P w) h a (M.map slG)) : ObjOk P w H h a (SlO P w a M) := by
  obtain ⟨o, es, ep, t, ho, r⟩ := id R
  exact ⟨R, ⟨o, ho⟩, fun h1 h2 p k => SetIs.keep p k⟩
theorem dp_slot {K : PySem.W.Frag} {H : Hp} {v : V} {s : Slot} (h : Dp K H v (slotD s)) : ∃ t, v = .ref t ∧ SqT K H t ((slotK s).map kV) := by
  obtain ⟨t, xs, rfl, hx, hd⟩ := dp_tuple (ds := [.str s.1, .int s.2]) h
  refine ⟨t, rfl, ?_⟩
  cases hd with
  | cons h1 t1 =>
    cases h1
    cases t1 with
    | cons h2 t2 =>
      cases h2
      cases t2
      exact hx
theorem dp_slots {K : PySem.W.Frag} {H : Hp} : ∀ {ss : List Slot} {xs : List V}, DpAll K H xs (ss.map slotD) → ∃ M : List (Addr × Slot), xs = M.map (fun p => V.ref p.1) ∧ M.map (·.2) = ss ∧ ∀ p ∈ M, Dp K H (.ref p.1) (slotD p.2)
  | [], [], .nil => ⟨[], rfl, rfl, fun _ h => nomatch h⟩
  | s :: ss, _ :: _, .cons h t => by
    obtain ⟨M, h1, h2, h3⟩ := dp_slots t
    obtain ⟨ad, rfl, _⟩ := dp_slot h
    exact ⟨(ad, s) :: M, by rw [h1]; rfl, by rw [List.map_cons, h2], fun p hp => (List.mem_cons.mp hp).elim (fun e => e ▸ h) (h3 p)⟩
theorem vals_refs : ∀ {M : List (Addr × Slot)} {us : List Value}, Vals (M.map fun p => V.ref p.1) us → us = M.map fun p => Value.ref p.1
  | [], _, .nil => rfl
  | p :: M, _, .cons r t => by
    cases r
    rw [vals_refs t]
    rfl
section
variable {X : Cx}
theorem inv_slot {pins : List (Addr × Obj)} {σ : L2.St} {H : Hp} {s : Shared} {t : Addr} {sl : Slot} (I : Inv X pins σ H s) (h : Dp X.K H (.ref t) (slotD sl)) : IsTupleKey (mixKind X.prog X.w) s.heap (slotK sl) t := by
  obtain ⟨t', e, hx⟩ := dp_slot h
  cases e
  obtain ⟨its, r, ⟨o, ho, hc, n, hd⟩, _⟩ := I.tuple hx
  exact ⟨o, its.toArray, n, ho, hc, hd, by simpa using items_are r⟩
def rSetSl (K : PySem.W.Frag) (P : Program) (w : World) : List V → Hp → VK → Prop := fun xs H Q => ∃ (l : Addr) (M : List (Addr × Slot)), xs = [V.ref l] ∧ SqT K H l (M.map fun p => V.ref p.1) ∧ (∀ p ∈ M, Dp K H (.ref p.1) (slotD p.2)) ∧ M.length < 64 ∧
  ∀ a M', H a = none → (∀ p ∈ M', p ∈ M) → (∀ x, x ∈ M'.map (·.2) ↔ x ∈ M.map (·.2)) → (M'.map (·.2)).Nodup → M'.length < 64 → Q (.ref a) (upd H a (SlO P w a M'))
theorem cr_setSl (hc : X.calm = true) (hu : X.A.units + 64 < cLine) : CallR X (.type "set") (rSetSl X.K X.prog X.w) := by
  intro pins s σ H xs us Q I r h
  obtain ⟨l, M, rfl, hl, hM, lim, q⟩ := h
  rw [Vals.ref1 r]
  obtain ⟨its, rv, tp, hz⟩ := I.tuple hl
  have hn : H s.heap.objs.size = none := I.hok.fresh (Nat.le_refl _)
  refine set_of_tup (kd := mixKind X.prog X.w) (ks := M.map slG) (I.ok.hd hc) (show s.heap.IsTuple l its.toArray from tp) ?_ (fun p hp => ?_) (by rw [List.length_map]; exact lim) (by omega) fun h' tk L hL c old => ?_
  · rw [List.map_map]
    show its = M.map fun p => Value.ref p.1
    exact vals_refs rv
  · obtain ⟨m, hm, rfl⟩ := List.mem_map.mp hp
    exact inv_slot I (hM m hm)
  · obtain ⟨M', rfl, sub⟩ := lift_map (f := slG) c.from_
    have keys : ∀ x, x ∈ M'.map (·.2) ↔ x ∈ M.map (·.2) := fun x => by
      have k := c.keys (slotK x)
      rw [List.take_length, List.map_map, List.map_map] at k
      have tr : ∀ N : List (Addr × Slot), slotK x ∈ N.map ((·.2) ∘ slG) ↔ x ∈ N.map (·.2) := fun N => by
        simp only [List.mem_map]
        exact ⟨fun ⟨p, hp, e⟩ => ⟨p, hp, slotK_inj e⟩, fun ⟨p, hp, e⟩ => ⟨p, hp, by rw [← e]; rfl⟩⟩
      rw [← tr, ← tr]
      exact k
    have hL' := hL
    obtain ⟨_, _, _, _, _, _, _, T⟩ := hL'
    have nd : (M'.map (·.2)).Nodup := by
      have d := T.diff
      rw [List.map_map] at d
      have e : M'.map ((·.2) ∘ slG) = (M'.map (·.2)).map slotK := by rw [List.map_map]; rfl
      rw [e] at d
      exact nodup_of_map d
    have sm := T.small
    rw [List.length_map] at sm
    exact ⟨.ref s.heap.objs.size, upd H s.heap.objs.size (SlO X.prog X.w s.heap.objs.size M'), I.laid (t' := tk) old (Nat.le_refl _) (slO_new hL), rfl, q _ M' hn sub keys nd sm⟩
end
end Lc
end
section
/-! Sorted lists of sets of slots. -/
namespace Lc
open PySem L2
section
variable {X : Cx}
/-- the values of slots -/
theorem each_slots {K : PySem.W.Frag} {H : Hp} : ∀ {M : List (Addr × Slot)}, (∀ p ∈ M, Dp K H (.ref p.1) (slotD p.2)) → PySem.W.EachIs (fun u d => ∃ v : V, RelV v u ∧ Dp K H v d) (M.map fun p => Value.ref p.1) (M.map fun p => slotD p.2)
  | [], _ => .nil
  | p :: M, h => .cons ⟨.ref p.1, rfl, h p List.mem_cons_self⟩ (each_slots fun q hq => h q (List.mem_cons_of_mem _ hq))
def rSortSl (K : PySem.W.Frag) (P : Program) (w : World) : List V → Hp → VK → Prop := fun vs H Q => ∃ (a : Addr) (M : List (Addr × Slot)), vs = [V.ref a] ∧ H a = some (SlO P w a M) ∧ (∀ p ∈ M, Dp K H (.ref p.1) (slotD p.2)) ∧ M.length < 64 ∧
  ∀ p xs (M' : List (Addr × Slot)), H p = none → M'.Perm M → DpAll K H xs ((M'.map fun p => slotD p.2).mergeSort leD) → Q (.ref p) (upd H p (.lst xs))
theorem cr_sortSl (hc : X.calm = true) (hu : X.A.units + 80 < cLine) : CallR X (.builtin "sorted") (rSortSl X.K X.prog X.w) := by
  intro pins s σ H vs us Q I r h
  obtain ⟨a, M, rfl, ha, hM, lim, q⟩ := h
  obtain ⟨o, es, ep, t, ho, hex, hd, T⟩ : SetIs (mixKind X.prog X.w) s.heap a (M.map slG) := (I.hok a _ ha).1
  have hsz : es.size < 64 := by rw [es_len T.it, List.length_map]; exact lim
  rw [Vals.ref1 r]
  refine PyProof.Rows.call_function_entry_kw PyProof.Rows.kind_sorted PyProof.Rows.plain_sorted PyProof.Rows.entry_sorted (PyProof.Rows.args_sorted1 _) ?_
  unfold Builtin.«sorted»
  refine wpAny_bind (m := checkCount "sorted" 1 1 _) (wpAny_pure ?_)
  refine wpAny_bind (collect_set (A := X.A.in1) (I.ok.hd hc) ⟨o, ho, hex.1, hd⟩ T.fits (by unfold scanBound; omega) T.ok.ris T.seen fun s1 out old big gn os pm => ?_)
  have refs : es.toList.map (·.2) = M.map fun p => Value.ref p.1 := by
    rw [T.it]
    unfold ents
    rw [List.map_map, List.map_map]
    rfl
  rw [refs] at pm
  obtain ⟨M1, rfl, pm1⟩ := perm_map pm rfl
  have hM1 : ∀ p ∈ M1, Dp X.K H (.ref p.1) (slotD p.2) := fun p hp => hM p (pm1.mem_iff.mp hp)
  have len1 : (M1.map fun p => Value.ref p.1).length < 64 := by rw [List.length_map, pm1.length_eq]; exact lim
  have small : (M1.map fun p => Value.ref p.1).length ≤ sizeLine := by rw [sizeLine_eq]; omega
  refine wpAny_bind (wpAny_newList ?_ small)
  have atL : (s1.heap.push (PyProof.Rows.seqObj "list" (M1.map fun p => Value.ref p.1).toArray 0)).get? s1.heap.objs.size = some (PyProof.Rows.seqObj "list" (M1.map fun p => Value.ref p.1).toArray 0) := Heap.get?_push_size _ rfl
  have each := each_slots hM1
  have hal : PySem.W.AllAlike (M1.map fun p => slotD p.2) := PySem.W.AllAlike.of fun b b' => rfl
  have hst : PySem.W.Sortable (M1.map fun p => slotD p.2) := PySem.W.Sortable.tuples fun b => ⟨_, _, rfl⟩
  generalize (M1.map fun p => Value.ref p.1) = its at each atL small ⊢
  have old1 : ∀ b u, s.heap.get? b = some u → (PySem.W.sortingHeap (s1.heap.push (PyProof.Rows.seqObj "list" its.toArray 0)) s1.heap.objs.size its).get? b = some u := fun b u e => by
    have e1 := old b u e
    exact PySem.W.sortingHeap_old (Nat.ne_of_lt (Heap.lt_size e1)) (Heap.get?_push_of_some _ e1)
  have I2 : Inv X pins σ H { s with heap := PySem.W.sortingHeap (s1.heap.push (PyProof.Rows.seqObj "list" its.toArray 0)) s1.heap.objs.size its } := I.kept (t' := s.toks) old1
  have eachR : PySem.W.EachIs (fun u d => ∃ as, Reads (PySem.W.sortingHeap (s1.heap.push (PyProof.Rows.seqObj "list" its.toArray 0)) s1.heap.objs.size its) u d as) its (M1.map fun p => slotD p.2) := each_imp (fun u d ⟨v, rv, hv⟩ => Dp.reads I2 d v u hv rv) each
  have SA := PySem.W.SortsAt.data (prog := X.prog) (w := X.w) (A := X.A.in1.in1) (s := { s1 with heap := PySem.W.sortingHeap (s1.heap.push (PyProof.Rows.seqObj "list" its.toArray 0)) s1.heap.objs.size its }) eachR hal hst fun d hd' => by
    obtain ⟨p, _, rfl⟩ := List.mem_map.mp hd'
    have e : (slotD p.2).depth = 1 := rfl
    show X.A.units + 1 + 1 + (slotD p.2).depth < cLine
    rw [e]
    omega
  refine wpAny_bind (wpAny_holding (PyProof.Rows.wpAny_call_entry_kw PyProof.Rows.slot_list_sort ⟨_, atL, rfl⟩ PyProof.Rows.entry_list_sort ?_ (PyProof.Rows.args_list_sort _)))
  refine PySem.W.list_sort_vals (s := { s1 with heap := s1.heap.push (PyProof.Rows.seqObj "list" its.toArray 0) }) atL SA small ⟨_, rfl, ?_⟩
  refine wpAny_pure ⟨_, rfl, ?_⟩
  have sorted := PySem.W.sortVals_each (κ := PySem.W.dataKind (PySem.W.sortingHeap (s1.heap.push (PyProof.Rows.seqObj "list" its.toArray 0)) s1.heap.objs.size its) (M1.map fun p => slotD p.2)) (rev := false) (ks := its) PySem.W.keyToks each (by
    have em := PySem.W.each_mem eachR
    exact each_imp (fun u d ⟨⟨as, r⟩, hm⟩ => PySem.W.dataKind_some hal hm r) em)
  obtain ⟨ys, hys, rys⟩ := dp_each sorted
  obtain ⟨ep', at'⟩ := PyProof.Rows.sortedHeap_at (vs := its) (out := (PySem.W.sortVals (PySem.W.dataKind (PySem.W.sortingHeap (s1.heap.push (PyProof.Rows.seqObj "list" its.toArray 0)) s1.heap.objs.size its) (M1.map fun p => slotD p.2)) false its its).toArray) atL
  have hfr : H s1.heap.objs.size = none := I.hok.fresh big
  have keep : ∀ b u, s.heap.get? b = some u → (PyProof.Rows.sortedHeap (s1.heap.push (PyProof.Rows.seqObj "list" its.toArray 0)) s1.heap.objs.size its (PySem.W.sortVals (PySem.W.dataKind (PySem.W.sortingHeap (s1.heap.push (PyProof.Rows.seqObj "list" its.toArray 0)) s1.heap.objs.size its) (M1.map fun p => slotD p.2)) false its its).toArray).get? b = some u := fun b u e => by
    have e1 := old b u e
    have lt := Heap.lt_size e1
    rw [PyProof.Rows.sortedHeap_old (Nat.ne_of_lt lt) (by rw [PyProof.Rows.size_push']; exact Nat.lt_succ_of_lt lt)]
    exact Heap.get?_push_of_some _ e1
  generalize PyProof.Rows.sortedHeap (s1.heap.push (PyProof.Rows.seqObj "list" its.toArray 0)) s1.heap.objs.size its (PySem.W.sortVals (PySem.W.dataKind (PySem.W.sortingHeap (s1.heap.push (PyProof.Rows.seqObj "list" its.toArray 0)) s1.heap.objs.size its) (M1.map fun p => slotD p.2)) false its its).toArray = h2 at at' keep ⊢
  have lenY : ys.length ≤ sizeLine := by
    have l1 := dpAll_len hys
    rw [List.length_mergeSort, List.length_map] at l1
    rw [l1, pm1.length_eq, sizeLine_eq]
    omega
  have J : Inv X pins σ (upd H s1.heap.objs.size (.lst ys)) { s with heap := h2, gens := s1.gens, drawn := s1.drawn, toks := s1.toks } :=
    I.call (ch := []) (Un.laid keep big hfr) (I.hok.laid keep big ⟨lenY, _, ep', rys, at'⟩) (by rw [gn]; exact I.bare) (fun _ z => nomatch z)
  have fin : ({ s1 with heap := h2 } : Shared) = { s with heap := h2, gens := s1.gens, drawn := s1.drawn, toks := s1.toks } := by
    cases s1
    cases s
    cases os
    rfl
  show ∃ v H', Inv X pins σ H' { s1 with heap := h2 } ∧ _
  rw [fin]
  exact ⟨.ref s1.heap.objs.size, _, J, rfl, q _ ys M1 hfr pm1 hys⟩
end
end Lc
end
section
/-! set(x) of a tuple of slots, sorted(..) of such a set, as rules. -/
namespace Lc
open PySem L2
def setE (K : PySem.W.Frag) (P : Program) (w : World) (ss : List Slot) : Ent := ⟨fun v H => ∃ a M, v = .ref a ∧ H a = some (SlO P w a M) ∧ (∀ p ∈ M, Dp K H (.ref p.1) (slotD p.2)) ∧ (M.map (·.2)).Nodup ∧ (∀ x, x ∈ M.map (·.2) ↔ x ∈ ss) ∧ M.length < 64, fun s h => by
  obtain ⟨a, M, h1, h2, h3, h4⟩ := h
  exact ⟨a, M, h1, s _ _ h2, fun p hp => dp_mono s (h3 p hp), h4⟩⟩
section
variable {ρ : Rho} {X : Cx} {a : Expr} {k : Nat} {pos pp : Pos}
theorem de_setSl {ss : List Slot} (B : Bt X.mg) (g : Gx X k) (ha : DE X ρ a (dat X.K (slotsD ss))) (hz : ss.length < 64) (hg : Gl X "set" := by rfl) (hs : starEach [a] X.env = (false, eval a X.env) :: starEach [] X.env := by rfl) :
    DE X ρ (.Call (.Name "set" pp) [a] [] pos) (setE X.K X.prog X.w ss) :=
  de_callTy (cr_setSl g.calm (by have := g.room.un; omega)) hg B.set (by decide +kernel) (da_cons ha da_nil hs) (he := hs) fun vs H Q h z => by
    obtain ⟨v, rfl, hv⟩ := a1 h
    obtain ⟨l, xs, rfl, hx, hd⟩ := dp_tuple (ds := ss.map slotD) hv
    obtain ⟨M, rfl, rfl, hM⟩ := dp_slots hd
    refine ⟨l, M, rfl, hx, hM, by rw [List.length_map] at hz; exact hz, fun b M' hb sub mem nd lt => z _ _ (Same.new hb) ⟨b, M', rfl, upd_same, fun p hp => dp_mono (Same.new hb) (hM p (sub p hp)), nd, mem, lt⟩⟩
theorem de_sortSl {ss : List Slot} (B : Bt X.mg) (g : Gx X k) (ha : DE X ρ a (setE X.K X.prog X.w ss)) (hg : Gl X "sorted" := by rfl) (hs : starEach [a] X.env = (false, eval a X.env) :: starEach [] X.env := by rfl) :
    DE X ρ (.Call (.Name "sorted" pp) [a] [] pos) (lstE X.K ((slotsOf ss).map slotD)) :=
  de_callB (cr_sortSl g.calm (by have := g.room.un; omega)) hg B.sorted (by decide +kernel) (da_cons ha da_nil hs) (he := hs) fun vs H Q h z => by
    obtain ⟨v, rfl, b, M, rfl, hb, hM, nd, mem, lt⟩ := a1 h
    refine ⟨b, M, rfl, hb, hM, lt, fun p xs M' hp pm hx => z _ _ (Same.new hp) ⟨p, xs, rfl, upd_same, dpAll_mono (Same.new hp) ?_⟩⟩
    have e : (M'.map fun p => slotD p.2) = (M'.map (·.2)).map slotD := by rw [List.map_map]; rfl
    rw [e, merge_slots] at hx
    have q : (M'.map (·.2)).mergeSort leS = slotsOf ss := sortS_perm ((List.perm_ext_iff_of_nodup ((pm.map (·.2)).nodup_iff.mpr nd) (nd_ded ss)).mpr fun x => by rw [(pm.map (·.2)).mem_iff, mem, mem_ded])
    rw [q] at hx
    exact hx
end
end Lc
end
section
/-! The class Area. -/
namespace Lc
open PySem L2 TL
structure SlotOk (s : Slot) : Prop where
  name : NameOk s.1
  day : 0 ≤ s.2
theorem nl_slotsD (l : List Slot) : nl (slotsD l) = true := by
  unfold slotsD
  simp only [nl]
  exact nlAll_map _ _ fun p _ => rfl
theorem nb_slotD (s : Slot) : nb (slotD s) = true := rfl
theorem pl_slotD (s : Slot) : Pl (slotD s) := ⟨rfl, Nat.le_of_ble_eq_true rfl⟩
theorem pl_slotsD (l : List Slot) : Pl (slotsD l) := by
  refine ⟨?_, ?_⟩
  · unfold slotsD
    simp only [nb]
    exact nbAll_map _ _ fun p _ => rfl
  · have := depthAll_map slotD 1 l fun p _ => Nat.le_refl _
    unfold slotsD
    simp only [PyData.depth]
    omega
theorem slotD_inj {x y : Slot} (h : slotD x = slotD y) : x = y := by
  unfold slotD at h
  injection h with h
  injection h with h1 h2
  injection h2 with h2 _
  injection h1 with h1
  injection h2 with h2
  exact Prod.ext h1 h2
theorem mem_slotD {x : Slot} {l : List Slot} : slotD x ∈ l.map slotD ↔ x ∈ l := by
  rw [List.mem_map]
  exact ⟨fun ⟨y, hy, e⟩ => slotD_inj e ▸ hy, fun h => ⟨x, h, rfl⟩⟩
section
variable {P : Program} {w : World} {K : PySem.W.Frag} {mg : Str → Option Value} {base : Heap} {CA CW CB : Addr}
inductive FAreaInit (K : PySem.W.Frag) (CA : Addr) : FnM
  | mk (a : Addr) (l : List Slot) (hl : ∀ s ∈ l, SlotOk s) (hz : l.length < 64) : FAreaInit K CA [val (.ref a), dat K (slotsD l)] (dat K .none) a (insS CA a []) (ArSt K CA a (slotsOf l))
theorem ok_Area_init (T : TxtB K mg CA CW CB) : GInit P w K mg base CA 4 (FAreaInit K CA) :=
  ginit_mk (N := ["self", "slots", "k", "slot"]) (k := 3) T.i_Area ["self", "slots"] ⟨rfl, rfl, rfl, by decide +kernel, rfl, by decide +kernel, by decide +kernel⟩ (fun _ _ _ _ _ _ us hl => match us, hl with | [_, _], _ => rfl) (fun _ _ _ _ _ h => by cases h <;> rfl) fun f cdv A outer s H E0 g Es E a Ta Tb hF H0 hT0 => by
    cases hF with
    | mk a l hl hz =>
      have sr : ∀ S : Sta, SR CA a S (wipeR (startR ["self", "slots", "k", "slot"] [val (.ref a), dat K (slotsD l)]) [2, 3]) := fun S =>
        SR.wipe (SR.start (.cons ke_val.se (.cons (ke_dat (nl_slotsD _)).se .nil))) _
      refine .inr ⟨_, mn_cons (ms_of (ds_skip (dt_is (dt_not (dt_val (de_isTuple T.B (d := .tuple (l.map slotD)) (de_var 1)))) rfl)) .refl) <|
        mn_cons (ms_of (ds_each g (xs := l.zipIdx) (f0 := fun q => .tuple [.int (q.2 : Nat), slotD q.1]) [2, 3] PassesOwn.never (di_is (di_enumT T.B (de_var 1)) (enumD_map _ _)) (pg_tupK (K := K) (m := 2) rfl (pgs_cons (pg_name (i := 2) (by exact g.nd) rfl (by first | exact Or.inl rfl | exact Or.inr rfl)) (pgs_cons (pg_name (i := 3) (by exact g.nd) rfl (by first | exact Or.inl rfl | exact Or.inr rfl)) pgs_nil))) (fun x _ => gb_tup (gbs_cons (gbn 2) (gbs_cons (gbn 3) gbs_nil)) rfl)
          (fun q hq => lb <| dn_one (ds_skip (dt_is (dt_not (dt_val (de_call (ok_is_slot T.toTxt) g (da_cons (de_var 3) da_nil) (.mk q.1.1 q.1.2 (hl q.1 (List.fst_mem_of_mem_zipIdx hq)).name (hl q.1 (List.fst_mem_of_mem_zipIdx hq)).day)))) rfl)))) .refl) <|
        mn_one (ms_fld (S' := Fr CA a H0 (ArSt K CA a (slotsOf l))) T.c_Area T.na_CA_own_slots (sr _) (de_var 0) (de_tupleL T.B (de_ld (de_sortSl T.B g (de_setSl T.B g (de_var 1) hz)))) .refl (fun H hh => ?_) (fun H u dx fs hh i ha => ?_)), rfl⟩
      · obtain ⟨⟨dx, hh⟩, _⟩ := hh
        exact ⟨dx, _, hh, Nat.le_of_ble_eq_true rfl⟩
      · obtain ⟨⟨dx', hh⟩, h3⟩ := hh
        rw [ha] at hh
        cases hh
        have kp : Kp CA a H (upd H a (.ins CA dx (putF "own_slots" u []))) := kp_upd ha fun q => q rfl
        exact ⟨⟨_, u, upd_same, ke_dat (nl_slotsD (slotsOf l)) _ _ _ kp.keep i⟩, h3.trans kp⟩
inductive FIsApart (K : PySem.W.Frag) (CA : Addr) : Fn
  | mk (l m : List Slot) (h : l.length ≤ 1000) : FIsApart K CA [areaE K CA l, areaE K CA m] (dat K (.bool (!l.any fun s => decide (s ∈ m))))
theorem ok_Area_is_apart (T : TxtB K mg CA CW CB) : GMeth P w K mg base CA "is_apart" 1 (FIsApart K CA) :=
  gmeth_mk (N := ["self", "other", "slot"]) (k := 0) T.m_Area_is_apart ["self", "other"] ⟨rfl, rfl, rfl, by decide +kernel, rfl, by decide +kernel, by decide +kernel⟩ (fun _ _ _ _ _ _ us hl => match us, hl with | [_, _], _ => rfl) (fun _ _ h => by cases h <;> rfl) fun f cdv A outer s H E0 g Es E hF => by
    cases hF with
    | mk l m h =>
      refine .inl (dr_ret (de_not (de_anyX T.B g (de_lcA g (xs := l) (f0 := slotD) (fun s => .bool (decide (s ∈ m))) (di_T (de_fld T.c_Area T.na_CA_own_slots ar_slots (de_var 0))) (blkOk_by (own := [("slot", 2)]) (N := ["self", "other", "slot"]) (sc := defScope (inClass (top 26) 4)) (by decide +kernel)) (fun _ _ _ _ _ => (pg_name (i := 2) (by exact g.nd) rfl (by first | exact Or.inl rfl | exact Or.inr rfl))) (fun x _ => gbn 2)
        (fun _ _ _ _ _ s hs => ?_) (fun _ _ => rfl) (by omega)))))
      classical
      exact de_b (de_c (dc_inT (ds := m.map slotD) (g.blk _ _ _ _ _) (de_var 2) (de_fld T.c_Area T.na_CA_own_slots ar_slots (de_var 1)) (pl_slotD s) (nbAll_map _ _ fun p _ => nb_slotD p))) (decide_eq_decide.mpr mem_slotD)
inductive FAreaHas (K : PySem.W.Frag) (CA : Addr) : Fn
  | mk (l : List Slot) (s : Slot) (h : SlotOk s) : FAreaHas K CA [areaE K CA l, dat K (slotD s)] (dat K (.bool (decide (s ∈ l))))
theorem ok_Area_contains (T : TxtB K mg CA CW CB) : GMeth P w K mg base CA "__contains__" 4 (FAreaHas K CA) :=
  gmeth_mk (N := ["self", "thing"]) (k := 3) T.m_Area_contains ["self", "thing"] ⟨rfl, rfl, rfl, by decide +kernel, rfl, by decide +kernel, by decide +kernel⟩ (fun _ _ _ _ _ _ us hl => match us, hl with | [_, _], _ => rfl) (fun _ _ h => by cases h <;> rfl) fun f cdv A outer s H E0 g Es E hF => by
    cases hF with
    | mk l s h =>
      refine .inl (dr_ret (de_andT (de_call (ok_is_slot T.toTxt) g (da_cons (de_var 1) da_nil) (.mk s.1 s.2 h.name h.day)) (de_one ?_)))
      classical
      exact de_b (de_c (dc_inT (ds := l.map slotD) g (de_var 1) (de_fld T.c_Area T.na_CA_own_slots ar_slots (de_var 0)) (pl_slotD s) (nbAll_map _ _ fun p _ => nb_slotD p))) (decide_eq_decide.mpr mem_slotD)
open Classical in
noncomputable def slEq (l m : List Slot) : Bool := decide (slotsD l = slotsD m)
inductive FAreaEq (K : PySem.W.Frag) (CA : Addr) : Fn
  | mk (l m : List Slot) : FAreaEq K CA [areaE K CA l, areaE K CA m] (dat K (.bool (slEq l m)))
theorem ok_Area_eq (T : TxtB K mg CA CW CB) : GMeth P w K mg base CA "__eq__" 1 (FAreaEq K CA) :=
  gmeth_mk (N := ["self", "other"]) (k := 0) T.m_Area_eq ["self", "other"] ⟨rfl, rfl, rfl, by decide +kernel, rfl, by decide +kernel, by decide +kernel⟩ (fun _ _ _ _ _ _ us hl => match us, hl with | [_, _], _ => rfl) (fun _ _ h => by cases h <;> rfl) fun f cdv A outer s H E0 g Es E hF => by
    cases hF with
    | mk l m => exact .inl (dr_ret (de_andT (de_isOwn T.B T.ic_Area (de_var 1) ar_ins (de_gcls T.g_Area)) (de_one (de_c (dc_eq g (de_fld T.c_Area T.na_CA_own_slots ar_slots (de_var 0)) (de_fld T.c_Area T.na_CA_own_slots ar_slots (de_var 1)) (pl_slotsD l) (pl_slotsD m))))))
theorem ok_Area_iter (T : TxtB K mg CA CW CB) : GIter P w K mg base CA "own_slots" :=
  giter_mk T.m_Area_iter ⟨rfl, rfl, rfl, by decide +kernel, rfl, by decide +kernel, by decide +kernel⟩ (fun _ _ _ _ _ _ us hl => match us, hl with | [_], _ => rfl) fun f cdv A outer s H hd => by
    refine ⟨_, pss_one (ps_ret (pe_callB call_iterT (by rfl) T.B.iter (by decide +kernel) (pa_cons (pe_fld (pe_var (i := 0) rfl (.inl rfl) (by decide) (by decide)) rfl) pa_nil (by rfl)) (by decide) (by decide) (by rfl) (by rfl))), fun p dx fs l zs Q hp hl hz q => ?_⟩
    exact ⟨.ref p, rfl, p, CA, dx, fs, .ref l, rfl, hp, T.c_Area, T.na_CA_own_slots, hl, l, zs, rfl, hz, q⟩
end
end Lc
end
section
/-! Areas made: box, the union, Book.area. -/
namespace Lc
open PySem L2 TL
section
variable {P : Program} {w : World} {K : PySem.W.Frag} {mg : Str → Option Value} {base : Heap} {CA CW CB : Addr}
structure SlotsOk (l : List Slot) : Prop where
  ok : ∀ s ∈ l, SlotOk s
  few : l.length < 64
inductive FBox (K : PySem.W.Frag) (CA : Addr) : Fn
  | mk (names : List Str) (first last : Int) (hb : BoxOk names first last) (hx : first ≤ last) (h : SlotsOk (boxOf names first last)) : FBox K CA [dat K (strsD names), dat K (.int first), dat K (.int last)] (areaE K CA (slotsOf (boxOf names first last)))
theorem ok_Area_box (T : TxtB K mg CA CW CB) : GSm P w K mg base CA "box" 6 (FBox K CA) :=
  gsm_mk (N := ["purses", "first", "last", "name", "day"]) (k := 5) T.s_box ["purses", "first", "last"] ⟨rfl, rfl, rfl, by decide +kernel, rfl, by decide +kernel, by decide +kernel⟩ (fun _ _ _ _ _ _ us hl => match us, hl with | [_, _, _], _ => rfl) (fun _ _ h => by cases h <;> rfl) fun f cdv A outer s H E0 g Es E hF => by
    cases hF with
    | mk names first last hb hx h =>
      have h1 := hb.few
      have h2 := hb.lo
      have h3 := hb.hi
      exact .inl (dr_ret (de_make (ok_Area_init T) g T.g_Area (da_cons (de_is (de_tupleL T.B (de_ld (de_lc2 g (xs := names) (f0 := PyData.str) (fun _ => List.range (last + 1 - first).toNat) (fun _ (i : Nat) => .int (first + (i : Int))) (fun n (i : Nat) => slotD (n, first + (i : Int))) (vs1 := [4]) (m := 1001) (di_T (de_var 0)) (blkOk_by (own := [("name", 3), ("day", 4)]) (N := ["purses", "first", "last", "name", "day"]) (sc := defScope (inClass (top 26) 1)) (by decide +kernel)) (by decide) (fun _ _ _ _ _ => (pg_name (i := 3) (by exact g.nd) rfl (by first | exact Or.inl rfl | exact Or.inr rfl))) (fun x _ => gbtn 3 rfl)
          (fun _ _ _ _ _ x hx => dit_is (dit_range2 T.B (by omega) (by omega) (by omega) (by omega) rfl (de_var 1) (de_add (de_var 2) de_int)) (range_ints _ _)) (fun _ _ _ _ _ => (pg_name (i := 4) (by exact g.nd) rfl (by first | exact Or.inl rfl | exact Or.inr rfl))) (fun x _ y _ => gbn 4)
          (fun _ _ _ _ _ x hx y hy => de_tup (dd_cons (de_var 3) (dd_cons (de_var 4) dd_nil))) (fun _ _ _ _ => rfl) (fun x _ => by rw [List.length_range]; omega) (by omega)))) (congrArg PyData.tuple (box_eq _ _ _))) da_nil) (fun a => ArSt K CA a (slotsOf (boxOf names first last))) (fun a => .mk a _ h.ok h.few) (fun a H t => ⟨a, rfl, t⟩)))
inductive FAreaOr (K : PySem.W.Frag) (CA : Addr) : Fn
  | mk (l m : List Slot) (h : SlotsOk (l ++ m)) : FAreaOr K CA [areaE K CA l, areaE K CA m] (areaE K CA (slotsOf (l ++ m)))
theorem ok_Area_or (T : TxtB K mg CA CW CB) : GMeth P w K mg base CA "__or__" 6 (FAreaOr K CA) :=
  gmeth_mk (N := ["self", "other"]) (k := 5) T.m_Area_or ["self", "other"] ⟨rfl, rfl, rfl, by decide +kernel, rfl, by decide +kernel, by decide +kernel⟩ (fun _ _ _ _ _ _ us hl => match us, hl with | [_, _], _ => rfl) (fun _ _ h => by cases h <;> rfl) fun f cdv A outer s H E0 g Es E hF => by
    cases hF with
    | mk l m h =>
      refine .inl (dr_ret (de_make (ok_Area_init T) g T.g_Area (da_cons (de_is (de_tup (ds := l.map slotD ++ (m.map slotD ++ [])) (dd_starT (de_fld T.c_Area T.na_CA_own_slots ar_slots (de_var 0)) (dd_starT (de_fld T.c_Area T.na_CA_own_slots ar_slots (de_var 1)) dd_nil)) ?_) ?_) da_nil) (fun a => ArSt K CA a (slotsOf (l ++ m))) (fun a => .mk a _ h.ok h.few) (fun a H t => ⟨a, rfl, t⟩)))
      · have := h.few
        rw [List.length_append] at this
        simp only [List.length_append, List.length_map, List.length_nil]
        omega
      · unfold slotsD
        rw [List.append_nil, List.map_append]
inductive FAreaLen (K : PySem.W.Frag) (CA : Addr) : Fn
  | mk (l : List Slot) : FAreaLen K CA [areaE K CA l] (dat K (.int (l.length : Nat)))
theorem ok_Area_len (T : TxtB K mg CA CW CB) : GMeth P w K mg base CA "__len__" 1 (FAreaLen K CA) :=
  gmeth_mk (N := ["self"]) (k := 0) T.m_Area_len ["self"] ⟨rfl, rfl, rfl, by decide +kernel, rfl, by decide +kernel, by decide +kernel⟩ (fun _ _ _ _ _ _ us hl => match us, hl with | [_], _ => rfl) (fun _ _ h => by cases h <;> rfl) fun f cdv A outer s H E0 g Es E hF => by
    cases hF with
    | mk l => exact .inl (dr_ret (de_is (de_lenT T.B (ds := l.map slotD) (de_fld T.c_Area T.na_CA_own_slots ar_slots (de_var 0))) (by rw [List.length_map])))
inductive FBookArea (K : PySem.W.Frag) (CA CB : Addr) : Fn
  | mk (b : Bk) (i : Nat) (l : Limit) (hl : b.limits[i]? = some l) (hb : BoxOk l.names l.first l.last) (hx : l.first ≤ l.last) (h : SlotsOk (areaOf l)) : FBookArea K CA CB [bookE K CB b, dat K (.int (i : Nat))] (areaE K CA (slotsOf (areaOf l)))
theorem ok_Book_area (T : TxtB K mg CA CW CB) : GMeth P w K mg base CB "area" 6 (FBookArea K CA CB) :=
  gmeth_mk (N := ["self", "k"]) (k := 5) T.m_Book_area ["self", "k"] ⟨rfl, rfl, rfl, by decide +kernel, rfl, by decide +kernel, by decide +kernel⟩ (fun _ _ _ _ _ _ us hl => match us, hl with | [_, _], _ => rfl) (fun _ _ h => by cases h <;> rfl) fun f cdv A outer s H E0 g Es E hF => by
    cases hF with
    | mk b i l hl hb hx h =>
      exact .inl (dr_ret (de_make (ok_Area_init T) g T.g_Area (da_cons (de_call (ok_area_of T.toTxt) g (da_cons (de_fld T.c_Book T.na_CB_own_book bk_book (de_var 0)) (da_cons (de_var 1) da_nil)) (.mk b i l (by omega) hl hb hx)) da_nil) (fun a => ArSt K CA a (slotsOf (areaOf l))) (fun a => .mk a _ h.ok h.few) (fun a H t => ⟨a, rfl, t⟩)))
end
end Lc
end
section
/-! Lc: a generator whose body is one loop that hands out a value a turn. Its consumer keeps a list at S and its own names at C. -/
namespace Lc
open PySem L2 PySem.Spec PyProof.Rows GenW

/-- what may happen while it sleeps -/
structure Slp (C S : Addr) (v : Value) (s s' : Shared) : Prop where
  os : s'.os = s.os
  bare : AllBare s'.gens
  rest : ∀ q o, q ≠ S → q ≠ C → s.heap.get? q = some o → s'.heap.get? q = some o
  more : ∀ its n, s.heap.get? S = some (lstObj its n) → ∃ n', s'.heap.get? S = some (lstObj (its.push v) n')
  names : ∀ m, s.heap.Ns C m → ∃ m', s'.heap.Ns C m'
/-- younger than the generator's call, none of its own -/
structure Far (X : Cx) (q : Addr) : Prop where
  young : X.s_0.heap.objs.size ≤ q
  loc : q ≠ X.env.locals
  cell : ∀ x c, X.env.cells.lookup x = some c → c ≠ q
  pn : ∀ p ∈ X.pn, p.1 ≠ q
/-- the consumer's pins -/
abbrev cpin (C S : Addr) (its : Array Value) (n : Nat) (oc : Obj) (ip : List (Addr × Obj)) : List (Addr × Obj) := (S, lstObj its n) :: (C, oc) :: ip
/-- it runs; zs is out -/
def GF (X : Cx) (C S : Addr) (ip : List (Addr × Obj)) (zs : List V) (σ : L2.St) (H : Hp) (s : Shared) : Prop :=
  ∃ (its : Array Value) (n : Nat) (oc : Obj), Vals zs its.toList ∧ (∃ m, s.heap.Ns C m) ∧ Inv X (cpin C S its n oc ip) σ H s
section
variable {X : Cx} {C S : Addr} {ip : List (Addr × Obj)} {zs : List V} {σ : L2.St} {H : Hp} {s s' : Shared}
theorem cpin_at {its : Array Value} {n : Nat} {oc : Obj} (I : Inv X (cpin C S its n oc ip) σ H s) : (s.heap.get? S = some (lstObj its n) ∧ H S = none ∧ S ≠ X.env.locals ∧ S ∉ X.fs) ∧ (s.heap.get? C = some oc ∧ H C = none ∧ C ≠ X.env.locals ∧ C ∉ X.fs) := by
  have a := I.pin (S, lstObj its n) (List.mem_append_right _ List.mem_cons_self)
  have b := I.pin (C, oc) (List.mem_append_right _ (List.mem_cons_of_mem _ List.mem_cons_self))
  exact ⟨⟨a.1, a.2.1, a.2.2.1, a.2.2.2.1⟩, ⟨b.1, b.2.1, b.2.2.1, b.2.2.2.1⟩⟩
theorem ns_obj {h : Heap} {m : Str → Option Value} (n : h.Ns C m) : ∃ o, h.get? C = some o ∧ ∀ v, o.data ≠ .cell v := by
  obtain ⟨o, es, ep, ho, hd, _⟩ := n
  exact ⟨o, ho, fun v z => by rw [hd] at z; cases z⟩
theorem GF.wake {x : V} {v : Value} (g : GF X C S ip zs σ H s) (fS : Far X S) (fC : Far X C) (hne : S ≠ C) (hip : ∀ p ∈ ip, p.1 ≠ S ∧ p.1 ≠ C) (rv : RelV x v) (z : Slp C S v s s') : GF X C S ip (zs ++ [x]) σ H s' := by
  obtain ⟨its, n, oc, rz, ⟨m0, hm0⟩, I⟩ := g
  obtain ⟨⟨eS, nS, lS, fS'⟩, eC, nC, lC, fC'⟩ := cpin_at I
  have I0 : Inv X ip σ H s := I.pins_of fun p hp => I.pin p (List.mem_append_right _ (List.mem_cons_of_mem _ (List.mem_cons_of_mem _ hp)))
  obtain ⟨z1, z2, z3, z4, z5⟩ := z
  obtain ⟨n', eS2⟩ := z4 its n eS
  obtain ⟨m1, hm1⟩ := z5 m0 hm0
  obtain ⟨oc2, eC2, dC2⟩ := ns_obj hm1
  obtain ⟨hh, gg, dd, tt, oo⟩ := s'
  have ho : oo = s.os := z1
  subst ho
  have out : ∀ q, q ∉ [S, C] → q ≠ S ∧ q ≠ C := fun q hq => by
    simp only [List.mem_cons, List.not_mem_nil, or_false, not_or] at hq
    exact hq
  have known : ∀ q u, H q = some u → q ≠ S ∧ q ≠ C := fun q u e => ⟨fun k => (by rw [k, nS] at e; cases e), fun k => (by rw [k, nC] at e; cases e)⟩
  have J : Inv X ip σ H { s with heap := hh, gens := gg, drawn := dd, toks := tt } := by
    refine I0.step (g' := gg) (t' := tt) (d' := dd) (ch := [S, C]) (fun q hq => ?_) (fun q o _ _ hc e _ => z3 q o (out q hc).1 (out q hc).2 e) (fun q o _ _ hc e _ => ⟨o.slots, z3 q o (out q hc).1 (out q hc).2 e⟩)
      (fun _ _ _ _ k => k) (fun q o hc e => ⟨o, z3 q o (out q hc).1 (out q hc).2 e⟩) (fun _ _ e => e) (fun _ _ _ e => e) (fun q ps e => ⟨#[], by rw [e]; simp⟩) (fun m hm => ?_) (fun q u e => ?_) z2
    · rcases List.mem_cons.mp hq with e | e
      · rw [e]
        refine ⟨.inr fS.young, fS.loc, fS.cell, fun p hp => ?_⟩
        rcases List.mem_append.mp hp with k | k
        · exact fS.pn p k
        · exact (hip p k).1
      · rw [List.mem_singleton.mp e]
        refine ⟨.inr fC.young, fC.loc, fC.cell, fun p hp => ?_⟩
        rcases List.mem_append.mp hp with k | k
        · exact fC.pn p k
        · exact (hip p k).2
    · exact hm.at' fun o e => z3 _ o (Ne.symm lS) (Ne.symm lC) e
    · refine (I0.hok q u e).stay (fun c v hc y => ?_) (fun _ y => y) fun _ _ y => y
      rcases hc with k | k
      · rw [k] at y ⊢; exact z3 _ v (known _ _ e).1 (known _ _ e).2 y
      · exact z3 c v (known _ _ k).1 (known _ _ k).2 y
  refine ⟨its.push v, n', oc2, ?_, ⟨m1, hm1⟩, J.pins_of fun p hp => ?_⟩
  · rw [Array.toList_push]
    exact rz.append (.cons rv .nil)
  · rcases List.mem_cons.mp hp with e | hp
    · rw [e]
      exact ⟨eS2, nS, lS, fS', fun v q => by cases q⟩
    · rcases List.mem_cons.mp hp with e | hp
      · rw [e]
        exact ⟨eC2, nC, lC, fC', dC2⟩
      · exact J.pin p (List.mem_append_right _ hp)
end
/-- a value is handed out -/
def GYc (X : Cx) (C S : Addr) : Protocol := fun n _ v s kap =>
  ∃ zs x ip σ H, n + 1 + zs.length = sizeLine ∧ RelV x v ∧ GF X C S ip zs σ H s ∧ ∀ s', Slp C S v s s' → kap (.send .none) s'
/-- its end -/
def GRc (X : Cx) (C S : Addr) (Q : List V → Hp → Prop) : GenEnd := fun _ _ r s => r = .ok (.ret .none) ∧ ∃ zs σ H, zs.length ≤ sizeLine ∧ GF X C S [] zs σ H s ∧ Q zs H
end Lc
end
section
/-! Lc: the generator's body: for target in iterable: yield value. -/
namespace Lc
open PySem L2 PySem.Spec PyProof.Rows GenW

section
variable {X : Cx} {C S : Addr} {A : Around} {ρ : Rho} {tg iter e : Expr} {pos p2 yp : Pos} {k : Nat} {α : Type}
theorem over_for {env : Env} {st : List Stmt} {it : Value} {body : List Stmt} {kk : Result → Sem PySem.Fin} {p : Pos} : A.over (.forLoop tg it body [] env) [.ret kk none false [] (.func st env) p []] = A.deeper env :=
  (over_loop (A := A) (c := .func st env) (fs := []) (by rfl) (by rfl)).trans over_func
/-- the loop's body of a generator's def -/
abbrev yBody (tg iter e : Expr) (pos p2 yp : Pos) : List Stmt := [.For tg iter [.Expr (.Yield (some e) yp) p2] [] pos]
theorem seg_loopY (gc : Gx X k) (hA : A.deeper X.env = X.A) (nx : ∀ v s, ¬ X.xe v s) (fS : Far X S) (fC : Far X C) (hne : S ≠ C) {xs : List α} {f0 v : α → D} (ws : List Nat) {g : TG} {js : List Nat} {f : α → Rho → Rho}
    (hi : DID X ρ tg iter (xs.map f0)) (hg : PG X tg g) (hgb : ∀ x ∈ xs, GB X.N.length g (dat X.K (f0 x)) js (f x)) (hjs : ∀ j ∈ js, j ∈ ws) (he : ∀ x ∈ xs, DE X (f x (wipeR ρ ws)) e (dat X.K (v x))) (hz : xs.length ≤ 1000000) (hs : ∀ x, foldedSetIterable iter X.env x = pure x) (hco : X.env.scope.isCoroutine = false) (hin : interactive X.env = false)
    {Q : List V → Hp → Prop} {σ : L2.St} {H : Hp} {s s₀ : Shared} (hE : EnvOk σ H ρ) (hG : GF X C S [] [] σ H s) (hQ : ∀ zs H', Same H H' → DpAll X.K H' zs (xs.map v) → Q zs H') :
    Seg (model X.prog X.w) A (GRc X C S Q) (GYc X C S) sizeLine s₀ (.func (yBody tg iter e pos p2 yp) X.env) ((model X.prog X.w).den (.func (yBody tg iter e pos p2 yp) X.env)) [] s := by
  have big : xs.length < sizeLine := Nat.lt_of_le_of_lt hz (by decide)
  refine seg_func (seg_execs_cons ?_)
  rw [exec_For]
  refine seg_bind_wrap (wpAny_standAt (seg_bind_wrap ?_))
  rw [over_func, hA]
  obtain ⟨its0, n0, oc0, rz0, hns0, I0⟩ := hG
  refine wpAny_mono (hi.run _ s σ H (fun J H1 => Same H H1 ∧ Wk J H1 ((xs.map f0).map (dat X.K))) I0 ⟨hE, fun J H1 s1 W => ⟨s1, W⟩⟩) (fun u s1 hu => ?_) fun y s' hx => (nx y s' hx).elim
  refine seg_bind_wrap (wpAny_of_eq (hs u) (seg_bind_wrap (wpAny_standAt (seg_bind_wrap (wpAny_holding ?_)))))
  rw [over_func, hA]
  refine wpAny_mono hu (fun itv s2 h2 => ?_) fun y s' hx => (nx y s' hx).elim
  obtain ⟨it, fp, tn, J, H2, ei, I2, T, st2, f2, sm2, W⟩ := h2
  subst ei
  refine seg_call fun p => ?_
  -- addresses of the consumer are none of the iterator's
  have apart : ∀ q ∈ fp, S ≠ q ∧ C ≠ q ∧ ∀ p ∈ X.pn, p.1 ≠ q := fun q hq => by
    obtain ⟨_, _, _, _, _, w⟩ := f2 q hq
    exact ⟨w (S, lstObj its0 n0) (List.mem_append_right _ List.mem_cons_self), w (C, oc0) (List.mem_append_right _ (List.mem_cons_of_mem _ List.mem_cons_self)), fun p hp => w p (List.mem_append_left _ hp)⟩
  have stat : ∀ {H' : Hp} {its : Array Value} {n : Nat} {oc : Obj}, (∀ q ∈ fp, H' q = none) → ∀ q ∈ fp, FpOk X (cpin C S its n oc []) H' q := fun hn q hq => by
    obtain ⟨_, w1, w2, w3, w4, _⟩ := f2 q hq
    refine ⟨hn q hq, w1, w2, w3, w4, fun p hp => ?_⟩
    rcases List.mem_append.mp hp with z | z
    · exact (apart q hq).2.2 p z
    · rcases List.mem_cons.mp z with z | z
      · rw [z]; exact (apart q hq).1
      · rw [List.mem_singleton.mp z]; exact (apart q hq).2.1
  have hns2 : ∃ m, s2.heap.Ns C m := by
    obtain ⟨m, hm⟩ := hns0
    obtain ⟨_, eC, _⟩ := cpin_at I2
    obtain ⟨_, eC0, _⟩ := cpin_at I0
    exact ⟨m, hm.at' fun o z => by rw [eC0] at z; cases z; exact eC⟩
  have gets : ∀ {i : Nat} {x : α}, xs[i]? = some x → ((xs.map f0).map (dat X.K))[i]? = some (dat X.K (f0 x)) := fun {i x} hx => by
    rw [List.getElem?_map, List.getElem?_map, hx]; rfl
  have loop : ∀ (kk : Result → Sem PySem.Fin), (∀ (n : Nat) (zs : List V) (s₀ s : Shared) (σ' : L2.St) (H' : Hp), n + zs.length = sizeLine → GF X C S [] zs σ' H' s → Q zs H' → Seg (model X.prog X.w) A (GRc X C S Q) (GYc X C S) n s₀ (.func (yBody tg iter e pos p2 yp) X.env) (kk (.ok .next)) [] s) →
      ∀ (r i n : Nat) (zs : List V) (s₀ s : Shared) (σ' : L2.St) (H' : Hp), i + r = xs.length → n + i = sizeLine → zs.length = i → GF X C S [] zs σ' H' s → tn i s.heap → (∀ q ∈ fp, H' q = none) → Same H2 H' → EnvOk σ' H' (wipeR ρ ws) → σ'.length = X.N.length →
      DpAll X.K H' zs ((xs.take i).map v) →
      Seg (model X.prog X.w) A (GRc X C S Q) (GYc X C S) n s₀ (.forLoop tg (.ref it) [.Expr (.Yield (some e) yp) p2] [] X.env) ((model X.prog X.w).den (.forLoop tg (.ref it) [.Expr (.Yield (some e) yp) p2] [] X.env))
        [.ret kk none false [] (.func (yBody tg iter e pos p2 yp) X.env) p []] s := by
    intro kk hend
    intro r
    induction r with
    | zero =>
      intro i n zs s₀ s σ' H' hi' hn hzl hG st fr sm hE' hl hd
      have hi2 : i = xs.length := by omega
      subst hi2
      show Seg _ _ _ _ _ _ _ ((forTurn tg (.ref it) [.Expr (.Yield (some e) yp) p2] [] X.env).onRaise _) _ _
      unfold forTurn
      rw [Sem.onRaise_eq_wrap]
      refine seg_bind_wrap (wpAny_standAt (seg_bind_wrap (wpAny_onRaise ?_)))
      rw [over_for, hA]
      obtain ⟨its, n1, oc, rz, hns, I⟩ := hG
      have hstop : J.stop xs.length H' := by
        have z := W.stops H' sm
        simpa using z
      refine wpAny_mono (T.done X rfl rfl rfl gc.calm _ _ s σ' H' X.xe I (stat fr) st hstop) (fun r s3 hr => ?_) fun y s' hx => (nx y s' hx).elim
      obtain ⟨rfl, I3⟩ := hr
      refine seg_again rfl ?_
      refine seg_leaf (.ok .next) ?_
      refine hend n zs s₀ s3 σ' H' (by omega) ⟨its, n1, oc, rz, ?_, I3⟩ (hQ zs H' (sm2.trans sm) ?_)
      · obtain ⟨m, hm⟩ := hns
        obtain ⟨_, eC, _⟩ := cpin_at I3
        obtain ⟨_, eC0, _⟩ := cpin_at I
        exact ⟨m, hm.at' fun o z => by rw [eC0] at z; cases z; exact eC⟩
      · rw [List.take_length] at hd
        exact hd
    | succ r ih =>
      intro i n zs s₀ s σ' H' hi' hn hzl hG st fr sm hE' hl hd
      have hlt : i < xs.length := by omega
      obtain ⟨n, rfl⟩ : ∃ m, n = m + 1 := ⟨n - 1, by omega⟩
      have hx : xs[i]? = some xs[i] := List.getElem?_eq_getElem hlt
      generalize xs[i] = x at hx
      have hxm : x ∈ xs := List.mem_of_getElem? hx
      show Seg _ _ _ _ _ _ _ ((forTurn tg (.ref it) [.Expr (.Yield (some e) yp) p2] [] X.env).onRaise _) _ _
      unfold forTurn
      rw [Sem.onRaise_eq_wrap]
      refine seg_bind_wrap (wpAny_standAt (seg_bind_wrap (wpAny_onRaise ?_)))
      rw [over_for, hA]
      obtain ⟨its, n1, oc, rz, hns, I⟩ := hG
      have hgo : J.go i H' := W.goes i H' (by simpa using hlt) sm
      refine wpAny_mono (T.item X rfl rfl rfl gc.calm i _ s σ' H' X.xe I (stat fr) st hgo) (fun r s3 hr => ?_) fun y s' hx => (nx y s' hx).elim
      obtain ⟨u, rfl, h3⟩ := hr
      refine seg_bind_wrap ?_
      rw [over_for, hA]
      refine wpAny_mono h3 (fun _ s4 h4 => ?_) fun y s' hx => (nx y s' hx).elim
      obtain ⟨w, H4, I4, rw4, y4, st4, fr4⟩ := h4
      obtain ⟨sy, iy⟩ := W.yields i H' w H4 (by simpa using hlt) sm y4
      have I4' := I4.pinned (stat fr4) (T.obj _ _ st4)
      refine seg_bind_wrap ?_
      rw [over_for, hA]
      refine wpAny_mono (hg.run _ s4 σ' H4 w u (fun σ5 H5 => H5 = H4 ∧ σ5.length = σ'.length ∧ (∀ j, j ∉ js → σ5[j]? = σ'[j]?) ∧ EnvOk σ5 H4 (f x (wipeR ρ ws))) I4' rw4 ?_) (fun _ s5 h5 => ?_) fun y s' hx => (nx y s' hx).elim
      · exact hgb x hxm w σ' H4 _ hl (iy _ (gets hx)) fun σ5 l5 o5 e5 => ⟨rfl, l5, o5, e5 _ (hE'.mono sy)⟩
      obtain ⟨σ5, H5, I5, rfl, l5, o5, hE5⟩ := h5
      rw [Sem.bind_eq_wrap', Sem.wrap_wrap]
      refine seg_execs_cons (seg_Expr_Yield rfl rfl rfl ?_ hco hin)
      rw [over_for, hA]
      refine wpAny_mono ((he x hxm).run _ s5 σ5 H5 (fun y H6 => Same H5 H6 ∧ (dat X.K (v x)).is y H6) I5 ⟨hE5, fun y H6 a b => ⟨a, b⟩⟩) (fun y s6 h6 => ?_) fun y s' hx => (nx y s' hx).elim
      obtain ⟨y', H6, I6, ry, s56, hy⟩ := h6
      have kept6 : ∀ q ∈ fp, ∀ o, s4.heap.get? q = some o → s6.heap.get? q = some o ∧ H6 q = none := fun q hq o z =>
        let k := I6.pin (q, o) (List.mem_append_right _ (List.mem_append_right _ (mem_pinsAt hq z)))
        ⟨k.1, k.2.1⟩
      have G6 : GF X C S (pinsAt fp s4.heap) zs σ5 H6 s6 := by
        refine ⟨its, n1, oc, rz, ?_, I6⟩
        obtain ⟨m, hm⟩ := hns
        obtain ⟨_, eC0, _⟩ := cpin_at I
        obtain ⟨_, eC, _⟩ := cpin_at (ip := pinsAt fp s4.heap) I6
        exact ⟨m, hm.at' fun o z => by rw [eC0] at z; cases z; exact eC⟩
      intro kap hk
      refine ⟨zs, y', pinsAt fp s4.heap, σ5, H6, by omega, ry, G6, fun s7 z => hk .none s7 ?_⟩
      have G7 := G6.wake fS fC hne (fun p hp => by
        obtain ⟨hq, _⟩ := of_pinsAt hp
        exact ⟨fun z => (apart _ hq).1 z.symm, fun z => (apart _ hq).2.1 z.symm⟩) ry z
      obtain ⟨its7, n7, oc7, rz7, hns7, I7⟩ := G7
      have st7 : tn (i + 1) s7.heap := T.keep _ _ _ st4 fun q hq o z => (I7.pin (q, o) (List.mem_append_right _ (List.mem_cons_of_mem _ (List.mem_cons_of_mem _ (mem_pinsAt hq z))))).1
      have I7' : Inv X (cpin C S its7 n7 oc7 []) σ5 H6 s7 := I7.pins_of fun p hp => I7.pin p (List.mem_append_right _ (by
        rcases List.mem_cons.mp hp with z | z
        · rw [z]; exact List.mem_cons_self
        · rw [List.mem_singleton.mp z]; exact List.mem_cons_of_mem _ List.mem_cons_self))
      refine seg_again rfl ?_
      refine ih (i + 1) n (zs ++ [y']) s7 s7 σ5 H6 (by omega) (by omega) (by rw [List.length_append, hzl]; rfl) ⟨its7, n7, oc7, rz7, hns7, I7'⟩ st7 (fun q hq => ?_) ((sm.trans sy).trans s56) ?_ (l5.trans hl) ?_
      · obtain ⟨o, z, _⟩ := T.obj _ _ st4 q hq
        exact (kept6 q hq o z).2
      · -- what is outside of the target's slots
        intro j E hj
        have hjw : j ∉ ws := fun z => wipeR_in z hj
        obtain ⟨a, h1, h2⟩ := hE' j E hj
        refine ⟨a, ?_, E.mono (sy.trans s56) h2⟩
        rw [o5 j fun z => hjw (hjs j z)]
        exact h1
      · rw [List.take_add_one, hx, List.map_append]
        refine dpAll_app (dpAll_mono (sy.trans s56) hd) ?_
        exact .cons hy .nil
  refine loop _ (fun n zs s₀ s σ' H' hn hG q => seg_end (.ok (.ret .none)) ⟨rfl, zs, σ', H', by omega, hG, q⟩) xs.length 0 sizeLine [] s₀ s2 σ H2 (Nat.zero_add _) rfl rfl ⟨its0, n0, oc0, rz0, hns2, I2⟩ st2 (fun q hq => (f2 q hq).1) (Same.refl _) ((hE.mono sm2).forget ws) I0.len ?_
  exact .nil
end
end Lc
end
section
/-! Lc: a call of a generator method. -/
namespace Lc
open PySem L2 PySem.Spec PyProof.Rows GenW

/-- the context of a generator's body; pn: its own object -/
abbrev gx (P : Program) (w : World) (K : PySem.W.Frag) (mg : Str → Option Value) (base : Heap) (N : List Str) (qual : Str) (st : Stmt) (f : Addr) (cdv : Value) (A : Around) (outer : List Env) (s : Shared) (H : Hp) (pn : List (Addr × Obj)) : Cx :=
  { cx P w K mg base N qual st f cdv A outer s H (fun _ _ _ => False) with pn := pn }
section
variable {P : Program} {w : World} {K : PySem.W.Frag} {mg : Str → Option Value} {base : Heap}
theorem inv_gx {N : List Str} {qual : Str} {st : Stmt} {f : Addr} {cdv : Value} {A : Around} {outer : List Env} {s s1 : Shared} {H H' : Hp} {σ : L2.St} {pn pins : List (Addr × Obj)} (I : Inv (gcxOf P w K mg base N qual (defScope st) f cdv A outer s H (fun _ _ _ => False) []) [] σ H' s1)
    (h : ∀ q ∈ pn ++ pins, s1.heap.get? q.1 = some q.2 ∧ H' q.1 = none ∧ q.1 ≠ (envOfC qual (defScope st) s.heap.objs.size f cdv).locals ∧ q.1 ∉ frs outer ∧ ∀ v, q.2.data ≠ .cell v) : Inv (gx P w K mg base N qual st f cdv A outer s H pn) pins σ H' s1 := by
  obtain ⟨⟨a1, a2, a3, a4, a5, a6, a7, a8, a9, a10, a11, a12, a13, a14, a15, a16, a17, a18⟩, b1, b2, b3, b4, b5, b6, b7, b8, b9, b10⟩ := I
  exact ⟨⟨a1, a2, a3, a4, a5, a6, a7, a8, a9, a10, a11, a12, a13, a14, a15, a16, a17, a18⟩, b1, b2, b3, b4, b5, b6, b7, h, b9, b10⟩
/-- the end of a whole run -/
def REc (P : Program) (w : World) (outer : List Env) (H : Hp) (s : Shared) (C S : Addr) (Q : List V → Hp → Prop) : GenEnd := fun _ _ r s1 =>
  r = .ok (.ret .none) ∧ ∃ H' zs its n, s1.os = s.os ∧ AllBare s1.gens ∧ Un (frs outer) [] H H' s.heap s1.heap ∧ HOk P w H' s1.heap ∧ H' S = none ∧ H' C = none ∧ (∃ m, s1.heap.Ns C m) ∧ s1.heap.get? S = some (lstObj its n) ∧ Vals zs its.toList ∧ zs.length ≤ sizeLine ∧ Q zs H'
/-- an item -/
def YIc (s : Shared) (C S a : Addr) (g : Nat) : Protocol := fun n _ v s1 kap =>
  s1.os = s.os ∧ AllBare s1.gens ∧ s1.heap.NoLimit ∧ s1.heap.IsGen a g ∧ (∃ (its : Array Value) (c : Nat), s1.heap.get? S = some (lstObj its c) ∧ n + 1 + its.size = sizeLine) ∧ (∃ m, s1.heap.Ns C m) ∧ ∀ s', Slp C S v s1 s' → kap (.send .none) s'
/-- a generator that has not begun -/
def MadeC (P : Program) (w : World) (k : Nat) (outer : List Env) (H : Hp) (s : Shared) (Q : List V → Hp → Prop) (u : Value) (s' : Shared) : Prop :=
  ∃ (a : Addr) (g : Nat) (c : Code), u = .ref a ∧ s.heap.objs.size ≤ a ∧ a < s'.heap.objs.size ∧ s'.heap.IsGen a g ∧ s'.gens[g]? = some (.fresh c) ∧ s'.os = s.os ∧ AllBare s'.gens ∧ s'.heap.NoLimit ∧ (∀ q o, s.heap.get? q = some o → s'.heap.get? q = some o) ∧
    ∀ (A : Around) (C S : Addr) (s2 : Shared), Room k A → A.frames = some outer → S ≠ C → s'.heap.objs.size ≤ S → s'.heap.objs.size ≤ C → (∀ q o, s'.heap.get? q = some o → s2.heap.get? q = some o) → (∃ n, s2.heap.get? S = some (lstObj #[] n)) → (∃ m, s2.heap.Ns C m) → s2.os = s.os → AllBare s2.gens →
      Seg (model P w) A (REc P w outer H s C S Q) (YIc s C S a g) sizeLine s2 c ((model P w).den c) [] s2
/-- a generator's body hands out these -/
def YBody (X : Cx) (ρ : Rho) (body : List Stmt) (out : List D) : Prop := ∀ (A : Around) (C S : Addr) (Q : List V → Hp → Prop) (σ : L2.St) (H : Hp) (s s₀ : Shared), A.deeper X.env = X.A → (∀ v s, ¬ X.xe v s) → Far X S → Far X C → S ≠ C → EnvOk σ H ρ → GF X C S [] [] σ H s →
  (∀ zs H', Same H H' → DpAll X.K H' zs out → Q zs H') → Seg (model X.prog X.w) A (GRc X C S Q) (GYc X C S) sizeLine s₀ (.func body X.env) ((model X.prog X.w).den (.func body X.env)) [] s
abbrev FnG := List Ent → List D → Prop
/-- a generator method of the class at C -/
def GGen (P : Program) (w : World) (K : PySem.W.Frag) (mg : Str → Option Value) (base : Heap) (C : Addr) (m : Str) (k : Nat) (F : FnG) : Prop :=
  ∃ (f : Addr) (fd : FuncData) (ps : List Str), Meth K C m f ∧ Binds K fd ps [] ∧ (∀ Es out, F Es out → Es.length = ps.length) ∧
    ∀ (A : Around) (outer : List Env) (s : Shared) (H : Hp) (args : Args) (us : List Value) (vs : List V) (Es : List Ent) (out : List D) (Q : List V → Hp → Prop), Room k A → Env0 P w K mg base A outer s H → BindsTo s fd args (ps.zip us) → Vals vs us → F Es out → All2 H vs Es →
      (∀ zs H', Same H H' → DpAll K H' zs out → Q zs H') → codeAny (model P w) A (.call (.ref f) args) (fun r s' => match r with | .ok (.ret u) => MadeC P w k outer H s Q u s' | _ => False) s
theorem ggen_mk {m qual : Str} {st : Stmt} {N : List Str} {k : Nat} {F : FnG} {Cl : Addr} (h : HasMeth K Cl m qual st) (ps : List Str) (S : GScope N ps (defScope st)) (hb : BindsOk m qual st ps) (hlen : ∀ Es out, F Es out → Es.length = ps.length)
    (b : ∀ (f : Addr) (cdv : Value) (A : Around) (outer : List Env) (s : Shared) (H : Hp) (pn : List (Addr × Obj)), Gx (gx P w K mg base N qual st f cdv A outer s H pn) k → ∀ Es out, F Es out → YBody (gx P w K mg base N qual st f cdv A outer s H pn) (startR N Es) (defBody st) out) :
    GGen P w K mg base Cl m (k + 1) F := by
  obtain ⟨f, fd, hF, hm⟩ := h.ex
  obtain ⟨cls, dct, kV, doc, pm, an, cdv, ct, slots, efd, look, code⟩ := id hF.ex
  refine ⟨f, fd, ps, hm, hF.binds hb, hlen, fun A outer s H args us vs Es out Q room e0 bt rel hEs hall hQ => ?_⟩
  subst efd
  have hl : vs.length = ps.length := hall.length.trans (hlen _ _ hEs)
  have kin : K.In s.heap := e0.mod.kin.keeps fun p u q => (e0.bs p u q).1
  have nolim : s.heap.NoLimit := e0.mod.nolimit.keeps fun p u q => (e0.bs p u q).1
  refine codeAny_call_generator room.depth (kin _ _ look) rfl S.co S.gen rfl (PySem.W.codeRec_of kin code) (bt _ _ _ _ ?_)
  refine wpAny_newFunctionEnv_cells S.kind (fun p hp => ?_) fun e1 he1 s1 new => ?_
  · rcases S.par p.1 (List.of_mem_zip (a := p.1) (b := p.2) hp).1 with q | q
    · exact Or.inl q
    · exact Or.inr ⟨q, PySem.W.cellsFrom_some _ _ _ (Or.inl q)⟩
  subst he1
  have nl1 : s1.heap.NoLimit := nolim.keeps new.toInCall.keep
  refine ⟨nl1, ?_⟩
  obtain ⟨h1, tk, es1, hk1⟩ := new.done
  have os1 : s1.os = s.os := by rw [es1]
  have gen1 : s1.gens = s.gens := by rw [es1]
  have locLt : s.heap.objs.size < s1.heap.objs.size := new.toInCall.ns.lt
  have key : ∀ (go : Obj) (nm qn : Value) (tk2 : Nat), go.cls = .type "generator" → go.data = .fields #[.int s1.gens.size 0, nm, qn] → go.slots = #[] → (∀ h : Heap, (h.push go).get? h.objs.size = some go) →
      MadeC P w (k + 1) outer H s Q (.ref s1.heap.objs.size) { s1 with gens := s1.gens.push (.fresh (.func (defBody st) (envOfC qual (defScope st) s.heap.objs.size f cdv))), toks := tk2, heap := s1.heap.push go } := by
    intro go nm qn tk2 gc gd gs gp
    have isg : ∀ h : Heap, h.get? s1.heap.objs.size = some go → h.IsGen s1.heap.objs.size s1.gens.size := fun h e => ⟨go, nm, qn, e, gc, gd, gs⟩
    refine ⟨s1.heap.objs.size, s1.gens.size, _, rfl, Nat.le_of_lt locLt, ?_, isg _ (gp _), Array.getElem?_push_size .., os1, AllBare.push (by rw [gen1]; exact e0.bare) rfl, nl1.keeps fun q o e => Heap.get?_push_of_some _ e, fun q o e => Heap.get?_push_of_some _ (new.toInCall.keep q o e), ?_⟩
    · show _ < (s1.heap.push _).objs.size
      rw [Heap.size_push]
      exact Nat.lt_succ_self _
    intro Aw C S' s2 roomW framesW hne hS hC kp2 hSo hCo os2 bare2
    have eW : Env0 P w K mg base Aw outer s H := ⟨framesW, e0.mod, e0.bs, e0.bsz, e0.funs, e0.frf, e0.hok, e0.bare⟩
    have body := b f cdv Aw outer s H [(s1.heap.objs.size, go)] ⟨rfl, roomW.deeper _, S.nd⟩ Es out hEs
    have I1 : Inv (gcxOf P w K mg base N qual (defScope st) f cdv Aw outer s H (fun _ _ _ => False) []) [] (L2.start N vs) H s1 := inv_startG S roomW.hd eW hl rel new
    have kp : ∀ q o, s1.heap.get? q = some o → s2.heap.get? q = some o := fun q o e => kp2 q o (Heap.get?_push_of_some _ e)
    have I2 : Inv (gcxOf P w K mg base N qual (defScope st) f cdv Aw outer s H (fun _ _ _ => False) []) [] (L2.start N vs) H s2 :=
      I1.call' (ch := []) (os2.trans os1.symm) (Un.kept kp) (I1.hok.kept kp) bare2 fun q z => by simp at z
    have late : ∀ q, s1.heap.objs.size ≤ q → H q = none ∧ q ≠ s.heap.objs.size ∧ q ∉ frs outer ∧ s.heap.objs.size ≤ q ∧ ∀ y c, (cellsFrom (s.heap.objs.size + 1) (defScope st).names []).lookup y = some c → c ≠ q := fun q hq => by
      refine ⟨I1.hok.fresh hq, Nat.ne_of_gt (Nat.lt_of_lt_of_le locLt hq), I1.nofs hq, Nat.le_trans (Nat.le_of_lt locLt) hq, fun y c e z => ?_⟩
      obtain ⟨v, o, ho, _⟩ := I1.cell y c e
      have lt := Heap.lt_size ho
      rw [z] at lt
      exact absurd (Nat.lt_of_lt_of_le lt hq) (Nat.lt_irrefl _)
    have size1 : (s1.heap.push go).objs.size = s1.heap.objs.size + 1 := Heap.size_push ..
    have hS' : s1.heap.objs.size < S' := by
      have z : (s1.heap.push go).objs.size ≤ S' := hS
      omega
    have hC' : s1.heap.objs.size < C := by
      have z : (s1.heap.push go).objs.size ≤ C := hC
      omega
    obtain ⟨nS, eS⟩ := hSo
    obtain ⟨mC, hmC⟩ := hCo
    obtain ⟨oC, eC, dC⟩ := ns_obj hmC
    have eg : s2.heap.get? s1.heap.objs.size = some go := kp2 _ go (gp _)
    have pinned : ∀ q ∈ [(s1.heap.objs.size, go)] ++ cpin C S' #[] nS oC [], s2.heap.get? q.1 = some q.2 ∧ H q.1 = none ∧ q.1 ≠ (envOfC qual (defScope st) s.heap.objs.size f cdv).locals ∧ q.1 ∉ frs outer ∧ ∀ v, q.2.data ≠ .cell v := fun q hq => by
      simp only [List.cons_append, List.nil_append, List.mem_cons, List.not_mem_nil, or_false] at hq
      rcases hq with e | e | e <;> subst e
      · obtain ⟨y1, y2, y3, _, _⟩ := late _ (Nat.le_refl _)
        exact ⟨eg, y1, y2, y3, fun v z => by rw [gd] at z; cases z⟩
      · obtain ⟨y1, y2, y3, _, _⟩ := late _ (Nat.le_of_lt hS')
        exact ⟨eS, y1, y2, y3, fun v z => by cases z⟩
      · obtain ⟨y1, y2, y3, _, _⟩ := late _ (Nat.le_of_lt hC')
        exact ⟨eC, y1, y2, y3, dC⟩
    have G : GF (gx P w K mg base N qual st f cdv Aw outer s H [(s1.heap.objs.size, go)]) C S' [] [] (L2.start N vs) H s2 := ⟨#[], nS, oC, .nil, ⟨mC, hmC⟩, inv_gx I2 pinned⟩
    have far : ∀ q, s1.heap.objs.size < q → Far (gx P w K mg base N qual st f cdv Aw outer s H [(s1.heap.objs.size, go)]) q := fun q hq => by
      obtain ⟨_, y2, _, y4, y5⟩ := late q (Nat.le_of_lt hq)
      exact ⟨y4, y2, y5, fun p hp => by rw [List.mem_singleton.mp hp]; exact Nat.ne_of_lt hq⟩
    have gOf : ∀ {ip : List (Addr × Obj)} {zs : List V} {σ : L2.St} {H' : Hp} {s' : Shared}, GF (gx P w K mg base N qual st f cdv Aw outer s H [(s1.heap.objs.size, go)]) C S' ip zs σ H' s' → s'.heap.IsGen s1.heap.objs.size s1.gens.size := fun {ip zs σ H' s'} z => by
      obtain ⟨_, _, _, _, _, J⟩ := z
      exact isg _ (J.pin (s1.heap.objs.size, go) (List.mem_append_left _ (List.mem_singleton.mpr rfl))).1
    refine seg_imp (R := GRc (gx P w K mg base N qual st f cdv Aw outer s H [(s1.heap.objs.size, go)]) C S' Q) (Y := GYc (gx P w K mg base N qual st f cdv Aw outer s H [(s1.heap.objs.size, go)]) C S') (fun n s₀ r s3 hR => ?_) (fun n s₀ v s3 kap kap' hkk hY => ?_) sizeLine
      (body Aw C S' Q _ H s2 s2 rfl (fun v s z => z) (far _ hS') (far _ hC') hne (env_start hall) G hQ)
    · obtain ⟨er, zs, σ', H', hz, z, q⟩ := hR
      obtain ⟨its, n1, oc, rz, hns, J⟩ := z
      obtain ⟨⟨eS3, nS3, _, _⟩, _, nC3, _, _⟩ := cpin_at J
      exact ⟨er, H', zs, its, n1, J.os, J.bare, J.base, J.hok, nS3, nC3, hns, eS3, rz, hz, q⟩
    · obtain ⟨zs, x, ip, σ', H', hn, rv, z, hk⟩ := hY
      have isG := gOf z
      obtain ⟨its, n1, oc, rz, hns, J⟩ := z
      obtain ⟨⟨eS3, _, _, _⟩, _⟩ := cpin_at J
      have sz : its.size = zs.length := by
        have e1 := rz.length
        have e2 : its.toList.length = its.size := by simp
        omega
      exact ⟨J.os, J.bare, J.nolimit, isG, ⟨its, n1, eS3, by rw [sz]; exact hn⟩, hns, fun s' z => hkk _ _ (hk s' z)⟩
  exact key _ _ _ _ rfl rfl rfl fun h => Heap.get?_push_size _ rfl
end
end Lc
end
section
/-! Lc: [x for x in o.m()] of a generator method. -/
namespace Lc
open PySem L2 PySem.Spec PyProof.Rows GenW

section
variable {P : Program} {w : World} {outer : List Env} {H : Hp} {sc : Shared} {A : Around} {C S a : Addr} {g : Nat} {Q : List V → Hp → Prop} {R : Result → Shared → Prop} {env : Env} {x : Str} {px py : Pos} {iter : Expr} {scope : Scope} {pos : Pos}
/-- how it leaves -/
def FEc (P : Program) (w : World) (outer : List Env) (H : Hp) (sc : Shared) (C S : Addr) (Q : List V → Hp → Prop) (s1 : Shared) : Prop :=
  ∃ H' zs its n, s1.os = sc.os ∧ AllBare s1.gens ∧ Un (frs outer) [] H H' sc.heap s1.heap ∧ HOk P w H' s1.heap ∧ H' S = none ∧ H' C = none ∧ (∃ m, s1.heap.Ns C m) ∧ s1.heap.get? S = some (lstObj its n) ∧ Vals zs its.toList ∧ zs.length ≤ sizeLine ∧ Q zs H'
def REd (P : Program) (w : World) (outer : List Env) (H : Hp) (sc : Shared) (C S : Addr) (Q : List V → Hp → Prop) : GenEnd := fun _ _ r s1 => ((r = .ok (.ret .none) ∨ r = .ok .next) ∧ FEc P w outer H sc C S Q s1) ∨ ∃ e : Value, r = .error e ∧ False
theorem seg_red {M : Model} {B : Around} {c : Code} {t : Sem PySem.Fin} {s₀ s : Shared} {n : Nat} (h : Seg M B (REc P w outer H sc C S Q) (YIc sc C S a g) n s₀ c t [] s) : Seg M B (REd P w outer H sc C S Q) (YIc sc C S a g) n s₀ c t [] s :=
  seg_imp (fun n s₀ r s z => .inl ⟨.inl z.1, z.2⟩) (fun n s₀ v s kap kap' hk hy => ⟨hy.1, hy.2.1, hy.2.2.1, hy.2.2.2.1, hy.2.2.2.2.1, hy.2.2.2.2.2.1, fun s' z => hk _ _ (hy.2.2.2.2.2.2 s' z)⟩) n h
theorem drainC (hh : A.handled = none) (hd : A.depth < recursionLimit) (hS : S ≠ a) (hC : C ≠ a) (hSC : S ≠ C) (hSs : S ≠ cStatics) (hCs : C ≠ cStatics) (hL : env.locals = C) (hk : env.scope.kind = .function) (hx : env.kindOf x = some .local) (hdb : (x == ("__debug__" : Str)) = false)
    (hend : ∀ s' its n H' zs, s'.heap.get? S = some (lstObj its n) → Vals zs its.toList → zs.length ≤ sizeLine → s'.os = sc.os → AllBare s'.gens → Un (frs outer) [] H H' sc.heap s'.heap → HOk P w H' s'.heap → H' S = none → H' C = none → (∃ m, s'.heap.Ns C m) → Q zs H' → R (.ok .next) s') :
    ∀ (m : Nat) (s : Shared), (s.heap.IsGen a g ∧ s.heap.NoLimit ∧ (∃ ns, s.heap.Ns C ns) ∧ ∃ gs, s.gens[g]? = some gs ∧ gs.Goes (model P w) A.in1 (REd P w outer H sc C S Q) (YIc sc C S a g) m (.send .none) (s.setGen g .running)) →
      codeAny (model P w) A (.compLoop (.ListComp (.Name x px) [⟨.Name x py, iter, [], 0⟩] scope pos) 0 (.ref a) (.ref S) env) R s := by
  have goes : ∀ {gs : GenState} {B : Around} {n : Nat} {r : Resume} {s : Shared}, gs.Goes (model P w) B (REd P w outer H sc C S Q) (YIc sc C S a g) n r s →
      gs.Goes (model P w) B (fun n s₀ r s1 => ((r = .ok (.ret .none) ∨ r = .ok .next) ∧ FEc P w outer H sc C S Q s1) ∨ ∃ e : Value, r = .error e ∧ False) (YIc sc C S a g) n r s := fun h => h
  intro m s hI
  refine compLoop_any (fun m s => s.heap.IsGen a g ∧ s.heap.NoLimit ∧ (∃ ns, s.heap.Ns C ns) ∧ ∃ gs, s.gens[g]? = some gs ∧ gs.Goes (model P w) A.in1 (REd P w outer H sc C S Q) (YIc sc C S a g) m (.send .none) (s.setGen g .running)) ?_ m hI
  rintro n s1 ⟨hg, hl, ⟨ns, hns⟩, gs, hgs, hgo⟩
  have hgl : g < s1.gens.size := (Array.getElem?_eq_some_iff.mp hgs).1
  refine wpAny_gsz (n := g + 1) hgl (next_genG (F := fun _ _ s1 => FEc P w outer H sc C S Q s1) (Er := fun _ _ => False) hh hl hd hg hgs (goes hgo) (fun v s2 gs' bare' hv => ?_) (fun s2 hp h' hk' => ?_) fun e s2 he => ?_)
  · intro hsz
    obtain ⟨os2, bare2, nl2, g2, ⟨its, c, eS, hn⟩, ⟨m2, hm2⟩, hkap⟩ := hv
    obtain ⟨n, rfl⟩ : ∃ m, n = m + 1 := by
      cases n with
      | zero =>
        exfalso
        obtain ⟨n3, e3⟩ : ∃ n3, ({ s2 with heap := s2.heap.update S (Obj.mapSeq (·.push v)) } : Shared).heap.get? S = some (lstObj (its.push v) n3) := ⟨_, Heap.get?_update_self _ eS rfl⟩
        have up : ∀ q o, q ≠ S → s2.heap.get? q = some o → (s2.heap.update S (Obj.mapSeq (·.push v))).get? q = some o := fun q o hq e => (Heap.get?_update_other _ _ (Ne.symm hq)).trans e
        exact hkap { s2 with heap := s2.heap.update S (Obj.mapSeq (·.push v)) } ⟨rfl, bare2, fun q o hq _ e => up q o hq e, fun its' n' e => by
          rw [eS] at e
          cases e
          exact ⟨n3, e3⟩, fun m hm => ⟨m, hm.at' fun o e => up _ o (Ne.symm hSC) e⟩⟩
      | succ m => exact ⟨m, rfl⟩
    have hasz : its.size < sizeLine := by omega
    refine wpAny_of_eq (rfl : letOwnedTupleGo (.Name x py) (.ref a) v = pure ()) ?_
    have hm2' : (s2.setGen g gs').heap.Ns env.locals m2 := by rw [hL]; exact hm2
    refine wpAny_assign_Name (wpAny_storeName_local hx hm2' (fun h3 hn3 sb3 => ?_) (by rw [hk]; rfl))
    rw [hL] at sb3
    refine wpAny_tests_nil ?_
    rw [if_pos rfl]
    have hn3' : ({ s2.setGen g gs' with heap := h3, toks := (s2.setGen g gs').toks + 1 } : Shared).heap.Ns env.locals (fun y => if y = x then some v else m2 y) := hn3
    refine wpAny_Name (wpAny_loadName_local (v := v) hk hx hn3' (by simp) ?_) hdb
    have eS3 : h3.get? S = some (lstObj its c) := (sb3.2 S hSC).trans eS
    refine append_at (hsz := Nat.le_of_lt hasz) eS3 fun h4 sb4 eS4 => ?_
    have keep4 : ∀ q o, q ≠ S → q ≠ C → s2.heap.get? q = some o → h4.get? q = some o := fun q o h1 h2 e => (sb4.2 q h1).trans ((sb3.2 q h2).trans e)
    have ns4 : ∃ m, h4.Ns C m := ⟨_, (show h3.Ns C _ from hL ▸ hn3).sameBut sb4 (Ne.symm hSC)⟩
    have hsz1 : g < s2.gens.size := by
      have q : (s2.setGen g gs').gens.size = s2.gens.size := setGen_size _ _ _
      have hsz' : g + 1 ≤ (s2.setGen g gs').gens.size := hsz
      omega
    refine ⟨n, Nat.lt_succ_self n, ?_, ?_, ns4, gs', ?_, ?_⟩
    · obtain ⟨o, nm, qn, ho, r⟩ := g2
      exact ⟨o, nm, qn, keep4 a o (Ne.symm hS) (Ne.symm hC) ho, r⟩
    · obtain ⟨mc, hns', hnn⟩ := nl2
      exact ⟨mc, hns'.at' fun o e => keep4 _ o (Ne.symm hSs) (Ne.symm hCs) e, hnn⟩
    · exact setGen_at hsz1
    · have hsend := hkap (({ s2.setGen g gs' with heap := h4, toks := (s2.setGen g gs').toks + 1 } : Shared).setGen g .running) ⟨rfl, allBare_setGen (s := s2.setGen g gs') (allBare_setGen bare2 bare') rfl, fun q o h1 h2 e => keep4 q o h1 h2 e, fun its' n' e => by
        rw [eS] at e
        cases e
        exact ⟨_, eS4⟩, fun m hm => ns4⟩
      exact hsend
  · intro hsz
    obtain ⟨H', zs, its, n', os2, bare2, un, hok, nS, nC, ⟨m2, hm2⟩, eS, rz, hz, q⟩ := hp
    exact hend _ its n' H' zs (hk' _ _ eS) rz hz os2 (allBare_setGen bare2 rfl) (un.trans (Un.kept hk')) (hok.kept hk') nS nC ⟨m2, hm2.keeps hk'⟩ q
  · exact he.elim
end
end Lc
end
section
/-! Lc: [x for x in o.m()] of a generator method: the rule. -/
namespace Lc
open PySem L2 PySem.Spec PyProof.Rows GenW
theorem de_lcG {X : Cx} {ρ : Rho} {o : Expr} {Eo : Ent} {Cl : Addr} {m x : Str} {j k : Nat} {F : FnG} {out : List D} {px py pos pos' apos : Pos} {scope : Scope} (G : GGen X.prog X.w X.K X.mg X.base Cl m j F) (cl : Cls X.K Cl) (hi : InsOf Cl m Eo) (g : Gx X k) {pl : Sem Bool}
    (ho : DE X ρ o Eo) (hF : F [Eo] out) (hout : out.length ≤ 1000000) (hj : j + 1 ≤ k := by decide)
    (hk : scope.kind = .function := by rfl) (hloc : (scope.names.all fun y => decide (y.2 = .local) && decide (scope.names.lookup y.1 = some .local)) = true := by decide +kernel) (hx : scope.names.lookup x = some .local := by rfl) (hdb : (x == ("__debug__" : Str)) = false := by decide)
    (hs : ∀ y, foldedSetIterable (.Call (.Attribute o m apos) [] [] pos') X.env y = pure y := by intro _; rfl)
    (ht : eval (.Call (.Attribute o m apos) [] [] pos') X.env = (do
      let ov ← eval o X.env
      standAt apos.atName
      let (f, first) ← holding [ov] (getMethod ov m pl)
      callWith pos' f first (backTo pos' (starEach [] X.env)) (backToKw pos' (keywordEach [] X.env))) := by rfl) :
    DE X ρ (.ListComp (.Name x px) [⟨.Name x py, .Call (.Attribute o m apos) [] [] pos', [], 0⟩] scope pos) (lstE X.K out) := by
  obtain ⟨f, fd, ps, hm, hb, hlen, run⟩ := G
  have names : ∀ y ∈ scope.names, y.2 = .local ∧ scope.names.lookup y.1 = some .local := fun y hy => by
    have z := List.all_eq_true.mp hloc y hy
    simp only [Bool.and_eq_true, decide_eq_true_eq] at z
    exact z
  refine ⟨fun pins s σ H Q I h => ?_⟩
  rw [eval_ListComp]
  refine wpAny_comprehension_free (use := none) rfl hs (closure_ok fun y hy e => by rw [(names y hy).1] at e; cases e) hk (fun y hy _ => (names y hy).2) ?_
  refine PySem.W.methodCall_KW (pl := pl) (thn (ho.run pins s σ H (fun v H1 => Same H H1 ∧ Eo.is v H1) I ⟨h.1, fun v H1 a b => ⟨a, b⟩⟩) fun u s1 hu => ?_) ht
  obtain ⟨v, H1, I1, rv, sm1, iv⟩ := hu
  obtain ⟨p, dx, fs, rfl, ep, lk⟩ := hi v H1 iv
  obtain rfl : u = Value.ref p := rv
  refine getmeth_ok I1 ep cl hm lk ?_
  have hl1 : [Value.ref p].length = ps.length := hlen _ _ hF
  refine PySem.W.callWith_K0 (first := [.ref p]) I1.kIn hm.kp (wpAny_call (codeAny_mono (run X.A X.stack s1 H1 ⟨[.ref p], []⟩ [.ref p] [.ref p] [Eo] out (fun zs H' => Same H1 H' ∧ DpAll X.K H' zs out) (g.room.mono (Nat.le_trans (Nat.le_succ j) hj)) I1.env0
    (by have z := hb s1 [.ref p] I1.kIn (by simpa using hl1); simpa using z) (.cons rfl .nil) hF (.cons iv .nil) fun zs H' a b => ⟨a, b⟩) fun r s2 hr => ?_))
  cases r with
  | error e => exact hr.elim
  | ok fl =>
    cases fl with
    | next => exact hr.elim
    | brk => exact hr.elim
    | cont => exact hr.elim
    | ret u =>
      obtain ⟨a, gi, c, rfl, ha1, ha2, isg, hgs, os2, bare2, nl2, kp2, wake⟩ := hr
      refine wpAny_pyIter_gen isg ?_
      refine wpAny_newObj_type (newEnv_comp ?_) (by show 0 ≤ sizeLine; decide)
      generalize hSe : s2.heap.objs.size = S
      have hLst : (s2.heap.push { cls := .type "list", data := .seq ([] : List Value).toArray }).get? S = some (lstObj #[] 0) := by
        rw [← hSe]; exact Heap.get?_push_size _ rfl
      have hsz3 : (s2.heap.push { cls := .type "list", data := .seq ([] : List Value).toArray }).objs.size = S + 1 := by rw [Heap.size_push, hSe]
      generalize hs3 : ({ s2 with heap := s2.heap.push { cls := .type "list", data := .seq ([] : List Value).toArray } } : Shared) = s3
      have h3 : s3.heap = s2.heap.push { cls := .type "list", data := .seq ([] : List Value).toArray } := by rw [← hs3]
      have kp3 : ∀ q o, s2.heap.get? q = some o → s3.heap.get? q = some o := fun q o e => by rw [h3]; exact Heap.get?_push_of_some _ e
      have hC : s3.heap.objs.size = S + 1 := by rw [h3, hsz3]
      generalize hs4 : ({ s3 with heap := pushCells (s3.heap.push { cls := .type "dict", data := .dict #[] }) scope.names } : Shared) = s4
      have h4 : s4.heap = pushCells (s3.heap.push { cls := .type "dict", data := .dict #[] }) scope.names := by rw [← hs4]
      have kp4 : ∀ q o, s3.heap.get? q = some o → s4.heap.get? q = some o := fun q o e => by rw [h4]; exact pushCells_keeps _ _ _ _ (Heap.get?_push_of_some _ e)
      have hns4 : ∃ ns, s4.heap.Ns (S + 1) ns := by
        refine ⟨fun _ => none, ?_⟩
        rw [h4, ← hC]
        exact Heap.Ns.keeps (Heap.Ns.new ..) fun b o e => pushCells_keeps _ _ _ _ e
      have eS4 : s4.heap.get? S = some (lstObj #[] 0) := kp4 _ _ (by rw [h3]; exact hLst)
      have isg4 : s4.heap.IsGen a gi := isg.keeps fun q o e => kp4 q o (kp3 q o e)
      have nl4 : s4.heap.NoLimit := nl2.keeps fun q o e => kp4 q o (kp3 q o e)
      have gens4 : s4.gens = s2.gens := by rw [← hs4, ← hs3]
      have os4 : s4.os = s1.os := by rw [← hs4, ← hs3]; exact os2
      have hcs : cStatics < s2.heap.objs.size := let ⟨_, hn, _⟩ := nl2; hn.lt
      have hSa : S ≠ a := by rw [← hSe]; exact Nat.ne_of_gt ha2
      have hCa : S + 1 ≠ a := Nat.ne_of_gt (Nat.lt_succ_of_lt (by rw [← hSe]; exact ha2))
      have hSs : S ≠ cStatics := Nat.ne_of_gt (by rw [← hSe]; exact hcs)
      have hCs : S + 1 ≠ cStatics := Nat.ne_of_gt (Nat.lt_succ_of_lt (by rw [← hSe]; exact hcs))
      have l1S : s1.heap.objs.size ≤ S := Nat.le_trans ha1 (Nat.le_of_lt (by rw [← hSe]; exact ha2))
      have rm := (g.room.mono hj).in1
      show codeAny _ _ (.compStart (.ListComp (.Name x px) [⟨.Name x py, .Call (.Attribute o m apos) [] [] pos', [], 0⟩] scope pos) 0 (.ref a) (.ref S) (compEnvC scope (cellsFrom (s3.heap.objs.size + 1) scope.names (cloFrom X.env.cells scope.names [])) s3.heap.objs.size X.env)) (compPost (model X.prog X.w) X.A X.xe none (EP X pins σ Q) (.ref S) s3.heap.objs.size) s4
      rw [hC]
      have loop : codeAny (model X.prog X.w) X.A (.compLoop (.ListComp (.Name x px) [⟨.Name x py, .Call (.Attribute o m apos) [] [] pos', [], 0⟩] scope pos) 0 (.ref a) (.ref S) (compEnvC scope (cellsFrom (S + 1 + 1) scope.names (cloFrom X.env.cells scope.names [])) (S + 1) X.env)) (compPost (model X.prog X.w) X.A X.xe none (EP X pins σ Q) (.ref S) (S + 1)) s4 := by
        have hkx : (compEnvC scope (cellsFrom (S + 1 + 1) scope.names (cloFrom X.env.cells scope.names [])) (S + 1) X.env).kindOf x = some .local := lookup_relabel_local hx
        refine drainC (env := compEnvC scope (cellsFrom (S + 1 + 1) scope.names (cloFrom X.env.cells scope.names [])) (S + 1) X.env) (x := x) (outer := X.stack) (H := H1) (sc := s1) (C := S + 1) (S := S) (a := a) (g := gi) (Q := fun zs H' => Same H1 H' ∧ DpAll X.K H' zs out) (I1.ok.hd g.calm) (g.room.mono hj).depth hSa hCa (Nat.ne_of_lt (Nat.lt_succ_self S)) hSs hCs rfl hk hkx hdb
          (fun s' its n H' zs q1 q2 q3 q4 q5 q6 q7 q8 q9 q10 q11 => ?_) sizeLine s4 ⟨isg4, nl4, hns4, .fresh c, by rw [gens4]; exact hgs, rfl, seg_red (wake X.A.in1 (S + 1) S _ rm I1.ok.frames (Nat.ne_of_lt (Nat.lt_succ_self S)) (Nat.le_of_eq hSe) (by omega) (fun q o e => kp4 q o (kp3 q o e)) ⟨0, eS4⟩ hns4 os4 (allBare_setGen (by rw [gens4]; exact bare2) rfl))⟩
        obtain ⟨m', hm'⟩ := q10
        obtain ⟨q11, q12⟩ := q11
        have I2 : Inv X pins σ (upd H' S (.lst zs)) s' := I1.drained l1S q3 q1 q2 .nil q4 q5 q6 q7 q8
        refine ⟨m', hm', fun h' sb => ?_⟩
        obtain ⟨f0, f1, f2, f3, f4, f5⟩ := I1.fpOk (H' := upd H' S (.lst zs)) (b := S + 1) (by omega) (by rw [upd_ne (Nat.ne_of_gt (Nat.lt_succ_self S))]; exact q9)
        exact ⟨.ref S, upd H' S (.lst zs), I2.turned (t' := s'.toks) (fun b o hb e => (sb.2 b hb).trans e) f0 f1 f3 f4 f5, rfl, h.2 _ _ ((sm1.trans q11).trans (Same.new q8)) ⟨S, zs, rfl, upd_same, dpAll_mono (Same.new q8) q12⟩⟩
      exact codeAny_compStart_list loop (wpAny_pyIter_gen isg4 loop)
end Lc
end
section
/-! Book.payable: a generator. -/
namespace Lc
open PySem L2
def payers (b : Bk) (i : Int) : List Str := match b.rows[i.toNat]? with
  | some r => namesPaying b.purses r.day r.kind
  | none => []
def payPair (b : Bk) (i : Int) : D := .tuple [.int i, strsD (payers b i)]
theorem open_at {b : Bk} {i : Int} (h : i ∈ openRows b) : 0 ≤ i ∧ ∃ r, b.rows[i.toNat]? = some r ∧ r.isBuy = true := by
  unfold openRows at h
  obtain ⟨p, hp, rfl⟩ := List.mem_map.mp h
  obtain ⟨h1, h2⟩ := List.mem_filter.mp hp
  have z := List.mem_zipIdx' h1
  refine ⟨by omega, p.1, ?_, h2⟩
  rw [Int.toNat_natCast]
  have w := List.getElem?_eq_getElem z.1
  exact w.trans (congrArg some z.2.symm)
theorem openRows_len (b : Bk) : (openRows b).length ≤ b.rows.length := by
  unfold openRows
  rw [List.length_map]
  refine Nat.le_trans (List.length_filter_le _ _) ?_
  rw [List.length_zipIdx]
  exact Nat.le_refl _
section
variable {P : Program} {w : World} {K : PySem.W.Frag} {mg : Str → Option Value} {base : Heap} {CA CW CB : Addr}
inductive FPayable (K : PySem.W.Frag) (CB : Addr) : FnG
  | mk (b : Bk) (h : b.purses.length ≤ 100) (h' : b.rows.length ≤ 100) : FPayable K CB [bookE K CB b] ((openRows b).map (payPair b))
theorem ok_Book_payable (T : TxtB K mg CA CW CB) : GGen P w K mg base CB "payable" 4 (FPayable K CB) :=
  ggen_mk (N := ["self", "t"]) (k := 3) T.m_Book_payable ["self"] ⟨rfl, rfl, rfl, by decide +kernel, rfl, by decide +kernel, by decide +kernel⟩ (fun _ _ _ _ _ _ us hl => match us, hl with | [_], _ => rfl) (fun _ _ h => by cases h <;> rfl) fun f cdv A outer s H pn g Es out hF => by
    cases hF with
    | mk b h h' =>
      intro A0 C S Q σ H1 s1 s0 hA nx fS fC hne hE hG hQ
      refine seg_loopY (ρ := startR ["self", "t"] [bookE K CB b]) (xs := openRows b) (f0 := PyData.int) (v := payPair b) g hA nx fS fC hne [1] (di_T (de_call (ok_open_rows T.toTxt) g (da_cons (de_fld T.c_Book T.na_CB_own_book bk_book (de_var 0)) da_nil) (.mk b h'))) (pg_name (i := 1) (by exact g.nd) rfl (by first | exact Or.inl rfl | exact Or.inr rfl)) (fun x _ => gbn 1) (by decide) (fun i hi => ?_) (Nat.le_trans (openRows_len b) (by omega)) (by intro _; rfl) rfl rfl hE hG hQ
      obtain ⟨h0, r, hr, _⟩ := open_at hi
      refine de_is (de_tup (dd_cons (de_var 1) (dd_cons (de_call (ok_payers T.toTxt) g (da_cons (de_fld T.c_Book T.na_CB_own_book bk_book (de_var 0)) (da_cons (de_var 1) da_nil)) (.mk b i r h h0 hr)) dd_nil))) ?_
      unfold payPair payers
      rw [hr]
end
end Lc
end
section
/-! The law's first look: a Book and the functions. -/
namespace Lc
open PySem L2
structure GoodF (b : Bk) : Prop where
  valid : Valid b
  small : Small b
  lines : ∀ x ∈ lns b, x.Ok
  slots : ∀ l ∈ b.limits, SlotsOk (areaOf l)
  few : ∀ l ∈ b.limits, l.names.length ≤ 100
  sorted : ∀ z ∈ b.purses.map (·.name), ∀ d : Int, ((limitsOver b z d).map PyData.int).mergeSort leD = ((List.range b.limits.length).filter fun k => match b.limits[k]? with | some l => decide ((z, d) ∈ slotsOf (areaOf l)) | none => false).map fun k => .int (k : Int)
theorem box_ok {b : Bk} {l : Limit} (h : BkOk b) (hl : l ∈ b.limits) (hf : l.names.length ≤ 100) : BoxOk l.names l.first l.last := ⟨hf, (h.limits l hl).first, h.days l hl⟩
theorem ints_alike (l : List Int) : PySem.W.AllAlike (l.map PyData.int) := PySem.W.AllAlike.of fun b b' => rfl
theorem ints_sortable (l : List Int) : PySem.W.Sortable (l.map PyData.int) := PySem.W.Sortable.others fun b => ⟨fun q => (by cases q), fun xs q => (by cases q)⟩
theorem over_len (b : Bk) (z : Str) (d : Int) (h : b.limits.length ≤ 1000000) : (limitsOver b z d).length ≤ 1000000 := by
  unfold limitsOver overs
  rw [List.length_map, List.length_mergeSort, List.length_map]
  refine Nat.le_trans (List.length_filter_le _ _) ?_
  rw [List.length_zipIdx]
  exact h
theorem pl_intsD (l : List Int) : Pl (intsD l) := ⟨nb_intsD l, Nat.le_trans (dp_intsD l) (by decide)⟩
theorem pl_nats (l : List Nat) : Pl (.list (l.map fun (k : Nat) => PyData.int (k : Int))) := by
  refine ⟨?_, ?_⟩
  · simp only [nb]
    exact nbAll_map _ l fun _ _ => rfl
  · have := depthAll_map (fun (k : Nat) => PyData.int (k : Int)) 0 l fun _ _ => Nat.le_refl _
    simp only [PyData.depth]
    omega
open Classical in
theorem bkEq_same (b : Bk) : bkEq b b = true := by
  unfold bkEq
  exact decide_eq_true rfl
theorem pl_rowsD (l : List Rw) : Pl (rowsD l) := by
  refine ⟨?_, ?_⟩
  · unfold rowsD
    simp only [nb]
    exact nbAll_map rowD l fun x _ => nb_rowD x
  · have := depthAll_map rowD 2 l fun x _ => dp_rowD x
    unfold rowsD
    simp only [PyData.depth]
    omega
theorem nl_pay (b : Bk) (i : Int) : nl (payPair b i) = true := by
  unfold payPair
  simp only [nl, nlAll, nl_strsD, Bool.and_self]
theorem pl_pays (b : Bk) (l : List Int) : Pl (.list (l.map (payPair b))) := by
  refine ⟨?_, ?_⟩
  · simp only [nb]
    refine nbAll_map _ l fun x _ => ?_
    unfold payPair
    simp only [nb, nbAll, nb_strsD, Bool.and_self]
  · have := depthAll_map (payPair b) 2 l fun x _ => by
      unfold payPair
      have := dp_strsD (payers b x)
      simp only [PyData.depth, PyData.depthAll]
      omega
    simp only [PyData.depth]
    omega
section
variable {P : Program} {w : World} {K : PySem.W.Frag} {mg : Str → Option Value} {base : Heap} {CA CW CB : Addr}
inductive FFunctions (K : PySem.W.Frag) (CB : Addr) : Fn
  | mk (b : Bk) (h : GoodF b) : FFunctions K CB [bookE K CB b] (dat K (.bool true))
theorem ok_law_functions_right (T : TxtB K mg CA CW CB) : GFun P w K mg base "_law_functions_right" 9 (FFunctions K CB) :=
  gfun_mk (N := ["_law_made", "_law_whole", "_law_one", "_law_spot", "_law_day_in", "_law_over_now", "_law_pair", "_law_k"]) (k := 8) T.d_law_functions_right ["_law_made"] ⟨rfl, rfl, rfl, by decide +kernel, rfl, by decide +kernel, by decide +kernel⟩ (fun _ _ _ _ _ _ us hl => match us, hl with | [_], _ => rfl) (fun _ _ h => by cases h <;> rfl) fun f cdv A outer s H E0 g Es E hF => by
    cases hF with
    | mk b h =>
      have hv := h.valid
      have hb := hv.toBkOk
      have made : DE (cx P w K mg base ["_law_made", "_law_whole", "_law_one", "_law_spot", "_law_day_in", "_law_over_now", "_law_pair", "_law_k"] "_law_functions_right" (top 99) f cdv A outer s H E0) (startR ["_law_made", "_law_whole", "_law_one", "_law_spot", "_law_day_in", "_law_over_now", "_law_pair", "_law_k"] [bookE K CB b]) (.Name "_law_made" ⟨0, 0, 0, 0⟩) (bookE K CB b) := de_var 0
      refine .inl (dr_cons (ds_set g 1 (de_prop (ok_Book_form T) T.c_Book g (de_var 0) bk_ins (.mk b))) ?_)
      refine dr_cons (ds_skip (dt_w (dw_orF (dt_is (dt_c (dc_neI (de_call (ok_lets_book T.toTxt) g (da_cons (de_var 1) da_nil) (.mk b hv)) (de_lenOwn T.B (ok_Book_len T) g (Nat.le_trans hb.nr (by decide)) (de_var 0) bk_ins (.mk b)))) (by simp)) (dw_or1 (dt_is (dt_c (dc_neS (de_strOwn T.B (ok_Book_str T) g (de_var 0) bk_ins (.mk b hb h.small)) (de_call (ok_book_text T.toTxt) g (da_cons (de_var 1) da_nil) (.mk b hb h.small)))) (by simp)))))) ?_
      refine dr_cons (ds_skip (dt_w (dw_orF (dt_c (dc_neF g (de_callKw (ok_book_read T.toTxt) g (da_cons (de_strOwn T.B (ok_Book_str T) g (de_var 0) bk_ins (.mk b hb h.small)) da_nil) (Ds := [dat K (.int 0)]) (fun H => .cons (.int 0) .nil) (.mk b hb h.small hv.ne h.lines)) (de_var 1) (pl_bkD b) rfl)) (dw_or1 (dt_is (dt_c (dc_neOwn (ok_Book_eq T) T.no_Book (fun Es E hF v H hv => by cases hF; cases hv; exact ⟨_, rfl⟩) g (de_cm (ok_Book_parsed T) g T.g_Book (da_cons (de_strOwn T.B (ok_Book_str T) g (de_var 0) bk_ins (.mk b hb h.small)) da_nil) (.mk b hv h.small h.lines)) (de_var 0) bk_ins bk_ins (.mk b b))) (by rw [bkEq_same]; rfl)))))) ?_
      refine dr_cons (ds_skip (dt_w (dw_orF
        (dt_c (dc_neF g (de_tup (ds := [pursesD b.purses, limitsD b.limits, rowsD b.rows]) (dd_cons (de_prop (ok_Book_purse_rows T) T.c_Book g (de_var 0) bk_ins (.mk b)) (dd_cons (de_prop (ok_Book_limit_rows T) T.c_Book g (de_var 0) bk_ins (.mk b)) (dd_cons (de_prop (ok_Book_row_rows T) T.c_Book g (de_var 0) bk_ins (.mk b)) dd_nil)))) (de_var 1) (pl_bkD b) rfl))
        (dw_or1 (dt_c (dc_neF g (de_tupleL T.B (de_ld (de_lcA g (xs := b.rows) (f0 := rowD) rowD (di_own (ok_Book_iter T) g (de_var 0) bk_fld) (blkOk_by (own := [("_law_one", 2)]) (N := ["_law_made", "_law_whole", "_law_one", "_law_spot", "_law_day_in", "_law_over_now", "_law_pair", "_law_k"]) (sc := defScope (top 99)) (by decide +kernel)) (fun _ _ _ _ _ => (pg_name (i := 2) (by exact g.nd) rfl (by first | exact Or.inl rfl | exact Or.inr rfl))) (fun x _ => gbn 2) (fun _ _ _ _ _ x hx => de_var 2) (fun x _ => nl_rowD x) (Nat.le_trans hb.nr (by decide))))) (de_ixTc (d := rowsD b.rows) (de_var 1)) (pl_rowsD b.rows) rfl)))))) ?_
      refine dr_cons (ds_skip (dt_c (dc_neF g
        (de_ld (de_lcG (ok_Book_payable T) T.c_Book (bk_insOf rfl) g (de_var 0) (.mk b hb.np hb.nr) (by rw [List.length_map]; exact Nat.le_trans (openRows_len b) (Nat.le_trans hb.nr (by decide)))))
        (de_ld (de_lcA g (xs := openRows b) (f0 := PyData.int) (payPair b) (di_T (de_call (ok_open_rows T.toTxt) g (da_cons (de_var 1) da_nil) (.mk b hb.nr))) (blkOk_by (own := [("_law_spot", 3)]) (N := ["_law_made", "_law_whole", "_law_one", "_law_spot", "_law_day_in", "_law_over_now", "_law_pair", "_law_k"]) (sc := defScope (top 99)) (by decide +kernel)) (fun _ _ _ _ _ => (pg_name (i := 3) (by exact g.nd) rfl (by first | exact Or.inl rfl | exact Or.inr rfl))) (fun x _ => gbn 3) (fun _ _ _ _ _ i hi => ?_) (fun x _ => nl_pay b x) (Nat.le_trans (openRows_len b) (Nat.le_trans hb.nr (by decide)))))
        (pl_pays b (openRows b)) rfl))) ?_
      · obtain ⟨h0, r, hr, _⟩ := open_at hi
        refine de_is (de_tup (dd_cons (de_var 3) (dd_cons (de_call (ok_payers T.toTxt) (g.blk _ _ _ _ _) (da_cons (de_var 1) (da_cons (de_var 3) da_nil)) (.mk b i r hb.np h0 hr)) dd_nil))) ?_
        unfold payPair payers
        rw [hr]
      have hnr : b.rows.length ≤ 1000000 := Nat.le_trans hb.nr (by decide)
      have hnl : b.limits.length ≤ 1000000 := Nat.le_trans hb.nl (by decide)
      have hsplit := split_book hv.ne h.lines
      have htl : (bookText b).length ≤ 1000000 := Nat.le_trans (join_len _ _) (text_len hb h.small)
      refine dr_cons (ds_each g (xs := List.range b.rows.length) (f0 := fun (j : Nat) => .int (j : Int)) [3] PassesOwn.never (di_is (di_range1 T.B (n := b.rows.length) hnr (de_lenOwn T.B (ok_Book_len T) g hnr (de_var 0) bk_ins (.mk b))) (range0 _)) (pg_name (i := 3) (by exact g.nd) rfl (by first | exact Or.inl rfl | exact Or.inr rfl)) (fun x _ => gbn 3) fun j hj => ?_) ?_
      · have hj := List.mem_range.mp hj
        have hr : b.rows[j]? = some b.rows[j] := List.getElem?_eq_getElem hj
        generalize b.rows[j] = r at hr
        have hm : r ∈ b.rows := List.mem_of_getElem? hr
        have item : ∀ {p1 p2 p3 : Pos}, DE (cx P w K mg base ["_law_made", "_law_whole", "_law_one", "_law_spot", "_law_day_in", "_law_over_now", "_law_pair", "_law_k"] "_law_functions_right" (top 99) f cdv A outer s H E0) [some (bookE K CB b), some (dat K (bkD b)), none, some (dat K (.int (j : Int))), none, none, none, none] (.Subscript (.Name "_law_made" p1) (.Name "_law_spot" p2) p3) (dat K (rowD r)) := fun {p1 p2 p3} => de_ixOwn (ok_Book_getitem T) g (de_var 0) (de_var 3) bk_ins (.mk b j r hr) (fnIn_of T.m_Book_getitem)
        refine lb (dn_one (ds_skip (dt_w (dw_orF (dt_is (dt_c (dc_niOwn (ok_Book_contains T) g item (de_var 0) bk_ins (.mk b r (hb.rows r hm) hm))) rfl) (dw_or1 (dt_is (dt_c (dc_niLs (l := bookLines b) g (de_call (ok_row_text T.toTxt) g (da_cons item da_nil) (.mk r (hb.rows r hm) (h.small.rows r hm))) (de_is (de_split (y := "\n") (by decide +kernel) htl (de_strOwn T.B (ok_Book_str T) g (de_var 0) bk_ins (.mk b hb h.small)) de_str) (by rw [hsplit])))) (decide_eq_false fun q => q (List.mem_append_right _ (List.mem_map_of_mem hm)))))))))
      refine dr_cons (ds_each g (xs := b.purses) (f0 := purseD) [2, 4, 5, 7] PassesOwn.never (di_T (de_prop (ok_Book_purse_rows T) T.c_Book g (de_var 0) bk_ins (.mk b))) (pg_name (i := 2) (by exact g.nd) rfl (by first | exact Or.inl rfl | exact Or.inr rfl)) (fun x _ => gbn 2) fun p hp => ?_) (dr_ret de_bl)
      have hpm : p.name ∈ b.purses.map (·.name) := List.mem_map_of_mem hp
      have hpn := (hb.purses p hp).name
      refine lb (dn_one (ds_each g (xs := ([0, 3, 6, 9] : List Int)) (f0 := PyData.int) [4, 5, 7] PassesOwn.never (di_is (di_range3 T.B (n := 4) ⟨by decide, by decide, by decide +kernel, by decide +kernel⟩ de_int de_int de_int) rfl) (pg_name (i := 4) (by exact g.nd) rfl (by first | exact Or.inl rfl | exact Or.inr rfl)) (fun x _ => gbn 4) fun d hd => ?_))
      have hd0 : 0 ≤ d := by
        simp only [List.mem_cons, List.not_mem_nil, or_false] at hd
        omega
      refine lb (dn_cons (ds_set g 5 (de_callO (ok_Book_call T) (fnIn_of T.m_Book_call) g (de_var 0) bk_ins (da_cons (de_ixTc (de_var 2)) (da_cons (de_var 4) da_nil)) (.mk b p.name d hb hpn hpm hd0))) (dn_cons (ds_skip (dt_c (dc_neF g (de_var 5) (de_call (ok_limits_over T.toTxt) g (da_cons (de_var 1) (da_cons (de_ixTc (de_var 2)) (da_cons (de_var 4) da_nil))) (.mk b p.name d hb hpn hpm hd0)) (pl_intsD _) rfl)))
        (dn_one (ds_skip (dt_c (dc_neF g (de_ld (de_sorted T.B g (.inr (de_var 5)) (ints_alike _) (ints_sortable _) (fun d hd => by obtain ⟨i, _, rfl⟩ := List.mem_map.mp hd; exact Nat.zero_le _) (by rw [List.length_map]; exact over_len b p.name d hnl)))
          (de_ld (de_lc g (xs := List.range b.limits.length) (f0 := fun (k : Nat) => .int (k : Int)) (fun k => match b.limits[k]? with | some l => decide ((p.name, d) ∈ slotsOf (areaOf l)) | none => false) (fun k => .int (k : Int)) (di_is (di_range1 T.B (n := b.limits.length) hnl (de_is (de_lenT T.B (ds := b.limits.map limitD) (de_ixTc (de_var 1))) (by rw [List.length_map]))) (range0 _)) (blkOk_by (own := [("_law_k", 7)]) (N := ["_law_made", "_law_whole", "_law_one", "_law_spot", "_law_day_in", "_law_over_now", "_law_pair", "_law_k"]) (sc := defScope (top 99)) (by decide +kernel)) (fun _ _ _ _ _ => (pg_name (i := 7) (by exact g.nd) rfl (by first | exact Or.inl rfl | exact Or.inr rfl))) (fun x _ => gbn 7) (fun _ _ _ _ _ k hk => ?_) (fun _ _ _ _ _ k hk _ => de_var 7) (fun _ _ _ => rfl) (by rw [List.length_range]; exact hnl)))
          (by rw [h.sorted p.name hpm d]; exact pl_nats _) (congrArg PyData.list (h.sorted p.name hpm d))))))))
      have hk := List.mem_range.mp hk
      have hl : b.limits[k]? = some b.limits[k] := List.getElem?_eq_getElem hk
      generalize b.limits[k] = l at hl
      have hlm : l ∈ b.limits := List.mem_of_getElem? hl
      have hlo := hb.limits l hlm
      rw [hl]
      have ho := h.slots l hlm
      exact dts_one (dt_c (dc_inOwn (ok_Area_contains T) (g.blk _ _ _ _ _) (de_tup (ds := [PyData.str p.name, .int d]) (dd_cons (de_ixTc (de_var 2)) (dd_cons (de_var 4) dd_nil))) (de_meth (ok_Book_area T) T.c_Book (bk_insOf rfl) (g.blk _ _ _ _ _) (de_var 0) (da_cons (de_var 7) da_nil) (.mk b k l hl (box_ok hb hlm (h.few l hlm)) hlo.last ho)) ar_ins (.mk (slotsOf (areaOf l)) (p.name, d) ⟨hpn, hd0⟩)))
end
end Lc
end
section
/-! Storing to a place of an own list; floor division, remainder, powers of numbers. -/
namespace Lc
open PySem L2
section
variable {ρ ρ1 : Rho} {S S' : Sta} {E : Ent} {X : Cx} {o e ix a b : Expr} {pos pos' : Pos} {CW l : Addr} {i j : Int} {n : Nat}
theorem ms_item (sr : SR CW l S ρ) (hp : PG X (.Subscript o ix pos') (gSub (tD ρ1 (val (.ref l))) (tD ρ1 (dat X.K (.int (n : Nat)))) rSetL)) (hv : DE X ρ1 e E) (up : Up ρ S ρ1) (hs : ∀ H, S.is H → ∃ xs, H l = some (.lst xs) ∧ n < xs.length) (hS : ∀ H u xs, S.is H → E.is u H → H l = some (.lst xs) → S'.is (upd H l (.lst (xs.set n u))))
    (h1 : swapsWithSole [.Subscript o ix pos'] e pos.line X.env = pure false := by rfl) (h2 : swappedStores [.Subscript o ix pos'] e X.env = pure none := by rfl) (h3 : (assignEach [.Subscript o ix pos'] X.env).map (·.2) = [assign (.Subscript o ix pos') X.env] := by rfl) : MS X CW ρ S (.Assign [.Subscript o ix pos'] e pos) ρ S' :=
  PS.imp (ps_asg hv hp h1 h2 h3) fun D σ H hl z => ⟨up σ H z.1 z.2.1, fun v H1 s1 i1 => ⟨(up σ H z.1 z.2.1).mono s1, fun oo H2 s2 i2 => ⟨((up σ H z.1 z.2.1).mono s1).mono s2, fun ii H3 s3 i3 => by
    cases i2
    cases i3
    have s := (s1.trans s2).trans s3
    have hS3 := S.mono s z.2.1
    obtain ⟨xs, q1, q2⟩ := hs H3 hS3
    have kp : Kp CW l H3 (upd H3 l (.lst (xs.set n v))) := kp_upd q1 (fun q => q)
    refine ⟨l, xs, (n : Int), n, rfl, rfl, q1, ?_, z.2.2 σ _ ((Keep.same s).trans kp.keep) rfl (sr.env hS3 kp (z.1.mono s)) (hS H3 v xs hS3 (E.mono (s2.trans s3) i1) q1)⟩
    unfold ixN
    rw [if_pos (by omega), if_pos (by omega)]
    rfl⟩⟩⟩
theorem de_fdiv (h : 0 < j ∧ j < 1073741824) (ha : DE X ρ a (dat X.K (.int i))) (hb : DE X ρ b (dat X.K (.int j))) : DE X ρ (.BinOp a .FloorDiv b pos) (dat X.K (.int (i / j))) :=
  de_op2 op_fdiv ha hb fun x y H Q h1 h2 z => by
    cases h1
    cases h2
    exact ⟨i, j, rfl, rfl, h, z _ _ (Same.refl H) (.int _)⟩
theorem de_mod (h : 0 < j) (ha : DE X ρ a (dat X.K (.int i))) (hb : DE X ρ b (dat X.K (.int j))) : DE X ρ (.BinOp a .Mod b pos) (dat X.K (.int (i % j))) :=
  de_op2 op_mod ha hb fun x y H Q h1 h2 z => by
    cases h1
    cases h2
    exact ⟨i, j, rfl, rfl, h, z _ _ (Same.refl H) (.int _)⟩
theorem de_pow (h : 0 ≤ j ∧ j ≤ 1000000 ∧ i.natAbs < 2 ^ 64) (ha : DE X ρ a (dat X.K (.int i))) (hb : DE X ρ b (dat X.K (.int j))) : DE X ρ (.BinOp a .Pow b pos) (dat X.K (.int (i ^ j.toNat))) :=
  de_op2 op_pow ha hb fun x y H Q h1 h2 z => by
    cases h1
    cases h2
    exact ⟨i, j, rfl, rfl, h, z _ _ (Same.refl H) (.int _)⟩
end
end Lc
end
section
/-! The law's plain helpers: within, crosses, pays. -/
namespace Lc
open PySem L2
def lawWithin (x y : Limit) : Bool := !decide (x.names.filter (fun n => decide (n ∉ y.names)) ≠ []) && (decide (y.first ≤ x.first) && decide (x.last ≤ y.last))
def lawPays (p : Purse) (r : Rw) : Bool := decide (r.kind ∈ p.kinds) && (decide (p.first ≤ r.day) && decide (r.day ≤ p.last))
def lawApart (x y : Limit) : Bool := decide (x.names.filter (fun n => decide (n ∈ y.names)) = []) || (decide (x.last < y.first) || decide (y.last < x.first))
def lawCrosses (x y : Limit) : Bool := !lawApart x y && (lawWithin x y == lawWithin y x)
theorem strs_nil {l : List Str} : (PyData.list (l.map PyData.str) ≠ PyData.list []) ↔ l ≠ [] := by
  cases l with
  | nil => simp
  | cons a l => simp
theorem strs_nil' {l : List Str} : (PyData.list (l.map PyData.str) = PyData.list []) ↔ l = [] := by
  cases l with
  | nil => simp
  | cons a l => simp
theorem pl_listS (l : List Str) : Pl (.list (l.map PyData.str)) := by
  refine ⟨?_, ?_⟩
  · simp only [nb]
    exact nbAll_strs l
  · have := depthAll_map PyData.str 0 l fun _ _ => Nat.le_refl _
    simp only [PyData.depth]
    omega
section
variable {P : Program} {w : World} {K : PySem.W.Frag} {mg : Str → Option Value} {base : Heap} {CA CW CB : Addr}
inductive FLawWithin (K : PySem.W.Frag) : Fn
  | mk (x y : Limit) (h : x.names.length ≤ 1000) : FLawWithin K [dat K (limitD x), dat K (limitD y)] (dat K (.bool (lawWithin x y)))
theorem ok_law_within (T : Txt K mg CA CW CB) : GFun P w K mg base "_law_within" 1 (FLawWithin K) :=
  gfun_mk (N := ["_law_one", "_law_other", "_law_name"]) (k := 0) T.d_law_within ["_law_one", "_law_other"] ⟨rfl, rfl, rfl, by decide +kernel, rfl, by decide +kernel, by decide +kernel⟩ (fun _ _ _ _ _ _ us hl => match us, hl with | [_, _], _ => rfl) (fun _ _ h => by cases h <;> rfl) fun f cdv A outer s H E0 g Es E hF => by
    cases hF with
    | mk x y h =>
      refine .inl (dr_if (p := decide (x.names.filter (fun n => decide (n ∉ y.names)) ≠ [])) (dt_is (dt_c (dc_ne g (de_ld (de_lc g (xs := x.names) (f0 := PyData.str) (fun n => decide (n ∉ y.names)) (fun n => .str n) (di_T (de_ixTc (de_var 0))) (blkOk_by (own := [("_law_name", 2)]) (N := ["_law_one", "_law_other", "_law_name"]) (sc := defScope (top 90)) (by decide +kernel)) (fun _ _ _ _ _ => (pg_name (i := 2) (by exact g.nd) rfl (by first | exact Or.inl rfl | exact Or.inr rfl))) (fun x _ => gbn 2)
        (fun _ _ _ _ _ n hn => dts_one (dt_c (dc_niTs (l := y.names) (g.blk _ _ _ _ _) (de_var 2) (de_ixTc (de_var 1))))) (fun _ _ _ _ _ n hn _ => de_var 2) (fun _ _ _ => rfl) (by omega))) (de_lst dd_nil) (pl_listS _) ⟨rfl, Nat.le_of_ble_eq_true rfl⟩)) (decide_eq_decide.mpr strs_nil)) (fun hp => dr_ret (de_b de_bl ?_)) fun hp => dr_ret (de_b (de_and (de_c (dc_le (de_ixTc (de_var 1)) (de_ixTc (de_var 0)))) fun _ => de_one (de_c (dc_le (de_ixTc (de_var 0)) (de_ixTc (de_var 1))))) ?_))
      · unfold lawWithin
        rw [hp]
        rfl
      · unfold lawWithin
        rw [hp]
        rfl
inductive FLawPays (K : PySem.W.Frag) : Fn
  | mk (p : Purse) (r : Rw) : FLawPays K [dat K (purseD p), dat K (rowD r)] (dat K (.bool (lawPays p r)))
theorem ok_law_pays (T : Txt K mg CA CW CB) : GFun P w K mg base "_law_pays" 1 (FLawPays K) :=
  gfun_mk (N := ["_law_purse_in", "_law_row_in"]) (k := 0) T.d_law_pays ["_law_purse_in", "_law_row_in"] ⟨rfl, rfl, rfl, by decide +kernel, rfl, by decide +kernel, by decide +kernel⟩ (fun _ _ _ _ _ _ us hl => match us, hl with | [_, _], _ => rfl) (fun _ _ h => by cases h <;> rfl) fun f cdv A outer s H E0 g Es E hF => by
    cases hF with
    | mk p r =>
      exact .inl (dr_ret (de_and (de_c (dc_inTs (l := p.kinds) g (de_ixTc (de_var 1)) (de_ixTc (de_var 0)))) fun _ => de_one (de_chainLe (de_ixTc (de_var 0)) (de_ixTc (de_var 1)) (de_ixTc (de_var 0)))))
inductive FLawCrosses (K : PySem.W.Frag) : Fn
  | mk (x y : Limit) (h : x.names.length ≤ 1000) (h' : y.names.length ≤ 1000) : FLawCrosses K [dat K (limitD x), dat K (limitD y)] (dat K (.bool (lawCrosses x y)))
theorem ok_law_crosses (T : Txt K mg CA CW CB) : GFun P w K mg base "_law_crosses" 2 (FLawCrosses K) :=
  gfun_mk (N := ["_law_one", "_law_other", "_law_name"]) (k := 1) T.d_law_crosses ["_law_one", "_law_other"] ⟨rfl, rfl, rfl, by decide +kernel, rfl, by decide +kernel, by decide +kernel⟩ (fun _ _ _ _ _ _ us hl => match us, hl with | [_, _], _ => rfl) (fun _ _ h => by cases h <;> rfl) fun f cdv A outer s H E0 g Es E hF => by
    cases hF with
    | mk x y h h' =>
      refine .inl (dr_if (p := lawApart x y) (dt_w (dw_or (dt_is (dt_c (dc_eq g (de_ld (de_lc g (xs := x.names) (f0 := PyData.str) (fun n => decide (n ∈ y.names)) (fun n => .str n) (di_T (de_ixTc (de_var 0))) (blkOk_by (own := [("_law_name", 2)]) (N := ["_law_one", "_law_other", "_law_name"]) (sc := defScope (top 91)) (by decide +kernel)) (fun _ _ _ _ _ => (pg_name (i := 2) (by exact g.nd) rfl (by first | exact Or.inl rfl | exact Or.inr rfl))) (fun x _ => gbn 2)
        (fun _ _ _ _ _ n hn => dts_one (dt_c (dc_inTs (l := y.names) (g.blk _ _ _ _ _) (de_var 2) (de_ixTc (de_var 1))))) (fun _ _ _ _ _ n hn _ => de_var 2) (fun _ _ _ => rfl) (by omega))) (de_lst dd_nil) (pl_listS _) ⟨rfl, Nat.le_of_ble_eq_true rfl⟩)) (decide_eq_decide.mpr strs_nil')) fun _ => dw_or (dt_c (dc_lt (de_ixTc (de_var 0)) (de_ixTc (de_var 1)))) fun _ => dw_or1 (dt_c (dc_lt (de_ixTc (de_var 1)) (de_ixTc (de_var 0))))))
        (fun hp => dr_ret (de_b de_bl ?_)) fun hp => dr_ret (de_b (de_c (dc_eqB (de_call (ok_law_within T) g (da_cons (de_var 0) (da_cons (de_var 1) da_nil)) (.mk x y h)) (de_call (ok_law_within T) g (da_cons (de_var 1) (da_cons (de_var 0) da_nil)) (.mk y x h')))) ?_))
      · unfold lawCrosses
        rw [hp]
        rfl
      · unfold lawCrosses
        rw [hp]
        rfl
end
end Lc
end
section
/-! Loops that gather into one slot. -/
namespace Lc
open PySem L2
section
variable {X : Cx} {ρ : Rho} {α : Type} {k : Nat} {tg iter : Expr} {pos : Pos}
theorem EnvOk.off2 {σ : L2.St} {H : Hp} {ρ2 ρ1 : Rho} {ws : List Nat} (h : EnvOk σ H ρ1) (o : Off ws ρ2 ρ1) (n : ∀ i E, i ∈ ws → ρ2[i]? ≠ some (some E)) : EnvOk σ H ρ2 := fun i E q => by
  by_cases hi : i ∈ ws
  · exact absurd q (n i E hi)
  · exact h i E ((o i hi).trans q)
theorem acc_none {ws : List Nat} {t : Nat} {x : Option Ent} (ht : t ∉ ws) : ∀ i E, i ∈ ws → ((wipeR ρ ws).set t x)[i]? ≠ some (some E) := fun i E hi => by
  have ne : t ≠ i := fun e => ht (e ▸ hi)
  rw [List.getElem?_set_ne ne]
  exact wipeR_in hi
theorem ds_acc (gc : Gx X k) {xs : List α} {f0 : α → D} (ws : List Nat) (t : Nat) (ac : Nat → Ent) {g : TG} {js : List Nat} {f : α → Rho → Rho} {body : List Stmt} (hp : PassesOwn (model X.prog X.w) X.A X.env X.xe) (hi : DID X ρ tg iter (xs.map f0)) (hg : PG X tg g)
    (hgb : ∀ x ∈ xs, GB X.N.length g (dat X.K (f0 x)) js (f x)) (ht : t ∉ ws) (h0 : ρ[t]? = some (some (ac 0))) (hb : ∀ i x, xs[i]? = some x → ∃ ρ1, DN X (f x ((wipeR ρ ws).set t (some (ac i)))) body ρ1 ∧ Off ws ((wipeR ρ ws).set t (some (ac (i + 1)))) ρ1)
    (hs : ∀ x, foldedSetIterable iter X.env x = pure x := by intro _; rfl) : DS X ρ (.For tg iter body [] pos) ((wipeR ρ ws).set t (some (ac xs.length))) := by
  have key : ∀ i E, ((xs.map f0).map (dat X.K))[i]? = some E → ∃ x ∈ xs, xs[i]? = some x ∧ E = dat X.K (f0 x) := fun i E h => by
    obtain ⟨d, h1, rfl⟩ := get_map_dat h
    rw [List.getElem?_map] at h1
    cases e : xs[i]? with
    | none => rw [e] at h1; cases h1
    | some x =>
      rw [e] at h1
      cases h1
      exact ⟨x, List.mem_of_getElem? e, e, rfl⟩
  have hl : ((xs.map f0).map (dat X.K)).length = xs.length := by simp
  have e0 : (wipeR ρ ws).set t (some (ac xs.length)) = (fun i => (wipeR ρ ws).set t (some (ac i))) ((xs.map f0).map (dat X.K)).length := by rw [hl]
  rw [e0]
  refine ds_for (js := js) (f := fun i ρ => match xs[i]? with | some x => f x ρ | none => ρ) gc (fun i => (wipeR ρ ws).set t (some (ac i))) hp hi hg (fun σ H h => ?_) (fun i E h => ?_) (fun i hi => ?_) hs
  · refine h.off2 (ws := ws) (fun i hi => ?_) (acc_none ht)
    by_cases e : t = i
    · subst e
      rw [h0]
      have lt : t < (wipeR ρ ws).length := by
        rw [wipeR_len]
        exact (List.getElem?_eq_some_iff.mp h0).1
      rw [List.getElem?_set_self lt]
    · rw [List.getElem?_set_ne e]
      exact ((Off.refl (ws := ws) (ρ := ρ)).wipe (fun v hv => hv) i hi).symm
  · obtain ⟨x, hx, e, rfl⟩ := key i E h
    rw [e]
    exact hgb x hx
  · rw [hl] at hi
    have e : xs[i]? = some xs[i] := List.getElem?_eq_getElem hi
    rw [e]
    obtain ⟨ρ1, h1, ho⟩ := hb i _ e
    exact dn_weak h1 fun _ _ h => h.off2 ho (acc_none ht)
end
end Lc
end
section
/-! The law's count of what is spent. -/
namespace Lc
open PySem L2
def nameAt (ps : List Purse) (j : Nat) : Str := (ps.map (·.name)).getD j ""
def spentIn (ps : List Purse) (l : Limit) (s : List Int) : Int := (((List.range ps.length).filter fun j => decide (nameAt ps j ∈ l.names)).map fun j => s.getD j 0).sum
def inDays (l : Limit) (r : Rw) : Bool := r.isPaid && (decide (l.first ≤ r.day) && decide (r.day ≤ l.last))
def spentR (ps : List Purse) (l : Limit) (r : Rw) : Int := if inDays l r then spentIn ps l r.shares else 0
def spentTo (ps : List Purse) (l : Limit) (rows : List Rw) (i : Nat) : Int := ((rows.take i).map (spentR ps l)).sum
def lawSpent (ps : List Purse) (l : Limit) (rows : List Rw) : Int := (rows.map (spentR ps l)).sum
theorem spent_next {ps : List Purse} {l : Limit} {rows : List Rw} {i : Nat} {r : Rw} (h : rows[i]? = some r) : spentTo ps l rows (i + 1) = spentTo ps l rows i + spentR ps l r := by
  unfold spentTo
  rw [List.take_add_one, h, List.map_append, List.sum_append]
  simp
theorem spent_all {ps : List Purse} {l : Limit} {rows : List Rw} : spentTo ps l rows rows.length = lawSpent ps l rows := by
  unfold spentTo lawSpent
  rw [List.take_length]
theorem Off.acc {ws : List Nat} {ρ ρ1 : Rho} {t : Nat} {x y : Option Ent} (h : Off ws (ρ.set t x) ρ1) (ht : t ∉ ws) : Off ws (ρ.set t y) (ρ1.set t y) := fun i hi => by
  by_cases e : t = i
  · subst e
    have z := h t ht
    by_cases hl : t < ρ.length
    · rw [List.getElem?_set_self hl] at z
      rw [List.getElem?_set_self hl, List.getElem?_set_self (List.getElem?_eq_some_iff.mp z).1]
    · have z3 : (ρ.set t x)[t]? = none := List.getElem?_eq_none (by rw [List.length_set]; omega)
      rw [z3] at z
      have z2 : ρ1.length ≤ t := List.getElem?_eq_none_iff.mp z
      rw [List.getElem?_eq_none (by rw [List.length_set]; exact z2), List.getElem?_eq_none (by rw [List.length_set]; omega)]
  · rw [List.getElem?_set_ne e, List.getElem?_set_ne e]
    have z := h i hi
    rw [List.getElem?_set_ne e] at z
    exact z
section
variable {P : Program} {w : World} {K : PySem.W.Frag} {mg : Str → Option Value} {base : Heap} {CA CW CB : Addr}
inductive FSpent (K : PySem.W.Frag) : Fn
  | mk (ps : List Purse) (l : Limit) (rows : List Rw) (hp : ps.length ≤ 100) (hs : ∀ r ∈ rows, r.isPaid = true → r.shares.length = ps.length) : FSpent K [dat K (pursesD ps), dat K (limitD l), dat K (rowsD rows)] (dat K (.int (lawSpent ps l rows)))
theorem ok_law_spent (T : Txt K mg CA CW CB) : GFun P w K mg base "_law_spent" 1 (FSpent K) :=
  gfun_mk (N := ["_law_purses_in", "_law_limit_in", "_law_some", "_law_total", "_law_row_in", "_law_j"]) (k := 0) T.d_law_spent ["_law_purses_in", "_law_limit_in", "_law_some"] ⟨rfl, rfl, rfl, by decide +kernel, rfl, by decide +kernel, by decide +kernel⟩ (fun _ _ _ _ _ _ us hl => match us, hl with | [_, _, _], _ => rfl) (fun _ _ h => by cases h <;> rfl) fun f cdv A outer s H E0 g Es E hF => by
    cases hF with
    | mk ps l rows hp hs =>
      refine .inl (dr_cons (ds_set g 3 de_int) (dr_cons (ds_acc g (xs := rows) (f0 := rowD) [4, 5] 3 (fun i => dat K (.int (spentTo ps l rows i))) PassesOwn.never (di_T (de_var 2)) (pg_name (i := 4) (by exact g.nd) rfl (by first | exact Or.inl rfl | exact Or.inr rfl)) (fun x _ => gbn 4) (by decide) rfl fun i r hr => ?_) (dr_ret (de_is (de_var 3) (by rw [spent_all])))))
      have hm : r ∈ rows := List.mem_of_getElem? hr
      cases hin : inDays l r with
      | false =>
        refine ⟨_, dn_one (ds_skip (dt_is (dt_w (dw_and (dt_c (dc_eqS (de_ixTc (de_var 4)) de_str)) fun _ => dw_and1 (dt_chainLe (de_ixTc (de_var 1)) (de_ixTc (de_var 4)) (de_ixTc (de_var 1))))) (by rw [← hin]; rfl))), ?_⟩
        rw [spent_next hr, show spentR ps l r = 0 by unfold spentR; rw [hin]; rfl, Int.add_zero]
        repeat (first | exact Off.refl | refine Off.set ?_ (by decide) | refine Off.wipe ?_ (by decide))
      | true =>
        have hpd : r.isPaid = true := by
          unfold inDays at hin
          simp only [Bool.and_eq_true] at hin
          exact hin.1
        have hl := hs r hm hpd
        have hrest := isPaid_rest hpd
        refine ⟨_, dn_one (ds_ifT (dt_is (dt_w (dw_and (dt_c (dc_eqS (de_ixTc (de_var 4)) de_str)) fun _ => dw_and1 (dt_chainLe (de_ixTc (de_var 1)) (de_ixTc (de_var 4)) (de_ixTc (de_var 1))))) (by rw [← hin]; rfl)) (dn_one (ds_set g 3 (de_add (de_var 3) (de_sumX T.B g
          (de_lc g (xs := List.range ps.length) (f0 := fun (j : Nat) => .int (j : Int)) (fun j => decide (nameAt ps j ∈ l.names)) (fun j => .int (r.shares.getD j 0)) (di_is (di_range1 T.B (n := ps.length) (by omega) (de_is (de_lenT T.B (ds := ps.map purseD) (de_var 0)) (by rw [List.length_map]))) (range0 _)) (blkOk_by (own := [("_law_j", 5)]) (N := ["_law_purses_in", "_law_limit_in", "_law_some", "_law_total", "_law_row_in", "_law_j"]) (sc := defScope (top 93)) (by decide +kernel)) (fun _ _ _ _ _ => (pg_name (i := 5) (by exact g.nd) rfl (by first | exact Or.inl rfl | exact Or.inr rfl))) (fun x _ => gbn 5)
            (fun _ _ _ _ _ j hj => ?_) (fun _ _ _ _ _ j hj _ => ?_) (fun _ _ _ => rfl) (by rw [List.length_range]; omega))))))), ?_⟩
        · have hj' : j < ps.length := List.mem_range.mp hj
          obtain ⟨p, hp1, hp2⟩ : ∃ p, ps[j]? = some p ∧ nameAt ps j = p.name := ⟨ps[j], List.getElem?_eq_getElem hj', by
            unfold nameAt
            rw [List.getD_eq_getElem?_getD, List.getElem?_map, List.getElem?_eq_getElem hj']
            rfl⟩
          rw [hp2]
          exact dts_one (dt_c (dc_inTs (g.blk _ _ _ _ _) (de_ixTc (de_ixTi (d := purseD p) (i := (j : Int)) (by omega) (by rw [Int.toNat_natCast, List.getElem?_map, hp1]; rfl) (de_var 0) (de_var 5))) (de_ixTc (de_var 1))))
        · have hj' : j < r.shares.length := by rw [hl]; exact List.mem_range.mp hj
          refine de_ixTi (ds := r.shares.map PyData.int) (i := (j : Int)) (by omega) (by
            rw [Int.toNat_natCast, List.getElem?_map, List.getElem?_eq_getElem hj', List.getD_eq_getElem?_getD, List.getElem?_eq_getElem hj']
            rfl) (de_is (de_ixTc (de_var 4)) hrest) (de_var 5)
        · rw [spent_next hr, show spentR ps l r = spentIn ps l r.shares by unfold spentR; rw [hin]; rfl]
          refine Off.acc (x := some (dat K (.int (spentTo ps l rows i)))) ?_ (by decide)
          repeat (first | exact Off.refl | refine Off.set ?_ (by decide) | refine Off.wipe ?_ (by decide))
end
end Lc
end
section
/-! The law's second look: row by row. -/
namespace Lc
open PySem L2
theorem tadd1 {K : PySem.W.Frag} : PySem.W.findIn K (.type "tuple") (PySem.dunder (Operator.Add).info.2) = some (some (.builtin "tuple.__add__")) := by
  show PySem.fastLookup "tuple" _ = _
  kernel_rfl
theorem tadd2 {K : PySem.W.Frag} : PySem.W.findIn K (.type "tuple") (dunderR (Operator.Add).info.2) = some none := by
  show PySem.fastLookup "tuple" _ = _
  kernel_rfl
theorem isub1 {K : PySem.W.Frag} : PySem.W.findIn K (.type "int") (PySem.dunder (Operator.Sub).info.2) = some (some (.builtin "int.__sub__")) := by
  show PySem.fastLookup "int" _ = _
  kernel_rfl
theorem isub2 {K : PySem.W.Frag} : PySem.W.findIn K (.type "int") (dunderR (Operator.Sub).info.2) = some (some (.builtin "int.__rsub__")) := by
  show PySem.fastLookup "int" _ = _
  kernel_rfl
theorem tsub {K : PySem.W.Frag} {C : Addr} : PySem.W.subIn K (.type "tuple") (.ref C) = some false := by
  show (PySem.fastBuiltinMro "tuple").map _ = _
  rfl
theorem isub {K : PySem.W.Frag} {C : Addr} : PySem.W.subIn K (.type "int") (.ref C) = some false := by
  show (PySem.fastBuiltinMro "int").map _ = _
  rfl
/-! the data tell the book -/
theorem map_inj {α : Type} {f : α → D} (hf : ∀ x y, f x = f y → x = y) : ∀ {l m : List α}, l.map f = m.map f → l = m
  | [], [], _ => rfl
  | [], _ :: _, h => by cases h
  | _ :: _, [], h => by cases h
  | x :: l, y :: m, h => by
    rw [List.map_cons, List.map_cons] at h
    have h1 := List.cons.inj h
    rw [hf x y h1.1, map_inj hf h1.2]
theorem strsD_inj {l m : List Str} (h : strsD l = strsD m) : l = m := map_inj (fun x y q => PyData.str.inj q) (PyData.tuple.inj h)
theorem intsD_inj {l m : List Int} (h : intsD l = intsD m) : l = m := map_inj (fun x y q => PyData.int.inj q) (PyData.tuple.inj h)
theorem purseD_inj (x y : Purse) (h : purseD x = purseD y) : x = y := by
  have h1 := List.cons.inj (PyData.tuple.inj h)
  have h2 := List.cons.inj h1.2
  have h3 := List.cons.inj h2.2
  have h4 := List.cons.inj h3.2
  have h5 := List.cons.inj h4.2
  cases x
  cases y
  simp only [Purse.mk.injEq]
  exact ⟨PyData.str.inj h1.1, PyData.str.inj h2.1, strsD_inj h3.1, PyData.int.inj h4.1, PyData.int.inj h5.1⟩
theorem limitD_inj (x y : Limit) (h : limitD x = limitD y) : x = y := by
  have h1 := List.cons.inj (PyData.tuple.inj h)
  have h2 := List.cons.inj h1.2
  have h3 := List.cons.inj h2.2
  have h4 := List.cons.inj h3.2
  cases x
  cases y
  simp only [Limit.mk.injEq]
  exact ⟨strsD_inj h1.1, PyData.int.inj h2.1, PyData.int.inj h3.1, PyData.int.inj h4.1⟩
theorem rowD_inj (x y : Rw) (h : rowD x = rowD y) : x = y := by
  have h1 := List.cons.inj (PyData.tuple.inj h)
  have h2 := List.cons.inj h1.2
  have h3 := List.cons.inj h2.2
  have h4 := List.cons.inj h3.2
  have e1 := PyData.str.inj h1.1
  have e2 := PyData.int.inj h2.1
  have e3 := PyData.str.inj h3.1
  have e4 := h4.1
  cases x with
  | buy d k a =>
    cases y with
    | buy d' k' a' =>
      have e2 : d = d' := e2
      have e3 : k = k' := e3
      have e4 : a = a' := PyData.int.inj e4
      rw [e2, e3, e4]
    | paid d' k' s => exact absurd (show ("buy" : Str) = "paid" from e1) (by decide +kernel)
  | paid d k s =>
    cases y with
    | buy d' k' a' => exact absurd (show ("paid" : Str) = "buy" from e1) (by decide +kernel)
    | paid d' k' s' =>
      have e2 : d = d' := e2
      have e3 : k = k' := e3
      have e4 : s = s' := intsD_inj e4
      rw [e2, e3, e4]
theorem bkD_inj {b c : Bk} (h : bkD b = bkD c) : b = c := by
  have h1 := List.cons.inj (PyData.tuple.inj h)
  have h2 := List.cons.inj h1.2
  have h3 := List.cons.inj h2.2
  cases b
  cases c
  simp only [Bk.mk.injEq]
  exact ⟨map_inj purseD_inj (PyData.tuple.inj h1.1), map_inj limitD_inj (PyData.tuple.inj h2.1), map_inj rowD_inj (PyData.tuple.inj h3.1)⟩
open Classical in
theorem bkEq_of {b c : Bk} (h : b = c) : bkEq b c = true := by
  unfold bkEq
  exact decide_eq_true (by rw [h])
open Classical in
theorem bkEq_not {b c : Bk} (h : b ≠ c) : bkEq b c = false := by
  unfold bkEq
  exact decide_eq_false fun q => h (bkD_inj q)
def upTo (b : Bk) (i : Nat) : Bk := { b with rows := b.rows.take i }
theorem upTo_all (b : Bk) : upTo b b.rows.length = b := by
  unfold upTo
  rw [List.take_length]
theorem upTo_ne {b : Bk} {i : Nat} (h : i < b.rows.length) : upTo b i ≠ b := fun e => by
  have z := congrArg (fun c : Bk => c.rows.length) e
  simp only [upTo, List.length_take] at z
  omega
theorem upTo_next {b : Bk} {i : Nat} {r : Rw} (h : b.rows[i]? = some r) : withRow (upTo b i) r = upTo b (i + 1) := by
  unfold withRow upTo
  rw [List.take_add_one, h]
  rfl
theorem upTo_back {b : Bk} {i : Nat} (h : i < b.rows.length) : outRow (upTo b (i + 1)) i = upTo b i := by
  unfold outRow upTo
  simp only [Bk.mk.injEq, true_and]
  rw [List.eraseIdx_eq_take_drop_succ, List.drop_of_length_le (by rw [List.length_take]; omega), List.append_nil, List.take_take]
  congr 1
  omega
def spareR : Rw := .buy 2 "food" 3
structure GoodR (b : Bk) : Prop where
  valid : ∀ i, i ≤ b.rows.length → Valid (upTo b i)
  few : b.rows.length < 10
  spare : Valid (withRow b spareR)
theorem spare_out (b : Bk) : outRow (withRow b spareR) b.rows.length = b := by
  unfold outRow withRow
  rw [List.eraseIdx_append_of_length_le (Nat.le_refl _)]
  simp
theorem spare_ne (b : Bk) : withRow b spareR ≠ b := fun e => by
  have z := congrArg (fun c : Bk => c.rows.length) e
  simp only [withRow, List.length_append, List.length_singleton] at z
  omega
section
variable {P : Program} {w : World} {K : PySem.W.Frag} {mg : Str → Option Value} {base : Heap} {CA CW CB : Addr}
theorem shows_row {r : Rw} : ∀ v H, (dat K (rowD r)).is v H → Shows "tuple" v K H := fun v H h => by
  obtain ⟨p, xs, rfl, hx, _⟩ := dp_tuple h
  exact .inr ⟨rfl, p, xs, rfl, hx⟩
theorem shows_int {i : Int} : ∀ v H, (dat K (.int i)).is v H → Shows "int" v K H := fun v H h => by
  cases h
  exact .inl ⟨rfl, i, rfl⟩
theorem eq_bool {C : Addr} : ∀ Es E, FBookEq K C Es E → ∀ v H, E.is v H → ∃ q, v = .bl q := fun Es E hF v H hv => by
  cases hF
  cases hv
  exact ⟨_, rfl⟩
inductive FRows (K : PySem.W.Frag) (CB : Addr) : Fn
  | mk (b : Bk) (h : GoodR b) : FRows K CB [bookE K CB b] (dat K (.bool true))
theorem ok_law_rows_right (T : TxtB K mg CA CW CB) : GFun P w K mg base "_law_rows_right" 10 (FRows K CB) :=
  gfun_mk (N := ["_law_made", "_law_late", "_law_one", "_law_spot", "_law_spare", "_law_pair"]) (k := 9) T.d_law_rows_right ["_law_made"] ⟨rfl, rfl, rfl, by decide +kernel, rfl, by decide +kernel, by decide +kernel⟩ (fun _ _ _ _ _ _ us hl => match us, hl with | [_], _ => rfl) (fun _ _ h => by cases h <;> rfl) fun f cdv A outer s H E0 g Es E hF => by
    cases hF with
    | mk b h =>
      have hn9 : b.rows.length ≤ 1000000 := by have := h.few; omega
      have hv0 := h.valid 0 (Nat.zero_le _)
      have hb : Valid b := by
        have z := h.valid b.rows.length (Nat.le_refl _)
        rw [upTo_all] at z
        exact z
      have mk0 : ∀ {ρ : Rho} {p1 p2 p3 p4 p5 p6 : Pos}, ρ[0]? = some (some (bookE K CB b)) → DE (cx P w K mg base ["_law_made", "_law_late", "_law_one", "_law_spot", "_law_spare", "_law_pair"] "_law_rows_right" (top 100) f cdv A outer s H E0) ρ (.Call (.Name "Book" p1) [.Attribute (.Name "_law_made" p2) "purse_rows" p3, .Attribute (.Name "_law_made" p4) "limit_rows" p5] [] p6) (bookE K CB (upTo b 0)) := fun {ρ p1 p2 p3 p4 p5 p6} hρ =>
        de_makeD (ok_Book_init T) g T.g_Book (da_cons (de_prop (ok_Book_purse_rows T) T.c_Book g (de_var 0 hρ) bk_ins (.mk b)) (da_cons (de_prop (ok_Book_limit_rows T) T.c_Book g (de_var 0 hρ) bk_ins (.mk b)) da_nil)) (fun x => BkSt K CB x (upTo b 0)) (fun x => .mk x (upTo b 0) hv0) (fun x H t => ⟨x, rfl, t⟩)
      refine .inl (dr_cons (ds_set g 1 (mk0 rfl)) ?_)
      refine dr_cons (ds_acc g (xs := b.rows) (f0 := rowD) [2] 1 (fun i => bookE K CB (upTo b i)) PassesOwn.never (di_own (ok_Book_iter T) g (de_var 0) bk_fld) (pg_name (i := 2) (by exact g.nd) rfl (by first | exact Or.inl rfl | exact Or.inr rfl)) (fun x _ => gbn 2) (by decide) rfl fun i r hr => ?_) ?_
      · have hi : i < b.rows.length := (List.getElem?_eq_some_iff.mp hr).1
        refine ⟨_, dn_cons (ds_skip (dt_is (dt_c (dc_eqOwn (ok_Book_eq T) g (de_var 1) (de_var 0) bk_ins bk_ins (.mk (upTo b i) b))) (bkEq_not (upTo_ne hi)))) (dn_one (ds_set g 1 (de_opT (op := .Add) (T := "tuple") (E := bookE K CB (upTo b (i + 1))) (ok_Book_add T) T.oo_add tadd1 tadd2 tsub g (de_var 1) (de_var 2) bk_ins shows_row (by rw [← upTo_next hr]; exact .mk (upTo b i) r (by rw [upTo_next hr]; exact h.valid (i + 1) hi)) bk_ref))), ?_⟩
        refine Off.acc (x := some (bookE K CB (upTo b i))) ?_ (by decide)
        repeat (first | exact Off.refl | refine Off.set ?_ (by decide) | refine Off.wipe ?_ (by decide))
      refine dr_cons (ds_skip (dt_w (dw_orF (dt_is (dt_c (dc_neOwn (ok_Book_eq T) T.no_Book eq_bool g (de_var 1) (de_var 0) bk_ins bk_ins (.mk _ b))) (by rw [bkEq_of (upTo_all b)]; rfl)) (dw_or1 (dt_is (dt_not (dt_c (dc_eqOwn (ok_Book_eq T) g (de_var 1) (de_var 0) bk_ins bk_ins (.mk _ b)))) (by rw [bkEq_of (upTo_all b)]; rfl)))))) ?_
      refine dr_cons (ds_acc g (xs := List.range b.rows.length) (f0 := fun (j : Nat) => .int (j : Int)) [2, 3] 1 (fun i => bookE K CB (upTo b (b.rows.length - i))) PassesOwn.never (di_is (di_range1 T.B (n := b.rows.length) hn9 (de_lenOwn T.B (ok_Book_len T) g hn9 (de_var 0) bk_ins (.mk b))) (range0 _)) (pg_name (i := 3) (by exact g.nd) rfl (by first | exact Or.inl rfl | exact Or.inr rfl)) (fun x _ => gbn 3) (by decide) rfl fun i x hx => ?_) ?_
      · have hx' := List.getElem?_eq_some_iff.mp hx
        obtain ⟨hi, hxi⟩ := hx'
        rw [List.length_range] at hi
        rw [List.getElem_range] at hxi
        subst hxi
        have he : b.rows.length - i = (b.rows.length - (i + 1)) + 1 := by omega
        refine ⟨_, dn_one (ds_set g 1 (de_opT (op := .Sub) (T := "int") (E := bookE K CB (upTo b (b.rows.length - (i + 1)))) (ok_Book_sub T) T.oo_sub isub1 isub2 isub g (de_var 1) (de_is (d' := .int ((b.rows.length - (i + 1) : Nat) : Int)) (de_sub (de_sub (de_lenOwn T.B (ok_Book_len T) g hn9 (de_var 0) bk_ins (.mk b)) de_int) (de_var 3)) (by congr 1; omega)) bk_ins shows_int (by
          rw [he]
          rw [← upTo_back (b := b) (i := b.rows.length - (i + 1)) (by omega)]
          exact .mk (upTo b (b.rows.length - (i + 1) + 1)) (b.rows.length - (i + 1)) (by unfold upTo; rw [List.length_take]; omega) (by unfold upTo; rw [List.length_take]; have := h.few; omega) (by rw [upTo_back (by omega)]; exact h.valid _ (by omega))) bk_ref)), ?_⟩
        refine Off.acc (x := some (bookE K CB (upTo b (b.rows.length - i)))) ?_ (by decide)
        repeat (first | exact Off.refl | refine Off.set ?_ (by decide) | refine Off.wipe ?_ (by decide))
      have hz : b.rows.length - (List.range b.rows.length).length = 0 := by rw [List.length_range]; omega
      rw [hz]
      refine dr_cons (ds_skip (dt_w (dw_orF (dt_is (dt_c (dc_neOwn (ok_Book_eq T) T.no_Book eq_bool g (de_var 1) (mk0 rfl) bk_ins bk_ins (.mk _ _))) (by rw [bkEq_same]; rfl)) (dw_orF (dt_is (dt_c (dc_neI (de_lenOwn T.B (ok_Book_len T) g (Nat.zero_le _) (de_var 1) bk_ins (.mk (upTo b 0))) de_int)) rfl)
        (dw_or1 (dt_c (dc_neF g (de_ld (de_lcG (ok_Book_payable T) T.c_Book (bk_insOf rfl) g (de_var 1) (.mk (upTo b 0) hb.np (Nat.zero_le _)) (Nat.zero_le _))) (de_lst dd_nil) ⟨rfl, Nat.le_of_ble_eq_true rfl⟩ rfl))))))) ?_
      have more : ∀ {ρ : Rho} {p1 p2 p3 : Pos}, ρ[0]? = some (some (bookE K CB b)) → ρ[4]? = some (some (dat K (rowD spareR))) → DE (cx P w K mg base ["_law_made", "_law_late", "_law_one", "_law_spot", "_law_spare", "_law_pair"] "_law_rows_right" (top 100) f cdv A outer s H E0) ρ (.BinOp (.Name "_law_made" p1) .Add (.Name "_law_spare" p2) p3) (bookE K CB (withRow b spareR)) := fun {ρ p1 p2 p3} h1 h2 =>
        de_opT (op := .Add) (T := "tuple") (ok_Book_add T) T.oo_add tadd1 tadd2 tsub g (de_var 0 h1) (de_var 4 h2) bk_ins shows_row (.mk b spareR h.spare) bk_ref
      have lenM : ∀ {ρ : Rho} {p1 p2 p3 : Pos}, ρ[0]? = some (some (bookE K CB b)) → DE (cx P w K mg base ["_law_made", "_law_late", "_law_one", "_law_spot", "_law_spare", "_law_pair"] "_law_rows_right" (top 100) f cdv A outer s H E0) ρ (.Call (.Name "len" p1) [.Name "_law_made" p2] [] p3) (dat K (.int (b.rows.length : Nat))) := fun {ρ p1 p2 p3} h1 =>
        de_lenOwn T.B (ok_Book_len T) g hn9 (de_var 0 h1) bk_ins (.mk b)
      refine dr_cons (ds_set g 4 (de_is (d' := rowD spareR) (de_tup (dd_cons de_str (dd_cons de_int (dd_cons de_str (dd_cons de_int dd_nil))))) rfl)) (dr_ret (de_b (de_and (de_c (dc_eqOwn (ok_Book_eq T) g (de_opT (op := .Sub) (T := "int") (E := bookE K CB b) (ok_Book_sub T) T.oo_sub isub1 isub2 isub g (more rfl rfl) (lenM rfl) bk_ins shows_int (by
          have z := FBookSub.mk (K := K) (CB := CB) (withRow b spareR) b.rows.length (by unfold withRow; simp) (by unfold withRow; have := h.few; simp; omega) (by rw [spare_out]; exact hb)
          rw [spare_out] at z
          exact z) bk_ref) (de_var 0) bk_ins bk_ins (.mk b b))) fun _ => de_and (de_c (dc_neOwn (ok_Book_eq T) T.no_Book eq_bool g (more rfl rfl) (de_var 0) bk_ins bk_ins (.mk _ b))) fun _ => de_one (de_c (dc_eqT g (de_ixOwn (ok_Book_getitem T) g (more rfl rfl) (lenM rfl) bk_ins (.mk (withRow b spareR) b.rows.length spareR (by unfold withRow; simp)) (fnIn_of T.m_Book_getitem)) (de_var 4) (pl_rowD spareR) rfl))) ?_))
      rw [bkEq_same, bkEq_not (spare_ne b)]
      rfl
end
end Lc
end
section
/-! Plain: what stays valid. -/
namespace Lc
open PySem L2
/-- what one row pays in a limit's area -/
def paidR (ps : List Purse) (l : Limit) (r : Rw) : Int := if r.isPaid then (((ps.zip r.shares).filter fun q => covers l q.1.name r.day).map fun q => q.2).sum else 0
theorem trips_cons (ps : List Purse) (ls : List Limit) (r : Rw) (rows : List Rw) : trips ⟨ps, ls, r :: rows⟩ = (if r.isPaid then (ps.zip r.shares).map (fun q => (q.1.name, r.day, q.2)) else []) ++ trips ⟨ps, ls, rows⟩ := by
  unfold trips
  cases h : r.isPaid with
  | true => rw [List.filter_cons_of_pos h]; rfl
  | false =>
    rw [List.filter_cons_of_neg (by rw [h]; exact Bool.false_ne_true)]
    rfl
theorem pw_sum (ps : List Purse) (ls : List Limit) (l : Limit) : ∀ rows : List Rw, paidWithin ⟨ps, ls, rows⟩ l = (rows.map (paidR ps l)).sum
  | [] => rfl
  | r :: rows => by
    have ih := pw_sum ps ls l rows
    unfold paidWithin at ih ⊢
    rw [trips_cons, List.filter_append, List.map_append, List.sum_append, ih, List.map_cons, List.sum_cons]
    congr 1
    unfold paidR
    cases h : r.isPaid with
    | true =>
      simp only [if_true]
      rw [List.filter_map, List.map_map]
      rfl
    | false => rfl
theorem pw_of (b : Bk) (l : Limit) : paidWithin b l = (b.rows.map (paidR b.purses l)).sum := pw_sum b.purses b.limits l b.rows
theorem sum_nonneg : ∀ {l : List Int}, (∀ x ∈ l, 0 ≤ x) → 0 ≤ l.sum
  | [], _ => Int.le_refl 0
  | x :: l, h => by
    rw [List.sum_cons]
    have h1 := h x (by simp)
    have h2 := sum_nonneg (l := l) fun y hy => h y (by simp [hy])
    omega
theorem paidR_nonneg {ps : List Purse} {l : Limit} {r : Rw} (h : RowOk r) : 0 ≤ paidR ps l r := by
  unfold paidR
  split
  · refine sum_nonneg fun x hx => ?_
    obtain ⟨q, hq, rfl⟩ := List.mem_map.mp hx
    have hz := List.of_mem_zip (List.mem_filter.mp hq).1
    cases r with
    | buy d k a => exact absurd hz.2 (by simp [Rw.shares])
    | paid d k s => exact h.rest.1 q.2 hz.2
  · exact Int.le_refl 0
theorem paidR_buy (ps : List Purse) (l : Limit) (d : Int) (k : Str) (a : Int) : paidR ps l (.buy d k a) = 0 := rfl
theorem sum_zero : ∀ {l : List Int}, (∀ x ∈ l, x = 0) → l.sum = 0
  | [], _ => rfl
  | x :: l, h => by
    rw [List.sum_cons, h x (by simp), sum_zero (l := l) fun y hy => h y (by simp [hy])]
    rfl
theorem paidR_zero (ps : List Purse) (l : Limit) (d : Int) (k : Str) (s : List Int) (h : ∀ x ∈ s, x = 0) : paidR ps l (.paid d k s) = 0 := by
  unfold paidR
  split
  · refine sum_zero fun x hx => ?_
    obtain ⟨q, hq, rfl⟩ := List.mem_map.mp hx
    exact h q.2 (List.of_mem_zip (List.mem_filter.mp hq).1).2
  · rfl
theorem sum_set {f : Rw → Int} {x y : Rw} (he : f x = f y) : ∀ {l : List Rw} {i : Nat}, l[i]? = some x → ((l.set i y).map f).sum = (l.map f).sum
  | [], i, h => by simp at h
  | z :: l, 0, h => by
    have h : z = x := by simpa using h
    subst h
    rw [List.set_cons_zero, List.map_cons, List.map_cons, List.sum_cons, List.sum_cons, he]
  | z :: l, i + 1, h => by
    have h : l[i]? = some x := by simpa using h
    rw [List.set_cons_succ, List.map_cons, List.map_cons, List.sum_cons, List.sum_cons, sum_set he h]
theorem sum_take {f : Rw → Int} : ∀ {l : List Rw} (i : Nat), (∀ x ∈ l, 0 ≤ f x) → ((l.take i).map f).sum ≤ (l.map f).sum
  | [], i, _ => by simp
  | z :: l, 0, h => by
    rw [List.take_zero]
    exact sum_nonneg fun x hx => by
      obtain ⟨y, hy, rfl⟩ := List.mem_map.mp hx
      exact h y hy
  | z :: l, i + 1, h => by
    rw [List.take_succ_cons, List.map_cons, List.map_cons, List.sum_cons, List.sum_cons]
    have := sum_take (f := f) (l := l) i fun x hx => h x (by simp [hx])
    omega
theorem valid_rows {b : Bk} (h : Valid b) {rows : List Rw} (hr : ∀ r ∈ rows, RowOk r ∧ (r.isPaid = true → sharesOk b r)) (hn : rows.length ≤ 100) (ho : ∀ l ∈ b.limits, (rows.map (paidR b.purses l)).sum ≤ l.cap) : Valid { b with rows := rows } where
  purses := h.purses
  limits := h.limits
  rows := fun r q => (hr r q).1
  np := h.np
  nl := h.nl
  nr := hn
  days := h.days
  ne := h.ne
  asc := h.asc
  known := h.known
  spons := h.spons
  nest := h.nest
  shares := fun r q hp => (hr r q).2 hp
  over := fun l q => by
    rw [pw_of]
    exact ho l q
theorem valid_each {b : Bk} (h : Valid b) : ∀ r ∈ b.rows, RowOk r ∧ (r.isPaid = true → sharesOk b r) := fun r q => ⟨h.rows r q, h.shares r q⟩
theorem valid_cap0 {b : Bk} (h : Valid b) : ∀ l ∈ b.limits, (b.rows.map (paidR b.purses l)).sum ≤ l.cap := fun l q => by
  rw [← pw_of]
  exact h.over l q
theorem valid_upTo {b : Bk} (h : Valid b) (i : Nat) : Valid (upTo b i) :=
  valid_rows h (fun r q => valid_each h r (List.mem_of_mem_take q)) (by rw [List.length_take]; have := h.nr; omega) fun l q => Int.le_trans (sum_take i fun x hx => paidR_nonneg (h.rows x hx)) (valid_cap0 h l q)
theorem valid_row {b : Bk} (h : Valid b) {r : Rw} (hr : RowOk r) (hs : r.isPaid = true → sharesOk b r) (h0 : ∀ l, paidR b.purses l r = 0) (hn : b.rows.length < 100) : Valid (withRow b r) :=
  valid_rows h (fun x q => by
    rcases List.mem_append.mp q with q | q
    · exact valid_each h x q
    · rw [List.mem_singleton.mp q]; exact ⟨hr, hs⟩) (by rw [List.length_append, List.length_singleton]; omega) fun l q => by
    rw [List.map_append, List.sum_append]
    have := valid_cap0 h l q
    simp only [List.map_cons, List.map_nil, List.sum_cons, List.sum_nil, h0]
    omega
theorem valid_set {b : Bk} (h : Valid b) {i : Nat} {x r : Rw} (hx : b.rows[i]? = some x) (hr : RowOk r) (hs : r.isPaid = true → sharesOk b r) (he : ∀ l, paidR b.purses l x = paidR b.purses l r) : Valid (setRow b i r) :=
  valid_rows h (fun y q => by
    rcases List.mem_or_eq_of_mem_set q with q | q
    · exact valid_each h y q
    · rw [q]; exact ⟨hr, hs⟩) (by rw [List.length_set]; exact h.nr) fun l q => by
    rw [sum_set (he l) hx]
    exact valid_cap0 h l q
theorem valid_amount {b : Bk} (h : Valid b) {i : Nat} {d : Int} {k : Str} {a c : Int} (hx : b.rows[i]? = some (.buy d k a)) (hc : 0 ≤ c) : Valid (setRow b i (.buy d k c)) := by
  have ho := h.rows _ (List.mem_of_getElem? hx)
  exact valid_set h hx ⟨ho.day, ho.kind, hc⟩ (fun q => by cases q) fun l => rfl
theorem valid_zero {b : Bk} (h : Valid b) {i : Nat} {d : Int} {k : Str} {a : Int} (hx : b.rows[i]? = some (.buy d k a)) : Valid (setRow b i (.paid d k (List.replicate b.purses.length 0))) := by
  have ho := h.rows _ (List.mem_of_getElem? hx)
  have hz : ∀ x ∈ List.replicate b.purses.length (0 : Int), x = 0 := fun x q => (List.mem_replicate.mp q).2
  refine valid_set h hx ⟨ho.day, ho.kind, fun x q => by rw [hz x q]; exact Int.le_refl 0, by rw [List.length_replicate]; have := h.np; omega⟩ (fun _ => ⟨by show (List.replicate _ _).length = _; rw [List.length_replicate], fun q hq => .inl (hz q.2 (List.of_mem_zip hq).2)⟩) fun l => ?_
  rw [paidR_zero _ _ _ _ _ hz]
  rfl
theorem pw_set {b : Bk} {i : Nat} {x r : Rw} (hx : b.rows[i]? = some x) {l : Limit} (he : paidR b.purses l x = paidR b.purses l r) : paidWithin (setRow b i r) l = paidWithin b l := by
  rw [pw_of, pw_of]
  exact sum_set he hx
theorem set_at {ls : List Limit} {i j : Nat} {l x : Limit} {c : Int} (hl : ls[i]? = some l) (h : (ls.set i (capped l c))[j]? = some x) : ∃ y, ls[j]? = some y ∧ x.names = y.names ∧ x.first = y.first ∧ x.last = y.last ∧ y.cap ≤ max y.cap c ∧ (x.cap = y.cap ∨ (j = i ∧ y = l ∧ x.cap = c)) := by
  by_cases e : i = j
  · subst e
    have hi : i < ls.length := (List.getElem?_eq_some_iff.mp hl).1
    rw [List.getElem?_set_self hi] at h
    cases h
    exact ⟨l, hl, rfl, rfl, rfl, by omega, .inr ⟨rfl, rfl, rfl⟩⟩
  · rw [List.getElem?_set_ne e] at h
    exact ⟨x, h, rfl, rfl, rfl, by omega, .inl rfl⟩
theorem nested_like {x x' y y' : Limit} (h1 : x.names = x'.names) (h2 : x.first = x'.first) (h3 : x.last = x'.last) (h4 : y.names = y'.names) (h5 : y.first = y'.first) (h6 : y.last = y'.last) : nested x y = nested x' y' := by
  unfold nested apart within
  rw [h1, h2, h3, h4, h5, h6]
theorem paidR_like {ps : List Purse} {x y : Limit} {r : Rw} (h1 : x.names = y.names) (h2 : x.first = y.first) (h3 : x.last = y.last) : paidR ps x r = paidR ps y r := by
  unfold paidR covers
  rw [h1, h2, h3]
theorem pw_like {b c : Bk} {x y : Limit} (hp : b.purses = c.purses) (hr : b.rows = c.rows) (h1 : x.names = y.names) (h2 : x.first = y.first) (h3 : x.last = y.last) : paidWithin b x = paidWithin c y := by
  rw [pw_of, pw_of, hp, hr]
  congr 1
  exact List.map_congr_left fun r _ => paidR_like h1 h2 h3
theorem valid_cap {b : Bk} (h : Valid b) {i : Nat} {l : Limit} {c : Int} (hl : b.limits[i]? = some l) (hc : l.cap ≤ c) : Valid (setCap b i l c) := by
  have at' : ∀ x ∈ b.limits.set i (capped l c), ∃ y ∈ b.limits, x.names = y.names ∧ x.first = y.first ∧ x.last = y.last ∧ y.cap ≤ x.cap := fun x hx => by
    obtain ⟨j, hj⟩ := List.getElem?_of_mem hx
    obtain ⟨y, h1, h2, h3, h4, _, h5⟩ := set_at hl hj
    refine ⟨y, List.mem_of_getElem? h1, h2, h3, h4, ?_⟩
    rcases h5 with h5 | ⟨_, rfl, h5⟩ <;> omega
  exact {
    purses := h.purses
    limits := fun x hx => by
      obtain ⟨y, hy, h1, h2, h3, h4⟩ := at' x hx
      have o := h.limits y hy
      exact ⟨by rw [h1]; exact o.names, by rw [h2]; exact o.first, by rw [h2, h3]; exact o.last, Int.le_trans o.cap h4⟩
    rows := h.rows
    np := h.np
    nl := by show (b.limits.set i (capped l c)).length ≤ 100; rw [List.length_set]; exact h.nl
    nr := h.nr
    days := fun x hx => by
      obtain ⟨y, hy, h1, h2, h3, h4⟩ := at' x hx
      rw [h3]
      exact h.days y hy
    ne := h.ne
    asc := h.asc
    known := fun x hx n hn => by
      obtain ⟨y, hy, h1, h2, h3, h4⟩ := at' x hx
      exact h.known y hy n (by rw [← h1]; exact hn)
    spons := fun x hx n hn m hm => by
      obtain ⟨y, hy, h1, h2, h3, h4⟩ := at' x hx
      exact h.spons y hy n (by rw [← h1]; exact hn) m (by rw [← h1]; exact hm)
    nest := fun j k x y hjk hx hy => by
      obtain ⟨x', h1, h2, h3, h4, _⟩ := set_at hl hx
      obtain ⟨y', g1, g2, g3, g4, _⟩ := set_at hl hy
      rw [nested_like h2 h3 h4 g2 g3 g4]
      exact h.nest j k x' y' hjk h1 g1
    shares := h.shares
    over := fun x hx => by
      obtain ⟨y, hy, h1, h2, h3, h4⟩ := at' x hx
      rw [pw_like (b := setCap b i l c) (c := b) rfl rfl h1 h2 h3]
      exact Int.le_trans (h.over y hy) h4 }
end Lc
end
section
/-! Plain: one purse and one limit more. -/
namespace Lc
open PySem L2
theorem asc_cons {a : Str} {l : List Str} (h : ∀ x ∈ l, a.cps.toList < x.cps.toList) (t : Asc l) : Asc (a :: l) := by
  cases l with
  | nil => exact True.intro
  | cons b r => exact ⟨decide_eq_true (h b (by simp)), t⟩
theorem lt_of_not {a z : Str} (h : ¬ ltS a z = true) (ne : a ≠ z) : z.cps.toList < a.cps.toList := by
  have n : ¬ a.cps.toList < z.cps.toList := fun q => h (decide_eq_true q)
  by_cases q : z.cps.toList < a.cps.toList
  · exact q
  · exact absurd (str_cps (List.le_antisymm (List.not_lt.mp q) (List.not_lt.mp n))) ne
theorem asc_put {z : Str} : ∀ {l : List Str}, Asc l → z ∉ l → Asc (l.take (l.filter fun y => ltS y z).length ++ z :: l.drop (l.filter fun y => ltS y z).length)
  | [], _, _ => True.intro
  | a :: l, h, hz => by
    have ih := asc_put (z := z) (asc_tail h) (fun q => hz (List.mem_cons_of_mem _ q))
    by_cases e : ltS a z = true
    · rw [List.filter_cons_of_pos (p := fun y => ltS y z) e, List.length_cons, List.take_succ_cons, List.drop_succ_cons, List.cons_append]
      refine asc_cons (fun x hx => ?_) ih
      rcases List.mem_append.mp hx with hx | hx
      · exact asc_head h x (List.mem_of_mem_take hx)
      · rcases List.mem_cons.mp hx with rfl | hx
        · exact of_decide_eq_true e
        · exact asc_head h x (List.mem_of_mem_drop hx)
    · have hza := lt_of_not e fun q => hz (q ▸ List.mem_cons_self)
      have no : ((a :: l).filter fun y => ltS y z) = [] := List.filter_eq_nil_iff.mpr fun x hx q => by
        rcases List.mem_cons.mp hx with rfl | hx
        · exact e q
        · exact List.lt_irrefl _ (List.lt_trans (of_decide_eq_true q) (List.lt_trans hza (asc_head h x hx)))
      rw [no]
      refine asc_cons (fun x hx => ?_) h
      rcases List.mem_cons.mp hx with rfl | hx
      · exact hza
      · exact List.lt_trans hza (asc_head h x hx)
theorem mem_put {α : Type} {l : List α} {x y : α} {n : Nat} : x ∈ l.take n ++ y :: l.drop n ↔ x = y ∨ x ∈ l := by
  rw [List.mem_append, List.mem_cons]
  conv => rhs; rw [← List.take_append_drop n l]
  rw [List.mem_append]
  constructor
  · rintro (h | h | h)
    · exact .inr (.inl h)
    · exact .inl h
    · exact .inr (.inr h)
  · rintro (h | h | h)
    · exact .inr (.inl h)
    · exact .inl h
    · exact .inr (.inr h)
theorem put_lt {α : Type} {l : List α} {y : α} {n m : Nat} (hn : n ≤ l.length) (h : m < n) : (l.take n ++ y :: l.drop n)[m]? = l[m]? := by
  rw [List.getElem?_append_left (by rw [List.length_take]; omega), List.getElem?_take_of_lt h]
theorem put_eq {α : Type} {l : List α} {y : α} {n : Nat} (hn : n ≤ l.length) : (l.take n ++ y :: l.drop n)[n]? = some y := by
  rw [List.getElem?_append_right (by rw [List.length_take]; omega), List.length_take]
  have e : n - min n l.length = 0 := by omega
  rw [e]
  rfl
theorem put_ge {α : Type} {l : List α} {y : α} {n m : Nat} (hn : n ≤ l.length) (h : n ≤ m) : (l.take n ++ y :: l.drop n)[m + 1]? = l[m]? := by
  rw [List.getElem?_append_right (by rw [List.length_take]; omega), List.length_take]
  have e : m + 1 - min n l.length = (m - n) + 1 := by omega
  rw [e, List.getElem?_cons_succ, List.getElem?_drop]
  congr 1
  omega
/-- where an old place has gone -/
def away (n m : Nat) : Nat := if m < n then m else m + 1
theorem put_away {α : Type} {l : List α} {y : α} {n m : Nat} (hn : n ≤ l.length) : (l.take n ++ y :: l.drop n)[away n m]? = l[m]? := by
  unfold away
  split
  · rename_i h; exact put_lt hn h
  · rename_i h; exact put_ge hn (by omega)
theorem zip_put {α β : Type} {ps : List α} {s : List β} {n : Nat} {p : α} {z : β} (h : s.length = ps.length) : (ps.take n ++ p :: ps.drop n).zip (s.take n ++ z :: s.drop n) = (ps.zip s).take n ++ (p, z) :: (ps.zip s).drop n := by
  rw [List.zip_append (by simp [h]), List.zip_cons_cons]
  unfold List.zip
  rw [List.take_zipWith, List.drop_zipWith]
section
variable {b : Bk} {p : Purse} {l : Limit} {r : Rw} {n : Nat}
theorem share_paid : (withShare n r).isPaid = r.isPaid := by cases r <;> rfl
theorem share_day : (withShare n r).day = r.day := by cases r <;> rfl
theorem share_kind : (withShare n r).kind = r.kind := by cases r <;> rfl
theorem share_shares (h : r.isPaid = true) : (withShare n r).shares = r.shares.take n ++ 0 :: r.shares.drop n := by
  cases r with
  | buy d k a => exact absurd (show ("buy" : Str) = "paid" from of_decide_eq_true h) (by decide +kernel)
  | paid d k s => rfl
theorem sum_put {α : Type} (f : α → Int) (g : α → Bool) {l : List α} {y : α} (h : f y = 0) : (((l.take n ++ y :: l.drop n).filter g).map f).sum = ((l.filter g).map f).sum := by
  have e : l.filter g = (l.take n).filter g ++ (l.drop n).filter g := by rw [← List.filter_append, List.take_append_drop]
  rw [e, List.filter_append, List.map_append, List.sum_append, List.map_append, List.sum_append, List.filter_cons]
  split
  · rw [List.map_cons, List.sum_cons, h]
    omega
  · rfl
theorem paidR_put {ps : List Purse} (h : r.isPaid = true → r.shares.length = ps.length) : paidR (ps.take n ++ p :: ps.drop n) l (withShare n r) = paidR ps l r := by
  unfold paidR
  rw [share_paid, share_day]
  by_cases hp : r.isPaid = true
  · rw [if_pos hp, if_pos hp, share_shares hp, zip_put (h hp)]
    exact sum_put (fun q : Purse × Int => q.2) _ rfl
  · rw [if_neg hp, if_neg hp]
theorem names_put : namesOf (withPurse b p) = (namesOf b).take (spotOf b p) ++ p.name :: (namesOf b).drop (spotOf b p) := by
  unfold namesOf withPurse
  rw [List.map_append, List.map_take, List.map_cons, List.map_drop]
theorem spot_names : spotOf b p = ((namesOf b).filter fun y => ltS y p.name).length := by
  unfold spotOf namesOf
  rw [List.filter_map, List.length_map]
  rfl
theorem pw_put (h : ∀ r ∈ b.rows, r.isPaid = true → r.shares.length = b.purses.length) : paidWithin (withPurse b p) l = paidWithin b l := by
  rw [pw_of, pw_of]
  show ((b.rows.map (withShare (spotOf b p))).map _).sum = _
  rw [List.map_map]
  congr 1
  exact List.map_congr_left fun r hr => paidR_put (h r hr)
theorem paying_put {ps : List Purse} {day : Int} {kind z : Str} (h : z ∈ namesPaying ps day kind) : z ∈ namesPaying (ps.take n ++ p :: ps.drop n) day kind := by
  unfold namesPaying at h ⊢
  obtain ⟨q, hq, rfl⟩ := List.mem_map.mp h
  obtain ⟨h1, h2⟩ := List.mem_filter.mp hq
  exact List.mem_map_of_mem (List.mem_filter.mpr ⟨mem_put.mpr (.inr h1), h2⟩)
theorem find_put {α : Type} {l : List α} {f : α → Bool} {y : α} (h : f y = false) : (l.take n ++ y :: l.drop n).find? f = l.find? f := by
  have e : l.find? f = (l.take n ++ l.drop n).find? f := by rw [List.take_append_drop]
  rw [e, List.find?_append, List.find?_append, List.find?_cons, h]
theorem sponsor_put {m : Str} (h : m ≠ p.name) : sponsorOf (withPurse b p) m = sponsorOf b m := by
  unfold sponsorOf pairsOf withPurse
  rw [List.map_append, List.map_take, List.map_cons, List.map_drop]
  exact find_put (decide_eq_false fun q => h q.symm)
theorem valid_purse (h : Valid b) (hp : PurseOk p) (hn : p.name ∉ namesOf b) (hf : b.purses.length < 100) : Valid (withPurse b p) where
  purses := fun q hq => by
    rcases mem_put.mp hq with rfl | hq
    · exact hp
    · exact h.purses q hq
  limits := h.limits
  rows := fun r hr => by
    obtain ⟨q, hq, rfl⟩ := List.mem_map.mp hr
    have o := h.rows q hq
    refine ⟨by rw [share_day]; exact o.day, by rw [share_kind]; exact o.kind, ?_⟩
    cases q with
    | buy d k a => exact o.rest
    | paid d k s =>
      refine ⟨fun x hx => ?_, ?_⟩
      · rcases mem_put.mp hx with rfl | hx
        · exact Int.le_refl 0
        · exact o.rest.1 x hx
      · have e : s.length = b.purses.length := (h.shares _ hq rfl).1
        show (s.take _ ++ 0 :: s.drop _).length ≤ 1000
        rw [List.length_append, List.length_take, List.length_cons, List.length_drop]
        omega
  np := by
    show (b.purses.take _ ++ p :: b.purses.drop _).length ≤ 100
    rw [List.length_append, List.length_take, List.length_cons, List.length_drop]
    omega
  nl := h.nl
  nr := by show (b.rows.map _).length ≤ 100; rw [List.length_map]; exact h.nr
  days := h.days
  ne := by
    show b.purses.take _ ++ p :: b.purses.drop _ ≠ []
    simp
  asc := by
    rw [names_put, spot_names]
    exact asc_put h.asc hn
  known := fun x hx n hm => by
    rw [names_put]
    exact mem_put.mpr (.inr (h.known x hx n hm))
  spons := fun x hx n hn' m hm x' y' h1 h2 => by
    have k1 := h.known x hx n hn'
    have k2 := h.known x hx m hm
    rw [sponsor_put fun e => hn (e ▸ k1)] at h1
    rw [sponsor_put fun e => hn (e ▸ k2)] at h2
    exact h.spons x hx n hn' m hm x' y' h1 h2
  nest := h.nest
  shares := fun r hr hpd => by
    obtain ⟨q, hq, rfl⟩ := List.mem_map.mp hr
    rw [share_paid] at hpd
    have o := h.shares q hq hpd
    refine ⟨?_, fun z hz => ?_⟩
    · rw [share_shares hpd]
      show _ = (b.purses.take _ ++ p :: b.purses.drop _).length
      have e := o.1
      rw [List.length_append, List.length_take, List.length_cons, List.length_drop, List.length_append, List.length_take, List.length_cons, List.length_drop, e]
    · rw [share_shares hpd] at hz
      have hz : z ∈ (b.purses.take (spotOf b p) ++ p :: b.purses.drop (spotOf b p)).zip (q.shares.take (spotOf b p) ++ 0 :: q.shares.drop (spotOf b p)) := hz
      rw [zip_put o.1] at hz
      rcases mem_put.mp hz with rfl | hz
      · exact .inl rfl
      · rcases o.2 z hz with e | e
        · exact .inl e
        · refine .inr ?_
          rw [share_day, share_kind]
          exact paying_put e
  over := fun x hx => by
    rw [pw_put fun r hr hpd => (h.shares r hr hpd).1]
    exact h.over x hx
theorem valid_limit (h : Valid b) (hl : LimitOk l) (hd : l.last ≤ 1000) (hf : b.limits.length < 100) (hk : ∀ n ∈ l.names, n ∈ namesOf b) (hs : ∀ n ∈ l.names, ∀ m ∈ l.names, ∀ x y, sponsorOf b n = some x → sponsorOf b m = some y → x.2 = y.2) (hx : ∀ x ∈ b.limits, nested x l = true) (ho : paidWithin b l ≤ l.cap) : Valid (withLimit b l) where
  purses := h.purses
  limits := fun x q => by
    rcases List.mem_append.mp q with q | q
    · exact h.limits x q
    · rw [List.mem_singleton.mp q]; exact hl
  rows := h.rows
  np := h.np
  nl := by
    show (b.limits ++ [l]).length ≤ 100
    rw [List.length_append, List.length_singleton]
    omega
  nr := h.nr
  days := fun x q => by
    rcases List.mem_append.mp q with q | q
    · exact h.days x q
    · rw [List.mem_singleton.mp q]; exact hd
  ne := h.ne
  asc := h.asc
  known := fun x q => by
    rcases List.mem_append.mp q with q | q
    · exact h.known x q
    · rw [List.mem_singleton.mp q]; exact hk
  spons := fun x q => by
    rcases List.mem_append.mp q with q | q
    · exact h.spons x q
    · rw [List.mem_singleton.mp q]; exact hs
  nest := fun j k x y hjk h1 h2 => by
    have h1 : (b.limits ++ [l])[j]? = some x := h1
    have h2 : (b.limits ++ [l])[k]? = some y := h2
    have hk := (List.getElem?_eq_some_iff.mp h2).1
    rw [List.length_append, List.length_singleton] at hk
    rw [List.getElem?_append_left (by omega)] at h1
    by_cases e : k < b.limits.length
    · rw [List.getElem?_append_left e] at h2
      exact h.nest j k x y hjk h1 h2
    · have e' : k = b.limits.length := by omega
      subst e'
      rw [List.getElem?_append_right (Nat.le_refl _)] at h2
      simp at h2
      subst h2
      exact hx x (List.mem_of_getElem? h1)
  shares := h.shares
  over := fun x q => by
    rw [pw_like (b := withLimit b l) (c := b) (x := x) (y := x) rfl rfl rfl rfl rfl]
    rcases List.mem_append.mp q with q | q
    · exact h.over x q
    · rw [List.mem_singleton.mp q]; exact ho
end
/-! ### what the law joins -/
def mmP : Purse := ⟨"mm", "new", ["food", "toy"], 1, 3⟩
def mmL : Limit := ⟨["mm"], 2, 3, 6⟩
def joinB (b : Bk) : Bk := withLimit (withPurse b mmP) mmL
theorem mm_name : NameOk "mm" := ⟨by decide, by decide, by decide +kernel⟩
theorem mm_purse : PurseOk mmP := ⟨mm_name, ⟨by decide, by decide, by decide +kernel⟩, ⟨by decide, fun z hz => by
  simp only [mmP, List.mem_cons, List.not_mem_nil, or_false] at hz
  rcases hz with rfl | rfl
  · exact ⟨by decide, by decide, by decide +kernel⟩
  · exact ⟨by decide, by decide, by decide +kernel⟩, ⟨by decide +kernel, True.intro⟩, by decide⟩, by decide, by decide⟩
theorem mm_limit : LimitOk mmL := ⟨⟨by decide, fun z hz => by rw [List.mem_singleton.mp hz]; exact mm_name, True.intro, by decide⟩, by decide, by decide, by decide⟩
structure GoodJ (b : Bk) : Prop where
  valid : Valid b
  np : b.purses.length < 100
  nl : b.limits.length < 100
  free : ("mm" : Str) ∉ namesOf b
  slots : ∀ l ∈ b.limits, SlotsOk (areaOf l)
  few : ∀ l ∈ b.limits, l.names.length ≤ 100
  total : ∃ U : List Slot, (∀ l ∈ b.limits, ∀ s ∈ areaOf l, s ∈ U) ∧ U.length ≤ 1000 ∧ ∀ l ∈ b.limits, U.length + (areaOf l).length < 64
section
variable {b : Bk} (h : GoodJ b)
include h
theorem j_valid1 : Valid (withPurse b mmP) := valid_purse h.valid mm_purse h.free h.np
theorem j_left : paidWithin (withPurse b mmP) mmL = 0 := by
  rw [pw_put fun r hr hpd => (h.valid.shares r hr hpd).1, pw_of]
  refine sum_zero fun x hx => ?_
  obtain ⟨r, hr, rfl⟩ := List.mem_map.mp hx
  unfold paidR
  split
  · have no : ((b.purses.zip r.shares).filter fun q => covers mmL q.1.name r.day) = [] := List.filter_eq_nil_iff.mpr fun q hq c => by
      have c := (covers_not.mp c).1
      exact h.free (by rw [← List.mem_singleton.mp c]; exact List.mem_map_of_mem (List.of_mem_zip hq).1)
    rw [no]
    rfl
  · rfl
theorem j_names {l : Limit} (hl : l ∈ b.limits) : ("mm" : Str) ∉ l.names := fun q => h.free (h.valid.known l hl _ q)
theorem j_nest {x : Limit} (hx : x ∈ b.limits) : nested x mmL = true := by
  unfold nested
  rw [Bool.or_eq_true]
  refine .inl ?_
  unfold apart
  have no : (x.names.any fun n => decide (n ∈ mmL.names)) = false := by
    rw [List.any_eq_false]
    intro n hn q
    have q : n ∈ [("mm" : Str)] := of_decide_eq_true q
    rw [List.mem_singleton.mp q] at hn
    exact j_names h hx hn
  rw [no]
  simp
theorem j_valid : Valid (joinB b) := by
  refine valid_limit (j_valid1 h) mm_limit (by decide) h.nl (fun n hn => ?_) (fun n hn m hm x y h1 h2 => ?_) (fun x hx => j_nest h hx) (by rw [j_left h]; decide)
  · rw [List.mem_singleton.mp hn, names_put]
    exact mem_put.mpr (.inl rfl)
  · rw [List.mem_singleton.mp hn] at h1
    rw [List.mem_singleton.mp hm, h1] at h2
    cases h2
    rfl
theorem j_leftOf : leftOf (joinB b) mmL = 6 := by
  unfold leftOf
  rw [pw_like (b := joinB b) (c := withPurse b mmP) (x := mmL) (y := mmL) rfl rfl rfl rfl rfl, j_left h]
  rfl
theorem j_overs (z : Str) (d : Int) : overs (joinB b) z d = overs b z d ++ if covers mmL z d then [(sizeOf mmL, (b.limits.length : Int))] else [] := by
  unfold overs
  show (((b.limits ++ [mmL]).zipIdx).filter _).map _ = _
  rw [List.zipIdx_append, List.filter_append, List.map_append]
  congr 1
  simp only [List.zipIdx_cons, List.zipIdx_nil, List.filter_cons, List.filter_nil, Nat.zero_add]
  split <;> rfl
theorem j_over_none (d : Int) : overs b "mm" d = [] := by
  unfold overs
  have no : (b.limits.zipIdx.filter fun q => covers q.1 "mm" d) = [] := List.filter_eq_nil_iff.mpr fun q hq c => by
    have m := List.mem_zipIdx' hq
    have hm : q.1 ∈ b.limits := by rw [m.2]; exact List.getElem_mem _
    exact j_names h hm (covers_not.mp c).1
  rw [no]
  rfl
theorem j_over2 : limitsOver (joinB b) "mm" 2 = [(b.limits.length : Int)] := by
  unfold limitsOver
  rw [j_overs h, j_over_none h, if_pos (by decide +kernel), List.nil_append, List.mergeSort_singleton]
  rfl
theorem j_over1 : limitsOver (joinB b) "mm" 1 = [] := by
  unfold limitsOver
  rw [j_overs h, j_over_none h, if_neg (by decide +kernel), List.nil_append, List.mergeSort_nil]
  rfl
theorem j_over_old {z : Str} (hz : z ∈ namesOf b) (d : Int) : limitsOver (joinB b) z d = limitsOver b z d := by
  unfold limitsOver
  rw [j_overs h, if_neg, List.append_nil]
  intro q
  have c := List.mem_singleton.mp (covers_not.mp q).1
  exact h.free (c ▸ hz)
theorem j_at {j : Nat} (hj : j < b.limits.length) : (joinB b).limits[j]? = b.limits[j]? := List.getElem?_append_left hj
theorem j_last : (joinB b).limits[b.limits.length]? = some mmL := by
  show (b.limits ++ [mmL])[b.limits.length]? = _
  rw [List.getElem?_append_right (Nat.le_refl _), Nat.sub_self]
  rfl
theorem j_len : (joinB b).rows.length = b.rows.length := List.length_map ..
omit h in
theorem spot_in : spotOf b mmP ≤ b.purses.length := List.length_filter_le _ _
theorem paid_sum (m m' : Nat) (f : List Int → Int) (e : ∀ r ∈ b.rows, r.isPaid = true → (r.shares.take (spotOf b mmP) ++ 0 :: r.shares.drop (spotOf b mmP)).getD m' 0 = f r.shares) : paidAt (joinB b) m' = ((b.rows.filter Rw.isPaid).map fun r => f r.shares).sum := by
  unfold paidAt
  show (((b.rows.map (withShare (spotOf b mmP))).filter Rw.isPaid).map _).sum = _
  rw [List.filter_map, List.map_map]
  have e1 : (b.rows.filter (Rw.isPaid ∘ withShare (spotOf b mmP))) = b.rows.filter Rw.isPaid := List.filter_congr fun r _ => share_paid
  rw [e1]
  congr 1
  refine List.map_congr_left fun r hr => ?_
  obtain ⟨h1, h2⟩ := List.mem_filter.mp hr
  show (withShare _ r).shares.getD m' 0 = _
  rw [share_shares h2]
  exact e r h1 h2
theorem j_paid (m : Nat) : paidAt (joinB b) (away (spotOf b mmP) m) = paidAt b m :=
  paid_sum h m _ (fun s => s.getD m 0) fun r hr hp => by
    have e := (h.valid.shares r hr hp).1
    rw [List.getD_eq_getElem?_getD, List.getD_eq_getElem?_getD, put_away (by rw [e]; exact spot_in)]
theorem j_paid0 : paidAt (joinB b) (spotOf b mmP) = 0 := by
  rw [paid_sum h 0 _ (fun _ => 0) fun r hr hp => by
    have e := (h.valid.shares r hr hp).1
    rw [List.getD_eq_getElem?_getD, put_eq (by rw [e]; exact spot_in)]
    rfl]
  exact sum_zero fun x hx => by
    obtain ⟨r, _, rfl⟩ := List.mem_map.mp hx
    rfl
omit h in
theorem j_namesEq : (joinB b).purses.map (·.name) = (namesOf b).take (spotOf b mmP) ++ ("mm" : Str) :: (namesOf b).drop (spotOf b mmP) := names_put
theorem j_name {m : Nat} {z : Str} (hz : (b.purses.map (·.name))[m]? = some z) : ((joinB b).purses.map (·.name))[away (spotOf b mmP) m]? = some z := by
  rw [j_namesEq, put_away (by unfold namesOf; rw [List.length_map]; exact spot_in)]
  exact hz
theorem j_name0 : ((joinB b).purses.map (·.name))[spotOf b mmP]? = some ("mm" : Str) := by
  rw [j_namesEq, put_eq (by unfold namesOf; rw [List.length_map]; exact spot_in)]
end
theorem nodup_at {l : List Str} (h : l.Nodup) {i j : Nat} {z : Str} (hi : l[i]? = some z) (hj : l[j]? = some z) : i = j := by
  obtain ⟨i1, i2⟩ := List.getElem?_eq_some_iff.mp hi
  obtain ⟨j1, j2⟩ := List.getElem?_eq_some_iff.mp hj
  have p := List.pairwise_iff_getElem.mp h
  rcases Nat.lt_trichotomy i j with q | q | q
  · exact absurd (i2.trans j2.symm) (p i j i1 j1 q)
  · exact q
  · exact absurd (j2.trans i2.symm) (p j i j1 i1 q)
theorem first_at {b : Bk} (h : Valid b) {n : Nat} {z : Str} (hn : (b.purses.map (·.name))[n]? = some z) : ∀ m, m < n → (b.purses.map (·.name))[m]? ≠ some z := fun m hm q => by
  have := nodup_at (asc_nodup h.asc) hn q
  omega
theorem shares_at {b : Bk} (h : Valid b) {n : Nat} {z : Str} (hn : (b.purses.map (·.name))[n]? = some z) : ∀ r ∈ b.rows, r.isPaid = true → n < r.shares.length := fun r hr hp => by
  rw [(h.shares r hr hp).1]
  have := (List.getElem?_eq_some_iff.mp hn).1
  rwa [List.length_map] at this
/-! ### areas -/
theorem mem_box {s : Slot} {names : List Str} {first last : Int} : s ∈ boxOf names first last ↔ s.1 ∈ names ∧ first ≤ s.2 ∧ s.2 ≤ last := by
  unfold boxOf
  rw [List.mem_flatMap]
  constructor
  · rintro ⟨n, hn, hs⟩
    obtain ⟨i, hi, rfl⟩ := List.mem_map.mp hs
    have hi := List.mem_range.mp hi
    exact ⟨hn, by dsimp only; omega, by dsimp only; omega⟩
  · rintro ⟨h1, h2, h3⟩
    refine ⟨s.1, h1, List.mem_map.mpr ⟨(s.2 - first).toNat, List.mem_range.mpr (by omega), ?_⟩⟩
    refine Prod.ext rfl ?_
    dsimp only
    omega
theorem j_apart {b : Bk} (h : GoodJ b) {l : Limit} (hl : l ∈ b.limits) : ((slotsOf (areaOf l)).any fun s => decide (s ∈ slotsOf (areaOf mmL))) = false := by
  rw [List.any_eq_false]
  intro s hs q
  have q := mem_slotsOf.mp (of_decide_eq_true q)
  have a := (mem_box.mp (mem_slotsOf.mp hs)).1
  have c := (mem_box.mp q).1
  rw [List.mem_singleton.mp c] at a
  exact j_names h hl a
/-- what the areas cover together -/
def covs : List Limit → List Slot := List.foldl (fun c l => slotsOf (c ++ slotsOf (areaOf l))) []
theorem covs_next {ls : List Limit} {j : Nat} {l : Limit} (h : ls[j]? = some l) : covs (ls.take (j + 1)) = slotsOf (covs (ls.take j) ++ slotsOf (areaOf l)) := by
  unfold covs
  rw [List.take_add_one, h, List.foldl_append]
  rfl
theorem mem_fold {s : Slot} : ∀ {ls : List Limit} {c : List Slot}, s ∈ ls.foldl (fun c l => slotsOf (c ++ slotsOf (areaOf l))) c → s ∈ c ∨ ∃ l ∈ ls, s ∈ areaOf l
  | [], c, h => .inl h
  | l :: ls, c, h => by
    rw [List.foldl_cons] at h
    rcases mem_fold h with h | ⟨x, hx, hs⟩
    · rcases List.mem_append.mp (mem_slotsOf.mp h) with h | h
      · exact .inl h
      · exact .inr ⟨l, by simp, mem_slotsOf.mp h⟩
    · exact .inr ⟨x, by simp [hx], hs⟩
theorem mem_covs {s : Slot} {ls : List Limit} (h : s ∈ covs ls) : ∃ l ∈ ls, s ∈ areaOf l := (mem_fold h).elim (fun q => (nomatch q)) id
theorem nd_len {α : Type} [DecidableEq α] : ∀ {l U : List α}, l.Nodup → (∀ x ∈ l, x ∈ U) → l.length ≤ U.length
  | [], U, _, _ => Nat.zero_le _
  | x :: l, U, h, hs => by
    have hx : x ∈ U := hs x (by simp)
    have h' := List.nodup_cons.mp h
    have ih := nd_len (l := l) (U := U.erase x) h'.2 fun y hy => (List.mem_erase_of_ne (fun e : y = x => h'.1 (by rw [← e]; exact hy))).mpr (hs y (by simp [hy]))
    rw [List.length_erase_of_mem hx] at ih
    have := List.length_pos_of_mem hx
    rw [List.length_cons]
    omega
theorem slots_nd (l : List Slot) : (slotsOf l).Nodup := by
  unfold slotsOf
  exact (List.mergeSort_perm _ _).nodup_iff.mpr (nd_ded l)
theorem fold_nd : ∀ {ls : List Limit} {c : List Slot}, c.Nodup → (ls.foldl (fun c l => slotsOf (c ++ slotsOf (areaOf l))) c).Nodup
  | [], c, h => h
  | l :: ls, c, _ => fold_nd (ls := ls) (slots_nd _)
theorem covs_len {ls : List Limit} {U : List Slot} (h : ∀ l ∈ ls, ∀ s ∈ areaOf l, s ∈ U) : (covs ls).length ≤ U.length :=
  nd_len (fold_nd List.nodup_nil) fun s hs => by
    obtain ⟨l, hl, hs⟩ := mem_covs hs
    exact h l hl s hs
theorem covs_ok {b : Bk} (h : GoodJ b) {j : Nat} {l : Limit} (hl : b.limits[j]? = some l) : SlotsOk (covs (b.limits.take j) ++ slotsOf (areaOf l)) := by
  refine ⟨fun s hs => ?_, ?_⟩
  · rcases List.mem_append.mp hs with hs | hs
    · obtain ⟨x, hx, hs⟩ := mem_covs hs
      exact (h.slots x (List.mem_of_mem_take hx)).ok s hs
    · exact (h.slots l (List.mem_of_getElem? hl)).ok s (mem_slotsOf.mp hs)
  · rw [List.length_append]
    obtain ⟨U, h1, _, h3⟩ := h.total
    have h4 := covs_len (ls := b.limits.take j) fun l hl => h1 l (List.mem_of_mem_take hl)
    have h2 := slotsOf_len (areaOf l)
    have h5 := h3 l (List.mem_of_getElem? hl)
    omega
theorem covs_over {b : Bk} (h : GoodJ b) {s : Slot} (hs : s ∈ covs b.limits) : SlotOk s ∧ s.1 ∈ b.purses.map (·.name) ∧ limitsOver b s.1 s.2 ≠ [] := by
  obtain ⟨l, hl, hs⟩ := mem_covs hs
  have m := mem_box.mp hs
  refine ⟨(h.slots l hl).ok s hs, h.valid.known l hl _ m.1, fun e => ?_⟩
  unfold limitsOver at e
  have e := List.map_eq_nil_iff.mp e
  have e : overs b s.1 s.2 = [] := by
    have z := congrArg List.length e
    rw [List.length_mergeSort] at z
    exact List.eq_nil_of_length_eq_zero z
  unfold overs at e
  have e := List.filter_eq_nil_iff.mp (List.map_eq_nil_iff.mp e)
  obtain ⟨j, hj⟩ := List.getElem?_of_mem hl
  exact e (l, j) (List.mem_zipIdx_iff_getElem?.mpr hj) (covers_not.mpr m)
end Lc
end
section
/-! Lc: a tuple times 1. -/
namespace Lc
open PySem L2 PySem.Spec PyProof.Rows
theorem tup_once (t : Addr) (its : Array Value) (m : Nat) (dc : Option Addr) (slots : Array (Option Value)) (k : Tok) :
    Meets (Builtin.«tuple.__mul__» ⟨[.ref t, .int 1 k], []⟩) (fun _ R s => s.heap.get? t = some { cls := .type "tuple", dict := dc, data := .seq its m, slots := slots } ∧ R (.ok (.ret (.ref t))) s) :=
  .of_wp fun prog w A R s q => by
    obtain ⟨hp, gs, dr, tks, os⟩ := s
    obtain ⟨ht, q⟩ := q
    have ix := AutoSeq1.idx_int
    wp_walk using wpAny_loadPart' ht
    exact ⟨_, rfl, q⟩
def rOnceT (K : PySem.W.Frag) : R2 := fun x y H Q => ∃ t xs, x = .ref t ∧ y = .int 1 ∧ SqT K H t xs ∧ Q (.ref t) H
theorem op_onceT {X : Cx} : OpR X (binaryOp .Mult) (rOnceT X.K) := by
  intro pins s σ H x y v u Q I rx ry h
  obtain ⟨t, xs, rfl, rfl, hT, q⟩ := h
  cases rx
  obtain ⟨tk, rfl⟩ := ry
  obtain ⟨its, r, ⟨⟨cls, dc, data, slots⟩, ho, hc, m, hd⟩, hs⟩ := I.tuple hT
  simp only at hc hd
  subst hc hd
  refine wpAny_binaryOp_repeat_ref (T := "tuple") (U := "int") (by decide) ⟨_, ho, rfl⟩ (fun s' => typeIs_int s' 1 tk) noFill_tuple_mul F.fills_int_mul F.slot_int_rmul repeat_tuple F.slot_int_index.lookup ?_
  refine call_meets F.slot_int_rmul (typeIs_int s 1 tk) F.entry_int_rmul (F.args_int_rmul_2 _ _) (int_rmul_tuple 1 tk t its.toArray m dc slots) ⟨ho, rfl, ⟨_, ho, rfl⟩, ?_⟩
  exact call_meets F.slot_tuple_mul ⟨_, ho, rfl⟩ F.entry_tuple_mul (F.args_tuple_mul_2 _ _) (tup_once t its.toArray m dc slots tk) ⟨ho, .ref t, H, I, rfl, q⟩
/-- a tuple times a number from 1 on -/
theorem de_rep1 {X : Cx} {ρ : Rho} {a b : Expr} {ds : List D} {pos : Pos} {k : Nat} (h1 : 1 ≤ k) (h2 : k ≤ 1000) (ha : DE X ρ a (dat X.K (.tuple ds))) (hb : DE X ρ b (dat X.K (.int (k : Int)))) (hn : ds.isEmpty = false) (hz : ds.length ≤ 1000) : DE X ρ (.BinOp a .Mult b pos) (dat X.K (.tuple (List.replicate k ds).flatten)) := by
  by_cases e : k = 1
  · subst e
    refine de_op2 op_onceT ha hb fun x y H Q hx hy z => ?_
    obtain ⟨p, xs, rfl, hpx, hd⟩ := dp_tuple hx
    cases hy
    refine ⟨p, xs, rfl, rfl, hpx, z _ H (Same.refl H) ?_⟩
    have w : (List.replicate 1 ds).flatten = ds := by simp
    rw [w]
    exact .tup hpx hd
  · refine de_op2 op_repT ha hb fun x y H Q hx hy z => ?_
    obtain ⟨p, xs, rfl, hpx, hd⟩ := dp_tuple hx
    cases hy
    refine ⟨p, (k : Int), xs, rfl, rfl, hpx, fun e => ?_, by omega, by omega, by rw [dpAll_len hd]; exact hz, fun l hl => z _ _ (Same.new hl) (dp_newT hl ?_)⟩
    · subst e
      cases hd
      cases hn
    · rw [show ((k : Int)).toNat = k by omega]
      have rep : ∀ n : Nat, DpAll X.K H (List.replicate n xs).flatten (List.replicate n ds).flatten := by
        intro n
        induction n with
        | zero => exact .nil
        | succ n ih =>
          rw [List.replicate_succ, List.replicate_succ, List.flatten_cons, List.flatten_cons]
          exact dpAll_app hd ih
      exact rep _
end Lc
end
section
/-! The law's third look: changes. -/
namespace Lc
open PySem L2
structure GoodC (b : Bk) : Prop where
  valid : Valid b
  slots : ∀ l ∈ b.limits, SlotsOk (areaOf l)
  few : ∀ l ∈ b.limits, l.names.length ≤ 100
/-- an open row at i -/
theorem open_buy {b : Bk} {i : Int} (h : i ∈ openRows b) : ∃ (n : Nat) (d : Int) (k : Str) (a : Int), i = (n : Int) ∧ b.rows[n]? = some (.buy d k a) := by
  obtain ⟨h0, r, hr, hb⟩ := open_at h
  refine ⟨i.toNat, ?_⟩
  cases r with
  | buy d k a => exact ⟨d, k, a, by omega, hr⟩
  | paid d k s => exact absurd (show ("paid" : Str) = "buy" from of_decide_eq_true hb) (by decide +kernel)
theorem set_row {b : Bk} {n m : Nat} {r : Rw} (hn : n < b.rows.length) : (setRow b n r).rows[m]? = if m = n then some r else b.rows[m]? := by
  show (b.rows.set n r)[m]? = _
  by_cases e : m = n
  · subst e
    rw [if_pos rfl, List.getElem?_set_self hn]
  · rw [if_neg e, List.getElem?_set_ne (fun q => e q.symm)]
theorem set_set (b : Bk) (n : Nat) (r q : Rw) : setRow (setRow b n r) n q = setRow b n q := by
  unfold setRow
  simp only [Bk.mk.injEq, true_and]
  exact List.set_set ..
theorem set_self {b : Bk} {n : Nat} {r : Rw} (h : b.rows[n]? = some r) : setRow b n r = b := by
  unfold setRow
  obtain ⟨h1, h2⟩ := List.getElem?_eq_some_iff.mp h
  have z : b.rows.set n r = b.rows := by
    rw [← h2]
    exact List.set_getElem_self h1
  rw [z]
theorem set_comm (b : Bk) {n m : Nat} (r q : Rw) (h : n ≠ m) : setRow (setRow b n r) m q = setRow (setRow b m q) n r := by
  unfold setRow
  simp only [Bk.mk.injEq, true_and]
  exact List.set_comm _ _ h
theorem set_ne {b : Bk} {n : Nat} {r q : Rw} (h : b.rows[n]? = some r) (hne : r ≠ q) : setRow b n q ≠ b := fun e => by
  have z : (setRow b n q).rows[n]? = b.rows[n]? := by rw [e]
  rw [set_row (List.getElem?_eq_some_iff.mp h).1, if_pos rfl, h] at z
  exact hne (Option.some.inj z).symm
theorem open_set {b : Bk} {n : Nat} {r q : Rw} (h : b.rows[n]? = some r) (e : r.isBuy = q.isBuy) : openRows (setRow b n q) = openRows b := by
  have hn := (List.getElem?_eq_some_iff.mp h).1
  unfold openRows
  have key : (setRow b n q).rows.zipIdx = b.rows.zipIdx.set n (q, n) := by
    apply List.ext_getElem?
    intro m
    rw [List.getElem?_zipIdx, set_row hn]
    by_cases em : m = n
    · subst em
      rw [if_pos rfl, List.getElem?_set_self (by rw [List.length_zipIdx]; exact hn)]
      simp
    · rw [if_neg em, List.getElem?_set_ne (fun z => em z.symm), List.getElem?_zipIdx]
  rw [key]
  have aux : ∀ (l : List (Rw × Nat)) (n : Nat) (r q : Rw) (j : Nat), l[n]? = some (r, j) → r.isBuy = q.isBuy → ((l.set n (q, j)).filter fun p => p.1.isBuy).map (fun p => (p.2 : Int)) = (l.filter fun p => p.1.isBuy).map fun p => (p.2 : Int) := by
    intro l
    induction l with
    | nil => intro n r q j h; simp at h
    | cons x l ih =>
      intro n r q j h e
      cases n with
      | zero =>
        have hx : x = (r, j) := by simpa using h
        subst hx
        rw [List.set_cons_zero, List.filter_cons, List.filter_cons]
        simp only [e]
        split <;> rfl
      | succ n =>
        have hx : l[n]? = some (r, j) := by simpa using h
        rw [List.set_cons_succ, List.filter_cons, List.filter_cons]
        have := ih n r q j hx e
        split
        · rw [List.map_cons, List.map_cons, this]
        · exact this
  refine aux _ n r q n ?_ e
  rw [List.getElem?_zipIdx, h]
  simp
theorem pays_set {b : Bk} {n : Nat} {d : Int} {k : Str} {a c : Int} (h : b.rows[n]? = some (.buy d k a)) (i : Int) : payPair (setRow b n (.buy d k c)) i = payPair b i := by
  unfold payPair payers
  rw [set_row (List.getElem?_eq_some_iff.mp h).1]
  by_cases e : i.toNat = n
  · rw [if_pos e, e, h]
    rfl
  · rw [if_neg e]
    rfl
theorem not_open {b : Bk} {n : Nat} {d : Int} {k : Str} {s : List Int} (h : b.rows[n]? = some (.paid d k s)) : (n : Int) ∉ openRows b := fun q => by
  obtain ⟨m, d', k', a', e, h'⟩ := open_buy q
  have : n = m := by omega
  rw [this, h'] at h
  cases h
theorem mem_intsD {z : Int} {l : List Int} : PyData.int z ∈ l.map PyData.int ↔ z ∈ l := mem_ints
theorem zeros_eq (n : Nat) : PyData.tuple (List.replicate n [PyData.int 0]).flatten = intsD (List.replicate n 0) := by
  unfold intsD
  congr 1
  induction n with
  | zero => rfl
  | succ n ih => rw [List.replicate_succ, List.replicate_succ, List.flatten_cons, List.map_cons, ih]; rfl
theorem zeros_sum (n : Nat) : (List.replicate n (0 : Int)).sum = 0 := sum_zero fun x hx => (List.mem_replicate.mp hx).2
theorem cap_cap (b : Bk) (i : Nat) (l : Limit) (c e : Int) : setCap (setCap b i l c) i (capped l c) e = setCap b i l e := by
  unfold setCap
  simp only [Bk.mk.injEq, true_and, and_true]
  exact List.set_set ..
theorem cap_self {b : Bk} {i : Nat} {l : Limit} (h : b.limits[i]? = some l) : setCap b i l l.cap = b := by
  obtain ⟨h1, h2⟩ := List.getElem?_eq_some_iff.mp h
  unfold setCap
  have z : b.limits.set i (capped l l.cap) = b.limits := by
    have e : capped l l.cap = b.limits[i] := by rw [h2]; rfl
    rw [e]
    exact List.set_getElem_self h1
  rw [z]
theorem cap_at {b : Bk} {i : Nat} {l : Limit} {c : Int} (h : b.limits[i]? = some l) : (setCap b i l c).limits[i]? = some (capped l c) := List.getElem?_set_self (List.getElem?_eq_some_iff.mp h).1
theorem none_left (n : Nat) : PyData.list (((List.range n).filter fun _ => false).map fun (j : Nat) => PyData.int (j : Int)) = PyData.list [] := by
  have z : ((List.range n).filter fun _ => false) = [] := List.filter_eq_nil_iff.mpr fun _ _ q => Bool.noConfusion q
  rw [z]
  rfl
open Classical in
theorem slEq_same (l : List Slot) : slEq l l = true := by
  unfold slEq
  exact decide_eq_true rfl
theorem dn_at {X : Cx} {ρ ρ' ρ2 : Rho} {sts : List Stmt} (e : ρ = ρ') (h : DN X ρ' sts ρ2) : DN X ρ sts ρ2 := by rw [e]; exact h
theorem dr_at {X : Cx} {ρ ρ' : Rho} {sts : List Stmt} {E : Ent} (e : ρ = ρ') (h : DR X ρ' sts E) : DR X ρ sts E := by rw [e]; exact h
theorem off_set1 {ws : List Nat} (ρ : Rho) (j : Nat) (x : Option Ent) (hj : j ∈ ws) : Off ws ρ (ρ.set j x) := Off.set Off.refl hj
theorem lbW {X : Cx} {ws : List Nat} {ρ0 ρ : Rho} {body : List Stmt} (h : DN X ρ body ρ0) : LB X ws ρ0 ρ body := ⟨_, h, Off.refl⟩
section
variable {P : Program} {w : World} {K : PySem.W.Frag} {mg : Str → Option Value} {base : Heap} {CA CW CB : Addr}
theorem ar_bool {C : Addr} : ∀ Es E, FAreaEq K C Es E → ∀ v H, E.is v H → ∃ q, v = .bl q := fun Es E hF v H hv => by
  cases hF
  cases hv
  exact ⟨_, rfl⟩
inductive FChanges (K : PySem.W.Frag) (CB : Addr) : Fn
  | mk (b : Bk) (h : GoodC b) : FChanges K CB [bookE K CB b] (dat K (.bool true))
theorem ok_law_changes_right (T : TxtB K mg CA CW CB) : GFun P w K mg base "_law_changes_right" 10 (FChanges K CB) :=
  gfun_mk (N := ["_law_made", "_law_whole", "_law_open_now", "_law_spot", "_law_late", "_law_one", "_law_zero", "_law_k", "_law_other", "_law_two"]) (k := 9) T.d_law_changes_right ["_law_made"] ⟨rfl, rfl, rfl, by decide +kernel, rfl, by decide +kernel, by decide +kernel⟩ (fun _ _ _ _ _ _ us hl => match us, hl with | [_], _ => rfl) (fun _ _ h => by cases h <;> rfl) fun f cdv A outer s H E0 g Es E hF => by
    cases hF with
    | mk b h =>
      have hv := h.valid
      have hb := hv.toBkOk
      have hnr : b.rows.length ≤ 1000000 := Nat.le_trans hb.nr (by decide)
      have hnl : b.limits.length ≤ 1000000 := Nat.le_trans hb.nl (by decide)
      have hpos : 0 < b.purses.length := List.length_pos_iff.mpr hv.ne
      refine .inl (dr_cons (ds_set g 1 (de_prop (ok_Book_form T) T.c_Book g (de_var 0) bk_ins (.mk b))) ?_)
      refine dr_cons (ds_set g 2 (de_listT T.B (ds := (openRows b).map PyData.int) (de_call (ok_open_rows T.toTxt) g (da_cons (de_var 1) da_nil) (.mk b hb.nr)))) ?_
      refine dr_at (ρ' := [some (bookE K CB b), some (dat K (bkD b)), some (dat K (.list ((openRows b).map PyData.int))), none, none, none, none, none, none, none]) rfl ?_
      refine dr_cons (ds_each g (xs := openRows b) (f0 := PyData.int) [3, 4, 5, 6, 7, 8, 9] PassesOwn.never (di_L (de_var 2)) (pg_name (i := 3) (by exact g.nd) rfl (by first | exact Or.inl rfl | exact Or.inr rfl)) (fun x _ => gbn 3) fun i hi => ?_) ?_
      · obtain ⟨n, d, k, a, rfl, hr⟩ := open_buy hi
        have hn : n < b.rows.length := (List.getElem?_eq_some_iff.mp hr).1
        have ha0 : 0 ≤ a := (hb.rows _ (List.mem_of_getElem? hr)).rest
        have hv2 := valid_amount hv hr (c := a + 2) (by omega)
        have hr2 : (setRow b n (.buy d k (a + 2))).rows[n]? = some (.buy d k (a + 2)) := by rw [set_row hn, if_pos rfl]
        have back : setRow (setRow b n (.buy d k (a + 2))) n (.buy d k a) = b := by rw [set_set, set_self hr]
        have neL : setRow b n (.buy d k (a + 2)) ≠ b := set_ne hr fun q => by have := (Rw.buy.inj q).2.2; omega
        have opL : PyData.list ((openRows b).map (payPair b)) = .list ((openRows (setRow b n (.buy d k (a + 2)))).map (payPair (setRow b n (.buy d k (a + 2))))) := by
          rw [open_set (q := .buy d k (a + 2)) hr rfl]
          exact congrArg PyData.list (List.map_congr_left fun j _ => (pays_set hr j).symm)
        have resL := FResized.mk (K := K) (CB := CB) b n d k a (a + 2) hr hv2
        have resB := FResized.mk (K := K) (CB := CB) (setRow b n (.buy d k (a + 2))) n d k (a + 2) a hr2 (by rw [back]; exact hv)
        rw [back] at resB
        generalize setRow b n (.buy d k (a + 2)) = L at hv2 hr2 back neL opL resL resB
        have hv3 := valid_amount hv hr (c := 0) (Int.le_refl 0)
        have hr3 : (setRow b n (.buy d k 0)).rows[n]? = some (.buy d k 0) := by rw [set_row hn, if_pos rfl]
        have hz : setRow (setRow b n (.buy d k 0)) n (.paid d k (List.replicate b.purses.length 0)) = setRow b n (.paid d k (List.replicate b.purses.length 0)) := set_set _ _ _ _
        have hv4 := valid_zero hv3 hr3
        have hv4 : Valid (setRow b n (.paid d k (List.replicate b.purses.length 0))) := by rw [← hz]; exact hv4
        have hr4 : (setRow b n (.paid d k (List.replicate b.purses.length 0))).rows[n]? = some (.paid d k (List.replicate b.purses.length 0)) := by rw [set_row hn, if_pos rfl]
        have res0 := FResized.mk (K := K) (CB := CB) b n d k a 0 hr hv3
        have resZ := FSettled.mk (K := K) (CB := CB) (setRow b n (.buy d k 0)) n d k 0 (List.replicate b.purses.length 0) hr3 (fun x hx => by rw [(List.mem_replicate.mp hx).2]; exact Int.le_refl 0) (by rw [List.length_replicate]; exact Nat.le_trans hb.np (by decide)) (zeros_sum _) (by rw [hz]; exact hv4)
        rw [hz] at resZ
        have lenZ : (setRow b n (.paid d k (List.replicate b.purses.length 0))).rows.length = b.rows.length := List.length_set ..
        have leftZ : ∀ l, leftOf (setRow b n (.paid d k (List.replicate b.purses.length 0))) l = leftOf b l := fun l => by
          unfold leftOf
          rw [pw_set hr (by rw [paidR_zero _ _ _ _ _ fun x hx => (List.mem_replicate.mp hx).2]; rfl)]
        have limZ : (setRow b n (.paid d k (List.replicate b.purses.length 0))).limits = b.limits := rfl
        generalize setRow b n (.paid d k (List.replicate b.purses.length 0)) = Z at hv4 hr4 resZ lenZ leftZ limZ
        generalize setRow b n (.buy d k 0) = Y at hv3 res0 resZ
        have amt : ∀ {ρ : Rho} {p1 p2 p3 p4 : Pos}, ρ[1]? = some (some (dat K (bkD b))) → ρ[3]? = some (some (dat K (.int (n : Int)))) → DE (cx P w K mg base ["_law_made", "_law_whole", "_law_open_now", "_law_spot", "_law_late", "_law_one", "_law_zero", "_law_k", "_law_other", "_law_two"] "_law_changes_right" (top 101) f cdv A outer s H E0) ρ (.Call (.Name "amount_of" p1) [.Name "_law_whole" p2, .Name "_law_spot" p3] [] p4) (dat K (.int a)) := fun {ρ p1 p2 p3 p4} h1 h2 =>
          de_call (ok_amount_of T.toTxt) g (da_cons (de_var 1 h1) (da_cons (de_var 3 h2) da_nil)) (.mk b n (.buy d k a) (by omega) (by rw [Int.toNat_natCast]; exact hr))
        refine lbW (dn_at (ρ' := [some (bookE K CB b), some (dat K (bkD b)), some (dat K (.list ((openRows b).map PyData.int))), some (dat K (.int (n : Int))), none, none, none, none, none, none]) rfl ?_)
        refine dn_cons (ds_set g 4 (de_meth (ok_Book_resized T) T.c_Book (bk_insOf rfl) g (de_var 0) (da_cons (de_var 3) (da_cons (de_add (amt rfl rfl) de_int) da_nil)) resL)) ?_
        refine dn_cons (ds_skip (dt_w (dw_orF (dt_is (dt_c (dc_eqOwn (ok_Book_eq T) g (de_var 4) (de_var 0) bk_ins bk_ins (.mk L b))) (bkEq_not neL))
            (dw_or1 (dt_is (dt_c (dc_neOwn (ok_Book_eq T) T.no_Book eq_bool g (de_meth (ok_Book_resized T) T.c_Book (bk_insOf rfl) g (de_var 4) (da_cons (de_var 3) (da_cons (amt rfl rfl) da_nil)) resB) (de_var 0) bk_ins bk_ins (.mk b b))) (by rw [bkEq_same]; rfl)))))) ?_
        refine dn_cons (ds_skip (dt_c (dc_neF g (de_ld (de_lcG (ok_Book_payable T) T.c_Book (bk_insOf rfl) g (de_var 0) (.mk b hb.np hb.nr) (by rw [List.length_map]; exact Nat.le_trans (openRows_len b) hnr))) (de_ld (de_lcG (ok_Book_payable T) T.c_Book (bk_insOf rfl) g (de_var 4) (.mk L hv2.np hv2.nr) (by rw [List.length_map]; exact Nat.le_trans (openRows_len _) (Nat.le_trans hv2.nr (by decide))))) (pl_pays b (openRows b)) opL))) ?_
        refine dn_cons (ds_set g 6 (E := bookE K CB Z) (de_meth (ok_Book_settled T) T.c_Book (bk_insOf rfl) g (de_meth (ok_Book_resized T) T.c_Book (bk_insOf rfl) g (de_var 0) (da_cons (de_var 3) (da_cons de_int da_nil)) res0) (da_cons (de_var 3) (da_cons (de_is (d' := intsD (List.replicate b.purses.length 0)) (de_rep1 hpos (Nat.le_trans hb.np (by decide)) (de_tup (ds := [PyData.int 0]) (dd_cons de_int dd_nil)) (de_is (d' := .int (b.purses.length : Int)) (de_lenT T.B (ds := b.purses.map purseD) (de_ixTc (de_var 1))) (by rw [List.length_map])) rfl (by decide)) (zeros_eq _)) da_nil)) resZ)) ?_
        refine dn_cons (ds_skip (dt_w (dw_orF (dt_is (dt_c (dc_neI (de_call (ok_amount_of T.toTxt) g (da_cons (de_prop (ok_Book_form T) T.c_Book g (de_var 6) bk_ins (.mk Z)) (da_cons (de_var 3) da_nil)) (.mk Z n _ (by omega) (by rw [Int.toNat_natCast]; exact hr4))) de_int)) (by
              have z : (Rw.paid d k (List.replicate b.purses.length 0)).amount = 0 := zeros_sum _
              rw [z]
              rfl))
            (dw_or1 (dt_is (dt_c (dc_inTi g (de_var 3) (de_call (ok_open_rows T.toTxt) g (da_cons (de_prop (ok_Book_form T) T.c_Book g (de_var 6) bk_ins (.mk Z)) da_nil) (.mk Z hv4.nr)))) (decide_eq_false (not_open hr4))))))) ?_
        refine dn_cons (ds_skip (dt_w (dw_orF (dt_is (dt_c (dc_neI (de_lenOwn T.B (ok_Book_len T) g (Nat.le_trans hv4.nr (by decide)) (de_var 6) bk_ins (.mk Z)) (de_lenOwn T.B (ok_Book_len T) g hnr (de_var 0) bk_ins (.mk b)))) (by
              rw [lenZ]
              simp))
            (dw_or1 (dt_c (dc_neF g (de_slT (de_ixOwn (ok_Book_getitem T) g (de_var 6) (de_var 3) bk_ins (.mk Z n _ hr4) (fnIn_of T.m_Book_getitem)) (do_some de_int) (do_some de_int)) (de_slT (de_ixOwn (ok_Book_getitem T) g (de_var 0) (de_var 3) bk_ins (.mk b n _ hr) (fnIn_of T.m_Book_getitem)) (do_some de_int) (do_some de_int)) ⟨rfl, Nat.le_of_ble_eq_true rfl⟩ rfl)))))) ?_
        refine dn_cons (ds_skip (dt_c (dc_neF g (de_ld (de_lc g (xs := List.range b.limits.length) (f0 := fun (j : Nat) => .int (j : Int)) (fun _ => false) (fun (j : Nat) => .int (j : Int)) (di_is (di_range1 T.B (n := b.limits.length) hnl (de_is (de_lenT T.B (ds := b.limits.map limitD) (de_ixTc (de_var 1))) (by rw [List.length_map]))) (range0 _)) (blkOk_by (own := [("_law_k", 7)]) (N := ["_law_made", "_law_whole", "_law_open_now", "_law_spot", "_law_late", "_law_one", "_law_zero", "_law_k", "_law_other", "_law_two"]) (sc := defScope (top 101)) (by decide +kernel)) (fun _ _ _ _ _ => (pg_name (i := 7) (by exact g.nd) rfl (by first | exact Or.inl rfl | exact Or.inr rfl))) (fun x _ => gbn 7) (fun _ _ _ _ _ j hj => ?_) (fun _ _ _ _ _ j hj hp => Bool.noConfusion hp) (fun _ _ hp => Bool.noConfusion hp) (by rw [List.length_range]; exact hnl))) (de_lst dd_nil) (by rw [none_left]; exact ⟨rfl, Nat.le_of_ble_eq_true rfl⟩) (none_left _)))) ?_
        · have hj := List.mem_range.mp hj
          have hl : b.limits[j]? = some b.limits[j] := List.getElem?_eq_getElem hj
          generalize b.limits[j] = l at hl
          exact dts_one (dt_is (dt_c (dc_neI (de_call (ok_left_of T.toTxt) (g.blk _ _ _ _ _) (da_cons (de_prop (ok_Book_form T) T.c_Book (g.blk _ _ _ _ _) (de_var 6) bk_ins (.mk Z)) (da_cons (de_var 7) da_nil)) (.mk Z j l hv4.toBkOk (by omega) (by rw [Int.toNat_natCast, limZ]; exact hl))) (de_call (ok_left_of T.toTxt) (g.blk _ _ _ _ _) (da_cons (de_var 1) (da_cons (de_var 7) da_nil)) (.mk b j l hb (by omega) (by rw [Int.toNat_natCast]; exact hl))))) (by rw [leftZ]; simp))
        have ho3 : Off [3, 4, 5, 6, 7, 8, 9] ([some (bookE K CB b), some (dat K (bkD b)), some (dat K (.list ((openRows b).map PyData.int))), none, none, none, none, none, none, none] : Rho) [some (bookE K CB b), some (dat K (bkD b)), some (dat K (.list ((openRows b).map PyData.int))), some (dat K (.int (n : Int))), none, none, none, none, none, none] := off_set1 [some (bookE K CB b), some (dat K (bkD b)), some (dat K (.list ((openRows b).map PyData.int))), none, none, none, none, none, none, none] 3 _ (by decide)
        refine dn_weak (dn_one (ds_each g (xs := openRows b) (f0 := PyData.int) [5, 7, 8, 9] PassesOwn.never (di_L (de_var 2)) (pg_name (i := 8) (by exact g.nd) rfl (by first | exact Or.inl rfl | exact Or.inr rfl)) (fun x _ => gbn 8) fun i' hi' => ?_)) fun σ H h => h.off (ρ := [some (bookE K CB b), some (dat K (bkD b)), some (dat K (.list ((openRows b).map PyData.int))), none, none, none, none, none, none, none]) (ws := [3, 4, 5, 6, 7, 8, 9]) (Off.wipe (Off.set (Off.set ho3 (by decide)) (by decide)) (by decide))
        obtain ⟨m, d', k', a', rfl, hr'⟩ := open_buy hi'
        have hm : m < b.rows.length := (List.getElem?_eq_some_iff.mp hr').1
        have hv1 := valid_amount hv hr (c := 1) (by omega)
        have hv5 := valid_amount hv hr' (c := 4) (by omega)
        have resO := FResized.mk (K := K) (CB := CB) b n d k a 1 hr hv1
        have resT := FResized.mk (K := K) (CB := CB) b m d' k' a' 4 hr' hv5
        refine lbW (dn_at (ρ' := [some (bookE K CB b), some (dat K (bkD b)), some (dat K (.list ((openRows b).map PyData.int))), some (dat K (.int (n : Int))), some (bookE K CB L), none, some (bookE K CB Z), none, some (dat K (.int (m : Int))), none]) rfl ?_)
        refine dn_cons (ds_par g 5 9 (da_cons (de_meth (ok_Book_resized T) T.c_Book (bk_insOf rfl) g (de_var 0) (da_cons (de_var 3) (da_cons de_int da_nil)) resO) (da_cons (de_meth (ok_Book_resized T) T.c_Book (bk_insOf rfl) g (de_var 0) (da_cons (de_var 8) (da_cons de_int da_nil)) resT) da_nil))) ?_
        refine dn_weak (ρ' := [some (bookE K CB b), some (dat K (bkD b)), some (dat K (.list ((openRows b).map PyData.int))), some (dat K (.int (n : Int))), some (bookE K CB L), some (bookE K CB (setRow b n (.buy d k 1))), some (bookE K CB Z), none, some (dat K (.int (m : Int))), some (bookE K CB (setRow b m (.buy d' k' 4)))]) (dn_at (ρ' := [some (bookE K CB b), some (dat K (bkD b)), some (dat K (.list ((openRows b).map PyData.int))), some (dat K (.int (n : Int))), some (bookE K CB L), some (bookE K CB (setRow b n (.buy d k 1))), some (bookE K CB Z), none, some (dat K (.int (m : Int))), some (bookE K CB (setRow b m (.buy d' k' 4)))]) rfl (dn_one (ds_skip (dt_is (dt_w (dw_and (q := false) (dt_c (dc_neI (de_var 8) (de_var 3))) fun hne => dw_and1 ?_)) (Bool.and_false _))))) fun σ H h => h.off (ρ := [some (bookE K CB b), some (dat K (bkD b)), some (dat K (.list ((openRows b).map PyData.int))), some (dat K (.int (n : Int))), some (bookE K CB L), none, some (bookE K CB Z), none, none, none]) (ws := [5, 7, 8, 9]) (fun i hi => ?_)
        · have hnm : n ≠ m := fun e => by
            rw [e] at hne
            simp at hne
          have hr5 : (setRow b n (.buy d k 1)).rows[m]? = some (.buy d' k' a') := by rw [set_row hn, if_neg (Ne.symm hnm)]; exact hr'
          have hr6 : (setRow b m (.buy d' k' 4)).rows[n]? = some (.buy d k a) := by rw [set_row hm, if_neg hnm]; exact hr
          have hv6 := valid_amount hv1 hr5 (c := 4) (by omega)
          have hv7 := valid_amount hv5 hr6 (c := 1) (by omega)
          have e := set_comm b (.buy d k 1) (.buy d' k' 4) hnm
          exact dt_is (dt_c (dc_neOwn (ok_Book_eq T) T.no_Book eq_bool g (de_meth (ok_Book_resized T) T.c_Book (bk_insOf rfl) g (de_var 5) (da_cons (de_var 8) (da_cons de_int da_nil)) (.mk _ m d' k' a' 4 hr5 hv6)) (de_meth (ok_Book_resized T) T.c_Book (bk_insOf rfl) g (de_var 9) (da_cons (de_var 3) (da_cons de_int da_nil)) (.mk _ n d k a 1 hr6 hv7)) bk_ins bk_ins (.mk _ _))) (by rw [bkEq_of e]; rfl)
        · match i, hi with
          | 0, _ => rfl
          | 1, _ => rfl
          | 2, _ => rfl
          | 3, _ => rfl
          | 4, _ => rfl
          | 5, hi => exact absurd (by decide) hi
          | 6, _ => rfl
          | 7, hi => exact absurd (by decide) hi
          | 8, hi => exact absurd (by decide) hi
          | 9, hi => exact absurd (by decide) hi
          | i + 10, _ => rfl
      refine dr_at (ρ' := [some (bookE K CB b), some (dat K (bkD b)), some (dat K (.list ((openRows b).map PyData.int))), none, none, none, none, none, none, none]) rfl ?_
      refine dr_cons (ds_each g (xs := List.range b.limits.length) (f0 := fun (j : Nat) => .int (j : Int)) [4, 7] PassesOwn.never (di_is (di_range1 T.B (n := b.limits.length) hnl (de_is (de_lenT T.B (ds := b.limits.map limitD) (de_ixTc (de_var 1))) (by rw [List.length_map]))) (range0 _)) (pg_name (i := 7) (by exact g.nd) rfl (by first | exact Or.inl rfl | exact Or.inr rfl)) (fun x _ => gbn 7) fun j hj => ?_) (dr_ret de_bl)
      have hj := List.mem_range.mp hj
      have hl : b.limits[j]? = some b.limits[j] := List.getElem?_eq_getElem hj
      generalize b.limits[j] = l at hl
      have hlm : l ∈ b.limits := List.mem_of_getElem? hl
      have hlo := hb.limits l hlm
      have hbox := box_ok hb hlm (h.few l hlm)
      have hso := h.slots l hlm
      have hv8 := valid_cap hv hl (c := l.cap + 1) (by omega)
      have hl2 : (setCap b j l (l.cap + 1)).limits[j]? = some (capped l (l.cap + 1)) := cap_at hl
      have back : setCap (setCap b j l (l.cap + 1)) j (capped l (l.cap + 1)) l.cap = b := by rw [cap_cap, cap_self hl]
      have left1 : leftOf (setCap b j l (l.cap + 1)) (capped l (l.cap + 1)) = leftOf b l + 1 := by
        unfold leftOf
        rw [pw_like (b := setCap b j l (l.cap + 1)) (c := b) (x := capped l (l.cap + 1)) (y := l) rfl rfl rfl rfl rfl]
        show l.cap + 1 - _ = _
        omega
      have resC := FCapped.mk (K := K) (CB := CB) b j l (l.cap + 1) hl hv8
      have resD := FCapped.mk (K := K) (CB := CB) (setCap b j l (l.cap + 1)) j _ l.cap hl2 (by rw [back]; exact hv)
      rw [back] at resD
      have areaL := FBookArea.mk (K := K) (CA := CA) (CB := CB) (setCap b j l (l.cap + 1)) j _ hl2 hbox hlo.last hso
      generalize setCap b j l (l.cap + 1) = L at hv8 hl2 back left1 resC resD areaL
      have cap4 : ∀ {ρ : Rho} {p1 p2 p3 p4 p5 p6 p7 : Pos} {k1 k2}, ρ[1]? = some (some (dat K (bkD b))) → ρ[7]? = some (some (dat K (.int (j : Int)))) → DE (cx P w K mg base ["_law_made", "_law_whole", "_law_open_now", "_law_spot", "_law_late", "_law_one", "_law_zero", "_law_k", "_law_other", "_law_two"] "_law_changes_right" (top 101) f cdv A outer s H E0) ρ (.Subscript (.Subscript (.Subscript (.Name "_law_whole" p1) (.Constant (.int 1) k1 p2) p3) (.Name "_law_k" p4) p5) (.Constant (.int 3) k2 p6) p7) (dat K (.int l.cap)) := fun {ρ p1 p2 p3 p4 p5 p6 p7 k1 k2} h1 h2 =>
        de_ixTc (ds := [strsD l.names, .int l.first, .int l.last, .int l.cap]) (de_ixTi (by omega) (by rw [Int.toNat_natCast]; exact limit_atN hl) (de_ixTc (de_var 1 h1)) (de_var 7 h2))
      refine lbW (dn_at (ρ' := [some (bookE K CB b), some (dat K (bkD b)), some (dat K (.list ((openRows b).map PyData.int))), none, none, none, none, some (dat K (.int (j : Int))), none, none]) rfl ?_)
      · refine dn_weak (ρ' := [some (bookE K CB b), some (dat K (bkD b)), some (dat K (.list ((openRows b).map PyData.int))), none, some (bookE K CB L), none, none, some (dat K (.int (j : Int))), none, none]) ?_ fun σ H h => ?_
        · refine dn_cons (ds_set g 4 (de_meth (ok_Book_capped T) T.c_Book (bk_insOf rfl) g (de_var 0) (da_cons (de_var 7) (da_cons (de_add (cap4 rfl rfl) de_int) da_nil)) resC)) ?_
          refine dn_cons (ds_skip (dt_w (dw_orF (dt_is (dt_c (dc_neI (de_call (ok_left_of T.toTxt) g (da_cons (de_prop (ok_Book_form T) T.c_Book g (de_var 4) bk_ins (.mk L)) (da_cons (de_var 7) da_nil)) (.mk L j _ hv8.toBkOk (by omega) (by rw [Int.toNat_natCast]; exact hl2))) (de_add (de_call (ok_left_of T.toTxt) g (da_cons (de_var 1) (da_cons (de_var 7) da_nil)) (.mk b j l hb (by omega) (by rw [Int.toNat_natCast]; exact hl))) de_int))) (by
              rw [left1]
              simp))
            (dw_or1 (dt_is (dt_c (dc_neOwn (ok_Area_eq T) T.no_Area ar_bool g (de_meth (ok_Book_area T) T.c_Book (bk_insOf rfl) g (de_var 4) (da_cons (de_var 7) da_nil) areaL) (de_meth (ok_Book_area T) T.c_Book (bk_insOf rfl) g (de_var 0) (da_cons (de_var 7) da_nil) (.mk b j l hl hbox hlo.last hso)) ar_ins ar_ins (.mk _ _))) (by
              rw [show areaOf (capped l (l.cap + 1)) = areaOf l from rfl, slEq_same]
              rfl)))))) ?_
          exact dn_one (ds_skip (dt_is (dt_c (dc_neOwn (ok_Book_eq T) T.no_Book eq_bool g (de_meth (ok_Book_capped T) T.c_Book (bk_insOf rfl) g (de_var 4) (da_cons (de_var 7) (da_cons (cap4 rfl rfl) da_nil)) resD) (de_var 0) bk_ins bk_ins (.mk b b))) (by rw [bkEq_same]; rfl)))
        · exact (h.forget [4, 7])
end
end Lc
end
section
/-! The law's fourth look: one purse and one limit more. -/
namespace Lc
open PySem L2
theorem no_one (l : List Slot) : PyData.list ((l.filter fun _ => false).map slotD) = PyData.list [] := by
  have z : (l.filter fun _ => false) = [] := List.filter_eq_nil_iff.mpr fun _ _ q => Bool.noConfusion q
  rw [z]
  rfl
theorem mm_slots : SlotsOk (areaOf mmL) := ⟨fun s hs => by
  obtain ⟨h1, h2, h3⟩ := mem_box.mp hs
  refine ⟨by rw [List.mem_singleton.mp h1]; exact mm_name, ?_⟩
  have h2 : (2 : Int) ≤ s.2 := h2
  omega, by decide +kernel⟩
theorem mm_box : BoxOk mmL.names mmL.first mmL.last := ⟨by decide, by decide, by decide⟩
section
variable {P : Program} {w : World} {K : PySem.W.Frag} {mg : Str → Option Value} {base : Heap} {CA CW CB : Addr}
inductive FJoinedR (K : PySem.W.Frag) (CB : Addr) : Fn
  | mk (b : Bk) (h : GoodJ b) : FJoinedR K CB [bookE K CB b] (dat K (.bool true))
theorem ok_law_joined_right (T : TxtB K mg CA CW CB) : GFun P w K mg base "_law_joined_right" 10 (FJoinedR K CB) :=
  gfun_mk (N := ["_law_made", "_law_whole", "_law_late", "_law_k", "_law_j", "_law_one", "_law_covered"]) (k := 9) T.d_law_joined_right ["_law_made"] ⟨rfl, rfl, rfl, by decide +kernel, rfl, by decide +kernel, by decide +kernel⟩ (fun _ _ _ _ _ _ us hl => match us, hl with | [_], _ => rfl) (fun _ _ h => by cases h <;> rfl) fun f cdv A outer s H E0 g Es E hF => by
    cases hF with
    | mk b h =>
      have hv := h.valid
      have hb := hv.toBkOk
      have hnr : b.rows.length ≤ 1000000 := Nat.le_trans hb.nr (by decide)
      have hnl : b.limits.length ≤ 1000000 := Nat.le_trans hb.nl (by decide)
      have jv := j_valid h
      have jb := jv.toBkOk
      have jlast := j_last h
      have jat : ∀ j, j < b.limits.length → (joinB b).limits[j]? = b.limits[j]? := fun j hj => j_at h hj
      have jover2 := j_over2 h
      have jover1 := j_over1 h
      have jold : ∀ z ∈ namesOf b, ∀ d, limitsOver (joinB b) z d = limitsOver b z d := fun z hz d => j_over_old h hz d
      have jleft := j_leftOf h
      have jlen := j_len h
      have jpaid : ∀ m, paidAt (joinB b) (away (spotOf b mmP) m) = paidAt b m := fun m => j_paid h m
      have jname : ∀ (m : Nat) (z : Str), (b.purses.map (·.name))[m]? = some z → ((joinB b).purses.map (·.name))[away (spotOf b mmP) m]? = some z := fun m z hz => j_name h hz
      have jpaid0 := j_paid0 h
      have jname0 := j_name0 h
      have resJ := FJoined.mk (K := K) (CB := CB) b mmP hb mm_purse h.free (j_valid1 h)
      have resL := FLimited.mk (K := K) (CB := CB) (withPurse b mmP) mmL jv
      rw [show withLimit (withPurse b mmP) mmL = joinB b from rfl] at resL
      have jmm : ("mm" : Str) ∈ (joinB b).purses.map (·.name) := List.mem_of_getElem? jname0
      generalize joinB b = J at jv jb jlast jat jover2 jover1 jold jleft jlen jpaid jname jpaid0 jname0 resL jmm
      have k0 : ((b.limits.length : Nat) : Int).toNat = b.limits.length := Int.toNat_natCast _
      refine .inl (dr_cons (ds_set g 1 (de_prop (ok_Book_form T) T.c_Book g (de_var 0) bk_ins (.mk b))) ?_)
      refine dr_cons (ds_set g 2 (E := bookE K CB J) (de_meth (ok_Book_limited T) T.c_Book (bk_insOf rfl) g (de_meth (ok_Book_joined T) T.c_Book (bk_insOf rfl) g (de_var 0) (da_cons (de_is (d' := purseD mmP) (de_tup (dd_cons de_str (dd_cons de_str (dd_cons (de_tup (ds := [.str "food", .str "toy"]) (dd_cons de_str (dd_cons de_str dd_nil))) (dd_cons de_int (dd_cons de_int dd_nil)))))) rfl) da_nil) resJ) (da_cons (de_is (d' := limitD mmL) (de_tup (dd_cons (de_tup (ds := [.str "mm"]) (dd_cons de_str dd_nil)) (dd_cons de_int (dd_cons de_int (dd_cons de_int dd_nil))))) rfl) da_nil) resL)) ?_
      refine dr_cons (ds_set g 3 (E := dat K (.int (b.limits.length : Nat))) (de_is (de_lenT T.B (ds := b.limits.map limitD) (de_ixTc (de_var 1))) (by rw [List.length_map]))) ?_
      refine dr_at (ρ' := [some (bookE K CB b), some (dat K (bkD b)), some (bookE K CB J), some (dat K (.int (b.limits.length : Nat))), none, none, none]) rfl ?_
      have areaM := FBookArea.mk (K := K) (CA := CA) (CB := CB) J b.limits.length mmL jlast mm_box (by decide) mm_slots
      refine dr_cons (ds_skip (dt_w (dw_orF (dt_is (dt_c (dc_neOwn (ok_Area_eq T) T.no_Area ar_bool g (de_meth (ok_Book_area T) T.c_Book (bk_insOf rfl) g (de_var 2) (da_cons (de_var 3) da_nil) areaM) (de_sm (ok_Area_box T) g T.g_Area (da_cons (de_is (d' := strsD mmL.names) (de_tup (ds := [.str "mm"]) (dd_cons de_str dd_nil)) rfl) (da_cons de_int (da_cons de_int da_nil))) (.mk mmL.names 2 3 mm_box (by decide) mm_slots)) ar_ins ar_ins (.mk _ _))) (by
          rw [show boxOf mmL.names 2 3 = areaOf mmL from rfl, slEq_same]
          rfl))
        (dw_or1 (dt_c (dc_neF g (de_callO (ok_Book_call T) (fnIn_of T.m_Book_call) g (de_var 2) bk_ins (da_cons de_str (da_cons de_int da_nil)) (.mk J "mm" 2 jb mm_name jmm (by decide))) (de_tup (dd_cons (de_var 3) dd_nil)) (pl_intsD _) (by rw [jover2]; rfl))))))) ?_
      refine dr_cons (ds_skip (dt_w (dw_orF (dt_c (dc_neF g (de_callO (ok_Book_call T) (fnIn_of T.m_Book_call) g (de_var 2) bk_ins (da_cons de_str (da_cons de_int da_nil)) (.mk J "mm" 1 jb mm_name jmm (by decide))) (de_tup dd_nil) (pl_intsD _) (by rw [jover1]; rfl)))
        (dw_or1 (dt_is (dt_c (dc_neI (de_call (ok_left_of T.toTxt) g (da_cons (de_prop (ok_Book_form T) T.c_Book g (de_var 2) bk_ins (.mk J)) (da_cons (de_var 3) da_nil)) (.mk J b.limits.length mmL jb (by omega) (by rw [k0]; exact jlast))) de_int)) (by rw [jleft]; rfl)))))) ?_
      refine dr_cons (ds_each g (xs := List.range b.limits.length) (f0 := fun (j : Nat) => .int (j : Int)) [4] PassesOwn.never (di_is (di_range1 T.B (n := b.limits.length) hnl (de_var 3)) (range0 _)) (pg_name (i := 4) (by exact g.nd) rfl (by first | exact Or.inl rfl | exact Or.inr rfl)) (fun x _ => gbn 4) fun j hj => ?_) ?_
      · have hj := List.mem_range.mp hj
        have hl : b.limits[j]? = some b.limits[j] := List.getElem?_eq_getElem hj
        generalize b.limits[j] = l at hl
        have hl2 : J.limits[j]? = some l := by rw [jat j hj]; exact hl
        have hlm : l ∈ b.limits := List.mem_of_getElem? hl
        have hlo := hb.limits l hlm
        have hbox := box_ok hb hlm (h.few l hlm)
        have hso := h.slots l hlm
        have j0 : ((j : Nat) : Int).toNat = j := Int.toNat_natCast _
        have areaJ := FBookArea.mk (K := K) (CA := CA) (CB := CB) J j l hl2 hbox hlo.last hso
        have areaB := FBookArea.mk (K := K) (CA := CA) (CB := CB) b j l hl hbox hlo.last hso
        refine lbW (dn_at (ρ' := [some (bookE K CB b), some (dat K (bkD b)), some (bookE K CB J), some (dat K (.int (b.limits.length : Nat))), some (dat K (.int (j : Int))), none, none]) rfl ?_)
        refine dn_cons (ds_skip (dt_w (dw_orF (dt_is (dt_c (dc_neOwn (ok_Area_eq T) T.no_Area ar_bool g (de_meth (ok_Book_area T) T.c_Book (bk_insOf rfl) g (de_var 2) (da_cons (de_var 4) da_nil) areaJ) (de_meth (ok_Book_area T) T.c_Book (bk_insOf rfl) g (de_var 0) (da_cons (de_var 4) da_nil) areaB) ar_ins ar_ins (.mk _ _))) (by rw [slEq_same]; rfl))
          (dw_or1 (dt_is (dt_not (dt_val (de_meth (ok_Area_is_apart T) T.c_Area (ar_insOf (by decide)) g (de_meth (ok_Book_area T) T.c_Book (bk_insOf rfl) g (de_var 2) (da_cons (de_var 4) da_nil) areaJ) (da_cons (de_meth (ok_Book_area T) T.c_Book (bk_insOf rfl) g (de_var 2) (da_cons (de_var 3) da_nil) areaM) da_nil) (.mk _ _ (Nat.le_trans (slotsOf_len _) (Nat.le_trans (Nat.le_of_lt hso.few) (by decide))))))) (by rw [j_apart h hlm]; rfl)))))) ?_
        refine dn_weak (dn_one (ds_skip (dt_c (dc_neF g (de_call (ok_area_of T.toTxt) g (da_cons (de_prop (ok_Book_form T) T.c_Book g (de_var 2) bk_ins (.mk J)) (da_cons (de_var 4) da_nil)) (.mk J j l (by omega) (by rw [j0]; exact hl2) hbox hlo.last)) (de_call (ok_area_of T.toTxt) g (da_cons (de_var 1) (da_cons (de_var 4) da_nil)) (.mk b j l (by omega) (by rw [j0]; exact hl) hbox hlo.last)) (pl_slotsD _) rfl)))) fun σ H h => h.forget [4]
      refine dr_at (ρ' := [some (bookE K CB b), some (dat K (bkD b)), some (bookE K CB J), some (dat K (.int (b.limits.length : Nat))), none, none, none]) rfl ?_
      refine dr_cons (ds_each g (xs := b.purses) (f0 := purseD) [5] PassesOwn.never (di_T (de_ixTc (de_var 1))) (pg_name (i := 5) (by exact g.nd) rfl (by first | exact Or.inl rfl | exact Or.inr rfl)) (fun x _ => gbn 5) fun p hp => ?_) ?_
      · obtain ⟨m, hm⟩ := List.getElem?_of_mem hp
        have hm1 : (b.purses.map (·.name))[m]? = some p.name := by rw [List.getElem?_map, hm]; rfl
        have hm2 := jname m p.name hm1
        have hpn := (hb.purses p hp).name
        have hpm : p.name ∈ b.purses.map (·.name) := List.mem_map_of_mem hp
        refine lbW (dn_at (ρ' := [some (bookE K CB b), some (dat K (bkD b)), some (bookE K CB J), some (dat K (.int (b.limits.length : Nat))), none, some (dat K (purseD p)), none]) rfl ?_)
        refine dn_weak (dn_one (ds_skip (dt_w (dw_orF (dt_is (dt_c (dc_neI (de_call (ok_paid_by T.toTxt) g (da_cons (de_prop (ok_Book_form T) T.c_Book g (de_var 2) bk_ins (.mk J)) (da_cons (de_ixTc (de_var 5)) da_nil)) (.mk J p.name _ jb hpn hm2 (first_at jv hm2) (shares_at jv hm2))) (de_call (ok_paid_by T.toTxt) g (da_cons (de_var 1) (da_cons (de_ixTc (de_var 5)) da_nil)) (.mk b p.name m hb hpn hm1 (first_at hv hm1) (shares_at hv hm1))))) (by rw [jpaid]; simp))
          (dw_or1 (dt_c (dc_neF g (de_callO (ok_Book_call T) (fnIn_of T.m_Book_call) g (de_var 2) bk_ins (da_cons (de_ixTc (de_var 5)) (da_cons de_int da_nil)) (.mk J p.name 2 jb hpn (List.mem_of_getElem? hm2) (by decide))) (de_callO (ok_Book_call T) (fnIn_of T.m_Book_call) g (de_var 0) bk_ins (da_cons (de_ixTc (de_var 5)) (da_cons de_int da_nil)) (.mk b p.name 2 hb hpn hpm (by decide))) (pl_intsD _) (by rw [jold p.name hpm]))))))) ) fun σ H h => h.forget [5]
      refine dr_at (ρ' := [some (bookE K CB b), some (dat K (bkD b)), some (bookE K CB J), some (dat K (.int (b.limits.length : Nat))), none, none, none]) rfl ?_
      refine dr_cons (ds_skip (dt_w (dw_orF (dt_is (dt_c (dc_neI (de_lenOwn T.B (ok_Book_len T) g (Nat.le_trans jb.nr (by decide)) (de_var 2) bk_ins (.mk J)) (de_lenOwn T.B (ok_Book_len T) g hnr (de_var 0) bk_ins (.mk b)))) (by rw [jlen]; simp))
        (dw_or1 (dt_is (dt_c (dc_neI (de_call (ok_paid_by T.toTxt) g (da_cons (de_prop (ok_Book_form T) T.c_Book g (de_var 2) bk_ins (.mk J)) (da_cons de_str da_nil)) (.mk J "mm" _ jb mm_name jname0 (first_at jv jname0) (shares_at jv jname0))) de_int)) (by rw [jpaid0]; rfl)))))) ?_
      refine dr_cons (ds_set g 6 (E := areaE K CA (covs (b.limits.take 0))) (de_make (ok_Area_init T) g T.g_Area (da_cons (de_is (d' := slotsD []) (de_tup (ds := []) dd_nil) rfl) da_nil) (fun a => ArSt K CA a (slotsOf [])) (fun a => .mk a [] (fun _ q => by cases q) (by decide)) (fun a H t => ⟨a, rfl, by
          rw [show covs (b.limits.take 0) = slotsOf [] by unfold slotsOf covs; rw [List.take_zero]; exact (List.mergeSort_nil ..).symm]
          exact t⟩))) ?_
      refine dr_at (ρ' := [some (bookE K CB b), some (dat K (bkD b)), some (bookE K CB J), some (dat K (.int (b.limits.length : Nat))), none, none, some (areaE K CA (covs (b.limits.take 0)))]) rfl ?_
      refine dr_cons (ds_acc g (xs := List.range b.limits.length) (f0 := fun (j : Nat) => .int (j : Int)) [4] 6 (fun i => areaE K CA (covs (b.limits.take i))) PassesOwn.never (di_is (di_range1 T.B (n := b.limits.length) hnl (de_var 3)) (range0 _)) (pg_name (i := 4) (by exact g.nd) rfl (by first | exact Or.inl rfl | exact Or.inr rfl)) (fun x _ => gbn 4) (by decide) rfl fun i x hx => ?_) ?_
      · obtain ⟨hi, hxi⟩ := List.getElem?_eq_some_iff.mp hx
        rw [List.length_range] at hi
        rw [List.getElem_range] at hxi
        subst hxi
        have hl : b.limits[i]? = some b.limits[i] := List.getElem?_eq_getElem hi
        generalize b.limits[i] = l at hl
        have hlm : l ∈ b.limits := List.mem_of_getElem? hl
        refine ⟨_, dn_at (ρ' := [some (bookE K CB b), some (dat K (bkD b)), some (bookE K CB J), some (dat K (.int (b.limits.length : Nat))), some (dat K (.int (i : Int))), none, some (areaE K CA (covs (b.limits.take i)))]) rfl (dn_one (ds_set g 6 (de_opC (op := .BitOr) (ok_Area_or T) T.sf_Area g (de_var 6) (de_meth (ok_Book_area T) T.c_Book (bk_insOf rfl) g (de_var 0) (da_cons (de_var 4) da_nil) (.mk b i l hl (box_ok hb hlm (h.few l hlm)) (hb.limits l hlm).last (h.slots l hlm))) ar_ins ar_ins (.mk _ _ (covs_ok h hl)) ar_ref))), ?_⟩
        rw [← covs_next hl]
        exact Off.acc (t := 6) (x := some (areaE K CA (covs (b.limits.take i)))) (off_set1 [some (bookE K CB b), some (dat K (bkD b)), some (bookE K CB J), some (dat K (.int (b.limits.length : Nat))), none, none, some (areaE K CA (covs (b.limits.take i)))] 4 _ (by decide)) (by decide)
      refine dr_at (ρ' := [some (bookE K CB b), some (dat K (bkD b)), some (bookE K CB J), some (dat K (.int (b.limits.length : Nat))), none, none, some (areaE K CA (covs b.limits))]) (by rw [List.length_range, List.take_length]; rfl) ?_
      refine dr_ret (de_c (dc_eqT g (de_ld (de_lc g (xs := covs b.limits) (f0 := slotD) (fun _ => false) slotD (di_own (ok_Area_iter T) g (de_var 6) ar_fld) (blkOk_by (own := [("_law_one", 5)]) (N := ["_law_made", "_law_whole", "_law_late", "_law_k", "_law_j", "_law_one", "_law_covered"]) (sc := defScope (top 102)) (by decide +kernel)) (fun _ _ _ _ _ => (pg_name (i := 5) (by exact g.nd) rfl (by first | exact Or.inl rfl | exact Or.inr rfl))) (fun x _ => gbn 5) (fun _ _ _ _ _ x hx => ?_) (fun _ _ _ _ _ x hx hp => Bool.noConfusion hp) (fun _ _ hp => Bool.noConfusion hp) ?_)) (de_lst dd_nil) (by rw [no_one]; exact ⟨rfl, Nat.le_of_ble_eq_true rfl⟩) (no_one _)))
      · obtain ⟨h1, h2, h3⟩ := covs_over h hx
        exact dts_one (dt_c (dc_eqF (g.blk _ _ _ _ _) (de_callO (ok_Book_call T) (fnIn_of T.m_Book_call) (g.blk _ _ _ _ _) (de_var 0) bk_ins (da_cons (de_ixTc (ds := [PyData.str x.1, .int x.2]) (de_var 5)) (da_cons (de_ixTc (ds := [PyData.str x.1, .int x.2]) (de_var 5)) da_nil)) (.mk b x.1 x.2 hb h1.name h2 h1.day)) (de_tup dd_nil) (pl_intsD _) ⟨rfl, Nat.le_of_ble_eq_true rfl⟩ (fun e => h3 (by
          have e := PyData.tuple.inj e
          exact List.map_eq_nil_iff.mp e))))
      · obtain ⟨U, h1, h2, _⟩ := h.total
        have h4 := covs_len h1
        omega
end
end Lc
end
section
/-! Lc: comprehensions and loops whose parts change the object at a. -/
namespace Lc
open PySem L2

section
variable {CW a : Addr} {ρ ρ' ρ'' ρ1 : Rho} {T T' T1 T2 : Sta} {S S' S1 S2 : Sta} {E F0 G0 Eo : Ent} {X : Cx} {b c e o tg iter elt : Expr} {es ifs : List Expr} {pos pp apos spos : Pos} {st : Stmt} {sts body : List Stmt} {j k : Nat} {Es : List Ent} {x m : Str} {ι γ : Type}
/-! ### states by a witness -/
theorem mr_pre {P : ι → Prop} {S1 : ι → Sta} (w : ∀ H, S.is H → ∃ i, P i ∧ (S1 i).is H) (h : ∀ i, P i → MR X CW ρ (S1 i) sts E S') : MR X CW ρ S sts E S' := ⟨fun pins s σ H D I q => by
  obtain ⟨i, h1, h2⟩ := w H q.2.1
  exact (h i h1).run pins s σ H D I ⟨q.1, h2, q.2.2⟩⟩
theorem mn_pre {P : ι → Prop} {S1 : ι → Sta} (w : ∀ H, S.is H → ∃ i, P i ∧ (S1 i).is H) (h : ∀ i, P i → MN X CW ρ (S1 i) sts ρ' S') : MN X CW ρ S sts ρ' S' := ⟨fun pins s σ H D I q => by
  obtain ⟨i, h1, h2⟩ := w H q.2.1
  exact (h i h1).run pins s σ H D I ⟨q.1, h2, q.2.2⟩⟩
theorem me_pre {P : ι → Prop} {T1 : ι → Sta} (w : ∀ H, T.is H → ∃ i, P i ∧ (T1 i).is H) (h : ∀ i, P i → ME X CW a ρ (T1 i) e E T') : ME X CW a ρ T e E T' := ⟨fun pins s σ H Q I q => by
  obtain ⟨i, h1, h2⟩ := w H q.2.1
  exact (h i h1).run pins s σ H Q I ⟨q.1, h2, q.2.2⟩⟩
theorem mr_end (h : MR X CW ρ S sts E S1) (w : ∀ H, S1.is H → S'.is H) : MR X CW ρ S sts E S' := PSs.imp h fun D σ H _ z => ⟨z.1, z.2.1, fun v H' k i t => z.2.2 v H' k i (w H' t)⟩
theorem mr_as (h : MR X CW ρ S sts E S') (w : ∀ v H, E.is v H → F0.is v H) : MR X CW ρ S sts F0 S' := PSs.imp h fun D σ H _ z => ⟨z.1, z.2.1, fun v H' k i t => z.2.2 v H' k (w v H' i) t⟩
/-! ### arguments, places -/
theorem ma_one (he : ME X CW a ρ T e E T') (hs : starEach [e] X.env = (false, eval e X.env) :: starEach [] X.env := by rfl) : MA X CW a ρ T [e] [E] T' :=
  PA.imp (pa_cons he pa_nil hs) fun σ H Q _ z => ⟨z.1, z.2.1, fun x H1 k1 e1 i1 t1 => z.2.2 [x] H1 k1 e1 (.cons i1 .nil) t1⟩
theorem me_ixT {ds : List D} {P : Nat → Prop} {f : Nat → D} (ha : DE X ρ1 o (dat X.K (.tuple ds))) (up : Up ρ T ρ1) (hb : ME X CW a ρ T e (exE P fun r => dat X.K (.int (r : Int))) T') (hn : nlAll ds = true) (h : ∀ r, P r → ds[r]? = some (f r)) (hs : PlainIx e := by exact fun _ _ => rfl) :
    ME X CW a ρ T (.Subscript o e pos) (exE P fun r => dat X.K (f r)) T' :=
  PE.imp (pe_ix ix_tup ha hb hs) fun σ H Q _ z => ⟨up σ H z.1 z.2.1, fun x H1 s1 i1 => ⟨z.1.mono s1, T.mono s1 z.2.1, fun y H2 k2 e2 i2 t2 => by
    obtain ⟨r, hr, hy⟩ := i2
    cases hy
    obtain ⟨p, xs, rfl, hx, hd⟩ := dp_tuple (dp_tups k2.keep.tups (by simpa [nl] using hn) i1)
    obtain ⟨v, hv, dv⟩ := dpAll_get hd (h r hr)
    exact ⟨p, xs, _, v, rfl, rfl, hx, atI_nat hv, z.2.2 v H2 ((Kp.same s1).trans k2) e2 ⟨r, hr, dv⟩ t2⟩⟩⟩
theorem me_ixL {ds : List D} {P : Nat → Prop} {f : Nat → D} (ha : DE X ρ1 o (dat X.K (.list ds))) (up : Up ρ T ρ1) (hb : ME X CW a ρ T e (exE P fun r => dat X.K (.int (r : Int))) T') (se : SE CW a T (dat X.K (.list ds))) (h : ∀ r, P r → ds[r]? = some (f r)) (hs : PlainIx e := by exact fun _ _ => rfl) :
    ME X CW a ρ T (.Subscript o e pos) (exE P fun r => dat X.K (f r)) T' :=
  PE.imp (pe_ix ix_list ha hb hs) fun σ H Q _ z => ⟨up σ H z.1 z.2.1, fun x H1 s1 i1 => ⟨z.1.mono s1, T.mono s1 z.2.1, fun y H2 k2 e2 i2 t2 => by
    obtain ⟨r, hr, hy⟩ := i2
    cases hy
    obtain ⟨p, xs, rfl, hx, hd⟩ := dp_list (se _ _ _ (T.mono s1 z.2.1) k2 i1)
    obtain ⟨v, hv, dv⟩ := dpAll_get hd (h r hr)
    exact ⟨p, xs, _, v, rfl, rfl, hx, atI_nat hv, z.2.2 v H2 ((Kp.same s1).trans k2) e2 ⟨r, hr, dv⟩ t2⟩⟩⟩
theorem me_tupleL (B : Bt X.mg) {P : γ → Prop} {f : γ → List D} (he : ME X CW a ρ T e (exE P fun l => lstE X.K (f l)) T') (hg : Gl X "tuple" := by rfl) (hs : starEach [e] X.env = (false, eval e X.env) :: starEach [] X.env := by rfl) :
    ME X CW a ρ T (.Call (.Name "tuple" pp) [e] [] pos) (exE P fun l => dat X.K (.tuple (f l))) T' :=
  PE.imp (pe_callTy call_tuple_of hg B.tuple (by decide +kernel) (ma_one he hs) (by decide) (by decide) hs rfl) fun σ H Q _ z => ⟨z.1, z.2.1, fun vs H1 k1 e1 i1 t1 => by
    obtain ⟨v, rfl, r, hr, p, xs, rfl, hx, hd⟩ := a1 i1
    exact ⟨p, xs, rfl, .inl ⟨SqL.of hx, fun l hl => z.2.2 _ _ (k1.trans (.same (Same.new hl))) (e1.mono (Same.new hl)) ⟨r, hr, dp_newT hl hd⟩ (T'.mono (Same.new hl) t1)⟩⟩⟩

/-! ### what is walked -/
def tMI (K : PySem.W.Frag) (CW a : Addr) (ρ : Rho) (T : Sta) (Pr : ι → Prop) (ds : ι → List D) (T1 : Sta) : TI := fun σ H R => EnvOk σ H ρ ∧ T.is H ∧ ∀ r J H', Pr r → Kp CW a H H' → EnvOk σ H' ρ → T1.is H' → WkT K J H' (ds r) → R J H'
theorem wkt_tup {K : PySem.W.Frag} {H : Hp} {p : Addr} {xs : List V} {ds : List D} (hx : SqT K H p xs) (hd : DpAll K H xs ds) (hn : nlAll ds = true) : WkT K (Itt K p) H ds := by
  have hl := dpAll_len hd
  refine ⟨fun i H' hi s => ⟨xs, xs[i]'(by omega), s _ _ hx, by simp [hl, hi]⟩, fun H' s => ⟨xs, s _ _ hx, by omega⟩, fun i H' u H2 hi s y => ?_⟩
  obtain ⟨rfl, y⟩ := y
  refine ⟨Same.refl _, fun d hd' => ?_⟩
  obtain ⟨v, h2, h3⟩ := dpAll_get (dpAll_tups s hn hd) hd'
  rw [y xs (s _ _ hx)] at h2
  cases h2
  exact h3
theorem wkt_range {K : PySem.W.Frag} {H : Hp} (n : Nat) : WkT K (Itr 0 n) H (rangeD 0 1 n) := by
  have hl : (rangeD 0 1 n).length = n := by simp [rangeD]
  refine ⟨fun i H' hi s => by rw [hl] at hi; exact hi, fun H' s => by rw [hl]; exact Nat.le_refl _, fun i H' u H2 hi s y => ?_⟩
  obtain ⟨rfl, rfl⟩ := y
  refine ⟨Same.refl _, fun d hd => ?_⟩
  obtain ⟨_, rfl⟩ := get_map_range hd
  rw [Int.mul_one]
  exact .int _
theorem mi_tup {Pr : ι → Prop} {ds : ι → List D} (h : ME X CW a ρ T e (exE Pr fun r => dat X.K (.tuple (ds r))) T') (hn : ∀ r, Pr r → nlAll (ds r) = true) : PI X tg e (tMI X.K CW a ρ T Pr ds T') :=
  PI.imp (pi_tup h) fun σ H R _ z => ⟨z.1, z.2.1, fun x H1 k1 e1 i1 t1 => by
    obtain ⟨r, hr, i1⟩ := i1
    obtain ⟨p, xs, rfl, hx, hd⟩ := dp_tuple i1
    exact ⟨p, rfl, ⟨xs, hx⟩, z.2.2 r _ H1 hr k1 e1 t1 (wkt_tup hx hd (hn r hr))⟩⟩
theorem mi_range {Pr : Nat → Prop} (B : Bt X.mg) (h : ME X CW a ρ T e (exE Pr fun r => dat X.K (.int (r : Int))) T') (hn : ∀ r, Pr r → r ≤ 1000000) (hg : Gl X "range" := by rfl) (hs : starEach [e] X.env = [(false, eval e X.env)] := by rfl) :
    PI X tg (.Call (.Name "range" pp) [e] [] pos) (tMI X.K CW a ρ T Pr (fun n => rangeD 0 1 n) T') :=
  PI.imp (pi_range1 hg B.range (ma_one h (by rw [hs] <;> rfl)) hs) fun σ H R _ z => ⟨z.1, z.2.1, fun vs H1 k1 e1 i1 t1 => by
    obtain ⟨v, rfl, r, hr, hv⟩ := a1 i1
    cases hv
    have hle := hn r hr
    refine ⟨r, rfl, by omega, by omega, ?_⟩
    rw [show ((r : Int)).toNat = r by omega]
    exact z.2.2 r _ H1 hr k1 e1 t1 (wkt_range r)⟩
/-- the old addresses alone count -/
def Old (T1 T : Sta) : Prop := ∀ H1 H H', T1.is H1 → T.is H → (∀ q o, H1 q ≠ none → H q = some o → H' q = some o) → T.is H'

/-! ### tests that change something -/
def tMQ (CW a : Addr) (ρ : Rho) (T : Sta) (P : Bool → Prop) (T' : Sta) : TT := fun σ H Q => EnvOk σ H ρ ∧ T.is H ∧ ∀ q H', P q → Kp CW a H H' → EnvOk σ H' ρ → T'.is H' → Q q H'
theorem mq_of {P : Bool → Prop} {p : Bool} (h : DT X ρ1 e p) (up : Up ρ T ρ1) (hp : P p) (w : ∀ H, T.is H → T'.is H) : PT X e (tMQ CW a ρ T P T') :=
  PT.imp h fun σ H Q _ z => ⟨up σ H z.1 z.2.1, fun H' s => z.2.2 p H' hp (.same s) (z.1.mono s) (w _ (T.mono s z.2.1))⟩
theorem mq_any {P : Bool → Prop} (h : MT X CW a ρ T e T') (hp : ∀ q, P q) : PT X e (tMQ CW a ρ T P T') :=
  PT.imp h fun σ H Q _ z => ⟨z.1, z.2.1, fun q H' k e' t => z.2.2 q H' (hp q) k e' t⟩
theorem mq_or {P : Bool → Prop} {d : Expr} {p : Bool} (ha : DT X ρ1 b p) (up : Up ρ T ρ1) (hT : p = true → P true ∧ ∀ H, T.is H → T'.is H) (hF : p = false → PT X d (tMQ CW a ρ T P T')) : PT X (.BoolOp .Or [b, d] pos) (tMQ CW a ρ T P T') := by
  cases p with
  | true =>
    obtain ⟨h1, h2⟩ := hT rfl
    exact mq_of (dt_w (dw_orT ha)) up h1 h2
  | false =>
    exact PT.imp (pw_or (pos := pos) ha (pw_or1 (pos := pos) (hF rfl))).pt fun σ H Q _ z => ⟨up σ H z.1 z.2.1, fun H1 s1 => iteF ⟨z.1.mono s1, T.mono s1 z.2.1, fun q H' hq k e' t => z.2.2 q H' hq ((Kp.same s1).trans k) e' t⟩⟩
end
end Lc
end
section
/-! Lc: the rules for a comprehension and a loop that change the object at a. -/
namespace Lc
open PySem L2

section
variable {CW a : Addr} {ρ ρ' ρ'' ρ1 : Rho} {T T' T1 T2 : Sta} {S S' S1 S2 : Sta} {E F0 G0 Eo : Ent} {X : Cx} {b c e o tg iter elt : Expr} {es ifs : List Expr} {pos pp apos spos : Pos} {st : Stmt} {sts body : List Stmt} {j k : Nat} {Es : List Ent} {x m : Str} {ι γ : Type} {scope : Scope} {own : List (Str × Nat)}
/-- what is gathered -/
structure Gat (K : PySem.W.Frag) (CW a : Addr) (H1 : Hp) (Dl : Addr) (enc : γ → D) (Gr : List γ → Prop) (T : Sta) (n : Nat) (H : Hp) : Prop where
  ex : ∃ acc l, H Dl = some (.lst acc) ∧ DpAll K H acc (l.map enc) ∧ Gr l ∧ l.length ≤ n
  kp : Kp CW a H1 H
  st : T.is H
theorem kp_new {H H' : Hp} {p : Addr} {o : HO} (h : Kp CW a H H') (hp : H p = none) : Kp CW a H (upd H' p o) := fun q u e r => by
  rw [upd_ne (fun z => by rw [z, hp] at e; cases e)]
  exact h q u e r
theorem me_lc (gc : Gx X k) {Pr : ι → Prop} {ds : ι → List D} (enc : γ → D) (Gr : ι → Nat → List γ → Prop) (Tv Tm : Nat → Sta) (P : ι → Nat → Bool → Prop) (El : ι → Nat → γ → Prop) {g : TG} {js : List Nat} {f : ι → Nat → Rho → Rho}
    (hi : PI X tg iter (tMI X.K CW a ρ T Pr ds (Tv 0))) (ok : BlkOk X.N X.env.scope scope own) (hg : ∀ (s : Shared) (H : Hp) (C : Addr) (cl : List (Str × Addr)) (fp : List Addr), PG (X.blk s H scope (compEnvC scope cl C X.env) fp) tg g)
    (hgb : ∀ r i d, Pr r → (ds r)[i]? = some d → GB X.N.length g (dat X.K d) js (f r i)) (sr : SR CW a (Tv 0) ρ) (ha : ∀ H, (Tv 0).is H → H a ≠ none) (hold : ∀ i, Old (Tv 0) (Tv i))
    (ht : ∀ (s : Shared) (H : Hp) (C : Addr) (cl : List (Str × Addr)) (fp : List Addr) (r : ι) (i : Nat) (d : D), Pr r → (ds r)[i]? = some d → PTs (X.blk s H scope (compEnvC scope cl C X.env) fp) ifs (tMQ CW a (f r i (wipeR ρ (own.map (·.2)))) (Tv i) (P r i) (Tm i)))
    (he : ∀ (s : Shared) (H : Hp) (C : Addr) (cl : List (Str × Addr)) (fp : List Addr) (r : ι) (i : Nat) (d : D), Pr r → (ds r)[i]? = some d → ME (X.blk s H scope (compEnvC scope cl C X.env) fp) CW a (f r i (wipeR ρ (own.map (·.2)))) (Tm i) elt (exE (El r i) fun y => dat X.K (enc y)) (Tv (i + 1)))
    (hskip : ∀ i H, (Tm i).is H → (Tv (i + 1)).is H) (h0 : ∀ r, Pr r → Gr r 0 []) (hyes : ∀ r i l y, Pr r → i < (ds r).length → Gr r i l → El r i y → Gr r (i + 1) (l ++ [y])) (hno : ∀ r i l, Pr r → i < (ds r).length → Gr r i l → P r i false → Gr r (i + 1) l)
    (hnl : ∀ y, nl (enc y) = true) (hz : ∀ r, Pr r → (ds r).length ≤ 1000000) (hend : ∀ r, Pr r → ∀ H, (Tv (ds r).length).is H → T'.is H) (hjs : ∀ j ∈ js, j ∈ own.map (·.2) := by decide) (hs : ∀ x, foldedSetIterable iter X.env x = pure x := by intro _; rfl) :
    ME X CW a ρ T (.ListComp elt [⟨tg, iter, ifs, 0⟩] scope pos) (exE (fun l => ∃ r, Pr r ∧ Gr r (ds r).length l) fun l => lstE X.K (l.map enc)) T' := by
  have ht' : ∀ (s : Shared) (H : Hp) (C : Addr) (cl : List (Str × Addr)) (fp : List Addr), PTs (X.blk s H scope (compEnvC scope cl C X.env) fp) ifs (fun σ H Q => ∃ r i d, Pr r ∧ (ds r)[i]? = some d ∧ tMQ CW a (f r i (wipeR ρ (own.map (·.2)))) (Tv i) (P r i) (Tm i) σ H Q) := fun s H C cl fp =>
    ⟨fun pins s' σ H' Q I q => by
      obtain ⟨r, i, d, h1, h2, q⟩ := q
      exact (ht s H C cl fp r i d h1 h2).run pins s' σ H' Q I q⟩
  have he' : ∀ (s : Shared) (H : Hp) (C : Addr) (cl : List (Str × Addr)) (fp : List Addr), PE (X.blk s H scope (compEnvC scope cl C X.env) fp) elt (fun σ H Q => ∃ r i d, Pr r ∧ (ds r)[i]? = some d ∧ tM CW a (f r i (wipeR ρ (own.map (·.2)))) (Tm i) (exE (El r i) fun y => dat X.K (enc y)) (Tv (i + 1)) σ H Q) := fun s H C cl fp =>
    ⟨fun pins s' σ H' Q I q => by
      obtain ⟨r, i, d, h1, h2, q⟩ := q
      exact (he s H C cl fp r i d h1 h2).run pins s' σ H' Q I q⟩
  refine PE.imp (pe_lc gc.calm gc.nd hi ok hg ht' he' hs) fun σ H Q hn z => ⟨z.1, z.2.1, fun r J H1 hr k1 e1 t1 W Dl hD => ?_⟩
  have hDa : Dl ≠ a := fun q => ha H1 t1 (q ▸ hD)
  have bring : ∀ {i : Nat} {H2 : Hp} {o : HO}, (Tv i).is H2 → (Tv i).is (upd H2 Dl o) := fun {i H2 o} t => hold i H1 H2 _ t1 t fun q u hq e => by
    rw [upd_ne (fun w => hq (by rw [w]; exact hD))]
    exact e
  refine ⟨fun i m H' => m = (ds r).length - i ∧ i ≤ (ds r).length ∧ Gat X.K CW a H1 Dl enc (Gr r i) (Tv i) i H', ⟨(ds r).length, by simp, Nat.zero_le _, ⟨[], [], upd_same, .nil, h0 r hr, Nat.le_refl _⟩, kp_new (Kp.refl H1) hD, bring t1⟩, ?_⟩
  rintro i m H' ⟨rfl, hi', hA⟩
  obtain ⟨⟨acc, l, ea, da, gl, ll⟩, kA, tA⟩ := hA
  by_cases hlt : i < (ds r).length
  · have hx : (ds r)[i]? = some (ds r)[i] := List.getElem?_eq_getElem hlt
    generalize (ds r)[i] = d at hx
    refine .inr ⟨W.goes i H' hlt kA.keep.tups, fun H2 => i + 1 ≤ (ds r).length ∧ Gat X.K CW a H1 Dl enc (Gr r (i + 1)) (Tv (i + 1)) (i + 1) H2, fun H2 h2 => ⟨(ds r).length - (i + 1), by omega, rfl, h2.1, h2.2⟩, fun u H2 hy => ?_⟩
    obtain ⟨sy, iy⟩ := W.yields i H' u H2 hlt kA.keep.tups hy
    refine hgb r i d hr hx u (L2.wipe σ (own.map (·.2))) H2 _ (by rw [wipe_length]; exact hn) (iy d hx) ?_
    intro σ2 l2 o2 e2
    refine ⟨wipe_wipe l2 fun j hj => o2 j fun q => hj (hjs j q), ?_⟩
    have k2 : Kp CW a H1 H2 := kA.trans (.same sy)
    have E2 : EnvOk σ2 H2 (f r i (wipeR ρ (own.map (·.2)))) := e2 _ ((sr.env t1 k2 e1).wipe _)
    refine ⟨r, i, d, hr, hx, E2, (Tv i).mono sy tA, fun q H3 hq k3 e3 t3 => ?_⟩
    have keepD : ∀ {H4 : Hp}, Kp CW a H2 H4 → H4 Dl = some (.lst acc) ∧ DpAll X.K H4 acc (l.map enc) := fun {H4} k4 =>
      ⟨k4 Dl _ (sy _ _ ea) (.inl hDa), dpAll_tups k4.keep.tups (nlAll_map enc l fun y _ => hnl y) (dpAll_mono sy da)⟩
    cases q with
    | true =>
      refine iteT ⟨r, i, d, hr, hx, e3, t3, fun y H4 k4 e4 i4 t4 => ?_⟩
      obtain ⟨y', hy', iy'⟩ := i4
      obtain ⟨a1, a2⟩ := keepD (k3.trans k4)
      have hlen : acc.length = l.length := by rw [dpAll_len a2, List.length_map]
      have hzz := hz r hr
      have hD4 : H4 Dl ≠ none := by rw [a1]; exact fun w => by cases w
      refine ⟨acc, a1, Nat.lt_of_lt_of_le (m := 1000000) (by omega) (by decide), hlt, ⟨acc ++ [y], l ++ [y'], upd_same, ?_, hyes r i l y' hr hlt gl hy', by simp only [List.length_append, List.length_singleton]; omega⟩, kp_new ((k2.trans k3).trans k4) hD, bring t4⟩
      rw [List.map_append]
      have tu : TupS X.K H4 (upd H4 Dl (.lst (acc ++ [y]))) := tups_lst a1
      exact dpAll_app (dpAll_tups tu (nlAll_map enc l fun y _ => hnl y) a2) (.cons (dp_tups tu (hnl y') iy') .nil)
    | false =>
      obtain ⟨a1, a2⟩ := keepD k3
      exact iteF ⟨hlt, ⟨acc, l, a1, a2, hno r i l hr hlt gl hq, by omega⟩, k2.trans k3, hskip i H3 t3⟩
  · have e : i = (ds r).length := by omega
    subst e
    exact .inl ⟨W.stops H' kA.keep.tups, z.2.2 _ H' (k1.trans kA) (sr.env t1 kA e1) ⟨l, ⟨r, hr, gl⟩, Dl, acc, rfl, ea, da⟩ (hend r hr H' tA)⟩

theorem ms_forX (gc : Gx X k) {Pr : ι → Prop} {ds : ι → List D} (Pv : ι → Nat → Rho) (Sv : ι → Nat → Sta) {g : TG} {js : List Nat} {f : ι → Nat → Rho → Rho} (sp : Stp CW a S T S1 T1) (hp : PassesOwn (model X.prog X.w) X.A X.env X.xe)
    (hi : PI X tg iter (tMI X.K CW a ρ T Pr ds T1)) (hg : PG X tg g) (hgb : ∀ r i d, Pr r → (ds r)[i]? = some d → GB X.N.length g (dat X.K d) js (f r i)) (h0 : ∀ r σ H, Pr r → EnvOk σ H ρ → S1.is H → EnvOk σ H (Pv r 0) ∧ (Sv r 0).is H)
    (hb : ∀ r i d, Pr r → (ds r)[i]? = some d → MN X CW (f r i (Pv r i)) (Sv r i) body (Pv r (i + 1)) (Sv r (i + 1))) (hend : ∀ r σ H, Pr r → EnvOk σ H (Pv r (ds r).length) → (Sv r (ds r).length).is H → EnvOk σ H ρ' ∧ S'.is H)
    (hs : ∀ x, foldedSetIterable iter X.env x = pure x := by intro _; rfl) : MS X CW ρ S (.For tg iter body [] pos) ρ' S' := by
  have hbody : PSs X body (fun D σ H => ∃ r i d, Pr r ∧ (ds r)[i]? = some d ∧ tMS CW (f r i (Pv r i)) (Sv r i) (Pv r (i + 1)) (Sv r (i + 1)) D σ H) := ⟨fun pins s σ H D I q => by
    obtain ⟨r, i, d, h1, h2, q⟩ := q
    exact (hb r i d h1 h2).run pins s σ H D I q⟩
  refine PS.imp (ps_for hp gc.calm hi hg hbody hs) fun D σ H hn z => ⟨z.1, sp.before H z.2.1, fun r J H1 hr k1 e1 t1 W => ?_⟩
  obtain ⟨p0, s0⟩ := h0 r σ H1 hr e1 (sp.after H H1 z.2.1 k1 t1)
  refine ⟨fun i m σ' H' => m = (ds r).length - i ∧ i ≤ (ds r).length ∧ Keep CW H1 H' ∧ σ'.length = σ.length ∧ EnvOk σ' H' (Pv r i) ∧ (Sv r i).is H', ⟨(ds r).length, by simp, Nat.zero_le _, .refl _, rfl, p0, s0⟩, ?_⟩
  rintro i m σ' H' ⟨rfl, hi', kA, hl, hE, hS⟩
  by_cases hlt : i < (ds r).length
  · have hx : (ds r)[i]? = some (ds r)[i] := List.getElem?_eq_getElem hlt
    generalize (ds r)[i] = d at hx
    refine .inr ⟨W.goes i H' hlt kA.tups, fun σ2 H2 => Keep CW H1 H2 ∧ σ2.length = σ.length ∧ EnvOk σ2 H2 (Pv r (i + 1)) ∧ (Sv r (i + 1)).is H2, fun σ2 H2 h2 => ⟨(ds r).length - (i + 1), by omega, rfl, hlt, h2⟩, fun u H2 hy => ?_⟩
    obtain ⟨sy, iy⟩ := W.yields i H' u H2 hlt kA.tups hy
    exact hgb r i d hr hx u σ' H2 _ (hl.trans hn) (iy d hx) fun σ2 l2 o2 e2 => ⟨r, i, d, hr, hx, e2 _ (hE.mono sy), (Sv r i).mono sy hS, fun σ3 H3 k3 l3 e3 t3 => ⟨(kA.trans (.same sy)).trans k3, (l3.trans l2).trans hl, e3, t3⟩⟩
  · have e : i = (ds r).length := by omega
    subst e
    obtain ⟨q1, q2⟩ := hend r σ' H' hr hE hS
    exact .inl ⟨W.stops H' kA.tups, z.2.2 σ' H' (k1.keep.trans kA) hl q1 q2⟩
end
end Lc
end
section
/-! The law's draws. -/
namespace Lc
open PySem L2
/-- the reader at a; its cells at cp -/
def RdX (a cp : Addr) (cs : List Int) (idx rest cnt : Int) : Sta := ⟨fun H => H a = some (.lst [.ref cp, .int idx, .int rest, .int cnt]) ∧ H cp = some (.lst (cs.map V.int)), fun s h => ⟨s _ _ h.1, s _ _ h.2⟩⟩
/-- .. asked at most n times -/
def RdS (a cp : Addr) (n : Nat) : Sta := ⟨fun H => ∃ q : List Int × Int × Int × Int, (0 ≤ q.2.2.2 ∧ q.2.2.2 ≤ (n : Int)) ∧ (RdX a cp q.1 q.2.1 q.2.2.1 q.2.2.2).is H, fun {H H'} s h => let ⟨q, h1, h2⟩ := h; ⟨q, h1, (RdX a cp q.1 q.2.1 q.2.2.1 q.2.2.2).mono s h2⟩⟩
def rdl (cs : List Int) (idx rest cnt : Int) : List D := [.list (cs.map PyData.int), .int idx, .int rest, .int cnt]
def rqE (a cp : Addr) (cs : List Int) (idx rest cnt : Int) : Ent := ⟨fun v H => v = .ref a ∧ (RdX a cp cs idx rest cnt).is H, fun s h => ⟨h.1, (RdX a cp cs idx rest cnt).mono s h.2⟩⟩
section
variable {K : PySem.W.Frag} {CW a cp : Addr} {cs : List Int} {idx rest cnt : Int} {ρ : Rho} {H0 H : Hp} {n m : Nat}
theorem rd_ne (h : (RdX a cp cs idx rest cnt).is H) : cp ≠ a := fun e => by
  have h1 := h.1
  have h2 := h.2
  rw [e, h1] at h2
  have z := HO.lst.inj (Option.some.inj h2)
  cases cs with
  | nil => cases z
  | cons c cs => cases z
theorem rq_dat : ∀ v H, (rqE a cp cs idx rest cnt).is v H → (dat K (.list (rdl cs idx rest cnt))).is v H := fun v H h => by
  obtain ⟨rfl, h1, h2⟩ := h
  exact .lst (SqL.of h1) (.cons (.lst (SqL.of h2) (dpAll_ofInts cs)) (.cons (.int _) (.cons (.int _) (.cons (.int _) .nil))))
theorem rq_val : ∀ v H, (rqE a cp cs idx rest cnt).is v H → (val (.ref a)).is v H := fun v H h => h.1
theorem up_rq (i : Nat) (h : ρ[i]? = some (some (val (.ref a)))) : Up ρ (Fr CW a H0 (RdX a cp cs idx rest cnt)) (ρ.set i (some (rqE a cp cs idx rest cnt))) := Up.at (fun v H s z => ⟨z, s.1⟩) h
theorem fr_up {idx' rest' cnt' : Int} (h : (Fr CW a H0 (RdX a cp cs idx rest cnt)).is H) : (Fr CW a H0 (RdX a cp cs idx' rest' cnt')).is (upd H a (.lst [.ref cp, .int idx', .int rest', .int cnt'])) := by
  obtain ⟨h1, h2⟩ := h
  refine ⟨⟨upd_same, ?_⟩, h2.trans (kp_upd h1.1 fun q => q)⟩
  rw [upd_ne (rd_ne h1)]
  exact h1.2
theorem rd_len (h : (Fr CW a H0 (RdX a cp cs idx rest cnt)).is H) (hm : m < 4) : ∃ xs, H a = some (.lst xs) ∧ m < xs.length := ⟨_, h.1.1, hm⟩
theorem rd_fin (h : (Fr CW a H0 (RdX a cp cs idx rest cnt)).is H) (h0 : 0 ≤ cnt) (h1 : cnt ≤ (n : Int)) : (Fr CW a H0 (RdS a cp n)).is H := ⟨⟨(cs, idx, rest, cnt), ⟨h0, h1⟩, h.1⟩, h.2⟩
theorem rd_more (h : (RdS a cp n).is H) (hm : n ≤ m) : (RdS a cp m).is H := by
  obtain ⟨q, h1, h2⟩ := h
  exact ⟨q, ⟨h1.1, by omega⟩, h2⟩
theorem rd_old : Old (RdS a cp n) (RdS a cp m) := fun H1 H H' h1 h k => by
  obtain ⟨q1, _, z1⟩ := h1
  obtain ⟨q, z, h2⟩ := h
  exact ⟨q, z, k _ _ (by rw [z1.1]; exact fun w => by cases w) h2.1, k _ _ (by rw [z1.2]; exact fun w => by cases w) h2.2⟩
theorem rd_some (h : (RdS a cp n).is H) : H a ≠ none := by
  obtain ⟨q, z, h2⟩ := h
  rw [h2.1]
  exact fun w => by cases w
end
section
variable {P : Program} {w : World} {K : PySem.W.Frag} {mg : Str → Option Value} {base : Heap} {CA CW CB : Addr}
inductive FDraw (K : PySem.W.Frag) : FnM
  | mk (a cp : Addr) (n many : Nat) (h1 : 1 ≤ many) (h2 : many ≤ 1000) (hn : n ≤ 100000) : FDraw K [val (.ref a), dat K (.int (many : Int))] (exE (fun r : Nat => r < many) fun r => dat K (.int (r : Int))) a (RdS a cp n) (RdS a cp (n + 1))
theorem draw_mod {x : Int} {many : Nat} (h : 1 ≤ many) : (exE (fun r : Nat => r < many) fun r => dat K (.int (r : Int))).is (.int (x % (many : Int))) = fun _ => True := by
  funext H
  refine propext ⟨fun _ => True.intro, fun _ => ⟨(x % (many : Int)).toNat, ?_, ?_⟩⟩
  · have a1 := Int.emod_nonneg x (b := (many : Int)) (by omega)
    have a2 := Int.emod_lt_of_pos x (b := (many : Int)) (by omega)
    omega
  · have a1 := Int.emod_nonneg x (b := (many : Int)) (by omega)
    have a2 : (((x % (many : Int)).toNat : Nat) : Int) = x % (many : Int) := by omega
    show Dp K H (V.int (x % (many : Int))) (.int (((x % (many : Int)).toNat : Nat) : Int))
    rw [a2]
    exact .int _
theorem draw_ex {x : Int} {many : Nat} (h : 1 ≤ many) : ∀ v H, (dat K (.int (x % (many : Int)))).is v H → (exE (fun r : Nat => r < many) fun r => dat K (.int (r : Int))).is v H := fun v H z => by
  cases z
  rw [draw_mod h]
  exact True.intro
theorem pl_listI (l : List Int) : Pl (.list (l.map PyData.int)) := by
  refine ⟨?_, ?_⟩
  · simp only [nb]
    exact nbAll_ints l
  · have := depthAll_map PyData.int 0 l fun _ _ => Nat.le_refl _
    simp only [PyData.depth]
    omega
theorem rd_ints : ∀ (cs : List Int) (i : Nat) (c : Int), cs[i]? = some c → (cs.map PyData.int)[i]? = some (.int c) := fun cs i c h => by rw [List.getElem?_map, h]; rfl
theorem rd_cell {cs : List Int} (h : cs ≠ []) (idx : Int) : ∃ c, cs[(idx % (cs.length : Int)).toNat]? = some c := by
  have hp : 0 < cs.length := List.length_pos_iff.mpr h
  have a1 := Int.emod_nonneg idx (b := (cs.length : Int)) (by omega)
  have a2 := Int.emod_lt_of_pos idx (b := (cs.length : Int)) (by omega)
  exact ⟨_, List.getElem?_eq_getElem (by omega)⟩
theorem ok_law_draw (T : Txt K mg CA CW CB) : GFunM P w K mg base CW "_law_draw" 1 (FDraw K) :=
  gfunM_mk (N := ["_law_reader_here", "_law_many", "_law_found", "_law_cell", "_law_once"]) (k := 0) T.d_law_draw ["_law_reader_here", "_law_many"] ⟨rfl, rfl, rfl, by decide +kernel, rfl, by decide +kernel, by decide +kernel⟩ (fun _ _ _ _ _ _ us hl => match us, hl with | [_, _], _ => rfl) (fun _ _ _ _ _ h => by cases h <;> rfl) fun f cdv A outer s H E0 g Es E a Ta Tb hF H0 hT0 => by
    cases hF with
    | mk a cp n many h1 h2 hn =>
      refine .inl (mr_pre (P := fun q : List Int × Int × Int × Int => 0 ≤ q.2.2.2 ∧ q.2.2.2 ≤ (n : Int)) (S1 := fun q => Fr CW a H0 (RdX a cp q.1 q.2.1 q.2.2.1 q.2.2.2)) (fun H h => by
        obtain ⟨⟨q, z1, z2⟩, z3⟩ := h
        exact ⟨q, z1, z2, z3⟩) fun q hq => ?_)
      obtain ⟨cs, idx, rest, cnt⟩ := q
      obtain ⟨c0, c1⟩ := hq
      have c0 : 0 ≤ cnt := c0
      have c1 : cnt ≤ (n : Int) := c1
      have sr : SR CW a (Fr CW a H0 (RdX a cp cs idx rest cnt)) (startR ["_law_reader_here", "_law_many", "_law_found", "_law_cell", "_law_once"] [val (.ref a), dat K (.int (many : Int))]) := SR.start (.cons ke_val.se (.cons (ke_dat rfl).se .nil))
      refine mr_cons (ms_item (n := 3) (S' := Fr CW a H0 (RdX a cp cs idx rest (cnt + 1))) sr (pg_sub (de_imp (de_var 0) rq_val) de_int set_list) (de_add (de_ixLc (de_imp (de_var 0) rq_dat)) de_int) (up_rq 0 rfl) (fun H h => rd_len h (by decide)) (fun H u xs h hu e => by
        cases hu
        rw [h.1.1] at e
        cases e
        exact fr_up h)) ?_
      have key : ∀ c : Int, MR (cx P w K mg base ["_law_reader_here", "_law_many", "_law_found", "_law_cell", "_law_once"] "_law_draw" (top 89) f cdv A outer s H E0) CW [some (val (.ref a)), some (dat K (.int (many : Int))), none, some (dat K (.int c)), none] (Fr CW a H0 (RdX a cp cs idx rest (cnt + 1))) ((defBody (top 89)).drop 4) (exE (fun r : Nat => r < many) fun r => dat K (.int (r : Int))) (Fr CW a H0 (RdS a cp (n + 1))) := fun c => by
        have src : ∀ T : Sta, SR CW a T [some (val (.ref a)), some (dat K (.int (many : Int))), none, some (dat K (.int c)), none] := fun T i E q => by
          match i, q with
          | 0, q => cases q; exact ke_val.se
          | 1, q => cases q; exact (ke_dat rfl).se
          | 3, q => cases q; exact (ke_dat rfl).se
          | i + 5, q => cases q
        refine mr_cons (ms_item (n := 1) (S' := Fr CW a H0 (RdX a cp cs (idx + 1) rest (cnt + 1))) (src _) (pg_sub (de_imp (de_var 0) rq_val) de_int set_list) (de_add (de_ixLc (de_imp (de_var 0) rq_dat)) de_int) (up_rq 0 rfl) (fun H h => rd_len h (by decide)) (fun H u xs h hu e => by
          cases hu
          rw [h.1.1] at e
          cases e
          exact fr_up h)) ?_
        refine mr_if (dt_w (dw_and (dt_c (dc_ge (de_var 3) (de_pow ⟨by decide, by decide, by decide⟩ de_int de_int))) fun _ => dw_and1 (dt_c (dc_le (de_ixLc (de_imp (de_var 0) rq_dat)) (de_lenL T.B (de_ixLc (de_imp (de_var 0) rq_dat))))))) (up_rq 0 rfl) (fun _ => ?_) (fun _ => ?_)
        · refine mr_cons (ms_item (n := 2) (S' := Fr CW a H0 (RdX a cp cs (idx + 1) (c / (many : Int)) (cnt + 1))) (src _) (pg_sub (de_imp (de_var 0) rq_val) de_int set_list) (de_fdiv (j := (many : Int)) ⟨by omega, by omega⟩ (de_var 3) (de_var 1)) (up_rq 0 rfl) (fun H h => rd_len h (by decide)) (fun H u xs h hu e => by
            cases hu
            rw [h.1.1] at e
            cases e
            exact fr_up h)) ?_
          exact mr_end (mr_ret (Stp.id (a := a)) (me_imp (me_p (de_mod (by omega) (de_intI T.B (de_var 3)) (de_var 1))) (draw_ex h1))) fun H h => rd_fin h (by omega) (by omega)
        · refine mr_cons (ms_set (Stp.id (a := a)) g 4 (me_of (de_mod (by decide) (de_intI T.B (de_pow (i := c % 2147483423 + 7823 * (cnt + 1) + 17) ⟨by decide, by decide, by omega⟩ (de_add (de_add (de_mod (by decide) (de_intI T.B (de_var 3)) de_int) (de_mul ⟨by decide, by decide⟩ de_int (de_ixLc (de_imp (de_var 0) rq_dat)))) de_int) de_int)) de_int) (up_rq 0 rfl))) ?_
          generalize hz : (c % 2147483423 + 7823 * (cnt + 1) + 17) ^ Int.toNat 5 % 2147483629 = z
          have z1 : 0 ≤ z ∧ z < 2147483629 := by
            rw [← hz]
            exact ⟨Int.emod_nonneg _ (by decide), Int.emod_lt_of_pos _ (by decide)⟩
          exact mr_end (mr_ret (Stp.id (a := a)) (me_imp (me_of (de_mod (by omega) (de_intI T.B (de_fdiv ⟨by decide, by decide⟩ (de_mod (by decide) (de_intI T.B (de_pow (i := z + 97007 * (cnt + 1)) ⟨by decide, by decide, by omega⟩ (de_add (de_var 4) (de_mul ⟨by decide, by decide⟩ de_int (de_ixLc (de_imp (de_var 0) rq_dat)))) de_int)) de_int) de_int)) (de_var 1)) (up_rq 0 rfl)) (draw_ex h1))) fun H h => rd_fin h (by omega) (by omega)
      refine mr_if (dt_c (dc_gt (de_ixLc (de_imp (de_var 0) rq_dat)) de_int)) (up_rq 0 rfl) (fun _ => ?_) (fun _ => ?_)
      · refine mr_cons (ms_set (Stp.id (a := a)) g 2 (me_of (de_mod (j := (many : Int)) (by omega) (de_intI T.B (de_ixLc (de_imp (de_var 0) rq_dat))) (de_var 1)) (up_rq 0 rfl))) ?_
        refine mr_cons (ms_item (n := 2) (S' := Fr CW a H0 (RdX a cp cs idx (rest / (many : Int)) (cnt + 1))) (SR.set (SR.start (.cons ke_val.se (.cons (ke_dat rfl).se .nil))) (ke_dat rfl).se) (pg_sub (de_imp (de_var 0) rq_val) de_int set_list) (de_fdiv (j := (many : Int)) ⟨by omega, by omega⟩ (de_ixLc (de_imp (de_var 0) rq_dat)) (de_var 1)) (up_rq 0 rfl) (fun H h => rd_len h (by decide)) (fun H u xs h hu e => by
          cases hu
          rw [h.1.1] at e
          cases e
          exact fr_up h)) ?_
        exact mr_end (mr_ret (Stp.id (a := a)) (me_imp (me_p (de_var 2)) (draw_ex h1))) fun H h => rd_fin h (by omega) (by omega)
      · refine mr_cons (ms_set (Stp.id (a := a)) g 3 (me_p de_int)) ?_
        by_cases hc : cs = []
        · refine mr_cons (ms_skip (dt_c (dc_neF g (de_ixLc (de_imp (de_var 0) rq_dat)) (de_lst dd_nil) (pl_listI cs) (by rw [hc]; rfl))) (up_rq 0 rfl)) (key 59)
        · obtain ⟨c, hcc⟩ := rd_cell hc idx
          refine mr_cons (ms_ifT (dt_c (dc_neT g (de_ixLc (de_imp (de_var 0) rq_dat)) (de_lst dd_nil) (pl_listI cs) ⟨rfl, Nat.le_of_ble_eq_true rfl⟩ (fun q => hc (by
            have q2 := PyData.list.inj q
            exact List.map_eq_nil_iff.mp q2)))) (up_rq 0 rfl) (mn_one (ms_set (Stp.id (a := a)) g 3 (me_of (de_ixLi (i := idx % (cs.length : Int)) (Int.emod_nonneg idx (by have := List.length_pos_iff.mpr hc; omega)) (rd_ints cs _ c hcc) (de_ixLc (de_imp (de_var 0) rq_dat)) (de_is (de_mod (j := ((cs.map PyData.int).length : Int)) (by
              rw [List.length_map]
              have := List.length_pos_iff.mpr hc
              omega) (de_intI T.B (de_ixLc (de_imp (de_var 0) rq_dat))) (de_lenL T.B (de_ixLc (de_imp (de_var 0) rq_dat)))) (by rw [List.length_map]))) (up_rq 0 rfl))))) (key c)
end
end Lc
end
section
/-! The law's reader; a part of a pool. -/
namespace Lc
open PySem L2
section
variable {X : Cx} {ρ : Rho} {a : Expr} {es : List Expr} {ds : List D} {Es : List Ent} {pos : Pos}
theorem de_slLn {lo hi : Option Expr} {l u : Option Int} {p2 : Pos} (ha : DE X ρ a (dat X.K (.list ds))) (hl : DO X ρ lo l) (hu : DO X ρ hi u) : DE X ρ (.Subscript a (.Slice lo hi none p2) pos) (lstE X.K (cutD ds l u)) :=
  PE.imp (pe_slice sl_list ha hl hu) fun σ H Q _ z => ⟨z.1, fun x H1 s1 i1 => ⟨z.1.mono s1, fun H2 s2 => ⟨z.1.mono (s1.trans s2), fun H3 s3 => by
    obtain ⟨p, xs, rfl, hx, hd⟩ := dp_list (dp_mono (s2.trans s3) i1)
    exact ⟨p, xs, rfl, hx, fun np hp => z.2 _ _ (((s1.trans s2).trans s3).trans (Same.new hp)) ⟨np, _, rfl, upd_same, dpAll_mono (Same.new hp) (dpAll_cut hd)⟩⟩⟩⟩⟩
/-- a list just made, of these -/
def lsxE (Es : List Ent) : Ent := ⟨fun v H => ∃ p xs, v = .ref p ∧ H p = some (.lst xs) ∧ All2 H xs Es, fun s h => by
  obtain ⟨p, xs, h1, h2, h3⟩ := h
  exact ⟨p, xs, h1, s _ _ h2, h3.mono s⟩⟩
theorem de_lsx (h : DA X ρ es Es) (hl : Es.length ≤ 1000000 := by exact Nat.le_of_ble_eq_true rfl) : DE X ρ (.List es pos) (lsxE Es) :=
  PE.imp (pe_lst h) fun σ H Q _ z => ⟨z.1, fun vs H1 s1 i1 => ⟨by rw [i1.length]; exact Nat.le_trans hl (by decide), fun p hp => z.2 _ _ (s1.trans (Same.new hp)) ⟨p, vs, rfl, upd_same, i1.mono (Same.new hp)⟩⟩⟩
end
theorem dpAll_intsV {K : PySem.W.Frag} {H : Hp} {xs : List V} {l : List Int} (h : DpAll K H xs (l.map PyData.int)) : xs = l.map V.int := dpAll_ints h
section
variable {P : Program} {w : World} {K : PySem.W.Frag} {mg : Str → Option Value} {base : Heap} {CA CW CB : Addr}
/-- the reader as it is made -/
def rd0E : Ent := ⟨fun v H => ∃ a cp, v = .ref a ∧ (RdS a cp 0).is H, fun s h => by
  obtain ⟨a, cp, h1, h2⟩ := h
  exact ⟨a, cp, h1, (RdS a cp 0).mono s h2⟩⟩
inductive FReader (K : PySem.W.Frag) : Fn
  | mk (l : List Int) : FReader K [dat K (.list (l.map PyData.int))] rd0E
theorem ok_law_reader (T : Txt K mg CA CW CB) : GFun P w K mg base "_law_reader" 1 (FReader K) :=
  gfun_mk (N := ["_law_script"]) (k := 0) T.d_law_reader ["_law_script"] ⟨rfl, rfl, rfl, by decide +kernel, rfl, by decide +kernel, by decide +kernel⟩ (fun _ _ _ _ _ _ us hl => match us, hl with | [_], _ => rfl) (fun _ _ h => by cases h <;> rfl) fun f cdv A outer s H E0 g Es E hF => by
    cases hF with
    | mk l =>
      refine .inl (dr_ret (de_imp (de_lsx (da_cons (de_slLn (de_var 0) do_none (do_some de_int)) (da_cons de_int (da_cons de_int (da_cons de_int da_nil))))) ?_))
      rintro v H ⟨p, xs, rfl, hp, ha⟩
      cases ha with
      | cons h1 t =>
      cases t with
      | cons h2 t =>
      cases t with
      | cons h3 t =>
      cases t with
      | cons h4 t =>
      cases t
      cases h2
      cases h3
      cases h4
      obtain ⟨q, ys, rfl, hq, hd⟩ := h1
      rw [cutD_to _ (by decide), ← List.map_take] at hd
      rw [dpAll_ints hd] at hq
      exact ⟨p, q, rfl, (_, 0, 0, 0), ⟨Int.le_refl 0, Int.le_refl 0⟩, hp, hq⟩
def SomeP (l m : List Str) : Prop := m ≠ [] ∧ m.Sublist l
abbrev strE (K : PySem.W.Frag) (l : List Str) : Ent := exE (SomeP l) fun m => dat K (strsD m)
inductive FSomeOf (K : PySem.W.Frag) : FnM
  | tup (a cp : Addr) (n : Nat) (l : List Str) (h : l ≠ []) (hl : l.length ≤ 6) (hn : n ≤ 99000) : FSomeOf K [val (.ref a), dat K (strsD l)] (strE K l) a (RdS a cp n) (RdS a cp (n + 8))
  | lst (a cp : Addr) (n : Nat) (l : List Str) (h : l ≠ []) (hl : l.length ≤ 6) (hn : n ≤ 99000) : FSomeOf K [val (.ref a), dat K (.list (l.map PyData.str))] (strE K l) a (RdS a cp n) (RdS a cp (n + 8))
theorem se_strs {CW a cp : Addr} {n : Nat} {l : List Str} : SE CW a (RdS a cp n) (dat K (.list (l.map PyData.str))) := fun v H H' t k h => by
  obtain ⟨q, _, z1, z2⟩ := t
  obtain ⟨p, xs, rfl, hx, hd⟩ := dp_list h
  have hs := dpAll_strs hd
  have kk : ∀ o, H p = some o → (∀ ys, o = .lst ys → ys = l.map V.str) → H' p = some o := fun o e hne => k p o e (by
    by_cases hp : p = a
    · right
      subst hp
      rw [z1] at e
      cases e
      exfalso
      have w := hne _ rfl
      cases l with
      | nil => cases w
      | cons c l => cases w
    · exact .inl hp)
  refine .lst ?_ (hs ▸ dpAll_ofStrs l)
  rcases hx with (hx | ⟨o, hx⟩) | hx
  · exact .inl (.inl (kk _ hx fun ys e => by cases e; exact hs))
  · exact .inl (.inr ⟨o, kk _ hx fun ys e => by cases e⟩)
  · exact .inr hx
theorem SE.fr {CW a : Addr} {H0 : Hp} {T : Sta} {E : Ent} (h : SE CW a T E) : SE CW a (Fr CW a H0 T) E := fun v H H' t k i => h v H H' t.1 k i
/-- what is gathered after i turns -/
def SomeG (l : List Str) (at' i : Nat) (m : List Str) : Prop := m.Sublist (l.take i) ∧ (at' < i → m ≠ [])
theorem SomeG.yes {l m : List Str} {t i : Nat} {y : Str} (h : SomeG l t i m) (hy : l[i]? = some y) : SomeG l t (i + 1) (m ++ [y]) := by
  refine ⟨?_, fun _ => by simp⟩
  rw [List.take_add_one, hy]
  exact h.1.append (List.Sublist.refl _)
theorem SomeG.no {l m : List Str} {t i : Nat} (h : SomeG l t i m) (hi : i ≠ t) : SomeG l t (i + 1) m := by
  refine ⟨h.1.trans ?_, fun q => h.2 (by omega)⟩
  rw [List.take_add_one]
  exact List.sublist_append_left _ _
theorem SomeG.fin {l m : List Str} {t : Nat} (h : SomeG l t l.length m) (ht : t < l.length) : SomeP l m := by
  refine ⟨h.2 ht, ?_⟩
  have := h.1
  rw [List.take_length] at this
  exact this
theorem eqU {K : PySem.W.Frag} {P : Nat → Prop} {j : Int} : ∀ (x y : V) (H : Hp) (Q : VK), (exE P fun r : Nat => dat K (.int (r : Int))).is x H → (dat K (.int j)).is y H → (∀ q : Bool, Q (.bl q) H) → rEq x y H Q := fun x y H Q hx hy z => by
  obtain ⟨r, hr, hx⟩ := hx
  cases hx
  cases hy
  exact ⟨rfl, z _⟩
theorem some_len (l : List Str) : ((l.map PyData.str).length : Int) = (l.length : Int) := by rw [List.length_map]
theorem range_get {r i : Nat} {d : D} (h : (rangeD 0 1 r)[i]? = some d) : i < r ∧ d = .int (i : Int) := by
  obtain ⟨h1, h2⟩ := get_map_range h
  refine ⟨h1, ?_⟩
  rw [h2, Int.mul_one, Int.zero_add]
theorem ok_law_some_of (T : Txt K mg CA CW CB) : GFunM P w K mg base CW "_law_some_of" 2 (FSomeOf K) :=
  gfunM_mk (N := ["_law_reader_here", "_law_pool", "_law_at", "_law_k"]) (k := 1) T.d_law_some_of ["_law_reader_here", "_law_pool"] ⟨rfl, rfl, rfl, by decide +kernel, rfl, by decide +kernel, by decide +kernel⟩ (fun _ _ _ _ _ _ us hl => match us, hl with | [_, _], _ => rfl) (fun _ _ _ _ _ h => by cases h <;> rfl) fun f cdv A outer s H E0 g Es E a Ta Tb hF H0 hT0 => by
    have key : ∀ (a cp : Addr) (n : Nat) (l : List Str) (Ep : Ent), l ≠ [] → l.length ≤ 6 → n ≤ 99000 → (∀ m, SE CW a (RdS a cp m) Ep) → (∀ (X : Cx) (ρ : Rho) (e : Expr) (pp pos : Pos), X.K = K → X.mg = mg → Gl X "len" → starEach [e] X.env = (false, eval e X.env) :: starEach [] X.env → DE X ρ e Ep → DE X ρ (.Call (.Name "len" pp) [e] [] pos) (dat K (.int (l.length : Int)))) →
        (∀ (X : Cx) (ρ : Rho) (e1 e2 : Expr) (pos : Pos) (i : Nat) (y : Str), X.K = K → PlainIx e2 → l[i]? = some y → DE X ρ e1 Ep → DE X ρ e2 (dat K (.int (i : Int))) → DE X ρ (.Subscript e1 e2 pos) (dat K (.str y))) →
        MR (cx P w K mg base ["_law_reader_here", "_law_pool", "_law_at", "_law_k"] "_law_some_of" (top 94) f cdv A outer s H E0) CW (startR ["_law_reader_here", "_law_pool", "_law_at", "_law_k"] [val (.ref a), Ep]) (Fr CW a H0 (RdS a cp n)) (defBody (top 94)) (strE K l) (Fr CW a H0 (RdS a cp (n + 8))) := by
      intro a cp n l Ep hne hl hn se lenE ixE
      have hpos : 0 < l.length := List.length_pos_iff.mpr hne
      have sr0 : ∀ m, SR CW a (RdS a cp m) (startR ["_law_reader_here", "_law_pool", "_law_at", "_law_k"] [val (.ref a), Ep]) := fun m => SR.start (.cons ke_val.se (.cons (se m) .nil))
      refine mr_cons (ms_set Stp.fr g 2 (me_call (ok_law_draw T) g (da_cons (de_var 0) (da_cons (lenE _ _ _ _ _ rfl rfl rfl rfl (de_var 1)) da_nil)) .refl (.mk a cp n l.length hpos (by omega) (by omega)) (sr0 n))) (mr_ex (by exact Nat.le_of_ble_eq_true rfl) fun at' hat => ?_)
      have sr1 : ∀ m, SR CW a (RdS a cp m) ((startR ["_law_reader_here", "_law_pool", "_law_at", "_law_k"] [val (.ref a), Ep]).set 2 (some (dat K (.int (at' : Int))))) := fun m => (sr0 m).set (ke_dat rfl).se
      refine mr_ret Stp.fr (me_imp (me_tupleL T.B (me_lc g (ι := Nat) (γ := Str) (Pr := fun r => r = l.length) (ds := fun r => rangeD 0 1 r) PyData.str (fun _ i m => SomeG l at' i m) (fun i => RdS a cp (n + 1 + i)) (fun i => RdS a cp (n + 1 + i + 1)) (fun _ i q => q = false → i ≠ at') (fun _ i y => l[i]? = some y) (f := fun _ i ρ => ρ.set 3 (some (dat K (.int (i : Int)))))
        (mi_range T.B (me_imp (me_p (lenE _ _ _ _ _ rfl rfl rfl rfl (de_var 1))) fun v H h => ⟨l.length, rfl, h⟩) (fun r hr => by rw [hr]; omega)) (blkOk_by (own := [("_law_k", 3)]) (N := ["_law_reader_here", "_law_pool", "_law_at", "_law_k"]) (sc := defScope (top 94)) (by decide +kernel)) (fun _ _ _ _ _ => (pg_name (i := 3) (by exact g.nd) rfl (by first | exact Or.inl rfl | exact Or.inr rfl))) (fun r i d _ hd => by
          obtain ⟨_, rfl⟩ := range_get hd
          exact gbn 3) (sr1 _) (fun H h => rd_some h) (fun i => rd_old)
        (fun s' H' C cl fp r i d hr hd => ?_) (fun s' H' C cl fp r i d hr hd => ?_) (fun i H h => rd_more h (by omega)) (fun r _ => ⟨List.nil_sublist _, fun h => absurd h (by omega)⟩) (fun r i m y hr hi hm hy => hm.yes hy) (fun r i m hr hi hm hq => hm.no (hq rfl)) (fun _ => rfl) (fun r hr => by
          rw [show (rangeD 0 1 r).length = r by simp [rangeD], hr]
          omega) (fun r hr H h => rd_more h (by
          rw [show (rangeD 0 1 r).length = r by simp [rangeD], hr]
          omega)))) (fun v H h => ?_))
      · obtain ⟨hi, rfl⟩ := range_get hd
        have hr : r = l.length := hr
        refine pts_one (mq_or (dt_c (dc_eqI (de_var 3) (de_var 2))) .refl (fun hp => ⟨fun q => Bool.noConfusion q, fun H h => rd_more h (by omega)⟩) fun hp => mq_any (mt_cmp op_eq (me_call (ok_law_draw T) (g.blk _ _ _ _ _) (da_cons (de_var 0) (da_cons de_int da_nil)) .refl (.mk a cp (n + 1 + i) 2 (by decide) (by decide) (by omega)) (((sr1 _).wipe _).set (ke_dat rfl).se)) (me_p de_int) (ke_ex fun _ => ke_dat rfl) eqU) fun q _ => ?_)
        have hne' := of_decide_eq_false hp
        omega
      · obtain ⟨hi, rfl⟩ := range_get hd
        have hr : r = l.length := hr
        have hy : l[i]? = some (l[i]'(by omega)) := List.getElem?_eq_getElem (by omega)
        exact me_st (me_imp (me_p (ixE _ _ _ _ _ i _ rfl (fun _ _ => rfl) hy (de_var 1) (de_var 3))) fun v H h => ⟨_, hy, h⟩) fun H h => h
      · obtain ⟨m, ⟨r, hr, hm⟩, hv⟩ := h
        have hr : r = l.length := hr
        subst hr
        rw [show (rangeD 0 1 l.length).length = l.length by simp [rangeD]] at hm
        exact ⟨m, hm.fin hat, hv⟩
    cases hF with
    | tup a cp n l hne hl hn =>
      refine .inl (key a cp n l _ hne hl hn (fun m => (ke_dat (nl_strsD l)).se) (fun X ρ e pp pos hK hm hg hs h => ?_) fun X ρ e1 e2 pos i y hK hp hy h1 h2 => ?_)
      · subst hK hm
        exact de_is (de_lenT T.B h hg hs) (by rw [some_len])
      · subst hK
        exact de_ixT h1 h2 (by rw [List.getElem?_map, hy]; rfl) hp
    | lst a cp n l hne hl hn =>
      refine .inl (key a cp n l _ hne hl hn (fun m => se_strs) (fun X ρ e pp pos hK hm hg hs h => ?_) fun X ρ e1 e2 pos i y hK hp hy h1 h2 => ?_)
      · subst hK hm
        exact de_is (de_lenL T.B h hg hs) (by rw [some_len])
      · subst hK
        exact de_ixL h1 h2 (by rw [List.getElem?_map, hy]; rfl) hp
end
end Lc
end
section
/-! Lc: an own list of typed things, beside the object at a. -/
namespace Lc
open PySem L2
section
variable {γ : Type} {K : PySem.W.Frag} {CW a p : Addr} {H0 H : Hp} {T T' T0 : Sta} {P P' : List γ → Prop} {enc : γ → D} {ρ ρ' : Rho} {X : Cx} {S S' : Sta} {E : Ent} {sts : List Stmt}
def OwnD (K : PySem.W.Frag) (CW a : Addr) (H0 : Hp) (T : Sta) (p : Addr) (enc : γ → D) (P : List γ → Prop) : Sta := ⟨fun H => (Fr CW a H0 T).is H ∧ H0 p = none ∧ p ≠ a ∧ ∃ l xs, P l ∧ H p = some (.lst xs) ∧ DpAll K H xs (l.map enc), fun {H H'} s h => by
  obtain ⟨h1, h2, h3, l, xs, h4, h5, h6⟩ := h
  exact ⟨(Fr CW a H0 T).mono s h1, h2, h3, l, xs, h4, s _ _ h5, dpAll_mono s h6⟩⟩
theorem OwnD.new (h : (Fr CW a H0 T).is H) (hp : H p = none) (ha : ∀ H, T.is H → H a ≠ none) (h0 : P []) : (OwnD K CW a H0 T p enc P).is (upd H p (.lst [])) :=
  ⟨(Fr CW a H0 T).mono (Same.new hp) h, new_kp h.2 (ha _ h.1) hp, fun e => ha _ h.1 (e ▸ hp), [], [], h0, upd_same, .nil⟩
theorem OwnD.stp (hn : ∀ x, nl (enc x) = true) : Stp CW a (OwnD K CW a H0 T p enc P) T (OwnD K CW a H0 T' p enc P) T' := by
  refine ⟨fun H h => h.1.1, fun H H' h k t => ?_⟩
  obtain ⟨h1, h2, h3, l, xs, h4, h5, h6⟩ := h
  exact ⟨⟨t, h1.2.trans k⟩, h2, h3, l, xs, h4, k _ _ h5 (.inl h3), dpAll_tups k.keep.tups (nlAll_map enc l fun y _ => hn y) h6⟩
theorem OwnD.app {x : γ} {u : V} {vs : List V} (hn : ∀ x, nl (enc x) = true) (h : (OwnD K CW a H0 T p enc P).is H) (e : H p = some (.lst vs)) (hu : Dp K H u (enc x)) (h' : ∀ l, P l → P' (l ++ [x])) (hold : Old T0 T) (h0 : T0.is H0) :
    (OwnD K CW a H0 T p enc P').is (upd H p (.lst (vs ++ [u]))) := by
  obtain ⟨h1, h2, h3, l, xs, h4, h5, h6⟩ := h
  rw [h5] at e
  cases e
  have tu : TupS K H (upd H p (.lst (vs ++ [u]))) := tups_lst h5
  refine ⟨⟨hold H0 H _ h0 h1.1 fun q o hq z => ?_, kp_new h1.2 h2⟩, h2, h3, l ++ [x], _, h' l h4, upd_same, ?_⟩
  · rw [upd_ne (fun w => hq (by rw [w]; exact h2))]
    exact z
  · rw [List.map_append]
    exact dpAll_app (dpAll_tups tu (nlAll_map enc l fun y _ => hn y) h6) (.cons (dp_tups tu (hn x) hu) .nil)
theorem OwnD.len (hz : ∀ l, P l → l.length < 1000000) (h : (OwnD K CW a H0 T p enc P).is H) : ∃ vs, H p = some (.lst vs) ∧ vs.length < 1000000 := by
  obtain ⟨h1, h2, h3, l, xs, h4, h5, h6⟩ := h
  refine ⟨xs, h5, ?_⟩
  rw [dpAll_len h6, List.length_map]
  exact hz l h4
theorem OwnD.lst (h : (OwnD K CW a H0 T p enc P).is H) : ∃ vs, H p = some (.lst vs) := by
  obtain ⟨h1, h2, h3, l, xs, h4, h5, h6⟩ := h
  exact ⟨xs, h5⟩
theorem OwnD.imp (w : ∀ H, T.is H → T'.is H) (w' : ∀ l, P l → P' l) (h : (OwnD K CW a H0 T p enc P).is H) : (OwnD K CW a H0 T' p enc P').is H := by
  obtain ⟨h1, h2, h3, l, xs, h4, h5, h6⟩ := h
  exact ⟨⟨w _ h1.1, h1.2⟩, h2, h3, l, xs, w' l h4, h5, h6⟩
theorem OwnD.fr (h : (OwnD K CW a H0 T p enc P).is H) : (Fr CW a H0 T).is H := h.1
/-- its things are known -/
theorem OwnD.ex (H : Hp) (h : (OwnD K CW a H0 T p enc P).is H) : ∃ l, P l ∧ (OwnD K CW a H0 T p enc (fun m => m = l)).is H := by
  obtain ⟨h1, h2, h3, l, xs, h4, h5, h6⟩ := h
  exact ⟨l, h4, h1, h2, h3, l, xs, rfl, h5, h6⟩
theorem OwnD.up {l : List γ} (i : Nat) (h : ρ[i]? = some (some (val (.ref p)))) : Up ρ (OwnD K CW a H0 T p enc (fun m => m = l)) (ρ.set i (some (lstE K (l.map enc)))) := Up.at (fun v H s z => by
  obtain ⟨h1, h2, h3, l', xs, rfl, h5, h6⟩ := s
  cases z
  exact ⟨p, xs, rfl, h5, h6⟩) h
/-- a list of data that can't be the reader's -/
theorem se_list {ds : List D} (hn : nlAll ds = true) (hA : ∀ H, T.is H → ∃ ys, H a = some (.lst ys) ∧ ¬ DpAll K H ys ds) : SE CW a T (dat K (.list ds)) := fun v H H' t k h => by
  obtain ⟨q, xs, rfl, hx, hdd⟩ := dp_list h
  obtain ⟨ys, ea, hno⟩ := hA H t
  refine .lst ?_ (dpAll_tups k.keep.tups hn hdd)
  rcases hx with (hx | ⟨o, hx⟩) | hx
  · refine .inl (.inl (k q _ hx (.inl fun e => ?_)))
    rw [e, ea] at hx
    cases hx
    exact hno hdd
  · exact .inl (.inr ⟨o, k q _ hx (.inr True.intro)⟩)
  · exact .inr hx
end
end Lc
end
section
/-! The law's random purses. -/
namespace Lc
open PySem L2
def kindsPool : List Str := ["buy", "food", "toy"]
def pools : List (List Str) := [["buy", "gift", "meal", "trip"], ["a", "limit"], ["b", "paid", "zzzzzzzz"]]
def spons : List Str := ["firm", "aunt", "me", "firm"]
structure RndP (p : Purse) : Prop where
  spon : p.sponsor ∈ spons
  kinds : SomeP kindsPool p.kinds
  lo : 0 ≤ p.first
  hi : p.first ≤ 2
  la : p.first ≤ p.last
  lb : p.last ≤ p.first + 4
structure RndPs (ps : List Purse) : Prop where
  names : ∃ l ∈ pools, SomeP l (ps.map (·.name))
  all : ∀ p ∈ ps, RndP p
/-- those of the first i names -/
def GatP (m : List Str) (i : Nat) (ps : List Purse) : Prop := ps.map (·.name) = m.take i ∧ ∀ p ∈ ps, RndP p
theorem pool_few {l m : List Str} (h : l ∈ pools) (hm : SomeP l m) : m.length ≤ 4 := by
  have h2 := hm.2.length_le
  simp only [pools, List.mem_cons, List.not_mem_nil, or_false] at h
  rcases h with rfl | rfl | rfl <;> simp only [List.length_cons, List.length_nil] at h2 <;> omega
theorem GatP.few {m : List Str} {i : Nat} {ps : List Purse} (h : GatP m i ps) : ps.length ≤ m.length := by
  have z := congrArg List.length h.1
  rw [List.length_map, List.length_take] at z
  omega
theorem rd_list {a cp : Addr} {n : Nat} {K : PySem.W.Frag} {ds : List D} (h : ∀ (H : Hp) (i r c : Int), ¬ DpAll K H [.ref cp, .int i, .int r, .int c] ds) : ∀ H, (RdS a cp n).is H → ∃ ys, H a = some (.lst ys) ∧ ¬ DpAll K H ys ds := fun H t => by
  obtain ⟨q, _, z1, z2⟩ := t
  exact ⟨_, z1, h H _ _ _⟩
section
variable {P : Program} {w : World} {K : PySem.W.Frag} {mg : Str → Option Value} {base : Heap} {CA CW CB : Addr}
theorem tup_last {ds : List D} {γ : Type} {P : γ → Prop} {f : γ → D} {u : V} {H : Hp} (h : (tupE K (ds.map (dat K) ++ [exE P fun r => dat K (f r)])).is u H) : ∃ r, P r ∧ Dp K H u (.tuple (ds ++ [f r])) := by
  obtain ⟨p, xs, rfl, hx, ha⟩ := h
  have key : ∀ (ds : List D) (xs : List V), All2 H xs (ds.map (dat K) ++ [exE P fun r => dat K (f r)]) → ∃ r, P r ∧ DpAll K H xs (ds ++ [f r]) := by
    intro ds
    induction ds with
    | nil =>
      intro xs h
      obtain ⟨v, rfl, r, hr, hv⟩ := a1 h
      exact ⟨r, hr, .cons hv .nil⟩
    | cons d ds ih =>
      intro xs h
      cases h with
      | cons h1 t =>
        obtain ⟨r, hr, ht⟩ := ih _ t
        exact ⟨r, hr, .cons h1 ht⟩
  obtain ⟨r, hr, hd⟩ := key ds xs ha
  exact ⟨r, hr, .tup hx hd⟩
theorem some_kinds (r : Nat) (h : r < 4) : (spons.map PyData.str)[r]? = some (.str (spons.getD r "")) := by
  match r, h with
  | 0, _ => rfl
  | 1, _ => rfl
  | 2, _ => rfl
  | 3, _ => rfl
theorem spons_mem (r : Nat) (h : r < 4) : spons.getD r "" ∈ spons := by
  match r, h with
  | 0, _ => simp [spons]
  | 1, _ => simp [spons]
  | 2, _ => simp [spons]
  | 3, _ => simp [spons]
inductive FRndPurses (K : PySem.W.Frag) : FnM
  | mk (a cp : Addr) (n : Nat) (hn : n ≤ 90000) : FRndPurses K [val (.ref a)] (exE RndPs fun ps => dat K (pursesD ps)) a (RdS a cp n) (RdS a cp (n + 100))
theorem addU {P : Nat → Prop} {b : Int} : ∀ (x y : V) (H : Hp) (Q : VK), (dat K (.int b)).is x H → (exE P fun r : Nat => dat K (.int (r : Int))).is y H → (∀ v H', Same H H' → (exE P fun r : Nat => dat K (.int (b + (r : Int)))).is v H' → Q v H') → rI0 (fun i j => V.int (i + j)) x y H Q := fun x y H Q hx hy z => by
  obtain ⟨r, hr, hy⟩ := hy
  cases hx
  cases hy
  exact ⟨b, (r : Int), rfl, rfl, z _ H (Same.refl H) ⟨r, hr, .int _⟩⟩
theorem ok_law_random_purses (T : Txt K mg CA CW CB) : GFunM P w K mg base CW "_law_random_purses" 3 (FRndPurses K) :=
  gfunM_mk (N := ["_law_reader_here", "_law_found", "_law_pool", "_law_name", "_law_begin", "_law_sponsor_in", "_law_kinds_in"]) (k := 2) T.d_law_random_purses ["_law_reader_here"] ⟨rfl, rfl, rfl, by decide +kernel, rfl, by decide +kernel, by decide +kernel⟩ (fun _ _ _ _ _ _ us hl => match us, hl with | [_], _ => rfl) (fun _ _ _ _ _ h => by cases h <;> rfl) fun f cdv A outer s H E0 g Es E a Ta Tb hF H0 hT0 => by
    cases hF with
    | mk a cp n hn =>
      have hA : ∀ m H, (RdS a cp m).is H → H a ≠ none := fun m H h => rd_some h
      have hT0 : (RdS a cp n).is H0 := hT0
      refine .inl (mr_new g 1 (fun p => OwnD K CW a H0 (RdS a cp n) p purseD (fun ps => ps = [])) (fun H p h hp => OwnD.new h hp (hA n) rfl) fun p => ?_)
      refine mr_cons (ms_set (OwnD.stp (T' := RdS a cp (n + 1)) nl_purseD) g 2 (me_ixL (ds := pools.map strsD) (f := fun r => strsD (pools.getD r [])) (P := fun r => r < 3) (de_lst (dd_cons (de_tup (dd_cons de_str (dd_cons de_str (dd_cons de_str (dd_cons de_str dd_nil))))) (dd_cons (de_tup (dd_cons de_str (dd_cons de_str dd_nil))) (dd_cons (de_tup (dd_cons de_str (dd_cons de_str (dd_cons de_str dd_nil)))) dd_nil)))) .refl
        (me_call (ok_law_draw T) g (da_cons (de_var 0) (da_cons de_int da_nil)) .refl (.mk a cp n 3 (by decide) (by decide) (by omega)) (by repeat' first | refine SR.set ?_ ?_ | exact sr_bkR | exact (ke_dat (nl_ln _)).se | refine SR.wipe ?_ _ | refine SR.start ?_ | refine SEs.cons ?_ ?_ | exact SEs.nil | exact ke_val.se | exact (ke_dat rfl).se | exact (ke_dat (nl_strsD _)).se | exact (ke_dat (nl_intsD _)).se | exact (ke_dat (nl_purseD _)).se | exact (ke_dat (nl_limitD _)).se | exact (ke_dat (nl_rowD _)).se | assumption)) (se_list (by decide +kernel) (rd_list fun H i r c h => by cases h with | cons h1 t => cases t with | cons h2 t => cases h2)) (fun r hr => by
          match r, hr with
          | 0, _ => rfl
          | 1, _ => rfl
          | 2, _ => rfl))) (mr_ex (by exact Nat.le_of_ble_eq_true rfl) fun r hr => ?_)
      have hl : pools.getD r [] ∈ pools := by
        match r, hr with
        | 0, _ => simp [pools]
        | 1, _ => simp [pools]
        | 2, _ => simp [pools]
      generalize pools.getD r [] = l at hl
      have hl1 : l ≠ [] ∧ l.length ≤ 6 := by
        simp only [pools, List.mem_cons, List.not_mem_nil, or_false] at hl
        rcases hl with rfl | rfl | rfl <;> exact ⟨by simp, by simp⟩
      refine mr_cons (ms_forX (X := cx P w K mg base ["_law_reader_here", "_law_found", "_law_pool", "_law_name", "_law_begin", "_law_sponsor_in", "_law_kinds_in"] "_law_random_purses" (top 95) f cdv A outer s H E0) g (ρ' := [some (val (.ref a)), some (val (.ref p)), some (dat K (strsD l)), none, none, none, none]) (S' := OwnD K CW a H0 (RdS a cp (n + 100)) p purseD RndPs) (Pr := SomeP l) (ds := fun m => m.map PyData.str) (js := [3]) (f := fun m i ρ => ρ.set 3 (some (dat K (.str (m.getD i "")))))
        (fun _ _ => [some (val (.ref a)), some (val (.ref p)), some (dat K (strsD l)), none, none, none, none]) (fun m i => OwnD K CW a H0 (RdS a cp (n + 9 + 11 * i)) p purseD (GatP m i)) (OwnD.stp (P := fun ps => ps = []) (T' := RdS a cp (n + 1 + 8)) nl_purseD) PassesOwn.never
        (mi_tup (me_call (ok_law_some_of T) g (da_cons (de_var 0) (da_cons (de_var 2) da_nil)) .refl (.tup a cp (n + 1) l hl1.1 hl1.2 (by omega)) (by repeat' first | refine SR.set ?_ ?_ | exact sr_bkR | exact (ke_dat (nl_ln _)).se | refine SR.wipe ?_ _ | refine SR.start ?_ | refine SEs.cons ?_ ?_ | exact SEs.nil | exact ke_val.se | exact (ke_dat rfl).se | exact (ke_dat (nl_strsD _)).se | exact (ke_dat (nl_intsD _)).se | exact (ke_dat (nl_purseD _)).se | exact (ke_dat (nl_limitD _)).se | exact (ke_dat (nl_rowD _)).se | assumption)) fun m _ => nl_strs m) (pg_name (i := 3) (by exact g.nd) rfl (by first | exact Or.inl rfl | exact Or.inr rfl)) (fun m i d hm hd => ?_) (fun m σ H hm e h => ⟨e, OwnD.imp (fun H h => rd_more h (by omega)) (fun ps hp => by rw [hp]; exact ⟨rfl, fun p hp => by cases hp⟩) h⟩)
        (fun m i d hm hd => ?_) (fun m σ H hm e h => ⟨e, OwnD.imp (fun H h => rd_more h (by
          have := pool_few hl hm
          rw [List.length_map]
          omega)) (fun ps hp => ?_) h⟩)) ?_
      · obtain ⟨nm, hnm, rfl⟩ : ∃ nm, m[i]? = some nm ∧ d = .str nm := by
          have hd : (m.map PyData.str)[i]? = some d := hd
          rw [List.getElem?_map] at hd
          cases e : m[i]? with
          | none => rw [e] at hd; cases hd
          | some nm => rw [e] at hd; exact ⟨nm, rfl, (Option.some.inj hd).symm⟩
        rw [show m.getD i "" = nm by rw [List.getD_eq_getElem?_getD, hnm]; rfl]
        exact gbn 3
      · have hi : i < m.length := by
          have z := (List.getElem?_eq_some_iff.mp hd).1
          rwa [List.length_map] at z
        have hm4 := pool_few hl hm
        have srb : ∀ (q : Addr) (T : Sta), SR CW q T [some (val (.ref a)), some (val (.ref p)), some (dat K (strsD l)), none, none, none, none] := fun q T i E z => by
          match i, z with
          | 0, z => cases z; exact ke_val.se
          | 1, z => cases z; exact ke_val.se
          | 2, z => cases z; exact (ke_dat (nl_strsD l)).se
          | i + 7, z => cases z
        generalize hnm : m.getD i "" = nm
        have hnm' : m[i]? = some nm := by
          rw [List.getD_eq_getElem?_getD, List.getElem?_eq_getElem hi] at hnm
          rw [List.getElem?_eq_getElem hi, ← hnm]
          rfl
        refine mn_cons (ms_set (OwnD.stp (T' := RdS a cp (n + 9 + 11 * i + 1)) nl_purseD) g 4 (me_call (ok_law_draw T) g (da_cons (de_var 0) (da_cons de_int da_nil)) .refl (.mk a cp (n + 9 + 11 * i) 3 (by decide) (by decide) (by omega)) (by repeat' first | refine SR.set ?_ ?_ | exact srb _ _ | exact (ke_dat (nl_ln _)).se | refine SR.wipe ?_ _ | refine SR.start ?_ | refine SEs.cons ?_ ?_ | exact SEs.nil | exact ke_val.se | exact (ke_dat rfl).se | exact (ke_dat (nl_strsD _)).se | exact (ke_dat (nl_intsD _)).se | exact (ke_dat (nl_purseD _)).se | exact (ke_dat (nl_limitD _)).se | exact (ke_dat (nl_rowD _)).se | assumption))) (mn_ex (by exact Nat.le_of_ble_eq_true rfl) fun b hb => ?_)
        refine mn_cons (ms_set (OwnD.stp (T' := RdS a cp (n + 9 + 11 * i + 2)) nl_purseD) g 5 (me_ixL (ds := spons.map PyData.str) (f := fun r => .str (spons.getD r "")) (P := fun r => r < 4) (de_lst (dd_cons de_str (dd_cons de_str (dd_cons de_str (dd_cons de_str dd_nil))))) .refl
          (me_call (ok_law_draw T) g (da_cons (de_var 0) (da_cons de_int da_nil)) .refl (.mk a cp (n + 9 + 11 * i + 1) 4 (by decide) (by decide) (by omega)) (by repeat' first | refine SR.set ?_ ?_ | exact srb _ _ | exact (ke_dat (nl_ln _)).se | refine SR.wipe ?_ _ | refine SR.start ?_ | refine SEs.cons ?_ ?_ | exact SEs.nil | exact ke_val.se | exact (ke_dat rfl).se | exact (ke_dat (nl_strsD _)).se | exact (ke_dat (nl_intsD _)).se | exact (ke_dat (nl_purseD _)).se | exact (ke_dat (nl_limitD _)).se | exact (ke_dat (nl_rowD _)).se | assumption)) (se_list (by decide +kernel) (rd_list fun H i r c h => by cases h with | cons h1 t => cases h1)) (fun r hr => some_kinds r hr))) (mn_ex (by exact Nat.le_of_ble_eq_true rfl) fun q hq => ?_)
        have hsp := spons_mem q hq
        generalize spons.getD q "" = sp at hsp
        refine mn_cons (ms_set (OwnD.stp (T' := RdS a cp (n + 9 + 11 * i + 2 + 8)) nl_purseD) g 6 (me_call (ok_law_some_of T) g (da_cons (de_var 0) (da_cons (de_tup (ds := kindsPool.map PyData.str) (dd_cons de_str (dd_cons de_str (dd_cons de_str dd_nil)))) da_nil)) .refl (.tup a cp (n + 9 + 11 * i + 2) kindsPool (by simp [kindsPool]) (by decide) (by omega)) (by repeat' first | refine SR.set ?_ ?_ | exact srb _ _ | exact (ke_dat (nl_ln _)).se | refine SR.wipe ?_ _ | refine SR.start ?_ | refine SEs.cons ?_ ?_ | exact SEs.nil | exact ke_val.se | exact (ke_dat rfl).se | exact (ke_dat (nl_strsD _)).se | exact (ke_dat (nl_intsD _)).se | exact (ke_dat (nl_purseD _)).se | exact (ke_dat (nl_limitD _)).se | exact (ke_dat (nl_rowD _)).se | assumption))) (mn_ex (by exact Nat.le_of_ble_eq_true rfl) fun ks hks => ?_)
        refine mn_weak (mn_one (ms_append (a := a) (OwnD.stp (T' := RdS a cp (n + 9 + 11 * i + 10 + 1)) nl_purseD) 1 p (he := me_tup (Es := [PyData.str nm, .str sp, strsD ks, .int (b : Int)].map (dat K) ++ [exE (fun d : Nat => d < 5) fun d => dat K (.int ((b : Int) + (d : Int)))]) (ma_cons (me_p (de_var 3)) (ma_cons (me_p (de_var 5)) (ma_cons (me_p (de_var 6)) (ma_cons (me_p (de_var 4)) (ma_one (me_op2 op_add (me_p (de_var 4)) (me_call (ok_law_draw T) g (da_cons (de_var 0) (da_cons de_int da_nil)) .refl (.mk a cp (n + 9 + 11 * i + 10) 5 (by decide) (by decide) (by omega)) (by repeat' first | refine SR.set ?_ ?_ | exact srb _ _ | exact (ke_dat (nl_ln _)).se | refine SR.wipe ?_ _ | refine SR.start ?_ | refine SEs.cons ?_ ?_ | exact SEs.nil | exact ke_val.se | exact (ke_dat rfl).se | exact (ke_dat (nl_strsD _)).se | exact (ke_dat (nl_intsD _)).se | exact (ke_dat (nl_purseD _)).se | exact (ke_dat (nl_limitD _)).se | exact (ke_dat (nl_rowD _)).se | assumption)) (ke_dat rfl) addU)) (ke_dat rfl)) (ke_dat (nl_strsD ks))) (ke_dat rfl)) (ke_dat rfl)))
          (sr := (by repeat' first | refine SR.set ?_ ?_ | exact srb _ _ | exact (ke_dat (nl_ln _)).se | refine SR.wipe ?_ _ | refine SR.start ?_ | refine SEs.cons ?_ ?_ | exact SEs.nil | exact ke_val.se | exact (ke_dat rfl).se | exact (ke_dat (nl_strsD _)).se | exact (ke_dat (nl_intsD _)).se | exact (ke_dat (nl_purseD _)).se | exact (ke_dat (nl_limitD _)).se | exact (ke_dat (nl_rowD _)).se | assumption)) (hs0 := fun H h => OwnD.lst h) (hs := fun H h => OwnD.len (fun l' hl' => ?_) h) (hS := fun H u vs h hu hb' => ?_))) (fun σ H h => h.off (ρ := [some (val (.ref a)), some (val (.ref p)), some (dat K (strsD l)), none, none, none, none]) (ws := [3, 4, 5, 6]) ?_)
        · have := GatP.few hl'
          omega
        · obtain ⟨d, hd5, hu⟩ := tup_last hu
          refine OwnD.app (x := Purse.mk nm sp ks b ((b : Int) + (d : Int))) (T0 := RdS a cp n) nl_purseD h hb' hu (fun l' hl' => ⟨?_, fun x hx => ?_⟩) rd_old hT0
          · rw [List.map_append, hl'.1, List.take_add_one, hnm']
            rfl
          · rcases List.mem_append.mp hx with hx | hx
            · exact hl'.2 x hx
            · rw [List.mem_singleton.mp hx]
              exact ⟨hsp, hks, by show (0 : Int) ≤ (b : Int); omega, by show (b : Int) ≤ 2; omega, by show (b : Int) ≤ (b : Int) + (d : Int); omega, by show (b : Int) + (d : Int) ≤ (b : Int) + 4; omega⟩
        · repeat (first | exact Off.refl | refine Off.set ?_ (by decide) | refine Off.wipe ?_ (by decide))
      · refine ⟨⟨l, hl, ?_⟩, hp.2⟩
        have z := hp.1
        rw [List.length_map, List.take_length] at z
        rw [z]
        exact hm
      · refine mr_pre OwnD.ex fun ps hps => ?_
        exact mr_end (mr_ret (Stp.id (a := a)) (me_imp (me_of (de_tupleL T.B (de_ld (de_var 1))) (OwnD.up 1 rfl)) fun v H h => ⟨ps, hps, h⟩)) fun H h => OwnD.fr h
end
end Lc
end
section
/-! The law's random rows. -/
namespace Lc
open PySem L2
section
variable {CW a : Addr} {ρ : Rho} {S S' : Sta} {E : Ent} {X : Cx} {sts : List Stmt}
theorem mr_ex2 {α : Type} {P : α → Prop} {F : α → Ent} {n m : Nat} {o : Option Ent} (hnm : n ≠ m) (hn : n < ρ.length) (h : ∀ x, P x → MR X CW ((ρ.set n (some (F x))).set m o) S sts E S') : MR X CW ((ρ.set n (some (exE P F))).set m o) S sts E S' := by
  rw [List.set_comm _ _ hnm]
  refine mr_ex (by rw [List.length_set]; exact hn) fun x hx => ?_
  have z := h x hx
  rw [List.set_comm _ _ hnm] at z
  exact z
theorem me_if {T T' : Sta} {ρ1 : Rho} {c b d : Expr} {pos : Pos} {p : Bool} (hc : DT X ρ1 c p) (up : Up ρ T ρ1) (h : p = true → ME X CW a ρ T b E T') (h' : p = false → ME X CW a ρ T d E T') : ME X CW a ρ T (.IfExp c b d pos) E T' := by
  cases p with
  | true => exact me_ifT hc up (h rfl)
  | false => exact me_ifF hc up (h' rfl)
end
def kindsR : List Str := ["food", "toy", "buy", "rent"]
def ShareOk (d : Int) (k : Str) (p : Purse) (x : Int) : Prop := 0 ≤ x ∧ x ≤ 3 ∧ (lawPays p (.buy d k 0) = false → x = 0)
def RndR (ps : List Purse) : Rw → Prop
  | .buy d k a => (0 ≤ d ∧ d ≤ 4) ∧ k ∈ kindsR ∧ 0 ≤ a ∧ a ≤ 4
  | .paid d k s => (0 ≤ d ∧ d ≤ 4) ∧ k ∈ kindsR ∧ s.length = ps.length ∧ ∀ (i : Nat) (p : Purse) (x : Int), ps[i]? = some p → s[i]? = some x → ShareOk d k p x
def GatR (d : Int) (k : Str) (ps : List Purse) (i : Nat) (s : List Int) : Prop := s.length = i ∧ ∀ (j : Nat) (p : Purse) (x : Int), ps[j]? = some p → s[j]? = some x → ShareOk d k p x
theorem GatR.next {d : Int} {k : Str} {ps : List Purse} {i : Nat} {s : List Int} {p : Purse} {x : Int} (h : GatR d k ps i s) (hp : ps[i]? = some p) (hx : ShareOk d k p x) : GatR d k ps (i + 1) (s ++ [x]) := by
  refine ⟨by rw [List.length_append, h.1]; rfl, fun j q y hq hy => ?_⟩
  by_cases hj : j < s.length
  · rw [List.getElem?_append_left hj] at hy
    exact h.2 j q y hq hy
  · rw [List.getElem?_append_right (by omega)] at hy
    have hz : j - s.length = 0 := by
      have z := (List.getElem?_eq_some_iff.mp hy).1
      simp only [List.length_singleton] at z
      omega
    rw [hz] at hy
    cases hy
    have : j = i := by
      have := h.1
      omega
    rw [this, hp] at hq
    cases hq
    exact hx
theorem some_kindR (r : Nat) (h : r < 4) : (kindsR.map PyData.str)[r]? = some (.str (kindsR.getD r "")) := by
  match r, h with
  | 0, _ => rfl
  | 1, _ => rfl
  | 2, _ => rfl
  | 3, _ => rfl
theorem kindR_mem (r : Nat) (h : r < 4) : kindsR.getD r "" ∈ kindsR := by
  match r, h with
  | 0, _ => simp [kindsR]
  | 1, _ => simp [kindsR]
  | 2, _ => simp [kindsR]
  | 3, _ => simp [kindsR]
section
variable {P : Program} {w : World} {K : PySem.W.Frag} {mg : Str → Option Value} {base : Heap} {CA CW CB : Addr}
theorem ltU {Pr : Nat → Prop} {j : Int} : ∀ (x y : V) (H : Hp) (Q : VK), (exE Pr fun r : Nat => dat K (.int (r : Int))).is x H → (dat K (.int j)).is y H → (∀ q : Bool, Q (.bl q) H) → rI0 (fun i j => V.bl (decide (i < j))) x y H Q := fun x y H Q hx hy z => by
  obtain ⟨r, hr, hx⟩ := hx
  cases hx
  cases hy
  exact ⟨_, _, rfl, rfl, z _⟩
inductive FRndRow (K : PySem.W.Frag) : FnM
  | mk (a cp : Addr) (n : Nat) (ps : List Purse) (hps : ps.length ≤ 4) (hn : n ≤ 90000) : FRndRow K [val (.ref a), dat K (pursesD ps)] (exE (RndR ps) fun r => dat K (rowD r)) a (RdS a cp n) (RdS a cp (n + 10))
theorem ok_law_random_row (T : Txt K mg CA CW CB) : GFunM P w K mg base CW "_law_random_row" 2 (FRndRow K) :=
  gfunM_mk (N := ["_law_reader_here", "_law_purses_in", "_law_day_in", "_law_kind_in", "_law_found", "_law_purse_in"]) (k := 1) T.d_law_random_row ["_law_reader_here", "_law_purses_in"] ⟨rfl, rfl, rfl, by decide +kernel, rfl, by decide +kernel, by decide +kernel⟩ (fun _ _ _ _ _ _ us hl => match us, hl with | [_, _], _ => rfl) (fun _ _ _ _ _ h => by cases h <;> rfl) fun f cdv A outer s H E0 g Es E a Ta Tb hF H0 hT0 => by
    cases hF with
    | mk a cp n ps hps hn =>
      have hA : ∀ m H, (RdS a cp m).is H → H a ≠ none := fun m H h => rd_some h
      have hT0 : (RdS a cp n).is H0 := hT0
      have srb : ∀ (q : Addr) (T : Sta), SR CW q T (startR ["_law_reader_here", "_law_purses_in", "_law_day_in", "_law_kind_in", "_law_found", "_law_purse_in"] [val (.ref a), dat K (pursesD ps)]) := fun q T => SR.start (.cons ke_val.se (.cons (ke_dat (nl_pursesD ps)).se .nil))
      refine .inl (mr_cons (ms_par (.fr (T' := RdS a cp (n + 2))) g 2 3 (ma_cons (me_call (ok_law_draw T) g (da_cons (de_var 0) (da_cons de_int da_nil)) .refl (.mk a cp n 5 (by decide) (by decide) (by omega)) (by repeat' first | refine SR.set ?_ ?_ | exact srb _ _ | exact (ke_dat (nl_ln _)).se | refine SR.wipe ?_ _ | refine SR.start ?_ | refine SEs.cons ?_ ?_ | exact SEs.nil | exact ke_val.se | exact (ke_dat rfl).se | exact (ke_dat (nl_strsD _)).se | exact (ke_dat (nl_intsD _)).se | exact (ke_dat (nl_purseD _)).se | exact (ke_dat (nl_limitD _)).se | exact (ke_dat (nl_rowD _)).se | assumption)) (ma_one (me_ixL (ds := kindsR.map PyData.str) (f := fun r => .str (kindsR.getD r "")) (P := fun r => r < 4) (de_lst (dd_cons de_str (dd_cons de_str (dd_cons de_str (dd_cons de_str dd_nil))))) .refl
          (me_call (ok_law_draw T) g (da_cons (de_var 0) (da_cons de_int da_nil)) .refl (.mk a cp (n + 1) 4 (by decide) (by decide) (by omega)) (by repeat' first | refine SR.set ?_ ?_ | exact srb _ _ | exact (ke_dat (nl_ln _)).se | refine SR.wipe ?_ _ | refine SR.start ?_ | refine SEs.cons ?_ ?_ | exact SEs.nil | exact ke_val.se | exact (ke_dat rfl).se | exact (ke_dat (nl_strsD _)).se | exact (ke_dat (nl_intsD _)).se | exact (ke_dat (nl_purseD _)).se | exact (ke_dat (nl_limitD _)).se | exact (ke_dat (nl_rowD _)).se | assumption)) (se_list (by decide +kernel) (rd_list fun H i r c h => by cases h with | cons h1 t => cases h1)) (fun r hr => some_kindR r hr))) (ke_ex fun _ => ke_dat rfl)))
        (mr_ex (by exact Nat.le_of_ble_eq_true rfl) fun q hq => mr_ex2 (by decide) (by exact Nat.le_of_ble_eq_true rfl) fun d hd => ?_))
      have hk := kindR_mem q hq
      generalize kindsR.getD q "" = k at hk
      refine mr_ifU (.fr (T' := RdS a cp (n + 3))) (mt_cmp op_lt (me_call (ok_law_draw T) g (da_cons (de_var 0) (da_cons de_int da_nil)) .refl (.mk a cp (n + 2) 5 (by decide) (by decide) (by omega)) (by repeat' first | refine SR.set ?_ ?_ | exact srb _ _ | exact (ke_dat (nl_ln _)).se | refine SR.wipe ?_ _ | refine SR.start ?_ | refine SEs.cons ?_ ?_ | exact SEs.nil | exact ke_val.se | exact (ke_dat rfl).se | exact (ke_dat (nl_strsD _)).se | exact (ke_dat (nl_intsD _)).se | exact (ke_dat (nl_purseD _)).se | exact (ke_dat (nl_limitD _)).se | exact (ke_dat (nl_rowD _)).se | assumption)) (me_p de_int) (ke_ex fun _ => ke_dat rfl) ltU) ?_ ?_
      · refine mr_end (mr_ret (.fr (T' := RdS a cp (n + 4))) (me_imp (me_tup (Es := [PyData.str "buy", .int (d : Int), .str k].map (dat K) ++ [exE (fun d : Nat => d < 5) fun d => dat K (.int (d : Int))]) (ma_cons (me_p de_str) (ma_cons (me_p (de_var 2)) (ma_cons (me_p (de_var 3)) (ma_one (me_call (ok_law_draw T) g (da_cons (de_var 0) (da_cons de_int da_nil)) .refl (.mk a cp (n + 3) 5 (by decide) (by decide) (by omega)) (by repeat' first | refine SR.set ?_ ?_ | exact srb _ _ | exact (ke_dat (nl_ln _)).se | refine SR.wipe ?_ _ | refine SR.start ?_ | refine SEs.cons ?_ ?_ | exact SEs.nil | exact ke_val.se | exact (ke_dat rfl).se | exact (ke_dat (nl_strsD _)).se | exact (ke_dat (nl_intsD _)).se | exact (ke_dat (nl_purseD _)).se | exact (ke_dat (nl_limitD _)).se | exact (ke_dat (nl_rowD _)).se | assumption))) (ke_dat rfl)) (ke_dat rfl)) (ke_dat rfl))) fun v H h => ?_)) fun H h => ⟨rd_more h.1 (by omega), h.2⟩
        obtain ⟨x, hx, hv⟩ := tup_last h
        exact ⟨.buy d k x, ⟨⟨by omega, by omega⟩, hk, by omega, by omega⟩, hv⟩
      · refine mr_new g 4 (fun p => OwnD K CW a H0 (RdS a cp (n + 3)) p PyData.int (fun l => l = [])) (fun H p h hp => OwnD.new h hp (hA (n + 3)) rfl) fun p => ?_
        have srb : ∀ (q : Addr) (T : Sta), SR CW q T [some (val (.ref a)), some (dat K (pursesD ps)), some (dat K (.int (d : Int))), some (dat K (.str k)), some (val (.ref p)), none] := fun q T i E z => by
          match i, z with
          | 0, z => cases z; exact ke_val.se
          | 1, z => cases z; exact (ke_dat (nl_pursesD ps)).se
          | 2, z => cases z; exact (ke_dat rfl).se
          | 3, z => cases z; exact (ke_dat rfl).se
          | 4, z => cases z; exact ke_val.se
          | i + 6, z => cases z
        refine mr_cons (ms_forX (X := cx P w K mg base ["_law_reader_here", "_law_purses_in", "_law_day_in", "_law_kind_in", "_law_found", "_law_purse_in"] "_law_random_row" (top 96) f cdv A outer s H E0) g (ρ' := [some (val (.ref a)), some (dat K (pursesD ps)), some (dat K (.int (d : Int))), some (dat K (.str k)), some (val (.ref p)), none]) (S' := OwnD K CW a H0 (RdS a cp (n + 10)) p PyData.int (GatR d k ps ps.length)) (Pr := fun _ : Unit => True) (ds := fun _ => ps.map purseD) (js := [5]) (f := fun _ i ρ => ρ.set 5 (some (match ps[i]? with | some q => dat K (purseD q) | none => anyE)))
          (fun _ _ => [some (val (.ref a)), some (dat K (pursesD ps)), some (dat K (.int (d : Int))), some (dat K (.str k)), some (val (.ref p)), none]) (fun _ i => OwnD K CW a H0 (RdS a cp (n + 3 + i)) p PyData.int (GatR d k ps i)) (OwnD.stp (P := fun l => l = []) (T' := RdS a cp (n + 3)) (fun _ => rfl)) PassesOwn.never
          (mi_tup (me_imp (me_p (de_var 1)) fun v H h => ⟨(), True.intro, h⟩) fun _ _ => nlAll_map purseD ps fun x _ => nl_purseD x) (pg_name (i := 5) (by exact g.nd) rfl (by first | exact Or.inl rfl | exact Or.inr rfl)) (fun _ i d _ hd => ?_) (fun _ σ H _ e h => ⟨e, OwnD.imp (fun H h => rd_more h (by omega)) (fun l hl => by rw [hl]; exact ⟨rfl, fun j p x _ hx => by cases hx⟩) h⟩)
          (fun _ i dd _ hd => ?_) (fun _ σ H _ e h => ⟨e, OwnD.imp (fun H h => rd_more h (by rw [List.length_map]; omega)) (fun l hl => by
            have hl : GatR d k ps (ps.map purseD).length l := hl
            rw [List.length_map] at hl
            exact hl) h⟩)) ?_
        · have hd : (ps.map purseD)[i]? = some d := hd
          rw [List.getElem?_map] at hd
          cases e : ps[i]? with
          | none => rw [e] at hd; cases hd
          | some q =>
            rw [e] at hd
            cases hd
            exact gbn 5
        · have hd : (ps.map purseD)[i]? = some dd := hd
          rw [List.getElem?_map] at hd
          cases e : ps[i]? with
          | none => rw [e] at hd; cases hd
          | some q =>
            have hi : i < ps.length := (List.getElem?_eq_some_iff.mp e).1
            dsimp only
            refine mn_weak (mn_one (ms_append (a := a) (OwnD.stp (T' := RdS a cp (n + 3 + i + 1)) (fun _ => rfl)) 4 p (he := me_if (E := exE (fun x : Int => ShareOk d k q x) fun x => dat K (.int x)) (dt_val (de_call (ok_law_pays T) g (da_cons (de_var 5) (da_cons (de_tup (ds := [PyData.str "buy", .int (d : Int), .str k, .int 0]) (dd_cons de_str (dd_cons (de_var 2) (dd_cons (de_var 3) (dd_cons de_int dd_nil))))) da_nil)) (.mk q (.buy d k 0)))) .refl
                (fun hp => me_imp (me_call (ok_law_draw T) g (da_cons (de_var 0) (da_cons de_int da_nil)) .refl (.mk a cp (n + 3 + i) 4 (by decide) (by decide) (by omega)) (by repeat' first | refine SR.set ?_ ?_ | exact srb _ _ | exact (ke_dat (nl_ln _)).se | refine SR.wipe ?_ _ | refine SR.start ?_ | refine SEs.cons ?_ ?_ | exact SEs.nil | exact ke_val.se | exact (ke_dat rfl).se | exact (ke_dat (nl_strsD _)).se | exact (ke_dat (nl_intsD _)).se | exact (ke_dat (nl_purseD _)).se | exact (ke_dat (nl_limitD _)).se | exact (ke_dat (nl_rowD _)).se | assumption)) (fun v H h => ?_)) (fun hp => me_st (me_imp (me_p de_int) fun v H h => ⟨0, ⟨by omega, by omega, fun _ => rfl⟩, h⟩) fun H h => rd_more h (by omega)))
              (sr := (by repeat' first | refine SR.set ?_ ?_ | exact srb _ _ | exact (ke_dat (nl_ln _)).se | refine SR.wipe ?_ _ | refine SR.start ?_ | refine SEs.cons ?_ ?_ | exact SEs.nil | exact ke_val.se | exact (ke_dat rfl).se | exact (ke_dat (nl_strsD _)).se | exact (ke_dat (nl_intsD _)).se | exact (ke_dat (nl_purseD _)).se | exact (ke_dat (nl_limitD _)).se | exact (ke_dat (nl_rowD _)).se | assumption)) (hs0 := fun H h => OwnD.lst h) (hs := fun H h => OwnD.len (fun l' hl' => ?_) h) (hS := fun H u vs h hu hb' => ?_))) (fun σ H h => h.off (ρ := [some (val (.ref a)), some (dat K (pursesD ps)), some (dat K (.int (d : Int))), some (dat K (.str k)), some (val (.ref p)), none]) (ws := [5]) ?_)
            · obtain ⟨r, hr, hv⟩ := h
              exact ⟨r, ⟨by omega, by omega, fun z => by rw [z] at hp; cases hp⟩, hv⟩
            · have := hl'.1
              omega
            · obtain ⟨x, hx, hu⟩ := hu
              exact OwnD.app (T0 := RdS a cp n) (fun _ => rfl) h hb' hu (fun l' hl' => GatR.next hl' e hx) rd_old hT0
            · repeat (first | exact Off.refl | refine Off.set ?_ (by decide) | refine Off.wipe ?_ (by decide))
        · refine mr_pre OwnD.ex fun l hl => ?_
          refine mr_end (mr_ret (Stp.id (a := a)) (me_imp (me_of (de_tup (ds := [PyData.str "paid", .int (d : Int), .str k, intsD l]) (dd_cons de_str (dd_cons (de_var 2) (dd_cons (de_var 3) (dd_cons (de_tupleL T.B (de_ld (de_var 4))) dd_nil))))) (OwnD.up 4 rfl)) fun v H h => ⟨.paid d k l, ⟨⟨by omega, by omega⟩, hk, hl.1, hl.2⟩, h⟩)) fun H h => OwnD.fr h
end
end Lc
end
section
/-! Lc: pairs of targets, lists just made, tuples with a part that is not known. -/
namespace Lc
open PySem L2
section
variable {γ : Type} {K : PySem.W.Frag} {CW a p : Addr} {H0 H : Hp} {T T' T0 T1 : Sta} {P P' : List γ → Prop} {enc : γ → D} {ρ ρ' ρ1 : Rho} {X : Cx} {S S' : Sta} {E F : Ent} {e o : Expr} {sts : List Stmt} {pos pp : Pos} {ifs : List Expr}
theorem gb_pairE {n i j : Nat} (hi : i < n) (hj : j < n) (hij : i ≠ j) : GB n (gTup K 2 (gCons (gName i) (gCons (gName j) gNil))) (tupE K [E, F]) [i, j] (fun ρ => (ρ.set i (some E)).set j (some F)) := fun v σ H Q hn hv q => by
  obtain ⟨t, xs, rfl, hx, ha⟩ := hv
  obtain ⟨x, y, rfl, h1, h2⟩ := a2 ha
  refine ⟨t, _, rfl, hx, rfl, x, [y], rfl, y, [], rfl, rfl, q _ (by simp) (fun m hm => ?_) fun ρ h => (h.set (by omega) h1).set (by rw [List.length_set]; omega) h2⟩
  simp only [List.mem_cons, List.not_mem_nil, or_false, not_or] at hm
  rw [List.getElem?_set_ne (Ne.symm hm.2), List.getElem?_set_ne (Ne.symm hm.1)]
theorem Stp.self : Stp CW a S S S' S' := ⟨fun _ h => h, fun _ _ _ _ t => t⟩
/-- a list that the call has made -/
def newE (H0 : Hp) : Ent := ⟨fun v H => ∃ p, v = .ref p ∧ H0 p = none ∧ H p = some (.lst []), fun s h => by
  obtain ⟨p, h1, h2, h3⟩ := h
  exact ⟨p, h1, h2, s _ _ h3⟩⟩
theorem me_newL (hA : ∀ H, T.is H → H a ≠ none) : ME X CW a ρ (Fr CW a H0 T) (.List [] pp) (newE H0) (Fr CW a H0 T) :=
  PE.imp (pe_lst pa_nil) fun σ H Q _ z => ⟨Nat.zero_le _, fun p hp => z.2.2 _ _ (.same (Same.new hp)) (z.1.mono (Same.new hp)) ⟨p, rfl, new_kp z.2.1.2 (hA _ z.2.1.1) hp, upd_same⟩ ((Fr CW a H0 T).mono (Same.new hp) z.2.1)⟩
theorem me_fr (h : ME X CW a ρ T e E T') : ME X CW a ρ (Fr CW a H0 T) e E (Fr CW a H0 T') :=
  PE.imp h fun σ H Q _ z => ⟨z.1, z.2.1.1, fun v H' k e' i t => z.2.2 v H' k e' i ⟨t, z.2.1.2.trans k⟩⟩
theorem mr_own {n : Nat} (hn : n < ρ.length) (h0 : H0 a ≠ none) (hP : P []) (h : ∀ p, MR X CW (ρ.set n (some (val (.ref p)))) (OwnD X.K CW a H0 T p enc P) sts E S') : MR X CW (ρ.set n (some (newE H0))) (Fr CW a H0 T) sts E S' := ⟨fun pins s σ H D I q => by
  obtain ⟨v, h1, p, rfl, h2, h3⟩ := q.1 n _ (List.getElem?_set_self hn)
  refine (h p).run pins s σ H D I ⟨fun i G hi => ?_, ⟨q.2.1, h2, fun e => h0 (e ▸ h2), [], [], hP, h3, .nil⟩, q.2.2⟩
  by_cases e : n = i
  · subst e
    rw [List.getElem?_set_self hn] at hi
    cases hi
    exact ⟨_, h1, rfl⟩
  · rw [List.getElem?_set_ne e] at hi
    exact q.1 i G (by rw [List.getElem?_set_ne e]; exact hi)⟩
theorem me_ixK {ι : Type} {P : ι → Prop} {f : ι → List D} {d : ι → D} {i : Int} {j : Nat} {q' : Pos} (h : ME X CW a ρ T o (exE P fun r => dat X.K (.tuple (f r))) T') (hd : ∀ r, P r → (f r)[i.toNat]? = some (d r)) (h0 : 0 ≤ i := by decide) (hs : PlainIx (.Constant (.int i) j q') := by exact fun _ _ => rfl) :
    ME X CW a ρ T (.Subscript o (.Constant (.int i) j q') pos) (exE P fun r => dat X.K (d r)) T' :=
  PE.imp (pe_ix ix_tup h (de_int (ρ := ρ) (i := i) (j := j) (pos := q')) hs) fun σ H Q _ z => ⟨z.1, z.2.1, fun x H1 k1 e1 i1 t1 => ⟨e1, fun y H2 s2 i2 => by
    obtain ⟨r, hr, i1⟩ := i1
    cases i2
    obtain ⟨p, xs, rfl, hx, hdd⟩ := dp_tuple (dp_mono s2 i1)
    obtain ⟨v, hv, dv⟩ := dpAll_get hdd (hd r hr)
    refine ⟨p, xs, _, v, rfl, rfl, hx, ?_, z.2.2 v H2 (k1.trans (.same s2)) (e1.mono s2) ⟨r, hr, dv⟩ (T'.mono s2 t1)⟩
    have hi : ((i.toNat : Nat) : Int) = i := Int.toNat_of_nonneg h0
    rw [← hi]
    exact atI_nat hv⟩⟩
/-- no test -/
theorem mq_none {P : Bool → Prop} (hp : P true) (w : ∀ H, T.is H → T'.is H) : PTs X [] (tMQ CW a ρ T P T') := ⟨fun pins s σ H Q I q => pts_nil.run pins s σ H Q I (q.2.2 true H hp (.refl H) q.1 (w H q.2.1))⟩
theorem tup_mid {ds ds' : List D} {γ : Type} {P : γ → Prop} {f : γ → D} {u : V} {H : Hp} (h : (tupE K (ds.map (dat K) ++ exE P (fun r => dat K (f r)) :: ds'.map (dat K))).is u H) : ∃ r, P r ∧ Dp K H u (.tuple (ds ++ f r :: ds')) := by
  obtain ⟨p, xs, rfl, hx, ha⟩ := h
  have key : ∀ (ds : List D) (xs : List V), All2 H xs (ds.map (dat K) ++ exE P (fun r => dat K (f r)) :: ds'.map (dat K)) → ∃ r, P r ∧ DpAll K H xs (ds ++ f r :: ds') := by
    intro ds
    induction ds with
    | nil =>
      intro xs h
      cases h with
      | cons h1 t =>
        obtain ⟨r, hr, hv⟩ := h1
        exact ⟨r, hr, .cons hv (dp_all2 t)⟩
    | cons d ds ih =>
      intro xs h
      cases h with
      | cons h1 t =>
        obtain ⟨r, hr, ht⟩ := ih _ t
        exact ⟨r, hr, .cons h1 ht⟩
  obtain ⟨r, hr, hd⟩ := key ds xs ha
  exact ⟨r, hr, .tup hx hd⟩
/-- known ++ not known -/
theorem me_cat {ι : Type} {P : ι → Prop} {b c : Expr} {ds : List D} {f : ι → List D} (ha : ME X CW a ρ T b (dat X.K (.tuple ds)) T1) (hb : ME X CW a ρ T1 c (exE P fun r => dat X.K (.tuple (f r))) T') (hn : nlAll ds = true) (hz : ∀ r, P r → ds.length + (f r).length ≤ 1000000) :
    ME X CW a ρ T (.BinOp b .Add c pos) (exE P fun r => dat X.K (.tuple (ds ++ f r))) T' :=
  me_op2 op_catA ha hb (ke_dat (by simpa [nl] using hn)) fun x y H Q hx hy z => by
    obtain ⟨r, hr, hy⟩ := hy
    obtain ⟨p, xs, rfl, hpx, hd⟩ := dp_tuple hx
    obtain ⟨q, ys, rfl, hqy, he⟩ := dp_tuple hy
    refine ⟨p, q, xs, ys, rfl, rfl, hpx, hqy, by rw [dpAll_len hd, dpAll_len he]; exact Nat.le_trans (hz r hr) (by decide), fun e => ?_, fun _ e => ?_, fun _ _ l hl => z _ _ (Same.new hl) ⟨r, hr, dp_newT hl (dpAll_app hd he)⟩⟩
    · subst e
      cases hd
      exact z _ H (Same.refl H) ⟨r, hr, .tup hqy he⟩
    · subst e
      have hx' : f r = [] := by
        have l := dpAll_len he
        exact List.eq_nil_of_length_eq_zero (by simpa using l.symm)
      refine z _ H (Same.refl H) ⟨r, hr, ?_⟩
      show Dp X.K H _ (.tuple (ds ++ f r))
      rw [hx', List.append_nil]
      exact .tup hpx hd
end
end Lc
end
section
/-! The law's random books. -/
namespace Lc
open PySem L2
def withSpon (ps : List Purse) (sp : Str) : List Str := (ps.filter fun p => decide (p.sponsor = sp)).map (·.name)
structure RndL (ps : List Purse) (rows : List Rw) (l : Limit) : Prop where
  names : ∃ p ∈ ps, SomeP (withSpon ps p.sponsor) l.names
  lo : 0 ≤ l.first
  hi : l.first ≤ 3
  la : l.first ≤ l.last
  lb : l.last ≤ l.first + 3
  cap : lawSpent ps l rows ≤ l.cap
  cap6 : l.cap ≤ lawSpent ps l rows + 6
structure GatL (ps : List Purse) (rows : List Rw) (i : Nat) (ls : List Limit) : Prop where
  few : ls.length ≤ i
  all : ∀ l ∈ ls, RndL ps rows l
  apart : ls.Pairwise fun x y => lawCrosses x y = false
structure RndB (b : Bk) : Prop where
  purses : RndPs b.purses
  rows : b.rows.length ≤ 5 ∧ ∀ r ∈ b.rows, RndR b.purses r
  limits : GatL b.purses b.rows 5 b.limits
theorem rnd_few {ps : List Purse} (h : RndPs ps) : ps ≠ [] ∧ ps.length ≤ 4 := by
  obtain ⟨l, hl, hs⟩ := h.names
  have h1 := pool_few hl hs
  rw [List.length_map] at h1
  refine ⟨fun e => hs.1 (by rw [e]; rfl), h1⟩
theorem rnd_shares {ps : List Purse} {r : Rw} (h : RndR ps r) (hp : r.isPaid = true) : r.shares.length = ps.length := by
  cases r with
  | buy d k a => cases hp
  | paid d k s => exact h.2.2.1
theorem GatL.more {ps : List Purse} {rows : List Rw} {i : Nat} {ls : List Limit} {x : Limit} (h : GatL ps rows i ls) (hx : RndL ps rows x) (hc : ∀ y ∈ ls, lawCrosses y x = false) : GatL ps rows (i + 1) (ls ++ [x]) := by
  refine ⟨by rw [List.length_append]; have := h.few; simp only [List.length_singleton]; omega, fun l hl => ?_, ?_⟩
  · rcases List.mem_append.mp hl with hl | hl
    · exact h.all l hl
    · rw [List.mem_singleton.mp hl]; exact hx
  · rw [List.pairwise_append]
    refine ⟨h.apart, List.pairwise_singleton _ _, fun y hy z hz => ?_⟩
    rw [List.mem_singleton.mp hz]
    exact hc y hy
theorem GatL.same {ps : List Purse} {rows : List Rw} {i : Nat} {ls : List Limit} (h : GatL ps rows i ls) {j : Nat} (hj : i ≤ j) : GatL ps rows j ls := ⟨by have := h.few; omega, h.all, h.apart⟩
theorem crosses_cap (y : Limit) (n : List Str) (b e c c' : Int) : lawCrosses y ⟨n, b, e, c⟩ = lawCrosses y ⟨n, b, e, c'⟩ := rfl
theorem spent_cap (ps : List Purse) (rows : List Rw) (n : List Str) (b e c c' : Int) : lawSpent ps ⟨n, b, e, c⟩ rows = lawSpent ps ⟨n, b, e, c'⟩ rows := rfl
theorem pl_listL (l : List Limit) : Pl (.list (l.map limitD)) := by
  refine ⟨?_, ?_⟩
  · simp only [nb]
    exact nbAll_map limitD l fun x _ => nb_limitD x
  · have := depthAll_map limitD 2 l fun x _ => dp_limitD x
    simp only [PyData.depth]
    omega
theorem limits_nil {l : List Limit} : (PyData.list (l.map limitD) = PyData.list []) ↔ l = [] := by
  cases l with
  | nil => simp
  | cons a l => simp
section
variable {P : Program} {w : World} {K : PySem.W.Frag} {mg : Str → Option Value} {base : Heap} {CA CW CB : Addr}
inductive FRndBook (K : PySem.W.Frag) : FnM
  | mk (a cp : Addr) (n : Nat) (hn : n ≤ 80000) : FRndBook K [val (.ref a)] (exE RndB fun b => dat K (bkD b)) a (RdS a cp n) (RdS a cp (n + 400))
theorem ok_law_random_book (T : Txt K mg CA CW CB) : GFunM P w K mg base CW "_law_random_book" 4 (FRndBook K) :=
  gfunM_mk (N := ["_law_reader_here", "_law_purses_in", "_law_found", "_law_k", "_law_lot", "_law_sponsor_in", "_law_names", "_law_begin", "_law_limit_in", "_law_one"]) (k := 3) T.d_law_random_book ["_law_reader_here"] ⟨rfl, rfl, rfl, by decide +kernel, rfl, by decide +kernel, by decide +kernel⟩ (fun _ _ _ _ _ _ us hl => match us, hl with | [_], _ => rfl) (fun _ _ _ _ _ h => by cases h <;> rfl) fun f cdv A outer s H E0 g Es E a Ta Tb hF H0 hT0 => by
    cases hF with
    | mk a cp n hn =>
      have hA : ∀ m H, (RdS a cp m).is H → H a ≠ none := fun m H h => rd_some h
      have hT0 : (RdS a cp n).is H0 := hT0
      have srb : ∀ (q : Addr) (T : Sta), SR CW q T (startR ["_law_reader_here", "_law_purses_in", "_law_found", "_law_k", "_law_lot", "_law_sponsor_in", "_law_names", "_law_begin", "_law_limit_in", "_law_one"] [val (.ref a)]) := fun q T => SR.start (.cons ke_val.se .nil)
      refine .inl (mr_cons (ms_asg (Stp.self (a := a)) (me_tup (Es := [exE RndPs fun ps => dat K (pursesD ps), newE H0]) (ma_cons (me_fr (T' := RdS a cp (n + 100)) (me_call (ok_law_random_purses T) g (da_cons (de_var 0) da_nil) .refl (.mk a cp n (by omega)) (by repeat' first | exact srb _ _ | exact (ke_dat (nl_pursesD _)).se | exact (ke_dat (nl_rowsD _)).se | refine SR.set ?_ ?_ | exact (ke_dat (nl_ln _)).se | refine SR.wipe ?_ _ | refine SR.start ?_ | refine SEs.cons ?_ ?_ | exact SEs.nil | exact ke_val.se | exact (ke_dat rfl).se | exact (ke_dat (nl_strsD _)).se | exact (ke_dat (nl_intsD _)).se | exact (ke_dat (nl_purseD _)).se | exact (ke_dat (nl_limitD _)).se | exact (ke_dat (nl_rowD _)).se | assumption))) (ma_one (me_newL (hA _))) (ke_ex fun ps => ke_dat (nl_pursesD ps)))) (pg_tupK (K := K) (m := 2) rfl (pgs_cons (pg_name (i := 1) (by exact g.nd) rfl (by first | exact Or.inl rfl | exact Or.inr rfl)) (pgs_cons (pg_name (i := 2) (by exact g.nd) rfl (by first | exact Or.inl rfl | exact Or.inr rfl)) pgs_nil))) (gb_pairE (i := 1) (j := 2) (by exact Nat.le_of_ble_eq_true rfl) (by exact Nat.le_of_ble_eq_true rfl) (by decide))) ?_)
      have h0a : H0 a ≠ none := hA _ _ hT0
      refine mr_own (enc := limitD) (P := fun l => l = []) (by exact Nat.le_of_ble_eq_true rfl) h0a rfl fun p => mr_ex2 (by decide) (by exact Nat.le_of_ble_eq_true rfl) fun ps hps => ?_
      obtain ⟨hne, hps4⟩ := rnd_few hps
      have srb : ∀ (q : Addr) (T : Sta), SR CW q T [some (val (.ref a)), some (dat K (pursesD ps)), some (val (.ref p)), none, none, none, none, none, none, none] := fun q T i E z => by
        match i, z with
        | 0, z => cases z; exact ke_val.se
        | 1, z => cases z; exact (ke_dat (nl_pursesD ps)).se
        | 2, z => cases z; exact ke_val.se
        | i + 10, z => cases z
      refine mr_cons (ms_set (OwnD.stp (T' := RdS a cp (n + 160)) nl_limitD) g 4 (me_tupleL T.B (me_lc g (ι := Nat) (γ := Rw) (Pr := fun r => r < 6) (ds := fun r => rangeD 0 1 r) rowD (fun _ i l => l.length = i ∧ ∀ x ∈ l, RndR ps x) (fun i => RdS a cp (n + 101 + 10 * i)) (fun i => RdS a cp (n + 101 + 10 * i)) (fun _ _ q => q = true) (fun _ _ y => RndR ps y) (f := fun _ i ρ => ρ.set 3 (some (dat K (.int (i : Int)))))
        (mi_range T.B (me_call (ok_law_draw T) g (da_cons (de_var 0) (da_cons de_int da_nil)) .refl (.mk a cp (n + 100) 6 (by decide) (by decide) (by omega)) (by repeat' first | exact srb _ _ | exact (ke_dat (nl_pursesD _)).se | exact (ke_dat (nl_rowsD _)).se | refine SR.set ?_ ?_ | exact (ke_dat (nl_ln _)).se | refine SR.wipe ?_ _ | refine SR.start ?_ | refine SEs.cons ?_ ?_ | exact SEs.nil | exact ke_val.se | exact (ke_dat rfl).se | exact (ke_dat (nl_strsD _)).se | exact (ke_dat (nl_intsD _)).se | exact (ke_dat (nl_purseD _)).se | exact (ke_dat (nl_limitD _)).se | exact (ke_dat (nl_rowD _)).se | assumption)) (fun r hr => by omega)) (blkOk_by (own := [("_law_k", 3)]) (N := ["_law_reader_here", "_law_purses_in", "_law_found", "_law_k", "_law_lot", "_law_sponsor_in", "_law_names", "_law_begin", "_law_limit_in", "_law_one"]) (sc := defScope (top 97)) (by decide +kernel)) (fun _ _ _ _ _ => (pg_name (i := 3) (by exact g.nd) rfl (by first | exact Or.inl rfl | exact Or.inr rfl))) (fun r i d _ hd => by
          obtain ⟨_, rfl⟩ := range_get hd
          exact gbn 3) (srb _ _) (fun H h => rd_some h) (fun i => rd_old)
        (fun s' H' C cl fp r i d hr hd => mq_none rfl fun _ h => h) (fun s' H' C cl fp r i d hr hd => ?_) (fun i H h => rd_more h (by omega)) (fun r _ => ⟨rfl, fun x hx => by cases hx⟩) (fun r i l y hr hi hl hy => ⟨by rw [List.length_append, hl.1]; rfl, fun x hx => ?_⟩) (fun r i l hr hi hl hq => by cases hq) (fun y => nl_rowD y) (fun r hr => by
          rw [show (rangeD 0 1 r).length = r by simp [rangeD]]
          omega) (fun r hr H h => rd_more h (by
          rw [show (rangeD 0 1 r).length = r by simp [rangeD]]
          omega))))) (mr_ex (by exact Nat.le_of_ble_eq_true rfl) fun rows hrows => ?_)
      · obtain ⟨hi, rfl⟩ := range_get hd
        exact me_st (me_call (ok_law_random_row T) (g.blk _ _ _ _ _) (da_cons (de_var 0) (da_cons (de_var 1) da_nil)) .refl (.mk a cp (n + 101 + 10 * i) ps hps4 (by omega)) (by repeat' first | exact srb _ _ | exact (ke_dat (nl_pursesD _)).se | exact (ke_dat (nl_rowsD _)).se | refine SR.set ?_ ?_ | exact (ke_dat (nl_ln _)).se | refine SR.wipe ?_ _ | refine SR.start ?_ | refine SEs.cons ?_ ?_ | exact SEs.nil | exact ke_val.se | exact (ke_dat rfl).se | exact (ke_dat (nl_strsD _)).se | exact (ke_dat (nl_intsD _)).se | exact (ke_dat (nl_purseD _)).se | exact (ke_dat (nl_limitD _)).se | exact (ke_dat (nl_rowD _)).se | assumption)) fun H h => rd_more h (by omega)
      · rcases List.mem_append.mp hx with hx | hx
        · exact hl.2 x hx
        · rw [List.mem_singleton.mp hx]
          exact hy
      have hrows : rows.length ≤ 5 ∧ ∀ x ∈ rows, RndR ps x := by
        obtain ⟨r, hr, h1, h2⟩ := hrows
        rw [show (rangeD 0 1 r).length = r by simp [rangeD]] at h1
        exact ⟨by omega, h2⟩
      have srb : ∀ (q : Addr) (T : Sta), SR CW q T [some (val (.ref a)), some (dat K (pursesD ps)), some (val (.ref p)), none, some (dat K (rowsD rows)), none, none, none, none, none] := fun q T i E z => by
        match i, z with
        | 0, z => cases z; exact ke_val.se
        | 1, z => cases z; exact (ke_dat (nl_pursesD ps)).se
        | 2, z => cases z; exact ke_val.se
        | 4, z => cases z; exact (ke_dat (nl_rowsD rows)).se
        | i + 10, z => cases z
      have hsh : ∀ r ∈ rows, r.isPaid = true → r.shares.length = ps.length := fun r hr hp => rnd_shares (hrows.2 r hr) hp
      refine mr_cons (ms_forX (X := cx P w K mg base ["_law_reader_here", "_law_purses_in", "_law_found", "_law_k", "_law_lot", "_law_sponsor_in", "_law_names", "_law_begin", "_law_limit_in", "_law_one"] "_law_random_book" (top 97) f cdv A outer s H E0) g (ρ' := [some (val (.ref a)), some (dat K (pursesD ps)), some (val (.ref p)), none, some (dat K (rowsD rows)), none, none, none, none, none]) (S' := OwnD K CW a H0 (RdS a cp (n + 400)) p limitD (GatL ps rows 5)) (Pr := fun r => r < 6) (ds := fun r => rangeD 0 1 r) (js := [3]) (f := fun _ i ρ => ρ.set 3 (some (dat K (.int (i : Int)))))
        (fun _ _ => [some (val (.ref a)), some (dat K (pursesD ps)), some (val (.ref p)), none, some (dat K (rowsD rows)), none, none, none, none, none]) (fun _ i => OwnD K CW a H0 (RdS a cp (n + 161 + 12 * i)) p limitD (GatL ps rows i)) (OwnD.stp (P := fun l => l = []) (T' := RdS a cp (n + 161)) nl_limitD) PassesOwn.never
        (mi_range T.B (me_call (ok_law_draw T) g (da_cons (de_var 0) (da_cons de_int da_nil)) .refl (.mk a cp (n + 160) 6 (by decide) (by decide) (by omega)) (by repeat' first | exact srb _ _ | exact (ke_dat (nl_pursesD _)).se | exact (ke_dat (nl_rowsD _)).se | refine SR.set ?_ ?_ | exact (ke_dat (nl_ln _)).se | refine SR.wipe ?_ _ | refine SR.start ?_ | refine SEs.cons ?_ ?_ | exact SEs.nil | exact ke_val.se | exact (ke_dat rfl).se | exact (ke_dat (nl_strsD _)).se | exact (ke_dat (nl_intsD _)).se | exact (ke_dat (nl_purseD _)).se | exact (ke_dat (nl_limitD _)).se | exact (ke_dat (nl_rowD _)).se | assumption)) (fun r hr => by omega)) (pg_name (i := 3) (by exact g.nd) rfl (by first | exact Or.inl rfl | exact Or.inr rfl)) (fun r i d _ hd => by
          obtain ⟨_, rfl⟩ := range_get hd
          exact gbn 3) (fun r σ H _ e h => ⟨e, OwnD.imp (fun H h => rd_more h (by omega)) (fun l hl => by rw [hl]; exact ⟨Nat.zero_le _, fun x hx => (by cases hx), List.Pairwise.nil⟩) h⟩)
        (fun r i d hr hd => ?_) (fun r σ H hr e h => ⟨e, OwnD.imp (fun H h => rd_more h (by
          rw [show (rangeD 0 1 r).length = r by simp [rangeD]]
          omega)) (fun l hl => by
          rw [show (rangeD 0 1 r).length = r by simp [rangeD]] at hl
          exact hl.same (by omega)) h⟩)) ?_
      · obtain ⟨hi, rfl⟩ := range_get hd
        refine mn_cons (ms_set (OwnD.stp (T' := RdS a cp (n + 161 + 12 * i + 1)) nl_limitD) g 5 (me_ixK (f := fun r => [PyData.str (ps.getD r ⟨"", "", [], 0, 0⟩).name, .str (ps.getD r ⟨"", "", [], 0, 0⟩).sponsor, strsD (ps.getD r ⟨"", "", [], 0, 0⟩).kinds, .int (ps.getD r ⟨"", "", [], 0, 0⟩).first, .int (ps.getD r ⟨"", "", [], 0, 0⟩).last]) (d := fun r => .str (ps.getD r ⟨"", "", [], 0, 0⟩).sponsor) (P := fun r : Nat => r < (ps.map purseD).length)
          (me_ixT (ds := ps.map purseD) (f := fun r => purseD (ps.getD r ⟨"", "", [], 0, 0⟩)) (P := fun r => r < (ps.map purseD).length) (de_var 1) .refl (me_call (ok_law_draw T) g (da_cons (de_var 0) (da_cons (de_lenT T.B (de_var 1)) da_nil)) .refl (.mk a cp (n + 161 + 12 * i) (ps.map purseD).length (by rw [List.length_map]; exact List.length_pos_iff.mpr hne) (by rw [List.length_map]; omega) (by omega)) (by repeat' first | exact srb _ _ | exact (ke_dat (nl_pursesD _)).se | exact (ke_dat (nl_rowsD _)).se | refine SR.set ?_ ?_ | exact (ke_dat (nl_ln _)).se | refine SR.wipe ?_ _ | refine SR.start ?_ | refine SEs.cons ?_ ?_ | exact SEs.nil | exact ke_val.se | exact (ke_dat rfl).se | exact (ke_dat (nl_strsD _)).se | exact (ke_dat (nl_intsD _)).se | exact (ke_dat (nl_purseD _)).se | exact (ke_dat (nl_limitD _)).se | exact (ke_dat (nl_rowD _)).se | assumption)) (nlAll_map purseD ps fun x _ => nl_purseD x) fun r hr => ?_) fun r hr => rfl)) (mn_ex (by exact Nat.le_of_ble_eq_true rfl) fun r hr => ?_)
        · have hr : r < (ps.map purseD).length := hr
          rw [List.length_map] at hr
          rw [List.getElem?_map, List.getElem?_eq_getElem hr, List.getD_eq_getElem?_getD, List.getElem?_eq_getElem hr]
          rfl
        obtain ⟨q, hq, hqr⟩ : ∃ q ∈ ps, ps.getD r ⟨"", "", [], 0, 0⟩ = q := by
          rw [List.length_map] at hr
          refine ⟨ps[r], List.getElem_mem hr, ?_⟩
          rw [List.getD_eq_getElem?_getD, List.getElem?_eq_getElem hr]
          rfl
        rw [hqr]
        have hws : withSpon ps q.sponsor ≠ [] := by
          intro e
          have z : q.name ∈ withSpon ps q.sponsor := List.mem_map.mpr ⟨q, List.mem_filter.mpr ⟨hq, decide_eq_true rfl⟩, rfl⟩
          rw [e] at z
          cases z
        have hwl : (withSpon ps q.sponsor).length ≤ 4 := by
          unfold withSpon
          rw [List.length_map]
          exact Nat.le_trans (List.length_filter_le _ _) hps4
        refine mn_cons (ms_set (OwnD.stp (T' := RdS a cp (n + 161 + 12 * i + 1 + 8)) nl_limitD) g 6 (me_call (ok_law_some_of T) g (da_cons (de_var 0) (da_cons (de_is (d' := .list ((withSpon ps q.sponsor).map PyData.str)) (de_ld (de_lc g (xs := ps) (f0 := purseD) (fun x => decide (x.sponsor = q.sponsor)) (fun x => .str x.name) (di_T (de_var 1)) (blkOk_by (own := [("_law_one", 9)]) (N := ["_law_reader_here", "_law_purses_in", "_law_found", "_law_k", "_law_lot", "_law_sponsor_in", "_law_names", "_law_begin", "_law_limit_in", "_law_one"]) (sc := defScope (top 97)) (by decide +kernel)) (fun _ _ _ _ _ => (pg_name (i := 9) (by exact g.nd) rfl (by first | exact Or.inl rfl | exact Or.inr rfl))) (fun x _ => gbn 9)
          (fun _ _ _ _ _ x hx => dts_one (dt_c (dc_eqS (de_ixTc (de_var 9)) (de_var 5)))) (fun _ _ _ _ _ x hx _ => de_ixTc (de_var 9)) (fun _ _ _ => rfl) (by omega))) (by unfold withSpon; rw [List.map_map]; rfl)) da_nil)) .refl (.lst a cp (n + 161 + 12 * i + 1) (withSpon ps q.sponsor) hws (by omega) (by omega)) (by repeat' first | exact srb _ _ | exact (ke_dat (nl_pursesD _)).se | exact (ke_dat (nl_rowsD _)).se | refine SR.set ?_ ?_ | exact (ke_dat (nl_ln _)).se | refine SR.wipe ?_ _ | refine SR.start ?_ | refine SEs.cons ?_ ?_ | exact SEs.nil | exact ke_val.se | exact (ke_dat rfl).se | exact (ke_dat (nl_strsD _)).se | exact (ke_dat (nl_intsD _)).se | exact (ke_dat (nl_purseD _)).se | exact (ke_dat (nl_limitD _)).se | exact (ke_dat (nl_rowD _)).se | assumption))) (mn_ex (by exact Nat.le_of_ble_eq_true rfl) fun nms hnms => ?_)
        refine mn_cons (ms_set (OwnD.stp (T' := RdS a cp (n + 161 + 12 * i + 10)) nl_limitD) g 7 (me_call (ok_law_draw T) g (da_cons (de_var 0) (da_cons de_int da_nil)) .refl (.mk a cp (n + 161 + 12 * i + 9) 4 (by decide) (by decide) (by omega)) (by repeat' first | exact srb _ _ | exact (ke_dat (nl_pursesD _)).se | exact (ke_dat (nl_rowsD _)).se | refine SR.set ?_ ?_ | exact (ke_dat (nl_ln _)).se | refine SR.wipe ?_ _ | refine SR.start ?_ | refine SEs.cons ?_ ?_ | exact SEs.nil | exact ke_val.se | exact (ke_dat rfl).se | exact (ke_dat (nl_strsD _)).se | exact (ke_dat (nl_intsD _)).se | exact (ke_dat (nl_purseD _)).se | exact (ke_dat (nl_limitD _)).se | exact (ke_dat (nl_rowD _)).se | assumption))) (mn_ex (by exact Nat.le_of_ble_eq_true rfl) fun b hb => ?_)
        refine mn_cons (ms_set (OwnD.stp (T' := RdS a cp (n + 161 + 12 * i + 11)) nl_limitD) g 8 (me_imp (F := exE (fun d : Nat => d < 4) fun d => dat K (limitD ⟨nms, b, (b : Int) + (d : Int), 0⟩)) (me_tup (Es := [strsD nms, .int (b : Int)].map (dat K) ++ exE (fun d : Nat => d < 4) (fun d => dat K (.int ((b : Int) + (d : Int)))) :: [PyData.int 0].map (dat K)) (ma_cons (me_p (de_var 6)) (ma_cons (me_p (de_var 7)) (ma_cons (me_op2 op_add (me_p (de_var 7)) (me_call (ok_law_draw T) g (da_cons (de_var 0) (da_cons de_int da_nil)) .refl (.mk a cp (n + 161 + 12 * i + 10) 4 (by decide) (by decide) (by omega)) (by repeat' first | exact srb _ _ | exact (ke_dat (nl_pursesD _)).se | exact (ke_dat (nl_rowsD _)).se | refine SR.set ?_ ?_ | exact (ke_dat (nl_ln _)).se | refine SR.wipe ?_ _ | refine SR.start ?_ | refine SEs.cons ?_ ?_ | exact SEs.nil | exact ke_val.se | exact (ke_dat rfl).se | exact (ke_dat (nl_strsD _)).se | exact (ke_dat (nl_intsD _)).se | exact (ke_dat (nl_purseD _)).se | exact (ke_dat (nl_limitD _)).se | exact (ke_dat (nl_rowD _)).se | assumption)) (ke_dat rfl) addU) (ma_one (me_p de_int)) (ke_ex fun _ => ke_dat rfl)) (ke_dat rfl)) (ke_dat (nl_strsD nms)))) fun v H h => tup_mid h)) (mn_ex (by exact Nat.le_of_ble_eq_true rfl) fun d hd => ?_)
        refine mn_pre OwnD.ex fun ls hls => ?_
        have hnl : nms.length ≤ 1000 := Nat.le_trans hnms.2.length_le (by omega)
        have hls5 := hls.few
        have hlen : ∀ x ∈ ls, x.names.length ≤ 1000 := fun x hx => by
          obtain ⟨z, hz, hs⟩ := (hls.all x hx).names
          refine Nat.le_trans hs.2.length_le ?_
          unfold withSpon
          rw [List.length_map]
          exact Nat.le_trans (Nat.le_trans (List.length_filter_le _ _) hps4) (by decide)
        by_cases hf : ls.filter (fun x => lawCrosses x ⟨nms, b, (b : Int) + (d : Int), 0⟩) = []
        · refine mn_weak (mn_one (ms_ifT (dt_is (dt_c (dc_eq g (de_ld (de_lc g (xs := ls) (f0 := limitD) (fun x => lawCrosses x ⟨nms, b, (b : Int) + (d : Int), 0⟩) limitD (di_L (de_ld (de_var 2))) (blkOk_by (own := [("_law_one", 9)]) (N := ["_law_reader_here", "_law_purses_in", "_law_found", "_law_k", "_law_lot", "_law_sponsor_in", "_law_names", "_law_begin", "_law_limit_in", "_law_one"]) (sc := defScope (top 97)) (by decide +kernel)) (fun _ _ _ _ _ => (pg_name (i := 9) (by exact g.nd) rfl (by first | exact Or.inl rfl | exact Or.inr rfl))) (fun x _ => gbn 9) (fun _ _ _ _ _ x hx => dts_one (dt_val (de_call (ok_law_crosses T) (g.blk _ _ _ _ _) (da_cons (de_var 9) (da_cons (de_var 8) da_nil)) (.mk x ⟨nms, b, (b : Int) + (d : Int), 0⟩ (hlen x hx) hnl)))) (fun _ _ _ _ _ x hx _ => de_var 9) (fun x _ _ => nl_limitD x) (by omega))) (de_lst dd_nil) (pl_listL _) ⟨rfl, Nat.le_of_ble_eq_true rfl⟩)) (by rw [decide_eq_decide.mpr limits_nil]; exact decide_eq_true hf)) (OwnD.up 2 rfl) (mn_one (ms_append (a := a) (OwnD.stp (T' := RdS a cp (n + 161 + 12 * i + 12)) nl_limitD) 2 p (he := me_cat (P := fun d7 : Nat => d7 < 7) (ds := [strsD nms, .int (b : Int), .int ((b : Int) + (d : Int))]) (f := fun d7 => [PyData.int (lawSpent ps ⟨nms, b, (b : Int) + (d : Int), 0⟩ rows + (d7 : Int))]) (me_p (de_is (de_slT (de_var 8) do_none (do_some de_int)) rfl)) (me_imp (me_tup (Es := ([] : List D).map (dat K) ++ exE (fun d7 : Nat => d7 < 7) (fun d7 => dat K (.int (lawSpent ps ⟨nms, b, (b : Int) + (d : Int), 0⟩ rows + (d7 : Int)))) :: ([] : List D).map (dat K)) (ma_one (me_op2 op_add (me_p (de_call (ok_law_spent T) g (da_cons (de_var 1) (da_cons (de_var 8) (da_cons (de_var 4) da_nil))) (.mk ps ⟨nms, b, (b : Int) + (d : Int), 0⟩ rows (by omega) hsh))) (me_call (ok_law_draw T) g (da_cons (de_var 0) (da_cons de_int da_nil)) .refl (.mk a cp (n + 161 + 12 * i + 11) 7 (by decide) (by decide) (by omega)) (by repeat' first | exact srb _ _ | exact (ke_dat (nl_pursesD _)).se | exact (ke_dat (nl_rowsD _)).se | refine SR.set ?_ ?_ | exact (ke_dat (nl_ln _)).se | refine SR.wipe ?_ _ | refine SR.start ?_ | refine SEs.cons ?_ ?_ | exact SEs.nil | exact ke_val.se | exact (ke_dat rfl).se | exact (ke_dat (nl_strsD _)).se | exact (ke_dat (nl_intsD _)).se | exact (ke_dat (nl_purseD _)).se | exact (ke_dat (nl_limitD _)).se | exact (ke_dat (nl_rowD _)).se | assumption)) (ke_dat rfl) addU))) fun v H h => tup_mid h) (by rw [nlAll, nl_strsD]; rfl) (fun _ _ => by simp))
            (sr := (by repeat' first | exact srb _ _ | exact (ke_dat (nl_pursesD _)).se | exact (ke_dat (nl_rowsD _)).se | refine SR.set ?_ ?_ | exact (ke_dat (nl_ln _)).se | refine SR.wipe ?_ _ | refine SR.start ?_ | refine SEs.cons ?_ ?_ | exact SEs.nil | exact ke_val.se | exact (ke_dat rfl).se | exact (ke_dat (nl_strsD _)).se | exact (ke_dat (nl_intsD _)).se | exact (ke_dat (nl_purseD _)).se | exact (ke_dat (nl_limitD _)).se | exact (ke_dat (nl_rowD _)).se | assumption)) (hs0 := fun H h => OwnD.lst h) (hs := fun H h => OwnD.len (fun l' hl' => ?_) h) (hS := fun H u vs h hu hb' => ?_)))) ) (fun σ H h => h.off (ρ := [some (val (.ref a)), some (dat K (pursesD ps)), some (val (.ref p)), none, some (dat K (rowsD rows)), none, none, none, none, none]) (ws := [3, 5, 6, 7, 8, 9]) ?_)
          · rw [hl']
            omega
          · obtain ⟨d7, hd7, hu⟩ := hu
            refine OwnD.app (x := Limit.mk nms b ((b : Int) + (d : Int)) (lawSpent ps ⟨nms, b, (b : Int) + (d : Int), 0⟩ rows + (d7 : Int))) (T0 := RdS a cp n) nl_limitD h hb' hu (fun l' hl' => ?_) rd_old hT0
            rw [hl']
            refine hls.more ⟨⟨q, hq, hnms⟩, by show (0 : Int) ≤ (b : Int); omega, by show (b : Int) ≤ 3; omega, by show (b : Int) ≤ (b : Int) + (d : Int); omega, by show (b : Int) + (d : Int) ≤ (b : Int) + 3; omega, ?_, ?_⟩ fun y hy => ?_
            · show lawSpent ps ⟨nms, b, (b : Int) + (d : Int), 0⟩ rows ≤ lawSpent ps ⟨nms, b, (b : Int) + (d : Int), 0⟩ rows + (d7 : Int)
              omega
            · show lawSpent ps ⟨nms, b, (b : Int) + (d : Int), 0⟩ rows + (d7 : Int) ≤ lawSpent ps ⟨nms, b, (b : Int) + (d : Int), 0⟩ rows + 6
              omega
            · have z := List.filter_eq_nil_iff.mp hf y hy
              rw [crosses_cap y nms b ((b : Int) + (d : Int)) _ 0]
              simpa using z
          · repeat (first | exact Off.refl | refine Off.set ?_ (by decide) | refine Off.wipe ?_ (by decide))
        · refine mn_weak (mn_one (ms_weak (ms_skip (dt_is (dt_c (dc_eq g (de_ld (de_lc g (xs := ls) (f0 := limitD) (fun x => lawCrosses x ⟨nms, b, (b : Int) + (d : Int), 0⟩) limitD (di_L (de_ld (de_var 2))) (blkOk_by (own := [("_law_one", 9)]) (N := ["_law_reader_here", "_law_purses_in", "_law_found", "_law_k", "_law_lot", "_law_sponsor_in", "_law_names", "_law_begin", "_law_limit_in", "_law_one"]) (sc := defScope (top 97)) (by decide +kernel)) (fun _ _ _ _ _ => (pg_name (i := 9) (by exact g.nd) rfl (by first | exact Or.inl rfl | exact Or.inr rfl))) (fun x _ => gbn 9) (fun _ _ _ _ _ x hx => dts_one (dt_val (de_call (ok_law_crosses T) (g.blk _ _ _ _ _) (da_cons (de_var 9) (da_cons (de_var 8) da_nil)) (.mk x ⟨nms, b, (b : Int) + (d : Int), 0⟩ (hlen x hx) hnl)))) (fun _ _ _ _ _ x hx _ => de_var 9) (fun x _ _ => nl_limitD x) (by omega))) (de_lst dd_nil) (pl_listL _) ⟨rfl, Nat.le_of_ble_eq_true rfl⟩)) (by rw [decide_eq_decide.mpr limits_nil]; exact decide_eq_false hf)) (OwnD.up 2 rfl)) (fun σ H h _ => h) (fun H h => OwnD.imp (fun H h => rd_more h (by omega)) (fun l hl => by rw [hl]; exact hls.same (by omega)) h))) (fun σ H h => h.off (ρ := [some (val (.ref a)), some (dat K (pursesD ps)), some (val (.ref p)), none, some (dat K (rowsD rows)), none, none, none, none, none]) (ws := [3, 5, 6, 7, 8, 9]) ?_)
          repeat (first | exact Off.refl | refine Off.set ?_ (by decide) | refine Off.wipe ?_ (by decide))
      · refine mr_pre OwnD.ex fun l hl => ?_
        exact mr_end (mr_ret (Stp.id (a := a)) (me_imp (me_of (de_tup (ds := [pursesD ps, .tuple (l.map limitD), rowsD rows]) (dd_cons (de_var 1) (dd_cons (de_tupleL T.B (de_ld (de_var 2))) (dd_cons (de_var 4) dd_nil)))) (OwnD.up 2 rfl)) fun v H h => ⟨⟨ps, l, rows⟩, ⟨hps, hrows, hl⟩, h⟩)) fun H h => OwnD.fr h
end
end Lc
end
section
/-! The law's fixed books. -/
namespace Lc
open PySem L2
section
variable {X : Cx} {ρ : Rho} {a b : Expr} {es : List Expr} {ds : List D} {pos : Pos} {k : Int}
theorem de_repT (h1 : 2 ≤ k) (h2 : k ≤ 1000) (ha : DE X ρ a (dat X.K (.tuple ds))) (hb : DE X ρ b (dat X.K (.int k))) (hn : ds.isEmpty = false := by rfl) (hz : ds.length ≤ 1000 := by exact Nat.le_of_ble_eq_true rfl) : DE X ρ (.BinOp a .Mult b pos) (dat X.K (.tuple (List.replicate k.toNat ds).flatten)) :=
  de_op2 op_repT ha hb fun x y H Q hx hy z => by
    obtain ⟨p, xs, rfl, hpx, hd⟩ := dp_tuple hx
    cases hy
    refine ⟨p, k, xs, rfl, rfl, hpx, fun e => ?_, h1, h2, by rw [dpAll_len hd]; exact hz, fun l hl => z _ _ (Same.new hl) (dp_newT hl ?_)⟩
    · subst e
      cases hd
      cases hn
    · have rep : ∀ n : Nat, DpAll X.K H (List.replicate n xs).flatten (List.replicate n ds).flatten := by
        intro n
        induction n with
        | zero => exact .nil
        | succ n ih =>
          rw [List.replicate_succ, List.replicate_succ, List.flatten_cons, List.flatten_cons]
          exact dpAll_app hd ih
      exact rep _
theorem de_lstN (h : DD X ρ es ds) (hl : ds.length ≤ 1000000 := by exact Nat.le_of_ble_eq_true rfl) : DE X ρ (.List es pos) (lstE X.K ds) :=
  PE.imp (pe_lst h) fun σ H Q _ z => ⟨z.1, fun vs H1 s1 i1 => by
    have hd := dp_all2 i1
    exact ⟨by rw [dpAll_len hd]; exact Nat.le_trans hl (by decide), fun p hp => z.2 _ _ (s1.trans (Same.new hp)) ⟨p, _, rfl, upd_same, dpAll_mono (Same.new hp) hd⟩⟩⟩
theorem de_lis {d d' : List D} (h : DE X ρ a (lstE X.K d)) (w : d = d') : DE X ρ a (lstE X.K d') := by rw [← w]; exact h
end
def pGift : Purse := ⟨"gift", "aunt", ["food", "toy"], 0, 9⟩
def pMeal : Purse := ⟨"meal", "firm", ["food"], 0, 4⟩
def pThree : List Purse := [pGift, pMeal, ⟨"trip", "firm", ["train"], 0, 9⟩]
def lCaps : List Limit := [⟨["gift"], 0, 9, 10⟩, ⟨["meal", "trip"], 0, 9, 15⟩, ⟨["meal"], 0, 0, 5⟩]
def lMore : List Limit := lCaps ++ [⟨["meal"], 0, 3, 9⟩, ⟨["meal"], 2, 3, 2⟩, ⟨["gift"], 9, 9, 0⟩]
def rLot : List Rw := [.paid 0 "food" [3, 5, 0], .buy 3 "toy" 0, .paid 2 "food" [0, 2, 0], .paid 4 "train" [0, 0, 7]]
def pOdd : List Purse := [⟨"limit", "paid", ["buy", "purse"], 2, 2⟩, ⟨"purse", "purse", ["paid"], 0, 0⟩]
def five : List Str := ["a", "b", "c", "d", "e"]
def pSix : List Purse := [⟨"aa", "sa", five, 0, 9⟩, ⟨"ab", "sa", five, 0, 9⟩, ⟨"ac", "sa", five, 0, 9⟩, ⟨"b", "sb", five, 0, 9⟩, ⟨"c", "sc", five, 0, 9⟩, ⟨"d", "sd", five, 0, 9⟩]
def lWide : List Limit := [⟨["aa", "ab", "ac"], 0, 9, 100⟩, ⟨["aa", "ab"], 0, 9, 90⟩, ⟨["aa"], 0, 4, 30⟩, ⟨["aa"], 0, 9, 60⟩, ⟨["aa"], 5, 9, 40⟩, ⟨["b"], 0, 9, 100⟩, ⟨["c"], 3, 3, 0⟩, ⟨["ab"], 0, 0, 30⟩]
def rFour : List Rw := [.buy 9 "a" 30, .paid 0 "a" [5, 15, 0, 0, 0, 0], .buy 0 "e" 30, .paid 9 "c" [20, 0, 0, 0, 0, 0]]
def rTen : List Rw := rFour ++ rFour ++ [.buy 3 "b" 1, .paid 5 "d" [0, 0, 0, 0, 0, 0]]
def bk1 : Bk := ⟨pThree, lCaps, [.buy 0 "food" 8, .buy 1 "train" 9]⟩
def bk2 : Bk := ⟨pThree, lMore, rLot⟩
def bk3 : Bk := ⟨pOdd, [], [.paid 2 "buy" [1, 0]]⟩
def bk4 : Bk := ⟨[pMeal], [], []⟩
def bk5 : Bk := ⟨pSix, lWide, rTen⟩
def fixedB : List Bk := [bk1, bk2, bk3, bk4, bk5]
def sixN : List Str := ["aa", "ab", "ac", "b", "c", "d"]
def sixD (x : Str) : D := .tuple [.str x, .str ("s" ++ cutS x none (some 1)), strsD five, .int 0, .int 9]
theorem six_le (x : Str) (h : x ∈ sixN) : x.length ≤ 1000000 := by
  simp only [sixN, List.mem_cons, List.not_mem_nil, or_false] at h
  rcases h with rfl | rfl | rfl | rfl | rfl | rfl <;> exact Nat.le_of_ble_eq_true rfl
theorem six_len (x : Str) (h : x ∈ sixN) : ("s" : Str).length + (cutS x none (some 1)).length ≤ 1000000 := by
  simp only [sixN, List.mem_cons, List.not_mem_nil, or_false] at h
  rcases h with rfl | rfl | rfl | rfl | rfl | rfl <;> decide +kernel
theorem six_eq : (sixN.filter fun _ => true).map sixD = pSix.map purseD := by
  have e1 : ("s" : Str) ++ cutS "aa" none (some 1) = "sa" := by decide +kernel
  have e2 : ("s" : Str) ++ cutS "ab" none (some 1) = "sa" := by decide +kernel
  have e3 : ("s" : Str) ++ cutS "ac" none (some 1) = "sa" := by decide +kernel
  have e4 : ("s" : Str) ++ cutS "b" none (some 1) = "sb" := by decide +kernel
  have e5 : ("s" : Str) ++ cutS "c" none (some 1) = "sc" := by decide +kernel
  have e6 : ("s" : Str) ++ cutS "d" none (some 1) = "sd" := by decide +kernel
  show [sixD "aa", sixD "ab", sixD "ac", sixD "b", sixD "c", sixD "d"] = _
  unfold sixD
  rw [e1, e2, e3, e4, e5, e6]
  rfl
section
variable {P : Program} {w : World} {K : PySem.W.Frag} {mg : Str → Option Value} {base : Heap} {CA CW CB : Addr}
inductive FFixed (K : PySem.W.Frag) : Fn
  | mk : FFixed K [] (lstE K (fixedB.map bkD))
theorem ok_law_fixed_books (T : Txt K mg CA CW CB) : GFun P w K mg base "_law_fixed_books" 1 (FFixed K) :=
  gfun_mk (N := ["_law_gift", "_law_meal", "_law_three", "_law_caps", "_law_first_book", "_law_more", "_law_lot", "_law_odd", "_law_six", "_law_wide", "_law_ten", "_law_name"]) (k := 0) T.d_law_fixed_books [] ⟨rfl, rfl, rfl, by decide +kernel, rfl, by decide +kernel, by decide +kernel⟩ (fun _ _ _ _ _ _ us hl => match us, hl with | [], _ => rfl) (fun _ _ h => by cases h <;> rfl) fun f cdv A outer s H E0 g Es E hF => by
    cases hF with
    | mk => exact .inl (
      dr_cons (ds_asg (de_tup (dd_cons (de_tup (dd_cons de_str (dd_cons de_str (dd_cons (de_tup (dd_cons de_str (dd_cons de_str dd_nil))) (dd_cons de_int (dd_cons de_int dd_nil)))))) (dd_cons (de_tup (dd_cons de_str (dd_cons de_str (dd_cons (de_tup (dd_cons de_str dd_nil)) (dd_cons de_int (dd_cons de_int dd_nil)))))) dd_nil))) (pg_tupK (K := K) (m := 2) rfl (pgs_cons (pg_name (i := 0) (by exact g.nd) rfl (by first | exact Or.inl rfl | exact Or.inr rfl)) (pgs_cons (pg_name (i := 1) (by exact g.nd) rfl (by first | exact Or.inl rfl | exact Or.inr rfl)) pgs_nil))) (gb_tup (gbs_cons (gbn 0) (gbs_cons (gbn 1) gbs_nil)) rfl)) <|
      dr_cons (ds_set g 2 (de_tup (dd_cons (de_var 0) (dd_cons (de_var 1) (dd_cons (de_tup (dd_cons de_str (dd_cons de_str (dd_cons (de_tup (dd_cons de_str dd_nil)) (dd_cons de_int (dd_cons de_int dd_nil)))))) dd_nil))))) <|
      dr_cons (ds_set g 3 (de_tup (dd_cons (de_tup (dd_cons (de_tup (dd_cons de_str dd_nil)) (dd_cons de_int (dd_cons de_int (dd_cons de_int dd_nil))))) (dd_cons (de_tup (dd_cons (de_tup (dd_cons de_str (dd_cons de_str dd_nil))) (dd_cons de_int (dd_cons de_int (dd_cons de_int dd_nil))))) (dd_cons (de_tup (dd_cons (de_tup (dd_cons de_str dd_nil)) (dd_cons de_int (dd_cons de_int (dd_cons de_int dd_nil))))) dd_nil))))) <|
      dr_cons (ds_set g 4 (de_tup (dd_cons (de_var 2) (dd_cons (de_var 3) (dd_cons (de_tup (dd_cons (de_tup (dd_cons de_str (dd_cons de_int (dd_cons de_str (dd_cons de_int dd_nil))))) (dd_cons (de_tup (dd_cons de_str (dd_cons de_int (dd_cons de_str (dd_cons de_int dd_nil))))) dd_nil))) dd_nil))))) <|
      dr_cons (ds_set g 5 (de_catT (Nat.le_of_ble_eq_true rfl) (de_var 3) (de_tup (dd_cons (de_tup (dd_cons (de_tup (dd_cons de_str dd_nil)) (dd_cons de_int (dd_cons de_int (dd_cons de_int dd_nil))))) (dd_cons (de_tup (dd_cons (de_tup (dd_cons de_str dd_nil)) (dd_cons de_int (dd_cons de_int (dd_cons de_int dd_nil))))) (dd_cons (de_tup (dd_cons (de_tup (dd_cons de_str dd_nil)) (dd_cons de_int (dd_cons de_int (dd_cons de_int dd_nil))))) dd_nil)))))) <|
      dr_cons (ds_set g 6 (de_tup (dd_cons (de_tup (dd_cons de_str (dd_cons de_int (dd_cons de_str (dd_cons (de_tup (dd_cons de_int (dd_cons de_int (dd_cons de_int dd_nil)))) dd_nil))))) (dd_cons (de_tup (dd_cons de_str (dd_cons de_int (dd_cons de_str (dd_cons de_int dd_nil))))) (dd_cons (de_tup (dd_cons de_str (dd_cons de_int (dd_cons de_str (dd_cons (de_tup (dd_cons de_int (dd_cons de_int (dd_cons de_int dd_nil)))) dd_nil))))) dd_nil))))) <|
      dr_cons (ds_set g 6 (de_catT (Nat.le_of_ble_eq_true rfl) (de_var 6) (de_tup (dd_cons (de_tup (dd_cons de_str (dd_cons de_int (dd_cons de_str (dd_cons (de_tup (dd_cons de_int (dd_cons de_int (dd_cons de_int dd_nil)))) dd_nil))))) dd_nil)))) <|
      dr_cons (ds_set g 7 (de_tup (dd_cons (de_tup (dd_cons de_str (dd_cons de_str (dd_cons (de_tup (dd_cons de_str (dd_cons de_str dd_nil))) (dd_cons de_int (dd_cons de_int dd_nil)))))) (dd_cons (de_tup (dd_cons de_str (dd_cons de_str (dd_cons (de_tup (dd_cons de_str dd_nil)) (dd_cons de_int (dd_cons de_int dd_nil)))))) dd_nil)))) <|
      dr_cons (ds_set g 7 (de_tup (dd_cons (de_var 7) (dd_cons (de_tup dd_nil) (dd_cons (de_tup (dd_cons (de_tup (dd_cons de_str (dd_cons de_int (dd_cons de_str (dd_cons (de_tup (dd_cons de_int (dd_cons de_int dd_nil))) dd_nil))))) dd_nil)) dd_nil))))) <|
      dr_cons (ds_set g 8 (de_tupleL T.B (de_ld (de_lc g (xs := sixN) (f0 := PyData.str) (fun _ => true) sixD (di_T (de_tup (dd_cons de_str (dd_cons de_str (dd_cons de_str (dd_cons de_str (dd_cons de_str (dd_cons de_str dd_nil)))))))) (blkOk_by (own := [("_law_name", 11)]) (N := ["_law_gift", "_law_meal", "_law_three", "_law_caps", "_law_first_book", "_law_more", "_law_lot", "_law_odd", "_law_six", "_law_wide", "_law_ten", "_law_name"]) (sc := defScope (top 98)) (by decide +kernel)) (fun _ _ _ _ _ => (pg_name (i := 11) (by exact g.nd) rfl (by first | exact Or.inl rfl | exact Or.inr rfl))) (fun x _ => gbn 11) (fun _ _ _ _ _ x hx => dts_nil)
        (fun _ _ _ _ _ x hx _ => de_tup (dd_cons (de_var 11) (dd_cons (de_catS (six_len x hx) de_str (de_slS (six_le x hx) (de_var 11) do_none (do_some de_int))) (dd_cons (de_tup (dd_cons de_str (dd_cons de_str (dd_cons de_str (dd_cons de_str (dd_cons de_str dd_nil)))))) (dd_cons de_int (dd_cons de_int dd_nil)))))) (fun _ _ _ => rfl) (Nat.le_of_ble_eq_true rfl))))) <|
      dr_cons (ds_set g 9 (de_tup (dd_cons (de_tup (dd_cons (de_tup (dd_cons de_str (dd_cons de_str (dd_cons de_str dd_nil)))) (dd_cons de_int (dd_cons de_int (dd_cons de_int dd_nil))))) (dd_cons (de_tup (dd_cons (de_tup (dd_cons de_str (dd_cons de_str dd_nil))) (dd_cons de_int (dd_cons de_int (dd_cons de_int dd_nil))))) (dd_cons (de_tup (dd_cons (de_tup (dd_cons de_str dd_nil)) (dd_cons de_int (dd_cons de_int (dd_cons de_int dd_nil))))) dd_nil))))) <|
      dr_cons (ds_set g 9 (de_catT (Nat.le_of_ble_eq_true rfl) (de_var 9) (de_tup (dd_cons (de_tup (dd_cons (de_tup (dd_cons de_str dd_nil)) (dd_cons de_int (dd_cons de_int (dd_cons de_int dd_nil))))) (dd_cons (de_tup (dd_cons (de_tup (dd_cons de_str dd_nil)) (dd_cons de_int (dd_cons de_int (dd_cons de_int dd_nil))))) dd_nil))))) <|
      dr_cons (ds_set g 9 (de_catT (Nat.le_of_ble_eq_true rfl) (de_var 9) (de_tup (dd_cons (de_tup (dd_cons (de_tup (dd_cons de_str dd_nil)) (dd_cons de_int (dd_cons de_int (dd_cons de_int dd_nil))))) (dd_cons (de_tup (dd_cons (de_tup (dd_cons de_str dd_nil)) (dd_cons de_int (dd_cons de_int (dd_cons de_int dd_nil))))) (dd_cons (de_tup (dd_cons (de_tup (dd_cons de_str dd_nil)) (dd_cons de_int (dd_cons de_int (dd_cons de_int dd_nil))))) dd_nil)))))) <|
      dr_cons (ds_set g 10 (de_tup (dd_cons (de_tup (dd_cons de_str (dd_cons de_int (dd_cons de_str (dd_cons de_int dd_nil))))) (dd_cons (de_tup (dd_cons de_str (dd_cons de_int (dd_cons de_str (dd_cons (de_tup (dd_cons de_int (dd_cons de_int (dd_cons de_int (dd_cons de_int (dd_cons de_int (dd_cons de_int dd_nil))))))) dd_nil))))) (dd_cons (de_tup (dd_cons de_str (dd_cons de_int (dd_cons de_str (dd_cons de_int dd_nil))))) dd_nil))))) <|
      dr_cons (ds_set g 10 (de_catT (Nat.le_of_ble_eq_true rfl) (de_repT (by decide) (by decide) (de_catT (Nat.le_of_ble_eq_true rfl) (de_var 10) (de_tup (dd_cons (de_tup (dd_cons de_str (dd_cons de_int (dd_cons de_str (dd_cons (de_tup (dd_cons de_int (dd_cons de_int (dd_cons de_int (dd_cons de_int (dd_cons de_int (dd_cons de_int dd_nil))))))) dd_nil))))) dd_nil))) de_int) (de_tup (dd_cons (de_tup (dd_cons de_str (dd_cons de_int (dd_cons de_str (dd_cons de_int dd_nil))))) (dd_cons (de_tup (dd_cons de_str (dd_cons de_int (dd_cons de_str (dd_cons (de_repT (by decide) (by decide) (de_tup (dd_cons de_int dd_nil)) de_int) dd_nil))))) dd_nil))))) <|
      dr_ret (de_lis (de_lstN (dd_cons (de_var 4) (dd_cons (de_tup (dd_cons (de_var 2) (dd_cons (de_var 5) (dd_cons (de_var 6) dd_nil)))) (dd_cons (de_var 7) (dd_cons (de_tup (dd_cons (de_tup (dd_cons (de_var 1) dd_nil)) (dd_cons (de_tup dd_nil) (dd_cons (de_tup dd_nil) dd_nil)))) (dd_cons (de_tup (dd_cons (de_var 8) (dd_cons (de_var 9) (dd_cons (de_var 10) dd_nil)))) dd_nil)))))) (by rw [six_eq]; rfl)))
end
end Lc
end
section
/-! Lc: the law's state (a reader, two lists) and rules for its loops. -/
namespace Lc
open PySem L2
section
variable {X : Cx} {ρ ρ' ρ1 : Rho} {a b c e o tg iter : Expr} {es : List Expr} {E : Ent} {Es : List Ent} {F : Fn} {pos pp : Pos} {x : Str} {j k : Nat} {α : Type} {st : Stmt} {sts body : List Stmt} {S S' : Sta} {CW : Addr}
theorem de_call0 (G : GFun X.prog X.w X.K X.mg X.base x j F) (g : Gx X k) (hF : F [] E) (hj : j ≤ k := by decide) (hg : Gl X x := by rfl) (hdb : (x == ("__debug__" : Str)) = false := by decide) : DE X ρ (.Call (.Name x pp) [] [] pos) E := by
  obtain ⟨f, fd, ps, hm, hk, hb, hf⟩ := G
  exact PE.imp (pe_call0 hf (g.room.mono hj) hg hm hk hb .nil pass0 hdb) fun σ H Q _ z => ⟨[], E, hF, .nil, fun v H' s i => z.2 v H' s i⟩
theorem wk_ent {J : It} {H0 : Hp} {xs : List V} (ha : All2 H0 xs Es) (goes : ∀ i H, i < xs.length → Same H0 H → J.go i H) (stops : ∀ H, Same H0 H → J.stop xs.length H)
    (yields : ∀ i H x H', i < xs.length → Same H0 H → J.yld i H x H' → H' = H ∧ xs[i]? = some x) : Wk J H0 Es := by
  have hl := ha.length
  refine ⟨fun i H hi s => goes i H (by rw [hl]; exact hi) s, fun H s => by rw [← hl]; exact stops H s, fun i H x H' hi s y => ?_⟩
  obtain ⟨rfl, hx⟩ := yields i H x H' (by rw [hl]; exact hi) s y
  refine ⟨Same.refl _, fun E hE => ?_⟩
  obtain ⟨v, h2, h3⟩ := ha.get hE
  rw [hx] at h2
  cases h2
  exact E.mono s h3
theorem di_Le (h : DE X ρ e (lsxE Es)) : DI X ρ tg e Es :=
  PI.imp (pi_list h) fun σ H R _ z => ⟨z.1, fun x H1 s1 i1 => by
    obtain ⟨p, xs, rfl, hx, hd⟩ := i1
    have hq : SqL X.K H1 p xs := SqL.of hx
    exact ⟨p, rfl, ⟨xs, hq⟩, z.2 _ H1 s1 (wk_ent hd (fun i H hi s => ⟨xs, xs[i], s.seq hq, by simp [hi]⟩) (fun H s => ⟨xs, s.seq hq, Nat.le_refl _⟩) fun i H x H' _ s y => ⟨y.1, y.2 xs (s.seq hq)⟩)⟩⟩
/-- for x in .., its things known as entities -/
theorem ds_eachE (gc : Gx X k) {xs : List α} {f0 : α → Ent} (ws : List Nat) {g : TG} {js : List Nat} {f : α → Rho → Rho} (hp : PassesOwn (model X.prog X.w) X.A X.env X.xe) (hi : DI X ρ tg iter (xs.map f0)) (hg : PG X tg g)
    (hgb : ∀ x ∈ xs, GB X.N.length g (f0 x) js (f x)) (hb : ∀ x ∈ xs, LB X ws (wipeR ρ ws) (f x (wipeR ρ ws)) body) (hs : ∀ x, foldedSetIterable iter X.env x = pure x := by intro _; rfl) : DS X ρ (.For tg iter body [] pos) (wipeR ρ ws) := by
  have key : ∀ i E, (xs.map f0)[i]? = some E → ∃ x ∈ xs, xs[i]? = some x ∧ E = f0 x := fun i E h => by
    rw [List.getElem?_map] at h
    cases e : xs[i]? with
    | none => rw [e] at h; cases h
    | some x =>
      rw [e] at h
      cases h
      exact ⟨x, List.mem_of_getElem? e, e, rfl⟩
  have hl : (xs.map f0).length = xs.length := by simp
  refine ds_for (js := js) (f := fun i ρ => match xs[i]? with | some x => f x ρ | none => ρ) gc (fun _ => wipeR ρ ws) hp hi hg (fun _ _ h => h.forget ws) (fun i E h => ?_) (fun i hi => ?_) hs
  · obtain ⟨x, hx, e, rfl⟩ := key i E h
    rw [e]
    exact hgb x hx
  · rw [hl] at hi
    have e : xs[i]? = some xs[i] := List.getElem?_eq_getElem hi
    have hm : xs[i] ∈ xs := List.getElem_mem hi
    rw [e]
    obtain ⟨ρ1, h1, ho⟩ := hb _ hm
    exact dn_weak h1 fun _ _ h => h.off ho
/-- for x in the list at p, other lists changing -/
theorem ms_forL (gc : Gx X k) {xs : List α} {enc : α → D} {p : Addr} (Pv : Nat → Rho) (Sv : Nat → Sta) {g : TG} {js : List Nat} {f : α → Rho → Rho} (hp : PassesOwn (model X.prog X.w) X.A X.env X.xe)
    (he : DE X ρ iter (val (.ref p))) (hg : PG X tg g) (hgb : ∀ x ∈ xs, GB X.N.length g (dat X.K (enc x)) js (f x)) (h0 : ∀ σ H, EnvOk σ H ρ → S.is H → EnvOk σ H (Pv 0) ∧ (Sv 0).is H)
    (hk : ∀ i H, (Sv i).is H → ∃ vs, H p = some (.lst vs) ∧ DpAll X.K H vs (xs.map enc)) (hb : ∀ i x, xs[i]? = some x → MN X CW (f x (Pv i)) (Sv i) body (Pv (i + 1)) (Sv (i + 1)))
    (hend : ∀ σ H, EnvOk σ H (Pv xs.length) → (Sv xs.length).is H → EnvOk σ H ρ' ∧ S'.is H) (hs : ∀ x, foldedSetIterable iter X.env x = pure x := by intro _; rfl) : MS X CW ρ S (.For tg iter body [] pos) ρ' S' := by
  have hbody : PSs X body (fun D σ H => ∃ i x, xs[i]? = some x ∧ tMS CW (f x (Pv i)) (Sv i) (Pv (i + 1)) (Sv (i + 1)) D σ H) := ⟨fun pins s σ H D I q => by
    obtain ⟨i, x, h1, q⟩ := q
    exact (hb i x h1).run pins s σ H D I q⟩
  refine PS.imp (ps_for hp gc.calm (pi_list he) hg hbody hs) fun D σ H hn z => ⟨z.1, fun v H1 s1 i1 => ?_⟩
  cases i1
  obtain ⟨p0, s0⟩ := h0 σ H1 (z.1.mono s1) (S.mono s1 z.2.1)
  obtain ⟨vs0, hv0, _⟩ := hk 0 H1 s0
  refine ⟨p, rfl, ⟨vs0, SqL.of hv0⟩, ?_⟩
  refine ⟨fun i m σ' H' => m = xs.length - i ∧ i ≤ xs.length ∧ Keep CW H1 H' ∧ σ'.length = σ.length ∧ EnvOk σ' H' (Pv i) ∧ (Sv i).is H', ⟨xs.length, by simp, Nat.zero_le _, .refl _, rfl, p0, s0⟩, ?_⟩
  rintro i m σ' H' ⟨rfl, hi', kA, hl, hE, hS⟩
  obtain ⟨vs, hv, hd⟩ := hk i H' hS
  have hvl : vs.length = xs.length := by rw [dpAll_len hd, List.length_map]
  by_cases hlt : i < xs.length
  · have hx : xs[i]? = some xs[i] := List.getElem?_eq_getElem hlt
    have hm : xs[i] ∈ xs := List.getElem_mem hlt
    generalize xs[i] = d at hx hm
    refine .inr ⟨⟨vs, vs[i], SqL.of hv, by simp [hvl, hlt]⟩, fun σ2 H2 => Keep CW H1 H2 ∧ σ2.length = σ.length ∧ EnvOk σ2 H2 (Pv (i + 1)) ∧ (Sv (i + 1)).is H2, fun σ2 H2 h2 => ⟨xs.length - (i + 1), by omega, rfl, hlt, h2⟩, fun u H2 hy => ?_⟩
    obtain ⟨rfl, hu⟩ := hy
    have hu := hu vs (SqL.of hv)
    obtain ⟨w, hw1, hw2⟩ := dpAll_get hd (i := i) (d := enc d) (by rw [List.getElem?_map, hx]; rfl)
    rw [hu] at hw1
    cases hw1
    exact hgb d hm u σ' _ _ (hl.trans hn) hw2 fun σ2 l2 o2 e2 => ⟨i, d, hx, e2 _ hE, hS, fun σ3 H3 k3 l3 e3 t3 => ⟨kA.trans k3, (l3.trans l2).trans hl, e3, t3⟩⟩
  · have e : i = xs.length := by omega
    subst e
    obtain ⟨q1, q2⟩ := hend σ' H' hE hS
    exact .inl ⟨⟨vs, SqL.of hv, by omega⟩, z.2.2 σ' H' ((Keep.same s1).trans kA) hl q1 q2⟩
end
/-! ### the law's state -/
def rdAt (a cp : Addr) : Ent := ⟨fun v H => v = .ref a ∧ (RdS a cp 0).is H, fun s h => ⟨h.1, (RdS a cp 0).mono s h.2⟩⟩
/-- a list just made, after the reader -/
def newN (a cp : Addr) : Ent := ⟨fun v H => ∃ p, v = .ref p ∧ p ≠ a ∧ p ≠ cp ∧ H p = some (.lst []), fun s h => by
  obtain ⟨p, h1, h2, h3, h4⟩ := h
  exact ⟨p, h1, h2, h3, s _ _ h4⟩⟩
structure Diff (a cp p o : Addr) : Prop where
  pa : p ≠ a
  pc : p ≠ cp
  oa : o ≠ a
  oc : o ≠ cp
  po : p ≠ o
section
variable {K : PySem.W.Frag} {CB CW a cp p o : Addr} {n n' : Nat} {l m : List Bk} {H H' : Hp} {b : Bk} {u v : V} {vs : List V} {X : Cx} {ρ : Rho} {pp : Pos} {Q Q' : List Bk → Prop} {E : Ent} {sts : List Stmt} {S' : Sta}
def LawS (K : PySem.W.Frag) (CB a cp : Addr) (n : Nat) (p o : Addr) (l m : List Bk) : Sta := ⟨fun H => (RdS a cp n).is H ∧ (∃ xs, H p = some (.lst xs) ∧ DpAll K H xs (l.map bkD)) ∧ ∃ ys, H o = some (.lst ys) ∧ All2 H ys (m.map (bookE K CB)), fun s h => by
  obtain ⟨h1, ⟨xs, h2, h3⟩, ys, h4, h5⟩ := h
  exact ⟨(RdS a cp n).mono s h1, ⟨xs, s _ _ h2, dpAll_mono s h3⟩, ys, s _ _ h4, h5.mono s⟩⟩
def LawX (K : PySem.W.Frag) (CB a cp : Addr) (n : Nat) (p o : Addr) (Q : List Bk → Prop) (m : List Bk) : Sta := ⟨fun H => ∃ l, Q l ∧ (LawS K CB a cp n p o l m).is H, fun s h => by
  obtain ⟨l, h1, h2⟩ := h
  exact ⟨l, h1, (LawS K CB a cp n p o l m).mono s h2⟩⟩
/-- an own book, where a list changes -/
theorem book_kp {xs : List V} (ha : H a = some (.lst xs)) (k : Kp CW a H H') (h : (bookE K CB b).is v H) : (bookE K CB b).is v H' := by
  obtain ⟨q, rfl, dx, w, r, h1, h2, h3⟩ := h
  refine ⟨q, rfl, dx, w, r, k q _ h1 (.inl fun e => ?_), dp_tups k.keep.tups (nl_bkD b) h2, dp_tups k.keep.tups ?_ h3⟩
  · rw [e, ha] at h1
    cases h1
  · have z := nl_bkD b
    unfold bkD at z
    simp only [nl, nlAll, Bool.and_true, Bool.and_eq_true] at z
    exact z.2.2
theorem books_kp {xs : List V} (ha : H a = some (.lst xs)) (k : Kp CW a H H') : ∀ {m : List Bk} {ys : List V}, All2 H ys (m.map (bookE K CB)) → All2 H' ys (m.map (bookE K CB))
  | [], _, .nil => .nil
  | _ :: _, _, .cons h t => .cons (book_kp ha k h) (books_kp ha k t)
theorem rd_lst (h : (RdS a cp n).is H) : ∃ xs, H a = some (.lst xs) := by
  obtain ⟨q, z, h2⟩ := h
  exact ⟨_, h2.1⟩
theorem rd_upd {w : HO} (pa : p ≠ a) (pc : p ≠ cp) (h : (RdS a cp n).is H) : (RdS a cp n).is (upd H p w) := by
  obtain ⟨q, z, h2⟩ := h
  exact ⟨q, z, by rw [upd_ne (Ne.symm pa)]; exact h2.1, by rw [upd_ne (Ne.symm pc)]; exact h2.2⟩
theorem law_stp (d : Diff a cp p o) : Stp CW a (LawX K CB a cp n p o Q m) (RdS a cp n) (LawX K CB a cp n' p o Q m) (RdS a cp n') := by
  refine ⟨fun H h => ?_, fun H H' h k t => ?_⟩
  · obtain ⟨l, _, h1, _⟩ := h
    exact h1
  · obtain ⟨l, hq, h1, ⟨xs, h2, h3⟩, ys, h4, h5⟩ := h
    obtain ⟨zs, hz⟩ := rd_lst h1
    exact ⟨l, hq, t, ⟨xs, k _ _ h2 (.inl d.pa), dpAll_tups k.keep.tups (nlAll_map bkD l fun y _ => nl_bkD y) h3⟩, ys, k _ _ h4 (.inl d.oa), books_kp hz k h5⟩
theorem law_app (d : Diff a cp p o) (h : (LawS K CB a cp n p o l m).is H) (hu : Dp K H u (bkD b)) (hp : H p = some (.lst vs)) : (LawS K CB a cp n p o (l ++ [b]) m).is (upd H p (.lst (vs ++ [u]))) := by
  obtain ⟨h1, ⟨xs, h2, h3⟩, ys, h4, h5⟩ := h
  rw [h2] at hp
  cases hp
  have tu : TupS K H (upd H p (.lst (vs ++ [u]))) := tups_lst h2
  refine ⟨rd_upd d.pa d.pc h1, ⟨_, upd_same, ?_⟩, ys, by rw [upd_ne (Ne.symm d.po)]; exact h4, books_kp (CW := a) h2 (kp_upd h2 fun q => q) h5⟩
  rw [List.map_append]
  exact dpAll_app (dpAll_tups tu (nlAll_map bkD l fun y _ => nl_bkD y) h3) (.cons (dp_tups tu (nl_bkD b) hu) .nil)
theorem All2.snoc {vs : List V} {Es : List Ent} (h : All2 H vs Es) (hv : E.is v H) : All2 H (vs ++ [v]) (Es ++ [E]) := by
  induction h with
  | nil => exact .cons hv .nil
  | cons h t ih => exact .cons h ih
theorem law_obj (d : Diff a cp p o) (h : (LawS K CB a cp n p o l m).is H) (hu : (bookE K CB b).is u H) (hp : H o = some (.lst vs)) : (LawS K CB a cp n p o l (m ++ [b])).is (upd H o (.lst (vs ++ [u]))) := by
  obtain ⟨h1, ⟨xs, h2, h3⟩, ys, h4, h5⟩ := h
  rw [h4] at hp
  cases hp
  have tu : TupS K H (upd H o (.lst (vs ++ [u]))) := tups_lst h4
  have kp : Kp a o H (upd H o (.lst (vs ++ [u]))) := kp_upd h4 fun q => q
  refine ⟨rd_upd d.oa d.oc h1, ⟨xs, by rw [upd_ne d.po]; exact h2, dpAll_tups tu (nlAll_map bkD l fun y _ => nl_bkD y) h3⟩, _, upd_same, ?_⟩
  rw [List.map_append]
  exact All2.snoc (books_kp h4 kp h5) (book_kp h4 kp hu)
theorem rd0_at : ∀ v H, (rd0E).is v H → (exE (fun _ => True) fun q : Addr × Addr => rdAt q.1 q.2).is v H := fun v H h => by
  obtain ⟨a, cp, h1, h2⟩ := h
  exact ⟨(a, cp), True.intro, h1, h2⟩
theorem de_newN {i : Nat} (hi : ρ[i]? = some (some (rdAt a cp)) := by rfl) : DE X ρ (.List [] pp) (newN a cp) :=
  PE.imp (pe_lst pa_nil) fun σ H Q _ z => ⟨Nat.zero_le _, fun p hp => z.2 _ _ (Same.new hp) (by
    obtain ⟨v, h1, rfl, q, _, h2⟩ := z.1 i _ hi
    refine ⟨p, rfl, fun e => ?_, fun e => ?_, upd_same⟩
    · rw [e, h2.1] at hp
      cases hp
    · rw [e, h2.2] at hp
      cases hp)⟩
/-- the law's lists are named -/
theorem mr_lots2 (ha : ∀ p o, Diff a cp p o → MR X CW [none, some (val (.ref a)), some (val (.ref p)), some (val (.ref o)), none, none, none, none] (LawX K CB a cp 0 p o (fun l => l = fixedB) []) sts E S') {Z : Option Ent} {S0 : Sta} : MR X CW [Z, some (rdAt a cp), some (lstE K (fixedB.map bkD)), some (newN a cp), none, none, none, none] S0 sts E S' := ⟨fun pins s σ H D I q => by
  obtain ⟨v1, g1, rfl, hr⟩ := q.1 1 _ rfl
  obtain ⟨v2, g2, p, xs, rfl, h2, h3⟩ := q.1 2 _ rfl
  obtain ⟨v3, g3, o, rfl, oa, oc, h4⟩ := q.1 3 _ rfl
  have hl : xs.length = 5 := by rw [dpAll_len h3]; rfl
  have hr' := hr
  obtain ⟨⟨cs, i1, i2, i3⟩, _, z1, z2⟩ := hr'
  have dd : Diff a cp p o := by
    refine ⟨fun e => ?_, fun e => ?_, oa, oc, fun e => ?_⟩
    · rw [e, z1] at h2
      have z := HO.lst.inj (Option.some.inj h2)
      rw [← z] at hl
      cases hl
    · rw [e, z2] at h2
      have z := HO.lst.inj (Option.some.inj h2)
      rw [← z] at h3
      cases cs with
      | nil => cases h3
      | cons c cs =>
        cases h3 with
        | cons h _ => cases h
    · rw [e, h4] at h2
      have z := HO.lst.inj (Option.some.inj h2)
      rw [← z] at hl
      cases hl
  refine (ha p o dd).run pins s σ H D I ⟨fun i G hi => ?_, ⟨fixedB, rfl, hr, ⟨xs, h2, h3⟩, [], h4, .nil⟩, q.2.2⟩
  match i, hi with
  | 1, hi => cases hi; exact ⟨_, g1, rfl⟩
  | 2, hi => cases hi; exact ⟨_, g2, rfl⟩
  | 3, hi => cases hi; exact ⟨_, g3, rfl⟩
  | i + 8, hi => cases hi⟩
/-- the objects, known better -/
def objE (K : PySem.W.Frag) (CB o : Addr) (m : List Bk) : Ent := ⟨fun v H => v = .ref o ∧ ∃ ys, H o = some (.lst ys) ∧ All2 H ys (m.map (bookE K CB)), fun s h => by
  obtain ⟨h1, ys, h2, h3⟩ := h
  exact ⟨h1, ys, s _ _ h2, h3.mono s⟩⟩
theorem obj_lsx : ∀ v H, (objE K CB o m).is v H → (lsxE (m.map (bookE K CB))).is v H := fun v H h => by
  obtain ⟨rfl, ys, h2, h3⟩ := h
  exact ⟨o, ys, rfl, h2, h3⟩
theorem obj_up (i : Nat) (h : ρ[i]? = some (some (val (.ref o)))) : Up ρ (LawS K CB a cp n p o l m) (ρ.set i (some (objE K CB o m))) := Up.at (fun v H s z => ⟨z, s.2.2⟩) h
theorem se_book : SE CW o (LawS K CB a cp n p o l m) (bookE K CB b) := fun v H H' t k h => by
  obtain ⟨ys, h4, _⟩ := t.2.2
  exact book_kp h4 k h
end
end Lc
end
section
/-! The law. -/
namespace Lc
open PySem L2
def spL (F : Fn) : Sp := fun vs H Q _ => ∃ Es E, F Es E ∧ All2 H vs Es ∧ ∀ v H', E.is v H' → Q v H'
def trueS : Sta := ⟨fun _ => True, fun _ _ => True.intro⟩
section
variable {P : Program} {w : World} {K : PySem.W.Frag} {mg : Str → Option Value} {base : Heap}
def GLaw (P : Program) (w : World) (K : PySem.W.Frag) (mg : Str → Option Value) (x : Str) (ps : List Str) (k : Nat) (F : Fn) : Prop :=
  ∃ (f : Addr) (fd : FuncData), mg x = some (.ref f) ∧ (∀ us : List Value, us.length = ps.length → bindArgs fd ⟨us, []⟩ = pure (ps.zip us)) ∧ ∀ base : Heap, FnOk P w K mg base CX0 k f fd ps (spL F)
theorem bind_eq {x : Str} {st : Stmt} {f : Addr} {fd : FuncData} {ps : List Str} (F : Fun K x x st f fd) (h : BindsOk x x st ps) : ∀ us : List Value, us.length = ps.length → bindArgs fd ⟨us, []⟩ = pure (ps.zip us) := by
  obtain ⟨oc, od, kV, doc, pm, an, cdv, ct, osl, rfl, lk, hcd⟩ := F.ex
  exact h kV doc pm an cdv ct
theorem glaw_mk {CW : Addr} {x : Str} {st : Stmt} {N : List Str} {k : Nat} {F : Fn} (h : HasDef K mg x st) (ps : List Str) (S : FnScope N ps (defScope st)) (hb : BindsOk x x st ps) (hlen : ∀ Es E, F Es E → Es.length = ps.length)
    (b : ∀ (base : Heap) (f : Addr) (cdv : Value) (A : Around) (outer : List Env) (s : Shared) (H : Hp) (E0 : XK), Gx (cx P w K mg base N x st f cdv A outer s H E0) k → ∀ Es E, F Es E → MR (cx P w K mg base N x st f cdv A outer s H E0) CW (startR N Es) trueS (defBody st) E trueS) : GLaw P w K mg x ps (k + 1) F := by
  obtain ⟨f, fd, hF, hm⟩ := h.ex
  refine ⟨f, fd, hm, bind_eq hF hb, fun base => hF.ok S (fun vs H Q E h => ?_) fun cdv A outer s H vs Q E hr h => ?_⟩
  · obtain ⟨Es, E', h1, h2, _⟩ := h
    rw [h2.length, hlen Es E' h1]
  · obtain ⟨Es, E', h1, h2, h4⟩ := h
    exact ⟨_, b base f cdv A outer s H E ⟨rfl, hr, S.nd⟩ Es E' h1, env_start h2, True.intro, fun v H' _ i t => h4 v H' i⟩
end
structure GoodB (b : Bk) : Prop where
  f : GoodF b
  r : b.rows.length < 10 → GoodR b ∧ GoodC b ∧ GoodJ b
def LotOk (b : Bk) : Prop := b ∈ fixedB ∨ RndB b
section
variable {P : Program} {w : World} {K : PySem.W.Frag} {mg : Str → Option Value} {base : Heap} {CA CW CB : Addr}
inductive FLaw (K : PySem.W.Frag) : Fn
  | mk (l : List Int) : FLaw K [dat K (.list (l.map PyData.int))] (dat K (.bool true))
open Classical in
theorem eq_three {b c : Bk} (ht : bookText b = bookText c → b = c) : (bkEq b c != decide (bkD b = bkD c)) = false ∧ (bkEq b c != decide (bookText b = bookText c)) = false := by
  by_cases e : b = c
  · subst e
    rw [bkEq_same, decide_eq_true rfl, decide_eq_true rfl]
    exact ⟨rfl, rfl⟩
  · rw [bkEq_not e, decide_eq_false fun q => e (bkD_inj q), decide_eq_false fun q => e (ht q)]
    exact ⟨rfl, rfl⟩
theorem ok_law (T : TxtB K mg CA CW CB) (hG : ∀ b, LotOk b → GoodB b) (hT : ∀ b c, GoodF b → GoodF c → bookText b = bookText c → b = c) : GLaw P w K mg "law" ["_law_script"] 11 (FLaw K) :=
  glaw_mk (CW := CW) (N := ["_law_script", "_law_reader_here", "_law_lots", "_law_objects", "_law_turn", "_law_whole", "_law_made", "_law_other"]) (k := 10) T.d_law ["_law_script"] ⟨rfl, rfl, rfl, by decide +kernel, rfl, by decide +kernel, by decide +kernel⟩ (fun _ _ _ _ _ _ us hl => match us, hl with | [_], _ => rfl) (fun _ _ h => by cases h <;> rfl) fun base f cdv A outer s H E0 g Es E hF => by
    cases hF with
    | mk sc =>
      refine mr_cons (ms_of (ds_set g 1 (de_imp (de_call (ok_law_reader T.toTxt) g (da_cons (de_var 0) da_nil) (.mk sc)) rd0_at)) .refl) ?_
      refine mr_ex (by exact Nat.le_of_ble_eq_true rfl) fun q _ => ?_
      obtain ⟨a, cp⟩ := q
      refine mr_cons (ms_of (ρ1 := [some (dat K (.list (sc.map PyData.int))), some (rdAt a cp), none, none, none, none, none, none]) (ds_par g 2 3 (da_cons (de_call0 (ok_law_fixed_books T.toTxt) g .mk) (da_cons (de_newN (i := 1)) da_nil))) .refl) ?_
      refine mr_lots2 (CB := CB) fun p o d => ?_
      have srb : ∀ (q : Addr) (T : Sta) (t : Option Ent), (∀ E, t = some E → SE CW q T E) → SR CW q T [none, some (val (.ref a)), some (val (.ref p)), some (val (.ref o)), t, none, none, none] := fun q T t ht i E z => by
        match i, z with
        | 1, z => cases z; exact ke_val.se
        | 2, z => cases z; exact ke_val.se
        | 3, z => cases z; exact ke_val.se
        | 4, z => exact ht E (Option.some.inj z)
        | i + 8, z => cases z
      refine mr_cons (ms_forX g (ρ' := [none, some (val (.ref a)), some (val (.ref p)), some (val (.ref o)), none, none, none, none]) (S' := LawX K CB a cp 1600 p o (fun l => l.length = 9 ∧ ∀ b ∈ l, LotOk b) []) (Pr := fun r => r = 4) (ds := fun r => rangeD 0 1 r) (js := [4]) (f := fun _ i ρ => ρ.set 4 (some (dat K (.int (i : Int)))))
        (fun _ _ => [none, some (val (.ref a)), some (val (.ref p)), some (val (.ref o)), none, none, none, none]) (fun _ i => LawX K CB a cp (400 * i) p o (fun l => l.length = 5 + i ∧ ∀ b ∈ l, LotOk b) []) (Stp.id (a := a)) PassesOwn.never
        (mi_range T.B (me_imp (me_p (de_int (i := 4))) fun v H h => ⟨4, rfl, h⟩) (fun r hr => by omega)) (pg_name (i := 4) (by exact g.nd) rfl (by first | exact Or.inl rfl | exact Or.inr rfl)) (fun r i d _ hd => by
          obtain ⟨_, rfl⟩ := range_get hd
          exact gbn 4) (fun r σ H _ e h => ⟨e, by
          obtain ⟨l, rfl, h⟩ := h
          exact ⟨fixedB, ⟨rfl, fun b hb => .inl hb⟩, h⟩⟩)
        (fun r i dd hr hd => ?_) (fun r σ H hr e h => ⟨e, by
          subst hr
          exact h⟩)) ?_
      · obtain ⟨hi, rfl⟩ := range_get hd
        subst hr
        refine mn_weak (mn_one (ms_append (a := a) (law_stp (n' := 400 * i + 400) d) 2 p (he := me_call (ok_law_random_book T.toTxt) g (da_cons (de_var 1) da_nil) .refl (.mk a cp (400 * i) (by omega)) (srb _ _ _ fun E z => by cases z; exact (ke_dat rfl).se)) (sr := srb _ _ _ fun E z => by cases z; exact (ke_dat rfl).se) (hs0 := fun H h => ?_) (hs := fun H h => ?_) (hS := fun H u vs h hu hp => ?_))) ?_
        · obtain ⟨l, hq, h1, ⟨xs, h2, h3⟩, _⟩ := h
          exact ⟨xs, h2⟩
        · obtain ⟨l, hq, h1, ⟨xs, h2, h3⟩, _⟩ := h
          refine ⟨xs, h2, ?_⟩
          have z := hq.1
          rw [dpAll_len h3, List.length_map]
          omega
        · obtain ⟨l, hq, h⟩ := h
          obtain ⟨b, hb, hu⟩ := hu
          have z := law_app d h hu hp
          refine ⟨l ++ [b], ⟨by rw [List.length_append, hq.1]; rfl, fun c hc => ?_⟩, z⟩
          rcases List.mem_append.mp hc with hc | hc
          · exact hq.2 c hc
          · rw [List.mem_singleton.mp hc]
            exact .inr hb
        · exact fun σ H h => h.forget [4]
      refine mr_pre (S1 := fun l => LawS K CB a cp 1600 p o l []) (P := fun l : List Bk => l.length = 9 ∧ ∀ b ∈ l, LotOk b) (fun H h => h) fun l hl => ?_
      have hg : ∀ b ∈ l, GoodB b := fun b hb => hG b (hl.2 b hb)
      have hlen : l.length = 9 := hl.1
      refine mr_cons (ms_forL g (xs := l) (enc := bkD) (p := p) (js := [5]) (f := fun b ρ => ρ.set 5 (some (dat K (bkD b)))) (ρ' := [none, some (val (.ref a)), some (val (.ref p)), some (val (.ref o)), none, none, none, none]) (S' := trueS) (fun _ => [none, some (val (.ref a)), some (val (.ref p)), some (val (.ref o)), none, none, none, none]) (fun i => LawS K CB a cp 1600 p o l (l.take i)) PassesOwn.never (de_var 2) (pg_name (i := 5) (by exact g.nd) rfl (by first | exact Or.inl rfl | exact Or.inr rfl)) (fun x _ => gbn 5) (fun σ H e h => ⟨e, h⟩) (fun i H h => h.2.1) (fun i b hib => ?_) (fun σ H e h => ⟨e, True.intro⟩)) (mr_ret (Stp.id (a := a)) (me_p de_bl))
      have hbm : b ∈ l := List.mem_of_getElem? hib
      have gb := hg b hbm
      have gf := gb.f
      have hv := gf.valid
      have hnx : l.take (i + 1) = l.take i ++ [b] := by rw [List.take_add_one, hib]; rfl
      rw [hnx]
      generalize hm : l.take i = m
      have hmm : ∀ c ∈ m, c ∈ l := fun c hc => by rw [← hm] at hc; exact List.mem_of_mem_take hc
      have hml : m.length ≤ 9 := by rw [← hm, List.length_take]; omega
      refine mn_cons (ms_of (ds_set g 6 (E := bookE K CB b) (de_make (ok_Book_init T).to3 g T.g_Book (da_cons (de_ixTc (ds := [pursesD b.purses, limitsD b.limits, rowsD b.rows]) (de_var 5)) (da_cons (de_ixTc (ds := [pursesD b.purses, limitsD b.limits, rowsD b.rows]) (de_var 5)) (da_cons (de_ixTc (ds := [pursesD b.purses, limitsD b.limits, rowsD b.rows]) (de_var 5)) da_nil))) (fun x => BkSt K CB x b) (fun x => .mk x b hv) (fun x H t => ⟨x, rfl, t⟩))) .refl) ?_
      refine mn_cons (ms_of (ρ1 := [none, some (val (.ref a)), some (val (.ref p)), some (val (.ref o)), none, some (dat K (bkD b)), some (bookE K CB b), none]) (ds_skip (dt_w (dw_orF (dt_c (dc_neF g (de_prop (ok_Book_form T) T.c_Book g (de_var 6) bk_ins (.mk b)) (de_var 5) (pl_bkD b) rfl)) (dw_or1 (nt (de_call (ok_law_functions_right T) g (da_cons (de_var 6) da_nil) (.mk b gf))))))) .refl) ?_
      refine mn_cons (S1 := LawS K CB a cp 1600 p o l m) (ρ' := [none, some (val (.ref a)), some (val (.ref p)), some (val (.ref o)), none, some (dat K (bkD b)), some (bookE K CB b), none]) ?_ ?_
      · have lenW : ∀ {p1 p2 p3 p4 p5 : Pos} {kk}, DE (cx P w K mg base ["_law_script", "_law_reader_here", "_law_lots", "_law_objects", "_law_turn", "_law_whole", "_law_made", "_law_other"] "law" (top 103) f cdv A outer s H E0) [none, some (val (.ref a)), some (val (.ref p)), some (val (.ref o)), none, some (dat K (bkD b)), some (bookE K CB b), none] (.Call (.Name "len" p1) [.Subscript (.Name "_law_whole" p2) (.Constant (.int 2) kk p3) p4] [] p5) (dat K (.int (b.rows.length : Nat))) := fun {p1 p2 p3 p4 p5 kk} => de_is (de_lenT T.B (ds := b.rows.map rowD) (de_ixTc (ds := [pursesD b.purses, limitsD b.limits, rowsD b.rows]) (de_var 5))) (by rw [List.length_map])
        by_cases h10 : b.rows.length < 10
        · obtain ⟨gr, gc, gj⟩ := gb.r h10
          exact ms_of (ds_ifT (dt_is (dt_c (dc_lt lenW de_int)) (decide_eq_true (by omega))) (dn_one (ds_skip (dt_w (dw_orF (nt (de_call (ok_law_rows_right T) g (da_cons (de_var 6) da_nil) (.mk b gr))) (dw_orF (nt (de_call (ok_law_changes_right T) g (da_cons (de_var 6) da_nil) (.mk b gc))) (dw_or1 (nt (de_call (ok_law_joined_right T) g (da_cons (de_var 6) da_nil) (.mk b gj)))))))))) .refl
        · exact ms_of (ds_skip (dt_is (dt_c (dc_lt lenW de_int)) (decide_eq_false (by omega)))) .refl
      refine mn_cons (ms_weak (ρ'' := [none, some (val (.ref a)), some (val (.ref p)), some (val (.ref o)), none, some (dat K (bkD b)), some (bookE K CB b), none]) (ms_of (ρ1 := [none, some (val (.ref a)), some (val (.ref p)), some (objE K CB o m), none, some (dat K (bkD b)), some (bookE K CB b), none]) (ds_eachE g (xs := m) (f0 := bookE K CB) [7] PassesOwn.never (di_Le (de_imp (de_var 3) obj_lsx)) (pg_name (i := 7) (by exact g.nd) rfl (by first | exact Or.inl rfl | exact Or.inr rfl)) (fun x _ => gbn 7) fun c hc => ?_) (obj_up 3 rfl)) (fun σ H h _ => ?_) (fun H h => h)) ?_
      · have gc := (hg c (hmm c hc)).f
        obtain ⟨e1, e2⟩ := eq_three (hT b c gf gc)
        refine lbW (dn_at (ρ' := [none, some (val (.ref a)), some (val (.ref p)), some (objE K CB o m), none, some (dat K (bkD b)), some (bookE K CB b), some (bookE K CB c)]) rfl ?_)
        exact dn_weak (dn_one (ds_skip (dt_w (dw_orF (dt_is (dt_c (dc_neB (de_c (dc_eqOwn (ok_Book_eq T) g (de_var 6) (de_var 7) bk_ins bk_ins (.mk b c))) (de_c (dc_eq g (de_prop (ok_Book_form T) T.c_Book g (de_var 6) bk_ins (.mk b)) (de_prop (ok_Book_form T) T.c_Book g (de_var 7) bk_ins (.mk c)) (pl_bkD b) (pl_bkD c))))) e1)
          (dw_or1 (dt_is (dt_c (dc_neB (de_c (dc_eqOwn (ok_Book_eq T) g (de_var 6) (de_var 7) bk_ins bk_ins (.mk b c))) (de_c (dc_eqS (de_strOwn T.B (ok_Book_str T) g (de_var 6) bk_ins (.mk b hv.toBkOk gf.small)) (de_strOwn T.B (ok_Book_str T) g (de_var 7) bk_ins (.mk c gc.valid.toBkOk gc.small)))))) e2)))))) fun σ H h => h.forget [7]
      · intro i E z
        match i, z with
        | 1, z => exact h 1 E z
        | 2, z => exact h 2 E z
        | 3, z =>
          cases z
          obtain ⟨v, g1, g2, _⟩ := h 3 _ rfl
          exact ⟨v, g1, g2⟩
        | 5, z => exact h 5 E z
        | 6, z => exact h 6 E z
        | i + 8, z => cases z
      refine mn_weak (mn_one (ms_append (a := a) (Stp.id (a := a)) 3 o (he := me_p (de_var 6)) (sr := fun i E z => ?_) (hs0 := fun H h => ?_) (hs := fun H h => ?_) (hS := fun H u vs h hu hp => law_obj d h hu hp))) ?_
      · match i, z with
        | 1, z => cases z; exact ke_val.se
        | 2, z => cases z; exact ke_val.se
        | 3, z => cases z; exact ke_val.se
        | 5, z => cases z; exact (ke_dat (nl_bkD b)).se
        | 6, z => cases z; exact se_book
        | i + 8, z => cases z
      · obtain ⟨ys, h4, _⟩ := h.2.2
        exact ⟨ys, h4⟩
      · obtain ⟨ys, h4, h5⟩ := h.2.2
        refine ⟨ys, h4, ?_⟩
        rw [h5.length, List.length_map]
        omega
      · exact fun σ H h => h.forget [5, 6]
end
end Lc
end
section
/-! Plain: a book's text tells the book. -/
namespace Lc
open PySem L2 TL
theorem num_inj {i j : Int} (hi : NumOk i) (hj : NumOk j) (e : numS i = numS j) : i = j := by
  have z := num_reads hi
  rw [e, num_reads hj] at z
  exact (Option.some.inj z).symm
theorem names_inj {l m : List Str} (h : NamesOk l) (h' : NamesOk m) (e : wordOf l = wordOf m) : l = m := by
  rw [← split_names h, ← split_names h', e]
theorem nums_split {s : List Int} (hne : s ≠ []) (h : ∀ x ∈ s, 0 ≤ x) : PySem.Txt.split (wordOf (s.map numS)) "," = s.map numS := by
  have ne : s.map numS ≠ [] := fun e => hne (List.map_eq_nil_iff.mp e)
  rw [wordOf_ne ne]
  exact split_join tl_comma (by decide +kernel) ne fun p hp hc => by
    obtain ⟨i, hi, rfl⟩ := List.mem_map.mp hp
    exact num_free (h i hi) (by omega) hc
theorem map_injP {α β : Type} {f : α → β} {P : α → Prop} (h : ∀ x y, P x → P y → f x = f y → x = y) : ∀ {l m : List α}, (∀ x ∈ l, P x) → (∀ x ∈ m, P x) → l.map f = m.map f → l = m
  | [], [], _, _, _ => rfl
  | [], _ :: _, _, _, e => by cases e
  | _ :: _, [], _, _, e => by cases e
  | x :: l, y :: m, hl, hm, e => by
    rw [List.map_cons, List.map_cons] at e
    have e := List.cons.inj e
    rw [h x y (hl x (by simp)) (hm y (by simp)) e.1, map_injP h (fun z hz => hl z (by simp [hz])) (fun z hz => hm z (by simp [hz])) e.2]
theorem nums_inj {s t : List Int} (hs : s ≠ []) (ht : t ≠ []) (h : ∀ x ∈ s, NumOk x) (h' : ∀ x ∈ t, NumOk x) (e : wordOf (s.map numS) = wordOf (t.map numS)) : s = t := by
  have z := nums_split hs fun x hx => (h x hx).1
  rw [e, nums_split ht fun x hx => (h' x hx).1] at z
  exact (map_injP (P := NumOk) (fun x y hx hy => num_inj hx hy) h' h z).symm
theorem ln_inj {x y : Ln} (hx : x.Ok) (hy : y.Ok) (e : x.words = y.words) : x = y := by
  cases x with
  | p x =>
    cases y with
    | p y =>
      obtain ⟨o, sm⟩ := hx
      obtain ⟨o', sm'⟩ := hy
      simp only [Ln.words, purseWords, List.cons.injEq, and_true, true_and] at e
      obtain ⟨e1, e2, e3, e4, e5⟩ := e
      have f1 := num_inj ⟨o.first, sm.first⟩ ⟨o'.first, sm'.first⟩ e3
      have f2 := num_inj ⟨Int.le_trans o.first o.last, sm.last⟩ ⟨Int.le_trans o'.first o'.last, sm'.last⟩ e4
      have f3 := names_inj o.kinds o'.kinds e5
      cases x
      cases y
      simp only at e1 e2 f1 f2 f3
      rw [e1, e2, f1, f2, f3]
    | l y => simp [Ln.words, purseWords, limitWords] at e
    | r y => simp [Ln.words, purseWords, rowWords] at e
  | l x =>
    cases y with
    | p y => simp [Ln.words, purseWords, limitWords] at e
    | l y =>
      obtain ⟨o, sm⟩ := hx
      obtain ⟨o', sm'⟩ := hy
      simp only [Ln.words, limitWords, List.cons.injEq, and_true, true_and] at e
      obtain ⟨e1, e2, e3, e4⟩ := e
      have f1 := num_inj ⟨o.first, Int.le_trans o.last sm.last⟩ ⟨o'.first, Int.le_trans o'.last sm'.last⟩ e2
      have f2 := num_inj ⟨Int.le_trans o.first o.last, sm.last⟩ ⟨Int.le_trans o'.first o'.last, sm'.last⟩ e3
      have f3 := num_inj ⟨o.cap, sm.cap⟩ ⟨o'.cap, sm'.cap⟩ e4
      have f4 := names_inj o.names o'.names e1
      cases x
      cases y
      simp only at f1 f2 f3 f4
      rw [f1, f2, f3, f4]
    | r y => simp [Ln.words, limitWords, rowWords] at e
  | r x =>
    cases y with
    | p y => simp [Ln.words, purseWords, rowWords] at e
    | l y => simp [Ln.words, limitWords, rowWords] at e
    | r y =>
      obtain ⟨o, sm, ne⟩ := hx
      obtain ⟨o', sm', ne'⟩ := hy
      simp only [Ln.words, rowWords, List.cons.injEq, and_true] at e
      obtain ⟨e0, e1, e2, e3⟩ := e
      cases x with
      | buy d k a =>
        cases y with
        | buy d' k' a' =>
          have f1 := num_inj (i := d) (j := d') ⟨o.day, sm.1⟩ ⟨o'.day, sm'.1⟩ e1
          have f2 := num_inj (i := a) (j := a') ⟨o.rest, sm.2⟩ ⟨o'.rest, sm'.2⟩ e3
          have e2 : k = k' := e2
          rw [f1, f2, e2]
        | paid d' k' s' => exact absurd (show ("buy" : Str) = "paid" from e0) (by decide +kernel)
      | paid d k s =>
        cases y with
        | buy d' k' a' => exact absurd (show ("paid" : Str) = "buy" from e0) (by decide +kernel)
        | paid d' k' s' =>
          have f1 := num_inj (i := d) (j := d') ⟨o.day, sm.1⟩ ⟨o'.day, sm'.1⟩ e1
          have f2 := nums_inj (s := s) (t := s') (ne rfl) (ne' rfl) (fun x hx => ⟨o.rest.1 x hx, sm.2.1 x hx⟩) (fun x hx => ⟨o'.rest.1 x hx, sm'.2.1 x hx⟩) e3
          have e2 : k = k' := e2
          rw [f1, f2, e2]
theorem text_inj {b c : Bk} (hb : GoodF b) (hc : GoodF c) (e : bookText b = bookText c) : b = c := by
  have z : bookLines b = bookLines c := by rw [← split_book hb.valid.ne hb.lines, ← split_book hc.valid.ne hc.lines, e]
  rw [← lns_text, ← lns_text] at z
  have w : lns b = lns c := map_injP (P := Ln.Ok) (fun x y hx hy q => ln_inj hx hy (by rw [← split_line hx, ← split_line hy, q])) hb.lines hc.lines z
  have h1 := lns_p b
  have h2 := lns_l b
  have h3 := lns_r b
  rw [w, lns_p] at h1
  rw [w, lns_l] at h2
  rw [w, lns_r] at h3
  cases b
  cases c
  simp only at h1 h2 h3
  rw [h1, h2, h3]
end Lc
end
section
/-! Plain: what makes a book good. -/
namespace Lc
open PySem L2
theorem range_getD {α : Type} (l : List α) (d : α) : l = (List.range l.length).map fun j => l.getD j d := by
  apply List.ext_getElem?
  intro i
  rw [List.getElem?_map]
  by_cases h : i < l.length
  · rw [List.getElem?_range h, List.getElem?_eq_getElem h]
    show some l[i] = some (l.getD i d)
    rw [List.getD_eq_getElem?_getD, List.getElem?_eq_getElem h]
    rfl
  · rw [List.getElem?_eq_none (by omega), List.getElem?_eq_none (by rw [List.length_range]; omega)]
    rfl
theorem zip_range {α : Type} (l : List α) (d : α) : l.zipIdx = (List.range l.length).map fun j => (l.getD j d, j) := by
  apply List.ext_getElem?
  intro i
  rw [List.getElem?_map, List.getElem?_zipIdx]
  by_cases h : i < l.length
  · rw [List.getElem?_range h, List.getElem?_eq_getElem h]
    simp [List.getD_eq_getElem?_getD, h]
  · rw [List.getElem?_eq_none (by omega), List.getElem?_eq_none (by rw [List.length_range]; omega)]
    rfl
theorem leD_int (i j : Int) : leD (.int i) (.int j) = decide (i ≤ j) := by
  unfold leD
  rw [PySem.W.dataLt_int]
  by_cases h : i ≤ j
  · rw [decide_eq_true h, decide_eq_false (by omega)]
    rfl
  · rw [decide_eq_false h, decide_eq_true (by omega)]
    rfl
def leI (i j : Int) : Bool := decide (i ≤ j)
theorem sort_ints (l : List Int) : (l.map PyData.int).mergeSort leD = (l.mergeSort leI).map PyData.int := by
  symm
  exact List.map_mergeSort (f := PyData.int) (r := leI) (s := leD) fun a _ b _ => (leD_int a b).symm
theorem sortI_eq {l m : List Int} (h : l.Perm m) (hs : m.Pairwise fun a b => leI a b = true) : l.mergeSort leI = m := by
  have tr : ∀ a b c : Int, leI a b = true → leI b c = true → leI a c = true := fun a b c h1 h2 => by
    unfold leI at h1 h2 ⊢
    have h1 := of_decide_eq_true h1
    have h2 := of_decide_eq_true h2
    exact decide_eq_true (by omega)
  have to : ∀ a b : Int, (leI a b || leI b a) = true := fun a b => by
    unfold leI
    rw [Bool.or_eq_true, decide_eq_true_eq, decide_eq_true_eq]
    omega
  refine List.Perm.eq_of_pairwise (le := fun x y => leI x y = true) (fun a b _ _ h1 h2 => ?_) (List.pairwise_mergeSort tr to l) hs ((List.mergeSort_perm l leI).trans h)
  unfold leI at h1 h2
  have h1 := of_decide_eq_true h1
  have h2 := of_decide_eq_true h2
  omega
theorem cov_slots (l : Limit) (z : Str) (d : Int) : covers l z d = decide ((z, d) ∈ slotsOf (areaOf l)) := by
  rw [Bool.eq_iff_iff, covers_not, decide_eq_true_eq, mem_slotsOf]
  exact (mem_box (s := (z, d))).symm
theorem over_sorted (b : Bk) (z : Str) (d : Int) : ((limitsOver b z d).map PyData.int).mergeSort leD = ((List.range b.limits.length).filter fun k => match b.limits[k]? with | some l => decide ((z, d) ∈ slotsOf (areaOf l)) | none => false).map fun (k : Nat) => PyData.int (k : Int) := by
  rw [sort_ints]
  have hp : (limitsOver b z d).Perm (((List.range b.limits.length).filter fun k => match b.limits[k]? with | some l => decide ((z, d) ∈ slotsOf (areaOf l)) | none => false).map fun (k : Nat) => (k : Int)) := by
    unfold limitsOver
    refine ((List.mergeSort_perm _ _).map _).trans ?_
    unfold overs
    rw [zip_range b.limits ⟨[], 0, 0, 0⟩, List.filter_map, List.map_map, List.map_map]
    refine List.Perm.of_eq ?_
    have e : (List.range b.limits.length).filter ((fun q : Limit × Nat => covers q.1 z d) ∘ fun j => (b.limits.getD j ⟨[], 0, 0, 0⟩, j)) = (List.range b.limits.length).filter fun k => match b.limits[k]? with | some l => decide ((z, d) ∈ slotsOf (areaOf l)) | none => false := by
      refine List.filter_congr fun k hk => ?_
      have hk := List.mem_range.mp hk
      show covers (b.limits.getD k _) z d = _
      rw [List.getD_eq_getElem?_getD, List.getElem?_eq_getElem hk]
      exact cov_slots _ z d
    rw [e]
    rfl
  rw [sortI_eq hp ?_, List.map_map]
  · rfl
  · rw [List.pairwise_map]
    refine List.Pairwise.imp (fun {a b} h => ?_) ((List.pairwise_lt_range (n := b.limits.length)).sublist List.filter_sublist)
    exact decide_eq_true (by omega)
theorem ps_of {b : Bk} {n : Str} {x : Str × Str} (h : sponsorOf b n = some x) : ∃ p ∈ b.purses, p.name = n ∧ p.sponsor = x.2 := by
  unfold sponsorOf pairsOf at h
  have h1 := List.mem_of_find?_eq_some h
  have h2 := List.find?_some h
  obtain ⟨p, hp, rfl⟩ := List.mem_map.mp h1
  exact ⟨p, hp, of_decide_eq_true h2, rfl⟩
theorem valid_of {b : Bk} (purses : ∀ p ∈ b.purses, PurseOk p) (limits : ∀ l ∈ b.limits, LimitOk l) (rows : ∀ r ∈ b.rows, RowOk r) (np : b.purses.length ≤ 100) (nl : b.limits.length ≤ 100) (nr : b.rows.length ≤ 100) (days : ∀ l ∈ b.limits, l.last ≤ 1000) (ne : b.purses ≠ []) (asc : Asc (namesOf b))
    (known : ∀ l ∈ b.limits, ∀ n ∈ l.names, n ∈ namesOf b) (spons : ∀ l ∈ b.limits, ∀ p ∈ b.purses, ∀ q ∈ b.purses, p.name ∈ l.names → q.name ∈ l.names → p.sponsor = q.sponsor) (nest : b.limits.Pairwise fun x y => nested x y = true) (shares : ∀ r ∈ b.rows, r.isPaid = true → sharesOk b r) (over : ∀ l ∈ b.limits, paidWithin b l ≤ l.cap) : Valid b where
  purses := purses
  limits := limits
  rows := rows
  np := np
  nl := nl
  nr := nr
  days := days
  ne := ne
  asc := asc
  known := known
  spons := fun l hl n hn m hm x y h1 h2 => by
    obtain ⟨p, hp, p1, p2⟩ := ps_of h1
    obtain ⟨q, hq, q1, q2⟩ := ps_of h2
    rw [← p2, ← q2]
    exact spons l hl p hp q hq (by rw [p1]; exact hn) (by rw [q1]; exact hm)
  nest := fun j k x y hjk h1 h2 => by
    obtain ⟨a1, a2⟩ := List.getElem?_eq_some_iff.mp h1
    obtain ⟨b1, b2⟩ := List.getElem?_eq_some_iff.mp h2
    have z := List.pairwise_iff_getElem.mp nest j k a1 b1 hjk
    rw [a2, b2] at z
    exact z
  shares := shares
  over := over
theorem lines_of {b : Bk} (h : Valid b) (s : Small b) : ∀ x ∈ lns b, x.Ok := fun x hx => by
  unfold lns at hx
  rcases List.mem_append.mp hx with hx | hx
  · rcases List.mem_append.mp hx with hx | hx
    · obtain ⟨p, hp, rfl⟩ := List.mem_map.mp hx
      exact ⟨h.purses p hp, s.purses p hp⟩
    · obtain ⟨p, hp, rfl⟩ := List.mem_map.mp hx
      exact ⟨h.limits p hp, s.limits p hp⟩
  · obtain ⟨r, hr, rfl⟩ := List.mem_map.mp hx
    refine ⟨h.rows r hr, s.rows r hr, fun hp e => ?_⟩
    have z := (h.shares r hr hp).1
    rw [e] at z
    exact h.ne (List.eq_nil_of_length_eq_zero z.symm)
theorem spare_ok : RowOk spareR := ⟨by decide, ⟨by decide, by decide, by decide +kernel⟩, by show (0 : Int) ≤ 3; decide⟩
theorem good_of {b : Bk} (h : Valid b) (s : Small b) (area : ∀ l ∈ b.limits, (areaOf l).length < 64) (np : b.purses.length < 100) (nl : b.limits.length < 100) (free : ("mm" : Str) ∉ namesOf b)
    (total : b.rows.length < 10 → ∃ U : List Slot, (∀ l ∈ b.limits, ∀ s ∈ areaOf l, s ∈ U) ∧ U.length ≤ 1000 ∧ ∀ l ∈ b.limits, U.length + (areaOf l).length < 64) : GoodB b := by
  have slots : ∀ l ∈ b.limits, SlotsOk (areaOf l) := fun l hl => ⟨fun t ht => by
    obtain ⟨h1, h2, h3⟩ := mem_box.mp ht
    have o := h.limits l hl
    exact ⟨o.names.all _ h1, Int.le_trans o.first h2⟩, area l hl⟩
  have few : ∀ l ∈ b.limits, l.names.length ≤ 100 := fun l hl => (s.limits l hl).names
  refine ⟨⟨h, s, lines_of h s, slots, few, fun z _ d => over_sorted b z d⟩, fun h10 => ⟨⟨fun i _ => valid_upTo h i, h10, valid_row h spare_ok (fun q => by cases q) (fun l => rfl) (by omega)⟩, ⟨h, slots, few⟩, ⟨h, np, nl, free, slots, few, total h10⟩⟩⟩
end Lc
end
section
/-! Plain: the fixed books are good. -/
namespace Lc
open PySem L2
instance dName (z : Str) : Decidable (NameOk z) := decidable_of_iff (1 ≤ z.length ∧ z.length ≤ 8 ∧ ∀ c ∈ z.cps.toList, c ∈ alpha.cps.toList) ⟨fun h => ⟨h.1, h.2.1, h.2.2⟩, fun h => ⟨h.1, h.2, h.3⟩⟩
instance dAsc : ∀ l : List Str, Decidable (Asc l)
  | [] => .isTrue True.intro
  | [_] => .isTrue True.intro
  | a :: b :: r =>
    have := dAsc (b :: r)
    inferInstanceAs (Decidable (ltS a b = true ∧ Asc (b :: r)))
instance dNames (l : List Str) : Decidable (NamesOk l) := decidable_of_iff (l ≠ [] ∧ (∀ z ∈ l, NameOk z) ∧ Asc l ∧ l.length ≤ 1000) ⟨fun h => ⟨h.1, h.2.1, h.2.2.1, h.2.2.2⟩, fun h => ⟨h.1, h.2, h.3, h.4⟩⟩
instance dPurse (p : Purse) : Decidable (PurseOk p) := decidable_of_iff (NameOk p.name ∧ NameOk p.sponsor ∧ NamesOk p.kinds ∧ 0 ≤ p.first ∧ p.first ≤ p.last) ⟨fun h => ⟨h.1, h.2.1, h.2.2.1, h.2.2.2.1, h.2.2.2.2⟩, fun h => ⟨h.1, h.2, h.3, h.4, h.5⟩⟩
instance dLimit (p : Limit) : Decidable (LimitOk p) := decidable_of_iff (NamesOk p.names ∧ 0 ≤ p.first ∧ p.first ≤ p.last ∧ 0 ≤ p.cap) ⟨fun h => ⟨h.1, h.2.1, h.2.2.1, h.2.2.2⟩, fun h => ⟨h.1, h.2, h.3, h.4⟩⟩
instance dRest : ∀ r : Rw, Decidable (RestOk r)
  | .buy _ _ a => inferInstanceAs (Decidable (0 ≤ a))
  | .paid _ _ s => inferInstanceAs (Decidable ((∀ x ∈ s, 0 ≤ x) ∧ s.length ≤ 1000))
instance dRow (r : Rw) : Decidable (RowOk r) := decidable_of_iff (0 ≤ r.day ∧ NameOk r.kind ∧ RestOk r) ⟨fun h => ⟨h.1, h.2.1, h.2.2⟩, fun h => ⟨h.1, h.2, h.3⟩⟩
instance dSmallP (p : Purse) : Decidable (SmallP p) := decidable_of_iff (p.first ≤ 1000000 ∧ p.last ≤ 1000000 ∧ p.kinds.length ≤ 20) ⟨fun h => ⟨h.1, h.2.1, h.2.2⟩, fun h => ⟨h.1, h.2, h.3⟩⟩
instance dSmallL (p : Limit) : Decidable (SmallL p) := decidable_of_iff (p.last ≤ 1000000 ∧ p.cap ≤ 1000000 ∧ p.names.length ≤ 100) ⟨fun h => ⟨h.1, h.2.1, h.2.2⟩, fun h => ⟨h.1, h.2, h.3⟩⟩
instance dSmallR : ∀ r : Rw, Decidable (SmallR r)
  | .buy d _ a => inferInstanceAs (Decidable (d ≤ 1000000 ∧ a ≤ 1000000))
  | .paid d _ s => inferInstanceAs (Decidable (d ≤ 1000000 ∧ (∀ x ∈ s, x ≤ 1000000) ∧ s.length ≤ 100))
instance dShares (b : Bk) (r : Rw) : Decidable (sharesOk b r) := inferInstanceAs (Decidable (_ ∧ _))
theorem good1 : GoodB bk1 := good_of (valid_of (by decide +kernel) (by decide +kernel) (by decide +kernel) (by decide +kernel) (by decide +kernel) (by decide +kernel) (by decide +kernel) (by intro h; cases h) (by decide +kernel) (by decide +kernel) (by decide +kernel) (by decide +kernel) (by decide +kernel) (by decide +kernel)) ⟨by decide +kernel, by decide +kernel, by decide +kernel⟩ (by decide +kernel) (by decide +kernel) (by decide +kernel) (by decide +kernel) (fun _ => ⟨boxOf (namesOf bk1) 0 9, by decide +kernel, by decide +kernel, by decide +kernel⟩)
theorem good2 : GoodB bk2 := good_of (valid_of (by decide +kernel) (by decide +kernel) (by decide +kernel) (by decide +kernel) (by decide +kernel) (by decide +kernel) (by decide +kernel) (by intro h; cases h) (by decide +kernel) (by decide +kernel) (by decide +kernel) (by decide +kernel) (by decide +kernel) (by decide +kernel)) ⟨by decide +kernel, by decide +kernel, by decide +kernel⟩ (by decide +kernel) (by decide +kernel) (by decide +kernel) (by decide +kernel) (fun _ => ⟨boxOf (namesOf bk2) 0 9, by decide +kernel, by decide +kernel, by decide +kernel⟩)
theorem good3 : GoodB bk3 := good_of (valid_of (by decide +kernel) (by decide +kernel) (by decide +kernel) (by decide +kernel) (by decide +kernel) (by decide +kernel) (by decide +kernel) (by intro h; cases h) (by decide +kernel) (by decide +kernel) (by decide +kernel) (by decide +kernel) (by decide +kernel) (by decide +kernel)) ⟨by decide +kernel, by decide +kernel, by decide +kernel⟩ (by decide +kernel) (by decide +kernel) (by decide +kernel) (by decide +kernel) (fun _ => ⟨boxOf (namesOf bk3) 0 9, by decide +kernel, by decide +kernel, by decide +kernel⟩)
theorem good4 : GoodB bk4 := good_of (valid_of (by decide +kernel) (by decide +kernel) (by decide +kernel) (by decide +kernel) (by decide +kernel) (by decide +kernel) (by decide +kernel) (by intro h; cases h) (by decide +kernel) (by decide +kernel) (by decide +kernel) (by decide +kernel) (by decide +kernel) (by decide +kernel)) ⟨by decide +kernel, by decide +kernel, by decide +kernel⟩ (by decide +kernel) (by decide +kernel) (by decide +kernel) (by decide +kernel) (fun _ => ⟨boxOf (namesOf bk4) 0 9, by decide +kernel, by decide +kernel, by decide +kernel⟩)
theorem good5 : GoodB bk5 := good_of (valid_of (by decide +kernel) (by decide +kernel) (by decide +kernel) (by decide +kernel) (by decide +kernel) (by decide +kernel) (by decide +kernel) (by intro h; cases h) (by decide +kernel) (by decide +kernel) (by decide +kernel) (by decide +kernel) (by decide +kernel) (by decide +kernel)) ⟨by decide +kernel, by decide +kernel, by decide +kernel⟩ (by decide +kernel) (by decide +kernel) (by decide +kernel) (by decide +kernel) (fun h => absurd h (by decide))
theorem fixed_good : ∀ b ∈ fixedB, GoodB b := fun b hb => by
  simp only [fixedB, List.mem_cons, List.not_mem_nil, or_false] at hb
  rcases hb with rfl | rfl | rfl | rfl | rfl
  · exact good1
  · exact good2
  · exact good3
  · exact good4
  · exact good5
end Lc
end
section
/-! Plain: the random books are good. -/
namespace Lc
open PySem L2
theorem asc_pw : ∀ {l : List Str}, Asc l → l.Pairwise fun a b => a.cps.toList < b.cps.toList
  | [], _ => .nil
  | a :: l, h => .cons (fun x hx => asc_head h x hx) (asc_pw (asc_tail h))
theorem pw_asc : ∀ {l : List Str}, (l.Pairwise fun a b => a.cps.toList < b.cps.toList) → Asc l
  | [], _ => True.intro
  | [_], _ => True.intro
  | a :: b :: r, .cons h t => ⟨decide_eq_true (h b (by simp)), pw_asc t⟩
theorem names_sub {l m : List Str} (h : NamesOk l) (s : SomeP l m) : NamesOk m := ⟨s.1, fun z hz => h.all z (s.2.subset hz), pw_asc ((asc_pw h.asc).sublist s.2), Nat.le_trans s.2.length_le h.few⟩
theorem pools_ok : ∀ l ∈ pools, NamesOk l ∧ ("mm" : Str) ∉ l := by decide +kernel
theorem kinds_ok : NamesOk kindsPool := by decide +kernel
theorem spons_ok : ∀ s ∈ spons, NameOk s := by decide +kernel
theorem kindsR_ok : ∀ s ∈ kindsR, NameOk s := by decide +kernel
theorem any_filter {α : Type} (l : List α) (f : α → Bool) : l.any f = !decide (l.filter f = []) := by
  rw [Bool.eq_iff_iff, List.any_eq_true, Bool.not_eq_true', decide_eq_false_iff_not, List.filter_eq_nil_iff]
  constructor
  · rintro ⟨x, hx, hf⟩ q
    exact q x hx hf
  · intro q
    cases e : l.any f with
    | true => exact List.any_eq_true.mp e
    | false =>
      rw [List.any_eq_false] at e
      exact absurd e q
theorem all_filter (l m : List Str) : (l.all fun n => decide (n ∈ m)) = !decide (l.filter (fun n => decide (n ∉ m)) ≠ []) := by
  rw [Bool.eq_iff_iff, List.all_eq_true, Bool.not_eq_true', decide_eq_false_iff_not, Decidable.not_not, List.filter_eq_nil_iff]
  constructor
  · intro h x hx q
    exact (of_decide_eq_true q) (of_decide_eq_true (h x hx))
  · intro h x hx
    have z := h x hx
    by_cases e : x ∈ m
    · exact decide_eq_true e
    · exact absurd (decide_eq_true e) z
theorem apart_law (x y : Limit) : apart x y = lawApart x y := by
  unfold apart lawApart
  rw [any_filter]
  generalize decide (List.filter (fun n => decide (n ∈ y.names)) x.names = []) = p
  generalize decide (x.last < y.first) = q
  generalize decide (y.last < x.first) = r
  cases p <;> cases q <;> cases r <;> rfl
theorem within_law (x y : Limit) : within x y = lawWithin x y := by
  unfold within lawWithin
  rw [all_filter]
  generalize (!decide (List.filter (fun n => decide (n ∉ y.names)) x.names ≠ [])) = p
  generalize decide (y.first ≤ x.first) = q
  generalize decide (x.last ≤ y.last) = r
  cases p <;> cases q <;> cases r <;> rfl
theorem nest_of {x y : Limit} (h : lawCrosses x y = false) : nested x y = true := by
  unfold lawCrosses at h
  unfold nested
  rw [apart_law, within_law, within_law]
  revert h
  generalize lawApart x y = p
  generalize lawWithin x y = q
  generalize lawWithin y x = r
  cases p <;> cases q <;> cases r <;> simp
theorem zip_getD {ps : List Purse} {s : List Int} (h : s.length = ps.length) {j : Nat} (hj : j < ps.length) (d0 : Purse × Int) : ∃ p x, ps[j]? = some p ∧ s[j]? = some x ∧ (ps.zip s).getD j d0 = (p, x) ∧ nameAt ps j = p.name ∧ s.getD j 0 = x := by
  have hj' : j < s.length := by omega
  refine ⟨ps[j], s[j], List.getElem?_eq_getElem hj, List.getElem?_eq_getElem hj', ?_, ?_, ?_⟩
  · have hz : j < (ps.zip s).length := by rw [List.length_zip]; omega
    rw [List.getD_eq_getElem?_getD, List.getElem?_eq_getElem hz, List.getElem_zip]
    rfl
  · unfold nameAt
    rw [List.getD_eq_getElem?_getD, List.getElem?_map, List.getElem?_eq_getElem hj]
    rfl
  · rw [List.getD_eq_getElem?_getD, List.getElem?_eq_getElem hj']
    rfl
theorem paid_spent {ps : List Purse} {l : Limit} {r : Rw} (h : r.isPaid = true → r.shares.length = ps.length) : paidR ps l r = spentR ps l r := by
  unfold paidR spentR inDays
  by_cases hp : r.isPaid = true
  · have hl := h hp
    rw [if_pos hp, hp, Bool.true_and]
    by_cases hd : (decide (l.first ≤ r.day) && decide (r.day ≤ l.last)) = true
    · rw [if_pos hd]
      unfold spentIn
      have hn : (ps.zip r.shares).length = ps.length := by rw [List.length_zip]; omega
      have hz := range_getD (ps.zip r.shares) (⟨"", "", [], 0, 0⟩, 0)
      rw [hn] at hz
      rw [hz, List.filter_map, List.map_map]
      have ef : (List.range ps.length).filter ((fun q : Purse × Int => covers l q.1.name r.day) ∘ fun j => (ps.zip r.shares).getD j (⟨"", "", [], 0, 0⟩, 0)) = (List.range ps.length).filter fun j => decide (nameAt ps j ∈ l.names) := List.filter_congr fun j hj => by
        obtain ⟨p, x, _, _, e3, e4, _⟩ := zip_getD hl (List.mem_range.mp hj) (⟨"", "", [], 0, 0⟩, 0)
        show covers l ((ps.zip r.shares).getD j _).1.name r.day = _
        rw [e3, e4]
        unfold covers
        rw [hd, Bool.and_true]
      rw [ef]
      congr 1
      refine List.map_congr_left fun j hj => ?_
      obtain ⟨p, x, _, _, e3, _, e5⟩ := zip_getD hl (List.mem_range.mp (List.mem_filter.mp hj).1) (⟨"", "", [], 0, 0⟩, 0)
      show ((ps.zip r.shares).getD j _).2 = _
      rw [e3, e5]
    · rw [if_neg hd]
      have no : ((ps.zip r.shares).filter fun q => covers l q.1.name r.day) = [] := List.filter_eq_nil_iff.mpr fun q _ c => by
        unfold covers at c
        rw [Bool.and_eq_true] at c
        exact hd c.2
      rw [no]
      rfl
  · rw [if_neg hp, if_neg]
    rw [Bool.not_eq_true] at hp
    rw [hp]
    exact Bool.false_ne_true
theorem sum_leI {c : Int} : ∀ {l : List Int}, (∀ x ∈ l, x ≤ c) → l.sum ≤ c * (l.length : Int)
  | [], _ => by simp
  | x :: l, h => by
    have ih := sum_leI (c := c) (l := l) fun y hy => h y (by simp [hy])
    have hx := h x (by simp)
    rw [List.sum_cons, List.length_cons]
    have e : c * ((l.length + 1 : Nat) : Int) = c * (l.length : Int) + c := by
      rw [Int.natCast_add, Int.mul_add]
      simp
    rw [e]
    omega
theorem box_len (names : List Str) (f la : Int) : (boxOf names f la).length = names.length * (la + 1 - f).toNat := by
  unfold boxOf
  induction names with
  | nil => simp
  | cons n names ih =>
    rw [List.flatMap_cons, List.length_append, ih, List.length_map, List.length_range, List.length_cons, Nat.add_mul, Nat.one_mul, Nat.add_comm]
section
variable {b : Bk} (h : RndB b)
include h
theorem r_names : NamesOk (namesOf b) := by
  obtain ⟨l, hl, hs⟩ := h.purses.names
  exact names_sub (pools_ok l hl).1 hs
theorem r_free : ("mm" : Str) ∉ namesOf b := fun q => by
  obtain ⟨l, hl, hs⟩ := h.purses.names
  exact (pools_ok l hl).2 (hs.2.subset q)
theorem r_four : b.purses ≠ [] ∧ b.purses.length ≤ 4 := rnd_few h.purses
theorem r_purse {p : Purse} (hp : p ∈ b.purses) : PurseOk p := by
  have o := h.purses.all p hp
  exact ⟨(r_names h).all _ (List.mem_map_of_mem hp), spons_ok _ o.spon, names_sub kinds_ok o.kinds, o.lo, o.la⟩
theorem r_shares {r : Rw} (hr : r ∈ b.rows) : r.isPaid = true → r.shares.length = b.purses.length := fun hp => rnd_shares (h.rows.2 r hr) hp
theorem r_share {r : Rw} (hr : r ∈ b.rows) {j : Nat} (hp : r.isPaid = true) (hj : j < b.purses.length) : 0 ≤ r.shares.getD j 0 ∧ r.shares.getD j 0 ≤ 3 := by
  have o := h.rows.2 r hr
  cases r with
  | buy d k a => cases hp
  | paid d k s =>
    obtain ⟨_, _, h3, h4⟩ := o
    obtain ⟨p, x, e1, e2, _, _, e5⟩ := zip_getD h3 hj (⟨"", "", [], 0, 0⟩, 0)
    have z := h4 j p x e1 e2
    show 0 ≤ s.getD j 0 ∧ s.getD j 0 ≤ 3
    rw [e5]
    exact ⟨z.1, z.2.1⟩
theorem r_spentR {r : Rw} (hr : r ∈ b.rows) (l : Limit) : 0 ≤ spentR b.purses l r ∧ spentR b.purses l r ≤ 12 := by
  unfold spentR
  split
  · rename_i hd
    have hp : r.isPaid = true := by
      unfold inDays at hd
      rw [Bool.and_eq_true] at hd
      exact hd.1
    unfold spentIn
    have hj : ∀ x ∈ ((List.range b.purses.length).filter fun j => decide (nameAt b.purses j ∈ l.names)).map fun j => r.shares.getD j 0, 0 ≤ x ∧ x ≤ 3 := fun x hx => by
      obtain ⟨j, hj, rfl⟩ := List.mem_map.mp hx
      exact r_share h hr hp (List.mem_range.mp (List.mem_filter.mp hj).1)
    refine ⟨sum_nonneg fun x hx => (hj x hx).1, ?_⟩
    have z := sum_leI (c := 3) fun x hx => (hj x hx).2
    have hlen : (((List.range b.purses.length).filter fun j => decide (nameAt b.purses j ∈ l.names)).map fun j => r.shares.getD j 0).length ≤ 4 := by
      rw [List.length_map]
      refine Nat.le_trans (List.length_filter_le _ _) ?_
      rw [List.length_range]
      exact (r_four h).2
    omega
  · exact ⟨Int.le_refl 0, by decide⟩
theorem r_spent (l : Limit) : 0 ≤ lawSpent b.purses l b.rows ∧ lawSpent b.purses l b.rows ≤ 60 := by
  unfold lawSpent
  have hj : ∀ x ∈ b.rows.map (spentR b.purses l), 0 ≤ x ∧ x ≤ 12 := fun x hx => by
    obtain ⟨r, hr, rfl⟩ := List.mem_map.mp hx
    exact r_spentR h hr l
  refine ⟨sum_nonneg fun x hx => (hj x hx).1, ?_⟩
  have z := sum_leI (c := 12) fun x hx => (hj x hx).2
  have hlen : (b.rows.map (spentR b.purses l)).length ≤ 5 := by
    rw [List.length_map]
    exact h.rows.1
  omega
theorem r_sub {l : Limit} (hl : l ∈ b.limits) : SomeP (namesOf b) l.names := by
  obtain ⟨p, hp, hs⟩ := (h.limits.all l hl).names
  refine ⟨hs.1, hs.2.trans ?_⟩
  unfold withSpon namesOf
  exact List.filter_sublist.map _
theorem r_limit {l : Limit} (hl : l ∈ b.limits) : LimitOk l := by
  have o := h.limits.all l hl
  exact ⟨names_sub (r_names h) (r_sub h hl), o.lo, o.la, Int.le_trans (r_spent h l).1 o.cap⟩
theorem r_row {r : Rw} (hr : r ∈ b.rows) : RowOk r := by
  have o := h.rows.2 r hr
  have hs := r_shares h hr
  have hz : ∀ {j : Nat}, r.isPaid = true → j < b.purses.length → 0 ≤ r.shares.getD j 0 ∧ r.shares.getD j 0 ≤ 3 := fun {j} => r_share h hr
  cases r with
  | buy d k a => exact ⟨o.1.1, kindsR_ok _ o.2.1, o.2.2.1⟩
  | paid d k s =>
    refine ⟨o.1.1, kindsR_ok _ o.2.1, fun x hx => ?_, ?_⟩
    · obtain ⟨j, hj⟩ := List.getElem?_of_mem hx
      have hl : s.length = b.purses.length := hs rfl
      have z := (hz (j := j) rfl (by rw [← hl]; exact (List.getElem?_eq_some_iff.mp hj).1)).1
      have e : (Rw.paid d k s).shares.getD j 0 = x := by
        show s.getD j 0 = x
        rw [List.getD_eq_getElem?_getD, hj]
        rfl
      rw [e] at z
      exact z
    · have hl : s.length = b.purses.length := hs rfl
      have := (r_four h).2
      omega
theorem r_same {p q : Purse} (hp : p ∈ b.purses) (hq : q ∈ b.purses) (e : p.name = q.name) : p = q := by
  obtain ⟨i, hi⟩ := List.getElem?_of_mem hp
  obtain ⟨j, hj⟩ := List.getElem?_of_mem hq
  have nd := asc_nodup (r_names h).asc
  have z := nodup_at nd (i := i) (j := j) (z := p.name) (by unfold namesOf; rw [List.getElem?_map, hi]; rfl) (by unfold namesOf; rw [List.getElem?_map, hj, e]; rfl)
  rw [z, hj] at hi
  exact (Option.some.inj hi).symm
theorem r_sharesOk {r : Rw} (hr : r ∈ b.rows) (hp : r.isPaid = true) : sharesOk b r := by
  have o := h.rows.2 r hr
  cases r with
  | buy d k a => cases hp
  | paid d k s =>
    obtain ⟨_, _, h3, h4⟩ := o
    refine ⟨h3, fun q hq => ?_⟩
    obtain ⟨j, hj⟩ := List.getElem?_of_mem hq
    have hq' : (b.purses.zip s)[j]? = some q := hj
    rw [List.getElem?_zip_eq_some] at hq'
    have z := h4 j q.1 q.2 hq'.1 hq'.2
    by_cases e : lawPays q.1 (.buy d k 0) = true
    · refine .inr (List.mem_map.mpr ⟨q.1, List.mem_filter.mpr ⟨(List.of_mem_zip hq).1, ?_⟩, rfl⟩)
      exact e
    · exact .inl (z.2.2 (by rw [Bool.not_eq_true] at e; exact e))
theorem r_valid : Valid b := by
  have h4 := r_four h
  refine valid_of (fun p hp => r_purse h hp) (fun l hl => r_limit h hl) (fun r hr => r_row h hr) (by omega) (by have := h.limits.few; omega) (by have := h.rows.1; omega) (fun l hl => ?_) h4.1 (r_names h).asc (fun l hl n hn => (r_sub h hl).2.subset hn) (fun l hl p hp q hq h1 h2 => ?_) (h.limits.apart.imp fun c => nest_of c) (fun r hr hpd => r_sharesOk h hr hpd) fun l hl => ?_
  · have o := h.limits.all l hl
    have := o.hi
    have := o.lb
    omega
  · obtain ⟨u, hu, hs⟩ := (h.limits.all l hl).names
    have key : ∀ v ∈ b.purses, v.name ∈ l.names → v.sponsor = u.sponsor := fun v hv hn => by
      have m := hs.2.subset hn
      unfold withSpon at m
      obtain ⟨v', hv', e⟩ := List.mem_map.mp m
      obtain ⟨h1, h2⟩ := List.mem_filter.mp hv'
      rw [r_same h hv h1 e.symm]
      exact of_decide_eq_true h2
    rw [key p hp h1, key q hq h2]
  · have o := h.limits.all l hl
    have e : paidWithin b l = lawSpent b.purses l b.rows := by
      rw [pw_of]
      unfold lawSpent
      congr 1
      exact List.map_congr_left fun r hr => paid_spent (r_shares h hr)
    rw [e]
    exact o.cap
theorem r_small : Small b := by
  have h4 := r_four h
  refine ⟨fun p hp => ?_, fun l hl => ?_, fun r hr => ?_⟩
  · have o := h.purses.all p hp
    have a1 := o.hi
    have a2 := o.lb
    refine ⟨by omega, by omega, ?_⟩
    have z := o.kinds.2.length_le
    have : kindsPool.length = 3 := rfl
    omega
  · have o := h.limits.all l hl
    have a1 := o.hi
    have a2 := o.lb
    have a3 := o.cap6
    have a4 := (r_spent h l).2
    refine ⟨by omega, by omega, ?_⟩
    have z := (r_sub h hl).2.length_le
    unfold namesOf at z
    rw [List.length_map] at z
    omega
  · have o := h.rows.2 r hr
    have hs := r_shares h hr
    have hz : ∀ {j : Nat}, r.isPaid = true → j < b.purses.length → 0 ≤ r.shares.getD j 0 ∧ r.shares.getD j 0 ≤ 3 := fun {j} => r_share h hr
    cases r with
    | buy d k a =>
      obtain ⟨h1, _, h2⟩ := o
      exact ⟨by omega, by omega⟩
    | paid d k s =>
      have hl : s.length = b.purses.length := hs rfl
      have h1 := o.1
      refine ⟨by omega, fun x hx => ?_, by omega⟩
      obtain ⟨j, hj⟩ := List.getElem?_of_mem hx
      have z := (hz (j := j) rfl (by rw [← hl]; exact (List.getElem?_eq_some_iff.mp hj).1)).2
      have e : (Rw.paid d k s).shares.getD j 0 = x := by
        show s.getD j 0 = x
        rw [List.getD_eq_getElem?_getD, hj]
        rfl
      rw [e] at z
      omega
theorem r_area {l : Limit} (hl : l ∈ b.limits) : (areaOf l).length ≤ 16 := by
  have o := h.limits.all l hl
  have a2 := o.lb
  have z := (r_sub h hl).2.length_le
  unfold namesOf at z
  rw [List.length_map] at z
  have h4 := (r_four h).2
  show (boxOf l.names l.first l.last).length ≤ 16
  rw [box_len]
  exact Nat.le_trans (Nat.mul_le_mul (Nat.le_trans z h4) (show (l.last + 1 - l.first).toNat ≤ 4 by omega)) (by decide)
theorem rnd_good : GoodB b := by
  have h4 := r_four h
  refine good_of (r_valid h) (r_small h) (fun l hl => by have := r_area h hl; omega) (by omega) (by have := h.limits.few; omega) (r_free h) fun _ => ⟨boxOf (namesOf b) 0 6, fun l hl s hs => ?_, ?_, fun l hl => ?_⟩
  · have o := h.limits.all l hl
    obtain ⟨m1, m2, m3⟩ := mem_box.mp hs
    have a1 := o.hi
    have a2 := o.lb
    have a3 := o.lo
    exact mem_box.mpr ⟨(r_sub h hl).2.subset m1, by omega, by omega⟩
  · rw [box_len]
    unfold namesOf
    rw [List.length_map]
    exact Nat.le_trans (Nat.mul_le_mul h4.2 (show (6 + 1 - 0 : Int).toNat ≤ 7 by decide)) (by decide)
  · have hA := r_area h hl
    have hU : (boxOf (namesOf b) 0 6).length ≤ 28 := by
      rw [box_len]
      unfold namesOf
      rw [List.length_map]
      exact Nat.le_trans (Nat.mul_le_mul h4.2 (show (6 + 1 - 0 : Int).toNat ≤ 7 by decide)) (by decide)
    omega
end
theorem lot_good : ∀ b, LotOk b → GoodB b := fun b h => h.elim (fixed_good b) rnd_good
end Lc
end
section
set_option maxHeartbeats 0
/-! The head: what is looked at. -/
namespace Lc
open PySem L2
abbrev Fq := PySem.W.Frag → Bool
def refsL (o : Obj) : List Addr := (match o.data with
  | .seq its _ => its.toList.flatMap He.refV
  | .dict es _ => es.toList.flatMap fun e => He.refV e.val
  | .func fd => He.refV fd.code ++ (He.refV fd.defaults ++ He.refV fd.kwdefaults)
  | .cls cd => [cd.ns]
  | .fields vs => vs.toList.flatMap He.refV
  | _ => []) ++ (match o.dict with
  | some d => [d]
  | none => [])
def levL (g : Addr → Option Obj) (as : List Addr) : List Addr := as.flatMap fun a => match g a with
  | some o => refsL o
  | none => []
def asL (g : Addr → Option Obj) : Nat → List Addr → List Addr
  | 0, as => as
  | n + 1, as => as ++ asL g n (levL g as)
def frL (n : Nat) (g : Addr → Option Obj) : PySem.W.Frag := He.frG g (cStatics :: asL g n [mainGlobals])
def obsL (fx : List Fq) (fn : List He5.DefA) (K : PySem.W.Frag) : He.AlD := ((fx.all fun f => f K) && fn.all fun d => d.ok K, fn.map fun d => He5.fnA K (d.at_ K))
def valL (fn : List He5.DefA) : He.AlD := (true, fn.map He5.DefA.val)
def SaysL (fx : List Fq) (fn : List He5.DefA) (K : PySem.W.Frag) : Prop := obsL fx fn K = valL fn
def hookL (n : Nat) (fx : List Fq) (fn : List He5.DefA) : PySem.W.Hook where
  α := He.AlD
  obs := fun s => obsL fx fn (frL n s.heap.get?)
  val := fun _ => valL fn
  says := fun _ h => ∃ K : PySem.W.Frag, K.In h ∧ SaysL fx fn K
  of := fun _ _ e => ⟨_, He.frG_in, e⟩
  keeps := fun _ _ _ ⟨K, hK, c⟩ k => ⟨K, PySem.W.Frag.In.keeps hK k, c⟩
theorem obsL_eq {n : Nat} {fx : List Fq} {fn : List He5.DefA} {g : Addr → Option Obj} {s : Shared} (h : ∀ a, g a = s.heap.get? a) : obsL fx fn (frL n g) = (hookL n fx fn).obs s := by
  have e : g = s.heap.get? := funext h
  rw [e] <;> rfl
section
variable {fx : List Fq} {fn : List He5.DefA} {K : PySem.W.Frag} {h : Heap} {mg : Str → Option Value}
theorem SaysL.fact (c : SaysL fx fn K) (i : Nat) {f : Fq} (h : fx[i]? = some f := by rfl) : f K = true := by
  have c1 := (He.ba (show ((fx.all fun f => f K) && fn.all fun d => d.ok K) = true from congrArg (fun z : He.AlD => z.1) c)).1
  exact List.all_eq_true.mp c1 f (List.mem_of_getElem? h)
theorem SaysL.def_ (c : SaysL fx fn K) (i : Nat) {d : He5.DefA} (h : fn[i]? = some d := by rfl) : ∃ fd, FunD K d.name d.qual d.params d.body d.scope (d.dvs K) (d.kws K) (d.at_ K) fd := by
  have c2 := (He.ba (show ((fx.all fun f => f K) && fn.all fun d => d.ok K) = true from congrArg (fun z : He.AlD => z.1) c)).2
  have e : fn.map (fun d => He5.fnA K (d.at_ K)) = fn.map He5.DefA.val := congrArg (fun z : He.AlD => z.2) c
  have e2 : (fn.map fun d => He5.fnA K (d.at_ K))[i]? = (fn.map He5.DefA.val)[i]? := by rw [e]
  rw [List.getElem?_map, List.getElem?_map, h] at e2
  exact He5.DefA.funD (Option.some.inj e2) (List.all_eq_true.mp c2 d (List.mem_of_getElem? h))
/-! ### facts -/
abbrev FnN (K : PySem.W.Frag) (x qual : Str) (st : Stmt) (a : Addr) : Prop := ∃ fd, FunD K x qual (defArgs st) (defBody st) (defScope st) [] [] a fd
theorem has_def {x : Str} {st : Stmt} (X : K.In h) (G : h.Ns mainGlobals mg) (D : FnN K x x st (He.ga K x)) (g : (He.Fa.glo x).ok K = true) : HasDef K mg x st := by
  obtain ⟨fd, F⟩ := D
  exact ⟨_, fd, He5.fun_of F, He.glo_ok X G g⟩
theorem has_meth {C m qual : Str} {st : Stmt} (D : FnN K m qual st (He.ma K (He.ga K C) m)) (g : (He.Fa.meth C m).ok K = true) : HasMeth K (He.ga K C) m qual st := by
  obtain ⟨fd, F⟩ := D
  exact ⟨_, fd, He5.fun_of F, He.meth_ok g⟩
theorem has_init {C qual : Str} {st : Stmt} (D : FnN K "__init__" qual st (He.ma K (He.ga K C) "__init__")) (g : (He.Fa.mkr C).ok K = true) : HasInit K (He.ga K C) qual st := by
  obtain ⟨fd, F⟩ := D
  exact ⟨_, fd, He5.fun_of F, He.mkr_ok g⟩
def emptyB (K : PySem.W.Frag) (a : Addr) : Bool := match K.lookup a with
  | some ⟨.type c, _, .seq its _, _⟩ => decide (c = "tuple") && decide (its.toList = [])
  | _ => false
theorem emptyB_ok {a : Addr} (c : emptyB K a = true) : EmptyT K a := by
  unfold emptyB at c
  cases q : K.lookup a with
  | none => rw [q] at c; cases c
  | some o =>
    obtain ⟨oc, od, dt, osl⟩ := o
    rw [q] at c
    cases oc with
    | type t =>
      cases dt with
      | seq its n =>
        obtain ⟨h1, h2⟩ := He.ba (show (decide (t = "tuple") && decide (its.toList = [])) = true from c)
        have h2 := of_decide_eq_true h2
        refine ⟨_, its, n, q, congrArg Value.type (of_decide_eq_true h1), rfl, ?_, by rw [h2]; exact .nil⟩
        have z : its.size = 0 := by
          have w := congrArg List.length h2
          simpa using w
        rw [z]
        decide
      | _ => cases c
    | _ => cases dt <;> cases c
theorem has_initD {C qual : Str} {st : Stmt} {t t' : Addr} (D : ∃ fd, FunD K "__init__" qual (defArgs st) (defBody st) (defScope st) [.ref t, .ref t'] [] (He.ma K (He.ga K C) "__init__") fd) (g : (He.Fa.mkr C).ok K = true) (e : emptyB K t = true) (e' : emptyB K t' = true) : HasInitD K (He.ga K C) qual st := by
  obtain ⟨fd, F⟩ := D
  exact ⟨_, fd, t, t', F, He.mkr_ok g, emptyB_ok e, emptyB_ok e'⟩
theorem has_kw {x : Str} {st : Stmt} {kws : List (Str × V)} (X : K.In h) (G : h.Ns mainGlobals mg) (D : ∃ fd, FunD K x x (defArgs st) (defBody st) (defScope st) [] kws (He.ga K x) fd) (g : (He.Fa.glo x).ok K = true) : HasKw K mg x st kws := by
  obtain ⟨fd, F⟩ := D
  exact ⟨_, fd, F, He.glo_ok X G g⟩
theorem row_words {x : Str} {vs : List He.Dv} (X : K.In h) (G : h.Ns mainGlobals mg) (c : He.tupB K x vs = true) (g : (He.Fa.glo x).ok K = true) : ∃ a, mg x = some (.ref a) ∧ ∃ (o : Obj) (its : Array Value) (n : Nat), K.lookup a = some o ∧ o.cls = .type "tuple" ∧ o.data = .seq its n ∧ its.size ≤ sizeLine ∧ Vals (vs.map (He.Dv.v K)) its.toList := by
  refine ⟨_, He.glo_ok X G g, ?_⟩
  unfold He.tupB at c
  cases q : K.lookup (He.ga K x) with
  | none => rw [q] at c; cases c
  | some o =>
    obtain ⟨oc, od, dt, osl⟩ := o
    rw [q] at c
    cases oc with
    | type t =>
      cases dt with
      | seq its n =>
        obtain ⟨h1, h2⟩ := He.ba (show (decide (t = "tuple") && (decide (its.size ≤ sizeLine) && He.relAll (vs.map (He.Dv.v K)) its.toList)) = true from c)
        obtain ⟨h3, h4⟩ := He.ba h2
        exact ⟨_, its, n, rfl, congrArg Value.type (of_decide_eq_true h1), rfl, of_decide_eq_true h3, He.relAll_ok h4⟩
      | _ => cases c
    | _ => cases dt <;> cases c
def neB (x y : Str) (K : PySem.W.Frag) : Bool := decide (He.ga K x ≠ He.ga K y)
/-- a property -/
def propB (C m : Str) (K : PySem.W.Frag) : Bool := He.eqO (PySem.W.findIn K (.ref (He.ga K C)) m) (some (some (.ref (He.ma K (He.ga K C) m)))) && (He.eqO (PySem.W.specialIn K (.ref (He.ma K (He.ga K C) m)) "__get__") (some (some (.builtin "property.__get__"))) && (decide (PySem.W.takesIn K (.ref (He.ma K (He.ga K C) m)) = some true) && (match PySem.W.recIn K (He.ma K (He.ga K C) m) "property" with
  | some (.ref _ :: _) => true
  | _ => false)))
theorem has_prop {C m qual : Str} {st : Stmt} (D : FnN K m qual st (He5.wf K (He.ga K C) "property" m)) (c : propB C m K = true) : HasProp K (He.ga K C) m qual st := by
  obtain ⟨fd, F⟩ := D
  obtain ⟨c1, c⟩ := He.ba c
  obtain ⟨c2, c⟩ := He.ba c
  obtain ⟨c3, c4⟩ := He.ba c
  refine ⟨_, _, fd, He5.fun_of F, He.eqO_ok c1, He.eqO_ok c2, of_decide_eq_true c3, ?_⟩
  unfold He5.wf
  split at c4
  · rename_i f r e
    exact ⟨r, by rw [e]⟩
  · cases c4
def creadB (C : Str) (K : PySem.W.Frag) : Bool := PySem.W.readsIn K (He.ga K C) (.type "type") && He.eqO (PySem.W.specialIn K (.ref (He.ga K C)) "__getattribute__") (some (some (.builtin "type.__getattribute__")))
theorem creadB_ok {C : Str} (c : creadB C K = true) : ClX.CRead K (He.ga K C) (.type "type") := by
  obtain ⟨c1, c2⟩ := He.ba c
  exact ⟨c1, He.eqO_ok c2⟩
theorem has_cm {C m qual : Str} {st : Stmt} (D : FnN K m qual st (He5.wf K (He.ga K C) "classmethod" m)) (c : creadB C K = true) (wr : He5.wrapB K (He.ga K C) "classmethod" "classmethod.__get__" m = true) (fi : PySem.W.fnIn K (He5.wf K (He.ga K C) "classmethod" m) = true) : HasCm K (He.ga K C) m qual st := by
  obtain ⟨fd, F⟩ := D
  exact ⟨_, _, _, fd, He5.fun_of F, creadB_ok c, He5.cmet_of wr fi⟩
theorem has_sm {C m qual : Str} {st : Stmt} (D : FnN K m qual st (He5.wf K (He.ga K C) "staticmethod" m)) (c : creadB C K = true) (wr : He5.wrapB K (He.ga K C) "staticmethod" "staticmethod.__get__" m = true) : HasSm K (He.ga K C) m qual st := by
  obtain ⟨fd, F⟩ := D
  obtain ⟨h1, h2⟩ := He5.wrapB_ok wr
  exact ⟨_, _, _, fd, He5.fun_of F, creadB_ok c, h1, h2⟩
def neOfB (C : Str) (K : PySem.W.Frag) : Bool := He.eqO (PySem.W.findIn K (.ref (He.ga K C)) "__ne__") (some (some (.builtin "object.__ne__"))) && decide (PySem.W.mroIn K (He.ga K C) (.type "object") = some true)
theorem neOfB_ok {C : Str} (c : neOfB C K = true) : NeOf K (He.ga K C) := by
  obtain ⟨c1, c2⟩ := He.ba c
  exact ⟨He.eqO_ok c1, of_decide_eq_true c2⟩
def insCB (C : Str) (K : PySem.W.Frag) : Bool := He.eqO (PySem.W.findIn K (.ref (He.ga K C)) "__class__") (some (some (.builtin "object.__class__"))) && (He.eqO (PySem.W.specialIn K (.builtin "object.__class__") "__get__") (some (some (.builtin "getset_descriptor.__get__"))) && (decide (PySem.W.takesIn K (.builtin "object.__class__") = some true) && (decide (PySem.W.mroIn K (He.ga K C) (.type "object") = some true) && decide (PySem.W.kitOne K (.ref (He.ga K C)) (.ref (He.ga K C)) = some true))))
theorem insCB_ok {C : Str} (cl : Cls K (He.ga K C)) (c : insCB C K = true) : C8.InsC K (He.ga K C) := by
  obtain ⟨c1, c⟩ := He.ba c
  obtain ⟨c2, c⟩ := He.ba c
  obtain ⟨c3, c⟩ := He.ba c
  obtain ⟨c4, c5⟩ := He.ba c
  exact ⟨cl, He.eqO_ok c1, He.eqO_ok c2, of_decide_eq_true c3, of_decide_eq_true c4, of_decide_eq_true c5⟩
def opsB (C : Str) (nm : String) (K : PySem.W.Frag) : Bool := PySem.W.selfFirst K (He.ga K C) && He.eqO (PySem.W.findIn K (.ref (He.ga K C)) (dunderR nm)) (some none)
theorem opsB_ok {C : Str} {nm : String} (c : opsB C nm K = true) : OpsOf K (He.ga K C) nm := by
  obtain ⟨c1, c2⟩ := He.ba c
  exact ⟨c1, He.eqO_ok c2⟩
def sfB (C : Str) (K : PySem.W.Frag) : Bool := PySem.W.selfFirst K (He.ga K C)
end
end Lc
end
section
set_option maxHeartbeats 0
/-! The head: facts by names, the run of the top. -/
namespace Lc
open PySem L2
def e0 : He5.DefA := ⟨fun K => He.ma K (He.ga K "Area") "__init__", "__init__", "Area.__init__", defArgs (inClass (top 26) 0), defBody (inClass (top 26) 0), defScope (inClass (top 26) 0), [], []⟩
def e1 : He5.DefA := ⟨fun K => He.ma K (He.ga K "WordReader") "__init__", "__init__", "WordReader.__init__", defArgs (inClass (top 80) 0), defBody (inClass (top 80) 0), defScope (inClass (top 80) 0), [], []⟩
def e2 : He5.DefA := ⟨fun K => He.ma K (He.ga K "Book") "__init__", "__init__", "Book.__init__", defArgs (inClass (top 86) 0), defBody (inClass (top 86) 0), defScope (inClass (top 86) 0), [.adr (He.dflAt ("Book", some "__init__") 0), .adr (He.dflAt ("Book", some "__init__") 1)], []⟩
def e3 : He5.DefA := ⟨fun K => He.ga K "book_read", "book_read", "book_read", defArgs (top 83), defBody (top 83), defScope (top 83), [], [("line", .int 0)]⟩
def e4 : He5.DefA := ⟨fun K => He.ga K "is_number", "is_number", "is_number", defArgs (top 15), defBody (top 15), defScope (top 15), [], []⟩
def e5 : He5.DefA := ⟨fun K => He.ga K "is_name", "is_name", "is_name", defArgs (top 16), defBody (top 16), defScope (top 16), [], []⟩
def e6 : He5.DefA := ⟨fun K => He.ga K "is_ascending", "is_ascending", "is_ascending", defArgs (top 17), defBody (top 17), defScope (top 17), [], []⟩
def e7 : He5.DefA := ⟨fun K => He.ga K "are_numbers", "are_numbers", "are_numbers", defArgs (top 18), defBody (top 18), defScope (top 18), [], []⟩
def e8 : He5.DefA := ⟨fun K => He.ga K "are_names", "are_names", "are_names", defArgs (top 19), defBody (top 19), defScope (top 19), [], []⟩
def e9 : He5.DefA := ⟨fun K => He.ga K "are_days", "are_days", "are_days", defArgs (top 20), defBody (top 20), defScope (top 20), [], []⟩
def e10 : He5.DefA := ⟨fun K => He.ga K "is_slot", "is_slot", "is_slot", defArgs (top 21), defBody (top 21), defScope (top 21), [], []⟩
def e11 : He5.DefA := ⟨fun K => He.ga K "is_purse", "is_purse", "is_purse", defArgs (top 22), defBody (top 22), defScope (top 22), [], []⟩
def e12 : He5.DefA := ⟨fun K => He.ga K "is_limit", "is_limit", "is_limit", defArgs (top 23), defBody (top 23), defScope (top 23), [], []⟩
def e13 : He5.DefA := ⟨fun K => He.ga K "is_row", "is_row", "is_row", defArgs (top 24), defBody (top 24), defScope (top 24), [], []⟩
def e14 : He5.DefA := ⟨fun K => He.ga K "names_paying", "names_paying", "names_paying", defArgs (top 28), defBody (top 28), defScope (top 28), [], []⟩
def e15 : He5.DefA := ⟨fun K => He.ga K "size_of", "size_of", "size_of", defArgs (top 29), defBody (top 29), defScope (top 29), [], []⟩
def e16 : He5.DefA := ⟨fun K => He.ga K "covers", "covers", "covers", defArgs (top 30), defBody (top 30), defScope (top 30), [], []⟩
def e17 : He5.DefA := ⟨fun K => He.ga K "paid_within", "paid_within", "paid_within", defArgs (top 31), defBody (top 31), defScope (top 31), [], []⟩
def e18 : He5.DefA := ⟨fun K => He.ga K "require_purse", "require_purse", "require_purse", defArgs (top 32), defBody (top 32), defScope (top 32), [], []⟩
def e19 : He5.DefA := ⟨fun K => He.ga K "require_day", "require_day", "require_day", defArgs (top 33), defBody (top 33), defScope (top 33), [], []⟩
def e20 : He5.DefA := ⟨fun K => He.ga K "require_limit", "require_limit", "require_limit", defArgs (top 34), defBody (top 34), defScope (top 34), [], []⟩
def e21 : He5.DefA := ⟨fun K => He.ga K "require_row", "require_row", "require_row", defArgs (top 35), defBody (top 35), defScope (top 35), [], []⟩
def e22 : He5.DefA := ⟨fun K => He.ga K "payers", "payers", "payers", defArgs (top 36), defBody (top 36), defScope (top 36), [], []⟩
def e23 : He5.DefA := ⟨fun K => He.ga K "open_rows", "open_rows", "open_rows", defArgs (top 37), defBody (top 37), defScope (top 37), [], []⟩
def e24 : He5.DefA := ⟨fun K => He.ga K "amount_of", "amount_of", "amount_of", defArgs (top 38), defBody (top 38), defScope (top 38), [], []⟩
def e25 : He5.DefA := ⟨fun K => He.ga K "paid_by", "paid_by", "paid_by", defArgs (top 39), defBody (top 39), defScope (top 39), [], []⟩
def e26 : He5.DefA := ⟨fun K => He.ga K "area_of", "area_of", "area_of", defArgs (top 40), defBody (top 40), defScope (top 40), [], []⟩
def e27 : He5.DefA := ⟨fun K => He.ga K "left_of", "left_of", "left_of", defArgs (top 41), defBody (top 41), defScope (top 41), [], []⟩
def e28 : He5.DefA := ⟨fun K => He.ga K "limits_over", "limits_over", "limits_over", defArgs (top 42), defBody (top 42), defScope (top 42), [], []⟩
def e29 : He5.DefA := ⟨fun K => He.ga K "require", "require", "require", defArgs (top 44), defBody (top 44), defScope (top 44), [], []⟩
def e30 : He5.DefA := ⟨fun K => He.ga K "has_book_shape", "has_book_shape", "has_book_shape", defArgs (top 45), defBody (top 45), defScope (top 45), [], []⟩
def e31 : He5.DefA := ⟨fun K => He.ga K "are_apart", "are_apart", "are_apart", defArgs (top 46), defBody (top 46), defScope (top 46), [], []⟩
def e32 : He5.DefA := ⟨fun K => He.ga K "is_within", "is_within", "is_within", defArgs (top 47), defBody (top 47), defScope (top 47), [], []⟩
def e33 : He5.DefA := ⟨fun K => He.ga K "are_nested", "are_nested", "are_nested", defArgs (top 48), defBody (top 48), defScope (top 48), [], []⟩
def e34 : He5.DefA := ⟨fun K => He.ga K "check_limit", "check_limit", "check_limit", defArgs (top 49), defBody (top 49), defScope (top 49), [], []⟩
def e35 : He5.DefA := ⟨fun K => He.ga K "check_shares", "check_shares", "check_shares", defArgs (top 50), defBody (top 50), defScope (top 50), [], []⟩
def e36 : He5.DefA := ⟨fun K => He.ga K "lets_book", "lets_book", "lets_book", defArgs (top 51), defBody (top 51), defScope (top 51), [], []⟩
def e37 : He5.DefA := ⟨fun K => He.ga K "checked", "checked", "checked", defArgs (top 53), defBody (top 53), defScope (top 53), [], []⟩
def e38 : He5.DefA := ⟨fun K => He.ga K "require_open", "require_open", "require_open", defArgs (top 54), defBody (top 54), defScope (top 54), [], []⟩
def e39 : He5.DefA := ⟨fun K => He.ga K "with_row_as", "with_row_as", "with_row_as", defArgs (top 55), defBody (top 55), defScope (top 55), [], []⟩
def e40 : He5.DefA := ⟨fun K => He.ga K "with_row", "with_row", "with_row", defArgs (top 56), defBody (top 56), defScope (top 56), [], []⟩
def e41 : He5.DefA := ⟨fun K => He.ga K "without_row", "without_row", "without_row", defArgs (top 57), defBody (top 57), defScope (top 57), [], []⟩
def e42 : He5.DefA := ⟨fun K => He.ga K "with_amount", "with_amount", "with_amount", defArgs (top 58), defBody (top 58), defScope (top 58), [], []⟩
def e43 : He5.DefA := ⟨fun K => He.ga K "with_paid", "with_paid", "with_paid", defArgs (top 59), defBody (top 59), defScope (top 59), [], []⟩
def e44 : He5.DefA := ⟨fun K => He.ga K "with_share", "with_share", "with_share", defArgs (top 60), defBody (top 60), defScope (top 60), [], []⟩
def e45 : He5.DefA := ⟨fun K => He.ga K "with_purse", "with_purse", "with_purse", defArgs (top 61), defBody (top 61), defScope (top 61), [], []⟩
def e46 : He5.DefA := ⟨fun K => He.ga K "with_limit", "with_limit", "with_limit", defArgs (top 62), defBody (top 62), defScope (top 62), [], []⟩
def e47 : He5.DefA := ⟨fun K => He.ga K "with_cap", "with_cap", "with_cap", defArgs (top 63), defBody (top 63), defScope (top 63), [], []⟩
def e48 : He5.DefA := ⟨fun K => He.ga K "tuple_word", "tuple_word", "tuple_word", defArgs (top 66), defBody (top 66), defScope (top 66), [], []⟩
def e49 : He5.DefA := ⟨fun K => He.ga K "purse_text", "purse_text", "purse_text", defArgs (top 67), defBody (top 67), defScope (top 67), [], []⟩
def e50 : He5.DefA := ⟨fun K => He.ga K "limit_text", "limit_text", "limit_text", defArgs (top 68), defBody (top 68), defScope (top 68), [], []⟩
def e51 : He5.DefA := ⟨fun K => He.ga K "row_text", "row_text", "row_text", defArgs (top 69), defBody (top 69), defScope (top 69), [], []⟩
def e52 : He5.DefA := ⟨fun K => He.ga K "book_text", "book_text", "book_text", defArgs (top 70), defBody (top 70), defScope (top 70), [], []⟩
def e53 : He5.DefA := ⟨fun K => He.ga K "number_or_none", "number_or_none", "number_or_none", defArgs (top 77), defBody (top 77), defScope (top 77), [], []⟩
def e54 : He5.DefA := ⟨fun K => He.ga K "numbers_or_none", "numbers_or_none", "numbers_or_none", defArgs (top 78), defBody (top 78), defScope (top 78), [], []⟩
def e55 : He5.DefA := ⟨fun K => He.ga K "names_or_none", "names_or_none", "names_or_none", defArgs (top 79), defBody (top 79), defScope (top 79), [], []⟩
def e56 : He5.DefA := ⟨fun K => He.ga K "heads_behind", "heads_behind", "heads_behind", defArgs (top 81), defBody (top 81), defScope (top 81), [], []⟩
def e57 : He5.DefA := ⟨fun K => He.ga K "line_read", "line_read", "line_read", defArgs (top 82), defBody (top 82), defScope (top 82), [], []⟩
def e58 : He5.DefA := ⟨fun K => He.ga K "book_of", "book_of", "book_of", defArgs (top 85), defBody (top 85), defScope (top 85), [], []⟩
def e59 : He5.DefA := ⟨fun K => He.ga K "_law_reader", "_law_reader", "_law_reader", defArgs (top 88), defBody (top 88), defScope (top 88), [], []⟩
def e60 : He5.DefA := ⟨fun K => He.ga K "_law_draw", "_law_draw", "_law_draw", defArgs (top 89), defBody (top 89), defScope (top 89), [], []⟩
def e61 : He5.DefA := ⟨fun K => He.ga K "_law_within", "_law_within", "_law_within", defArgs (top 90), defBody (top 90), defScope (top 90), [], []⟩
def e62 : He5.DefA := ⟨fun K => He.ga K "_law_crosses", "_law_crosses", "_law_crosses", defArgs (top 91), defBody (top 91), defScope (top 91), [], []⟩
def e63 : He5.DefA := ⟨fun K => He.ga K "_law_pays", "_law_pays", "_law_pays", defArgs (top 92), defBody (top 92), defScope (top 92), [], []⟩
def e64 : He5.DefA := ⟨fun K => He.ga K "_law_spent", "_law_spent", "_law_spent", defArgs (top 93), defBody (top 93), defScope (top 93), [], []⟩
def e65 : He5.DefA := ⟨fun K => He.ga K "_law_some_of", "_law_some_of", "_law_some_of", defArgs (top 94), defBody (top 94), defScope (top 94), [], []⟩
def e66 : He5.DefA := ⟨fun K => He.ga K "_law_random_purses", "_law_random_purses", "_law_random_purses", defArgs (top 95), defBody (top 95), defScope (top 95), [], []⟩
def e67 : He5.DefA := ⟨fun K => He.ga K "_law_random_row", "_law_random_row", "_law_random_row", defArgs (top 96), defBody (top 96), defScope (top 96), [], []⟩
def e68 : He5.DefA := ⟨fun K => He.ga K "_law_random_book", "_law_random_book", "_law_random_book", defArgs (top 97), defBody (top 97), defScope (top 97), [], []⟩
def e69 : He5.DefA := ⟨fun K => He.ga K "_law_fixed_books", "_law_fixed_books", "_law_fixed_books", defArgs (top 98), defBody (top 98), defScope (top 98), [], []⟩
def e70 : He5.DefA := ⟨fun K => He.ga K "_law_functions_right", "_law_functions_right", "_law_functions_right", defArgs (top 99), defBody (top 99), defScope (top 99), [], []⟩
def e71 : He5.DefA := ⟨fun K => He.ga K "_law_rows_right", "_law_rows_right", "_law_rows_right", defArgs (top 100), defBody (top 100), defScope (top 100), [], []⟩
def e72 : He5.DefA := ⟨fun K => He.ga K "_law_changes_right", "_law_changes_right", "_law_changes_right", defArgs (top 101), defBody (top 101), defScope (top 101), [], []⟩
def e73 : He5.DefA := ⟨fun K => He.ga K "_law_joined_right", "_law_joined_right", "_law_joined_right", defArgs (top 102), defBody (top 102), defScope (top 102), [], []⟩
def e74 : He5.DefA := ⟨fun K => He.ga K "law", "law", "law", defArgs (top 103), defBody (top 103), defScope (top 103), [], []⟩
def e75 : He5.DefA := ⟨fun K => He.ma K (He.ga K "Area") "is_apart", "is_apart", "Area.is_apart", defArgs (inClass (top 26) 4), defBody (inClass (top 26) 4), defScope (inClass (top 26) 4), [], []⟩
def e76 : He5.DefA := ⟨fun K => He.ma K (He.ga K "Area") "__or__", "__or__", "Area.__or__", defArgs (inClass (top 26) 8), defBody (inClass (top 26) 8), defScope (inClass (top 26) 8), [], []⟩
def e77 : He5.DefA := ⟨fun K => He.ma K (He.ga K "Area") "__iter__", "__iter__", "Area.__iter__", defArgs (inClass (top 26) 10), defBody (inClass (top 26) 10), defScope (inClass (top 26) 10), [], []⟩
def e78 : He5.DefA := ⟨fun K => He.ma K (He.ga K "Area") "__contains__", "__contains__", "Area.__contains__", defArgs (inClass (top 26) 11), defBody (inClass (top 26) 11), defScope (inClass (top 26) 11), [], []⟩
def e79 : He5.DefA := ⟨fun K => He.ma K (He.ga K "Area") "__len__", "__len__", "Area.__len__", defArgs (inClass (top 26) 12), defBody (inClass (top 26) 12), defScope (inClass (top 26) 12), [], []⟩
def e80 : He5.DefA := ⟨fun K => He.ma K (He.ga K "Area") "__eq__", "__eq__", "Area.__eq__", defArgs (inClass (top 26) 13), defBody (inClass (top 26) 13), defScope (inClass (top 26) 13), [], []⟩
def e81 : He5.DefA := ⟨fun K => He.ma K (He.ga K "WordReader") "next_word", "next_word", "WordReader.next_word", defArgs (inClass (top 80) 2), defBody (inClass (top 80) 2), defScope (inClass (top 80) 2), [], []⟩
def e82 : He5.DefA := ⟨fun K => He.ma K (He.ga K "WordReader") "take_found", "take_found", "WordReader.take_found", defArgs (inClass (top 80) 3), defBody (inClass (top 80) 3), defScope (inClass (top 80) 3), [], []⟩
def e83 : He5.DefA := ⟨fun K => He.ma K (He.ga K "WordReader") "take_word", "take_word", "WordReader.take_word", defArgs (inClass (top 80) 4), defBody (inClass (top 80) 4), defScope (inClass (top 80) 4), [], []⟩
def e84 : He5.DefA := ⟨fun K => He.ma K (He.ga K "WordReader") "take_name", "take_name", "WordReader.take_name", defArgs (inClass (top 80) 5), defBody (inClass (top 80) 5), defScope (inClass (top 80) 5), [], []⟩
def e85 : He5.DefA := ⟨fun K => He.ma K (He.ga K "WordReader") "take_number", "take_number", "WordReader.take_number", defArgs (inClass (top 80) 6), defBody (inClass (top 80) 6), defScope (inClass (top 80) 6), [], []⟩
def e86 : He5.DefA := ⟨fun K => He.ma K (He.ga K "WordReader") "take_last", "take_last", "WordReader.take_last", defArgs (inClass (top 80) 7), defBody (inClass (top 80) 7), defScope (inClass (top 80) 7), [], []⟩
def e87 : He5.DefA := ⟨fun K => He.ma K (He.ga K "WordReader") "take_names", "take_names", "WordReader.take_names", defArgs (inClass (top 80) 8), defBody (inClass (top 80) 8), defScope (inClass (top 80) 8), [], []⟩
def e88 : He5.DefA := ⟨fun K => He.ma K (He.ga K "WordReader") "take_numbers", "take_numbers", "WordReader.take_numbers", defArgs (inClass (top 80) 9), defBody (inClass (top 80) 9), defScope (inClass (top 80) 9), [], []⟩
def e89 : He5.DefA := ⟨fun K => He.ma K (He.ga K "WordReader") "take_purse", "take_purse", "WordReader.take_purse", defArgs (inClass (top 80) 10), defBody (inClass (top 80) 10), defScope (inClass (top 80) 10), [], []⟩
def e90 : He5.DefA := ⟨fun K => He.ma K (He.ga K "WordReader") "take_limit", "take_limit", "WordReader.take_limit", defArgs (inClass (top 80) 11), defBody (inClass (top 80) 11), defScope (inClass (top 80) 11), [], []⟩
def e91 : He5.DefA := ⟨fun K => He.ma K (He.ga K "WordReader") "take_row", "take_row", "WordReader.take_row", defArgs (inClass (top 80) 12), defBody (inClass (top 80) 12), defScope (inClass (top 80) 12), [], []⟩
def e92 : He5.DefA := ⟨fun K => He.ma K (He.ga K "WordReader") "end", "end", "WordReader.end", defArgs (inClass (top 80) 13), defBody (inClass (top 80) 13), defScope (inClass (top 80) 13), [], []⟩
def e93 : He5.DefA := ⟨fun K => He.ma K (He.ga K "Book") "area", "area", "Book.area", defArgs (inClass (top 86) 6), defBody (inClass (top 86) 6), defScope (inClass (top 86) 6), [], []⟩
def e94 : He5.DefA := ⟨fun K => He.ma K (He.ga K "Book") "resized", "resized", "Book.resized", defArgs (inClass (top 86) 8), defBody (inClass (top 86) 8), defScope (inClass (top 86) 8), [], []⟩
def e95 : He5.DefA := ⟨fun K => He.ma K (He.ga K "Book") "settled", "settled", "Book.settled", defArgs (inClass (top 86) 9), defBody (inClass (top 86) 9), defScope (inClass (top 86) 9), [], []⟩
def e96 : He5.DefA := ⟨fun K => He.ma K (He.ga K "Book") "joined", "joined", "Book.joined", defArgs (inClass (top 86) 10), defBody (inClass (top 86) 10), defScope (inClass (top 86) 10), [], []⟩
def e97 : He5.DefA := ⟨fun K => He.ma K (He.ga K "Book") "limited", "limited", "Book.limited", defArgs (inClass (top 86) 11), defBody (inClass (top 86) 11), defScope (inClass (top 86) 11), [], []⟩
def e98 : He5.DefA := ⟨fun K => He.ma K (He.ga K "Book") "capped", "capped", "Book.capped", defArgs (inClass (top 86) 12), defBody (inClass (top 86) 12), defScope (inClass (top 86) 12), [], []⟩
def e99 : He5.DefA := ⟨fun K => He.ma K (He.ga K "Book") "__call__", "__call__", "Book.__call__", defArgs (inClass (top 86) 13), defBody (inClass (top 86) 13), defScope (inClass (top 86) 13), [], []⟩
def e100 : He5.DefA := ⟨fun K => He.ma K (He.ga K "Book") "__add__", "__add__", "Book.__add__", defArgs (inClass (top 86) 14), defBody (inClass (top 86) 14), defScope (inClass (top 86) 14), [], []⟩
def e101 : He5.DefA := ⟨fun K => He.ma K (He.ga K "Book") "__sub__", "__sub__", "Book.__sub__", defArgs (inClass (top 86) 15), defBody (inClass (top 86) 15), defScope (inClass (top 86) 15), [], []⟩
def e102 : He5.DefA := ⟨fun K => He.ma K (He.ga K "Book") "__iter__", "__iter__", "Book.__iter__", defArgs (inClass (top 86) 16), defBody (inClass (top 86) 16), defScope (inClass (top 86) 16), [], []⟩
def e103 : He5.DefA := ⟨fun K => He.ma K (He.ga K "Book") "__getitem__", "__getitem__", "Book.__getitem__", defArgs (inClass (top 86) 17), defBody (inClass (top 86) 17), defScope (inClass (top 86) 17), [], []⟩
def e104 : He5.DefA := ⟨fun K => He.ma K (He.ga K "Book") "__contains__", "__contains__", "Book.__contains__", defArgs (inClass (top 86) 18), defBody (inClass (top 86) 18), defScope (inClass (top 86) 18), [], []⟩
def e105 : He5.DefA := ⟨fun K => He.ma K (He.ga K "Book") "__len__", "__len__", "Book.__len__", defArgs (inClass (top 86) 19), defBody (inClass (top 86) 19), defScope (inClass (top 86) 19), [], []⟩
def e106 : He5.DefA := ⟨fun K => He.ma K (He.ga K "Book") "__eq__", "__eq__", "Book.__eq__", defArgs (inClass (top 86) 20), defBody (inClass (top 86) 20), defScope (inClass (top 86) 20), [], []⟩
def e107 : He5.DefA := ⟨fun K => He.ma K (He.ga K "Book") "__str__", "__str__", "Book.__str__", defArgs (inClass (top 86) 21), defBody (inClass (top 86) 21), defScope (inClass (top 86) 21), [], []⟩
def e108 : He5.DefA := ⟨fun K => He5.wf K (He.ga K "Book") "property" "form", "form", "Book.form", defArgs (inClass (top 86) 2), defBody (inClass (top 86) 2), defScope (inClass (top 86) 2), [], []⟩
def e109 : He5.DefA := ⟨fun K => He5.wf K (He.ga K "Book") "property" "purse_rows", "purse_rows", "Book.purse_rows", defArgs (inClass (top 86) 3), defBody (inClass (top 86) 3), defScope (inClass (top 86) 3), [], []⟩
def e110 : He5.DefA := ⟨fun K => He5.wf K (He.ga K "Book") "property" "limit_rows", "limit_rows", "Book.limit_rows", defArgs (inClass (top 86) 4), defBody (inClass (top 86) 4), defScope (inClass (top 86) 4), [], []⟩
def e111 : He5.DefA := ⟨fun K => He5.wf K (He.ga K "Book") "property" "row_rows", "row_rows", "Book.row_rows", defArgs (inClass (top 86) 5), defBody (inClass (top 86) 5), defScope (inClass (top 86) 5), [], []⟩
def e112 : He5.DefA := ⟨fun K => He5.wf K (He.ga K "Book") "classmethod" "parsed", "parsed", "Book.parsed", defArgs (inClass (top 86) 1), defBody (inClass (top 86) 1), defScope (inClass (top 86) 1), [], []⟩
def e113 : He5.DefA := ⟨fun K => He5.wf K (He.ga K "Area") "staticmethod" "box", "box", "Area.box", defArgs (inClass (top 26) 1), defBody (inClass (top 26) 1), defScope (inClass (top 26) 1), [], []⟩
def e114 : He5.DefA := ⟨fun K => He.ma K (He.ga K "Book") "payable", "payable", "Book.payable", defArgs (inClass (top 86) 7), defBody (inClass (top 86) 7), defScope (inClass (top 86) 7), [], []⟩
def fn0 : List He5.DefA := [e0, e1, e2, e3, e4, e5, e6, e7, e8, e9, e10, e11, e12, e13, e14, e15, e16, e17, e18, e19, e20, e21, e22, e23, e24, e25, e26, e27, e28, e29]
def fn1 : List He5.DefA := [e30, e31, e32, e33, e34, e35, e36, e37, e38, e39, e40, e41, e42, e43, e44, e45, e46, e47, e48, e49, e50, e51, e52, e53, e54, e55, e56, e57, e58, e59]
def fn2 : List He5.DefA := [e60, e61, e62, e63, e64, e65, e66, e67, e68, e69, e70, e71, e72, e73, e74, e75, e76, e77, e78, e79, e80, e81, e82, e83, e84, e85, e86, e87, e88, e89]
def fn3 : List He5.DefA := [e90, e91, e92, e93, e94, e95, e96, e97, e98, e99, e100, e101, e102, e103, e104, e105, e106, e107, e108, e109, e110, e111, e112, e113, e114]
def fn : List He5.DefA := fn0 ++ (fn1 ++ (fn2 ++ (fn3)))
def fx0 : List Fq := [fun K => (He.Fa.free "len").ok K, fun K => (He.Fa.free "all").ok K, fun K => (He.Fa.free "any").ok K, fun K => (He.Fa.free "sum").ok K, fun K => (He.Fa.free "tuple").ok K, fun K => (He.Fa.free "list").ok K, fun K => (He.Fa.free "isinstance").ok K, fun K => (He.Fa.free "int").ok K, fun K => (He.Fa.free "bool").ok K, fun K => (He.Fa.free "str").ok K, fun K => (He.Fa.free "range").ok K, fun K => (He.Fa.free "zip").ok K, fun K => (He.Fa.free "enumerate").ok K, fun K => (He.Fa.free "sorted").ok K, fun K => (He.Fa.free "set").ok K, fun K => (He.Fa.free "iter").ok K, fun K => (He.Fa.str "ALPHABET" "abcdefghijklmnopqrstuvwxyz").ok K, fun K => (He.Fa.int "LONGEST_NAME" 8).ok K, fun K => (He.Fa.str "BUY" "buy").ok K, fun K => (He.Fa.str "PAID" "paid").ok K, fun K => (He.Fa.str "NONE_WORD" "-").ok K, fun K => (He.Fa.str "DIGITS" "0123456789").ok K, fun K => (He.Fa.int "MOST_DIGITS" 60).ok K, fun K => (He.Fa.str "PURSE" "purse").ok K, fun K => (He.Fa.str "LIMIT" "limit").ok K]
def fx1 : List Fq := [fun K => He.tupB K "ROW_WORDS" [.str "buy", .str "paid"], fun K => (He.Fa.glo "ROW_WORDS").ok K, fun K => (He.Fa.glo "Area").ok K, fun K => (He.Fa.glo "WordReader").ok K, fun K => (He.Fa.glo "Book").ok K, fun K => (He.Fa.cls "Area").ok K, fun K => (He.Fa.cls "WordReader").ok K, fun K => (He.Fa.cls "Book").ok K, fun K => (He.Fa.mkr "Area").ok K, fun K => (He.Fa.mkr "WordReader").ok K, fun K => (He.Fa.mkr "Book").ok K, fun K => emptyB K (He.dflAt ("Book", some "__init__") 0 K), fun K => emptyB K (He.dflAt ("Book", some "__init__") 1 K), fun K => (He.Fa.glo "book_read").ok K, neB "Area" "WordReader", neB "Book" "WordReader", neB "Area" "Book", fun K => (He.Fa.noat "WordReader" "own_words").ok K, fun K => (He.Fa.noat "WordReader" "own_line").ok K, fun K => (He.Fa.noat "WordReader" "own_field").ok K, fun K => (He.Fa.noat "WordReader" "spot").ok K, fun K => (He.Fa.noat "Area" "own_slots").ok K, fun K => (He.Fa.noat "Book" "own_book").ok K, fun K => (He.Fa.noat "Book" "own_rows").ok K, fun K => (He.Fa.glo "is_number").ok K]
def fx2 : List Fq := [fun K => (He.Fa.glo "is_name").ok K, fun K => (He.Fa.glo "is_ascending").ok K, fun K => (He.Fa.glo "are_numbers").ok K, fun K => (He.Fa.glo "are_names").ok K, fun K => (He.Fa.glo "are_days").ok K, fun K => (He.Fa.glo "is_slot").ok K, fun K => (He.Fa.glo "is_purse").ok K, fun K => (He.Fa.glo "is_limit").ok K, fun K => (He.Fa.glo "is_row").ok K, fun K => (He.Fa.glo "names_paying").ok K, fun K => (He.Fa.glo "size_of").ok K, fun K => (He.Fa.glo "covers").ok K, fun K => (He.Fa.glo "paid_within").ok K, fun K => (He.Fa.glo "require_purse").ok K, fun K => (He.Fa.glo "require_day").ok K, fun K => (He.Fa.glo "require_limit").ok K, fun K => (He.Fa.glo "require_row").ok K, fun K => (He.Fa.glo "payers").ok K, fun K => (He.Fa.glo "open_rows").ok K, fun K => (He.Fa.glo "amount_of").ok K, fun K => (He.Fa.glo "paid_by").ok K, fun K => (He.Fa.glo "area_of").ok K, fun K => (He.Fa.glo "left_of").ok K, fun K => (He.Fa.glo "limits_over").ok K, fun K => (He.Fa.glo "require").ok K]
def fx3 : List Fq := [fun K => (He.Fa.glo "has_book_shape").ok K, fun K => (He.Fa.glo "are_apart").ok K, fun K => (He.Fa.glo "is_within").ok K, fun K => (He.Fa.glo "are_nested").ok K, fun K => (He.Fa.glo "check_limit").ok K, fun K => (He.Fa.glo "check_shares").ok K, fun K => (He.Fa.glo "lets_book").ok K, fun K => (He.Fa.glo "checked").ok K, fun K => (He.Fa.glo "require_open").ok K, fun K => (He.Fa.glo "with_row_as").ok K, fun K => (He.Fa.glo "with_row").ok K, fun K => (He.Fa.glo "without_row").ok K, fun K => (He.Fa.glo "with_amount").ok K, fun K => (He.Fa.glo "with_paid").ok K, fun K => (He.Fa.glo "with_share").ok K, fun K => (He.Fa.glo "with_purse").ok K, fun K => (He.Fa.glo "with_limit").ok K, fun K => (He.Fa.glo "with_cap").ok K, fun K => (He.Fa.glo "tuple_word").ok K, fun K => (He.Fa.glo "purse_text").ok K, fun K => (He.Fa.glo "limit_text").ok K, fun K => (He.Fa.glo "row_text").ok K, fun K => (He.Fa.glo "book_text").ok K, fun K => (He.Fa.glo "number_or_none").ok K, fun K => (He.Fa.glo "numbers_or_none").ok K]
def fx4 : List Fq := [fun K => (He.Fa.glo "names_or_none").ok K, fun K => (He.Fa.glo "heads_behind").ok K, fun K => (He.Fa.glo "line_read").ok K, fun K => (He.Fa.glo "book_of").ok K, fun K => (He.Fa.glo "_law_reader").ok K, fun K => (He.Fa.glo "_law_draw").ok K, fun K => (He.Fa.glo "_law_within").ok K, fun K => (He.Fa.glo "_law_crosses").ok K, fun K => (He.Fa.glo "_law_pays").ok K, fun K => (He.Fa.glo "_law_spent").ok K, fun K => (He.Fa.glo "_law_some_of").ok K, fun K => (He.Fa.glo "_law_random_purses").ok K, fun K => (He.Fa.glo "_law_random_row").ok K, fun K => (He.Fa.glo "_law_random_book").ok K, fun K => (He.Fa.glo "_law_fixed_books").ok K, fun K => (He.Fa.glo "_law_functions_right").ok K, fun K => (He.Fa.glo "_law_rows_right").ok K, fun K => (He.Fa.glo "_law_changes_right").ok K, fun K => (He.Fa.glo "_law_joined_right").ok K, fun K => (He.Fa.glo "law").ok K, fun K => (He.Fa.meth "Area" "is_apart").ok K, fun K => (He.Fa.meth "Area" "__or__").ok K, fun K => (He.Fa.meth "Area" "__iter__").ok K, fun K => (He.Fa.meth "Area" "__contains__").ok K, fun K => (He.Fa.meth "Area" "__len__").ok K]
def fx5 : List Fq := [fun K => (He.Fa.meth "Area" "__eq__").ok K, fun K => (He.Fa.meth "WordReader" "next_word").ok K, fun K => (He.Fa.meth "WordReader" "take_found").ok K, fun K => (He.Fa.meth "WordReader" "take_word").ok K, fun K => (He.Fa.meth "WordReader" "take_name").ok K, fun K => (He.Fa.meth "WordReader" "take_number").ok K, fun K => (He.Fa.meth "WordReader" "take_last").ok K, fun K => (He.Fa.meth "WordReader" "take_names").ok K, fun K => (He.Fa.meth "WordReader" "take_numbers").ok K, fun K => (He.Fa.meth "WordReader" "take_purse").ok K, fun K => (He.Fa.meth "WordReader" "take_limit").ok K, fun K => (He.Fa.meth "WordReader" "take_row").ok K, fun K => (He.Fa.meth "WordReader" "end").ok K, fun K => (He.Fa.meth "Book" "area").ok K, fun K => (He.Fa.meth "Book" "resized").ok K, fun K => (He.Fa.meth "Book" "settled").ok K, fun K => (He.Fa.meth "Book" "joined").ok K, fun K => (He.Fa.meth "Book" "limited").ok K, fun K => (He.Fa.meth "Book" "capped").ok K, fun K => (He.Fa.meth "Book" "__call__").ok K, fun K => (He.Fa.meth "Book" "__add__").ok K, fun K => (He.Fa.meth "Book" "__sub__").ok K, fun K => (He.Fa.meth "Book" "__iter__").ok K, fun K => (He.Fa.meth "Book" "__getitem__").ok K, fun K => (He.Fa.meth "Book" "__contains__").ok K]
def fx6 : List Fq := [fun K => (He.Fa.meth "Book" "__len__").ok K, fun K => (He.Fa.meth "Book" "__eq__").ok K, fun K => (He.Fa.meth "Book" "__str__").ok K, propB "Book" "form", propB "Book" "purse_rows", propB "Book" "limit_rows", propB "Book" "row_rows", creadB "Book", fun K => He5.wrapB K (He.ga K "Book") "classmethod" "classmethod.__get__" "parsed", fun K => PySem.W.fnIn K (He5.wf K (He.ga K "Book") "classmethod" "parsed"), creadB "Area", fun K => He5.wrapB K (He.ga K "Area") "staticmethod" "staticmethod.__get__" "box", fun K => (He.Fa.meth "Book" "payable").ok K, neOfB "Book", neOfB "Area", insCB "Book", insCB "Area", opsB "Book" (Operator.Add).info.2, opsB "Book" (Operator.Sub).info.2, sfB "Area"]
def fx : List Fq := fx0 ++ (fx1 ++ (fx2 ++ (fx3 ++ (fx4 ++ (fx5 ++ (fx6))))))
def loose0 : List Str := ["_wall", "__name__", "CardError", "PaperError", "BookError", "TextError", "InvalidPaper", "UnknownPurse", "NotUsable", "InvalidText", "ALPHABET", "LONGEST_NAME", "BUY", "PAID", "is_number", "is_name", "is_ascending", "are_numbers", "are_names", "are_days", "is_slot", "is_purse", "is_limit", "is_row", "Area", "names_paying", "size_of", "covers", "paid_within", "require_purse"]
def loose1 : List Str := ["require_day", "require_limit", "require_row", "payers", "open_rows", "amount_of", "paid_by", "area_of", "left_of", "limits_over", "require", "has_book_shape", "are_apart", "is_within", "are_nested", "check_limit", "check_shares", "lets_book", "checked", "require_open", "with_row_as", "with_row", "without_row", "with_amount", "with_paid", "with_share", "with_purse", "with_limit", "with_cap", "NONE_WORD"]
def loose2 : List Str := ["tuple_word", "purse_text", "limit_text", "row_text", "book_text", "DIGITS", "MOST_DIGITS", "PURSE", "LIMIT", "ROW_WORDS", "number_or_none", "numbers_or_none", "names_or_none", "WordReader", "heads_behind", "line_read", "book_read", "book_of", "Book", "_law_reader", "_law_draw", "_law_within", "_law_crosses", "_law_pays", "_law_spent", "_law_some_of", "_law_random_purses", "_law_random_row", "_law_random_book", "_law_fixed_books"]
def loose3 : List Str := ["_law_functions_right", "_law_rows_right", "_law_changes_right", "_law_joined_right"]
def loose : List Str := loose0 ++ (loose1 ++ (loose2 ++ (loose3)))
abbrev R : PySem.W.OpenRow := PySem.W.OpenLaw.row PySem.Challenge.rw_latecharge_k15_whole_books_and_objects
abbrev hk : PySem.W.Hook := hookL 7 fx fn
def ob (s : PySem.W.SharedT) : He.AlD := obsL fx fn (frL 7 (HandSHeadRun.getT s))
theorem ob_eq (s : PySem.W.SharedT) : ob s = hk.obs s.abs := obsL_eq (HandSHeadRun.getT_eq s)
theorem txt_of {K : PySem.W.Frag} {h : Heap} {mg : Str → Option Value} (X : K.In h) (G : h.Ns mainGlobals mg) (c : SaysL fx fn K) : Txt K mg (He.ga K "Area") (He.ga K "WordReader") (He.ga K "Book") where
  B := { len := He.free_ok X G (c.fact 0), «all» := He.free_ok X G (c.fact 1), «any» := He.free_ok X G (c.fact 2), sum := He.free_ok X G (c.fact 3), tuple := He.free_ok X G (c.fact 4), list := He.free_ok X G (c.fact 5), isinstance := He.free_ok X G (c.fact 6), int := He.free_ok X G (c.fact 7), bool := He.free_ok X G (c.fact 8), str := He.free_ok X G (c.fact 9), range := He.free_ok X G (c.fact 10), zip := He.free_ok X G (c.fact 11), enumerate := He.free_ok X G (c.fact 12), sorted := He.free_ok X G (c.fact 13), set := He.free_ok X G (c.fact 14), iter := He.free_ok X G (c.fact 15) }
  g_ALPHABET := He.str_ok X G (c.fact 16)
  g_LONGEST_NAME := He.int_ok X G (c.fact 17)
  g_BUY := He.str_ok X G (c.fact 18)
  g_PAID := He.str_ok X G (c.fact 19)
  g_NONE_WORD := He.str_ok X G (c.fact 20)
  g_DIGITS := He.str_ok X G (c.fact 21)
  g_MOST_DIGITS := He.int_ok X G (c.fact 22)
  g_PURSE := He.str_ok X G (c.fact 23)
  g_LIMIT := He.str_ok X G (c.fact 24)
  g_ROW_WORDS := row_words (vs := [.str "buy", .str "paid"]) X G (c.fact 25) (c.fact 26)
  g_Area := He.glo_ok X G (c.fact 27)
  g_WordReader := He.glo_ok X G (c.fact 28)
  g_Book := He.glo_ok X G (c.fact 29)
  c_Area := He.cls_ok (c.fact 30)
  c_WordReader := He.cls_ok (c.fact 31)
  c_Book := He.cls_ok (c.fact 32)
  i_Area := has_init (c.def_ 0 (d := e0) rfl) (c.fact 33)
  i_WordReader := has_init (c.def_ 1 (d := e1) rfl) (c.fact 34)
  i_Book := has_initD (c.def_ 2 (d := e2) rfl) (c.fact 35) (c.fact 36) (c.fact 37)
  d_book_read := has_kw X G (c.def_ 3 (d := e3) rfl) (c.fact 38)
  ne_AW := of_decide_eq_true (c.fact 39)
  ne_BW := of_decide_eq_true (c.fact 40)
  ne_AB := of_decide_eq_true (c.fact 41)
  na_CW_own_words := He.noat_ok (c.fact 42)
  na_CW_own_line := He.noat_ok (c.fact 43)
  na_CW_own_field := He.noat_ok (c.fact 44)
  na_CW_spot := He.noat_ok (c.fact 45)
  na_CA_own_slots := He.noat_ok (c.fact 46)
  na_CB_own_book := He.noat_ok (c.fact 47)
  na_CB_own_rows := He.noat_ok (c.fact 48)
  d_is_number := has_def X G (c.def_ 4 (d := e4) rfl) (c.fact 49)
  d_is_name := has_def X G (c.def_ 5 (d := e5) rfl) (c.fact 50)
  d_is_ascending := has_def X G (c.def_ 6 (d := e6) rfl) (c.fact 51)
  d_are_numbers := has_def X G (c.def_ 7 (d := e7) rfl) (c.fact 52)
  d_are_names := has_def X G (c.def_ 8 (d := e8) rfl) (c.fact 53)
  d_are_days := has_def X G (c.def_ 9 (d := e9) rfl) (c.fact 54)
  d_is_slot := has_def X G (c.def_ 10 (d := e10) rfl) (c.fact 55)
  d_is_purse := has_def X G (c.def_ 11 (d := e11) rfl) (c.fact 56)
  d_is_limit := has_def X G (c.def_ 12 (d := e12) rfl) (c.fact 57)
  d_is_row := has_def X G (c.def_ 13 (d := e13) rfl) (c.fact 58)
  d_names_paying := has_def X G (c.def_ 14 (d := e14) rfl) (c.fact 59)
  d_size_of := has_def X G (c.def_ 15 (d := e15) rfl) (c.fact 60)
  d_covers := has_def X G (c.def_ 16 (d := e16) rfl) (c.fact 61)
  d_paid_within := has_def X G (c.def_ 17 (d := e17) rfl) (c.fact 62)
  d_require_purse := has_def X G (c.def_ 18 (d := e18) rfl) (c.fact 63)
  d_require_day := has_def X G (c.def_ 19 (d := e19) rfl) (c.fact 64)
  d_require_limit := has_def X G (c.def_ 20 (d := e20) rfl) (c.fact 65)
  d_require_row := has_def X G (c.def_ 21 (d := e21) rfl) (c.fact 66)
  d_payers := has_def X G (c.def_ 22 (d := e22) rfl) (c.fact 67)
  d_open_rows := has_def X G (c.def_ 23 (d := e23) rfl) (c.fact 68)
  d_amount_of := has_def X G (c.def_ 24 (d := e24) rfl) (c.fact 69)
  d_paid_by := has_def X G (c.def_ 25 (d := e25) rfl) (c.fact 70)
  d_area_of := has_def X G (c.def_ 26 (d := e26) rfl) (c.fact 71)
  d_left_of := has_def X G (c.def_ 27 (d := e27) rfl) (c.fact 72)
  d_limits_over := has_def X G (c.def_ 28 (d := e28) rfl) (c.fact 73)
  d_require := has_def X G (c.def_ 29 (d := e29) rfl) (c.fact 74)
  d_has_book_shape := has_def X G (c.def_ 30 (d := e30) rfl) (c.fact 75)
  d_are_apart := has_def X G (c.def_ 31 (d := e31) rfl) (c.fact 76)
  d_is_within := has_def X G (c.def_ 32 (d := e32) rfl) (c.fact 77)
  d_are_nested := has_def X G (c.def_ 33 (d := e33) rfl) (c.fact 78)
  d_check_limit := has_def X G (c.def_ 34 (d := e34) rfl) (c.fact 79)
  d_check_shares := has_def X G (c.def_ 35 (d := e35) rfl) (c.fact 80)
  d_lets_book := has_def X G (c.def_ 36 (d := e36) rfl) (c.fact 81)
  d_checked := has_def X G (c.def_ 37 (d := e37) rfl) (c.fact 82)
  d_require_open := has_def X G (c.def_ 38 (d := e38) rfl) (c.fact 83)
  d_with_row_as := has_def X G (c.def_ 39 (d := e39) rfl) (c.fact 84)
  d_with_row := has_def X G (c.def_ 40 (d := e40) rfl) (c.fact 85)
  d_without_row := has_def X G (c.def_ 41 (d := e41) rfl) (c.fact 86)
  d_with_amount := has_def X G (c.def_ 42 (d := e42) rfl) (c.fact 87)
  d_with_paid := has_def X G (c.def_ 43 (d := e43) rfl) (c.fact 88)
  d_with_share := has_def X G (c.def_ 44 (d := e44) rfl) (c.fact 89)
  d_with_purse := has_def X G (c.def_ 45 (d := e45) rfl) (c.fact 90)
  d_with_limit := has_def X G (c.def_ 46 (d := e46) rfl) (c.fact 91)
  d_with_cap := has_def X G (c.def_ 47 (d := e47) rfl) (c.fact 92)
  d_tuple_word := has_def X G (c.def_ 48 (d := e48) rfl) (c.fact 93)
  d_purse_text := has_def X G (c.def_ 49 (d := e49) rfl) (c.fact 94)
  d_limit_text := has_def X G (c.def_ 50 (d := e50) rfl) (c.fact 95)
  d_row_text := has_def X G (c.def_ 51 (d := e51) rfl) (c.fact 96)
  d_book_text := has_def X G (c.def_ 52 (d := e52) rfl) (c.fact 97)
  d_number_or_none := has_def X G (c.def_ 53 (d := e53) rfl) (c.fact 98)
  d_numbers_or_none := has_def X G (c.def_ 54 (d := e54) rfl) (c.fact 99)
  d_names_or_none := has_def X G (c.def_ 55 (d := e55) rfl) (c.fact 100)
  d_heads_behind := has_def X G (c.def_ 56 (d := e56) rfl) (c.fact 101)
  d_line_read := has_def X G (c.def_ 57 (d := e57) rfl) (c.fact 102)
  d_book_of := has_def X G (c.def_ 58 (d := e58) rfl) (c.fact 103)
  d_law_reader := has_def X G (c.def_ 59 (d := e59) rfl) (c.fact 104)
  d_law_draw := has_def X G (c.def_ 60 (d := e60) rfl) (c.fact 105)
  d_law_within := has_def X G (c.def_ 61 (d := e61) rfl) (c.fact 106)
  d_law_crosses := has_def X G (c.def_ 62 (d := e62) rfl) (c.fact 107)
  d_law_pays := has_def X G (c.def_ 63 (d := e63) rfl) (c.fact 108)
  d_law_spent := has_def X G (c.def_ 64 (d := e64) rfl) (c.fact 109)
  d_law_some_of := has_def X G (c.def_ 65 (d := e65) rfl) (c.fact 110)
  d_law_random_purses := has_def X G (c.def_ 66 (d := e66) rfl) (c.fact 111)
  d_law_random_row := has_def X G (c.def_ 67 (d := e67) rfl) (c.fact 112)
  d_law_random_book := has_def X G (c.def_ 68 (d := e68) rfl) (c.fact 113)
  d_law_fixed_books := has_def X G (c.def_ 69 (d := e69) rfl) (c.fact 114)
  d_law_functions_right := has_def X G (c.def_ 70 (d := e70) rfl) (c.fact 115)
  d_law_rows_right := has_def X G (c.def_ 71 (d := e71) rfl) (c.fact 116)
  d_law_changes_right := has_def X G (c.def_ 72 (d := e72) rfl) (c.fact 117)
  d_law_joined_right := has_def X G (c.def_ 73 (d := e73) rfl) (c.fact 118)
  d_law := has_def X G (c.def_ 74 (d := e74) rfl) (c.fact 119)
  m_Area_is_apart := has_meth (c.def_ 75 (d := e75) rfl) (c.fact 120)
  m_Area_or := has_meth (c.def_ 76 (d := e76) rfl) (c.fact 121)
  m_Area_iter := has_meth (c.def_ 77 (d := e77) rfl) (c.fact 122)
  m_Area_contains := has_meth (c.def_ 78 (d := e78) rfl) (c.fact 123)
  m_Area_len := has_meth (c.def_ 79 (d := e79) rfl) (c.fact 124)
  m_Area_eq := has_meth (c.def_ 80 (d := e80) rfl) (c.fact 125)
  m_WordReader_next_word := has_meth (c.def_ 81 (d := e81) rfl) (c.fact 126)
  m_WordReader_take_found := has_meth (c.def_ 82 (d := e82) rfl) (c.fact 127)
  m_WordReader_take_word := has_meth (c.def_ 83 (d := e83) rfl) (c.fact 128)
  m_WordReader_take_name := has_meth (c.def_ 84 (d := e84) rfl) (c.fact 129)
  m_WordReader_take_number := has_meth (c.def_ 85 (d := e85) rfl) (c.fact 130)
  m_WordReader_take_last := has_meth (c.def_ 86 (d := e86) rfl) (c.fact 131)
  m_WordReader_take_names := has_meth (c.def_ 87 (d := e87) rfl) (c.fact 132)
  m_WordReader_take_numbers := has_meth (c.def_ 88 (d := e88) rfl) (c.fact 133)
  m_WordReader_take_purse := has_meth (c.def_ 89 (d := e89) rfl) (c.fact 134)
  m_WordReader_take_limit := has_meth (c.def_ 90 (d := e90) rfl) (c.fact 135)
  m_WordReader_take_row := has_meth (c.def_ 91 (d := e91) rfl) (c.fact 136)
  m_WordReader_end := has_meth (c.def_ 92 (d := e92) rfl) (c.fact 137)
  m_Book_area := has_meth (c.def_ 93 (d := e93) rfl) (c.fact 138)
  m_Book_resized := has_meth (c.def_ 94 (d := e94) rfl) (c.fact 139)
  m_Book_settled := has_meth (c.def_ 95 (d := e95) rfl) (c.fact 140)
  m_Book_joined := has_meth (c.def_ 96 (d := e96) rfl) (c.fact 141)
  m_Book_limited := has_meth (c.def_ 97 (d := e97) rfl) (c.fact 142)
  m_Book_capped := has_meth (c.def_ 98 (d := e98) rfl) (c.fact 143)
  m_Book_call := has_meth (c.def_ 99 (d := e99) rfl) (c.fact 144)
  m_Book_add := has_meth (c.def_ 100 (d := e100) rfl) (c.fact 145)
  m_Book_sub := has_meth (c.def_ 101 (d := e101) rfl) (c.fact 146)
  m_Book_iter := has_meth (c.def_ 102 (d := e102) rfl) (c.fact 147)
  m_Book_getitem := has_meth (c.def_ 103 (d := e103) rfl) (c.fact 148)
  m_Book_contains := has_meth (c.def_ 104 (d := e104) rfl) (c.fact 149)
  m_Book_len := has_meth (c.def_ 105 (d := e105) rfl) (c.fact 150)
  m_Book_eq := has_meth (c.def_ 106 (d := e106) rfl) (c.fact 151)
  m_Book_str := has_meth (c.def_ 107 (d := e107) rfl) (c.fact 152)
theorem txtB_of {K : PySem.W.Frag} {h : Heap} {mg : Str → Option Value} (X : K.In h) (G : h.Ns mainGlobals mg) (c : SaysL fx fn K) : TxtB K mg (He.ga K "Area") (He.ga K "WordReader") (He.ga K "Book") where
  toTxt := txt_of X G c
  p_form := has_prop (c.def_ 108 (d := e108) rfl) (c.fact 153)
  p_purse_rows := has_prop (c.def_ 109 (d := e109) rfl) (c.fact 154)
  p_limit_rows := has_prop (c.def_ 110 (d := e110) rfl) (c.fact 155)
  p_row_rows := has_prop (c.def_ 111 (d := e111) rfl) (c.fact 156)
  c_parsed := has_cm (c.def_ 112 (d := e112) rfl) (c.fact 157) (c.fact 158) (c.fact 159)
  s_box := has_sm (c.def_ 113 (d := e113) rfl) (c.fact 160) (c.fact 161)
  m_Book_payable := has_meth (c.def_ 114 (d := e114) rfl) (c.fact 162)
  no_Book := neOfB_ok (c.fact 163)
  no_Area := neOfB_ok (c.fact 164)
  ic_Book := insCB_ok (He.cls_ok (c.fact 32)) (c.fact 165)
  ic_Area := insCB_ok (He.cls_ok (c.fact 30)) (c.fact 166)
  oo_add := opsB_ok (c.fact 167)
  oo_sub := opsB_ok (c.fact 168)
  sf_Area := (c.fact 169)
end Lc
end
section
set_option maxHeartbeats 0
namespace Lc
open PySem L2
theorem run (w : World) : HandSHeadRun.RunEq R (PySem.W.view R.prog [103]) hk ob 20000 loose w := by
  intro os
  kernel_rfl
end Lc
end
section
set_option maxHeartbeats 0
/-! The law holds. -/
namespace Lc
open PySem L2
theorem law_facts {P : Program} {w : World} {K : PySem.W.Frag} {h : Heap} {mg : Str → Option Value} {fa : Addr} (X : K.In h) (G : h.Ns mainGlobals mg) (hfa : mg ("law" : Str) = some (.ref fa)) (c : SaysL fx fn K) :
    ∃ fd : FuncData, (∀ (s : Shared) (u : Value), BindsTo s fd ⟨[u], []⟩ [("_law_script", u)]) ∧ ∀ base : Heap, FnOk P w K mg base CX0 11 fa fd ["_law_script"] (spL (FLaw K)) := by
  obtain ⟨f, fd, h1, h2, h3⟩ := ok_law (P := P) (w := w) (txtB_of X G c) lot_good (fun _ _ hb hc e => text_inj hb hc e)
  rw [hfa] at h1
  cases h1
  exact ⟨fd, fun s u => BindsTo.of_eq (h2 [u] rfl), h3⟩
end Lc
open PySem PySem.W PySem.Calls PyProof.Rows
theorem PySem.Challenge.cw_latecharge_k15_whole_books_and_objects_holds : PySem.Challenge.rw_latecharge_k15_whole_books_and_objects.Holds := by
  w_on; o_law
  refine HandSHeadRun.head_any (r := OpenLaw.row PySem.Challenge.rw_latecharge_k15_whole_books_and_objects) (q := view (OpenLaw.row PySem.Challenge.rw_latecharge_k15_whole_books_and_objects).prog [103]) (H := Lc.hk) (ob := Lc.ob) (M := 20000) (loose := Lc.loose) (d := HandSHeadRun.topDef (OpenLaw.row PySem.Challenge.rw_latecharge_k15_whole_books_and_objects).prog 103) (kwd := []) Lc.ob_eq
    (by kernel_rfl) (fun s => by kernel_rfl) Lc.run (by kernel_rfl) (by kernel_rfl) (by kernel_rfl) (by rfl) (by first | assumption | decide +kernel) (by decide +kernel) ⟨rfl, rfl, rfl, rfl, rfl, by decide +kernel⟩ ?hw ?hc
  case hw => w_witness2
  case hc =>
    refine L2.walk_ofE (l := PySem.Challenge.rw_latecharge_k15_whole_books_and_objects) (n := 63) (k := 11) (x := "_law_script") (CX := L2.CX0) rfl (by decide) (by kernel_rfl) ⟨rfl, by decide, by decide⟩ ?F (fun _ _ _ _ z => z)
    intro w mg fa h Y G hmg0
    obtain ⟨K, KX, c⟩ := Y
    have hmg : mg ("law" : PySem.Str) = some (.ref fa) := by
      have e : (HandSHeadRun.topDef (OpenLaw.row PySem.Challenge.rw_latecharge_k15_whole_books_and_objects).prog 103).name = ("law" : PySem.Str) := by kernel_rfl
      rw [← e]
      exact hmg0
    obtain ⟨fd, hb, hF⟩ := Lc.law_facts (P := (PySem.Challenge.rw_latecharge_k15_whole_books_and_objects).prog) (w := w) KX G hmg c
    exact ⟨K, fd, Lc.spL (Lc.FLaw K), KX, hb, fun H a ns hl _ hS => ⟨_, _, .mk ns, .cons (.lst hS (Lc.dpAll_ofInts ns)) .nil, fun v H' z => by cases z; rfl⟩, fun base _ _ => hF base⟩
end
