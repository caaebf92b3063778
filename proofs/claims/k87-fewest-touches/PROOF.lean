import PyProof.Rows.All
import Wide.All
import OpenK.AllK
import Wide.FinOn
import HandS.ForMost
import HandS.Evl
import HandS.Slots
import HandS.Deep
import HandS.TupAny
import HandS.TupMul
import HandS.IsInst
import HandS.Flow
import HandS.Star
import PyProof.WalksMore
import HandS.Style
import HandS.SortInts
import HandS.Zip
import HandS.NoneIn
import KE.GoesMore
import PyProof.EnumMake
import HandS.Base
import HandS.Call
import HandS.List
import HandS.Comp
import HandS.GenList
import PyProof.GenQ
import KE.SortLaws
import HandS.SlotsOwn
import PyProof.InstNe
import OpenK.KOwn
import HandS.ForExc
import HandS.ExcInit
import HandS.ExcSuper
import KE.KExcSuper
import HandS.ExcField
import HandS.WordsExc
import HandS.ExcOwn
import PyProof.ReprRoads
import KE.SortKeyHeap
import HandS.SortKw
import HandS.TupSets
import HandS.TryOnly
import HandS.HeadHook2
import HandS.Ends
import HandS.Head0
import HandS.Head1
import HandS.Head2
import HandS.HeadEnd
import HandS.Exc
import PySem.Challenge.RW_keysaloud_k87_whole_fewest_touches
section
set_option Elab.async false
set_option linter.all false
set_option maxRecDepth 100000
set_option maxHeartbeats 4000000
/-! A logic of data over HandS: what an expression does, said by data (PyData, instances with slots), slots (DEnv) and what is wanted behind it. -/
namespace DL
open PySem PySem.Spec PyProof.Rows L2 Evl

/-! ### weakest readings -/
def WE (X : Cx) (e : Expr) : TE := fun σ H Q => ∃ t, PE X e t ∧ t σ H Q
def WT (X : Cx) (e : Expr) : TT := fun σ H Q => ∃ t, PT X e t ∧ t σ H Q
def WA (X : Cx) (es : List Expr) : TA := fun σ H Q => ∃ t, PA X es t ∧ t σ H Q
def WSs (X : Cx) (st : List Stmt) : TS := fun D σ H => ∃ t, PSs X st t ∧ t D σ H
def WS (X : Cx) (st : Stmt) : TS := fun D σ H => ∃ t, PS X st t ∧ t D σ H
section
variable {X : Cx}
theorem pe_w {e : Expr} : PE X e (WE X e) := ⟨fun pins s σ H Q I ⟨_, ht, q⟩ => ht.run pins s σ H Q I q⟩
theorem pt_w {e : Expr} : PT X e (WT X e) := ⟨fun pins s σ H Q I ⟨_, ht, q⟩ => ht.run pins s σ H Q I q⟩
theorem pa_w {es : List Expr} : PA X es (WA X es) := ⟨fun pos pins s σ H Q I ⟨_, ht, q⟩ => ht.run pos pins s σ H Q I q⟩
theorem pss_w {st : List Stmt} : PSs X st (WSs X st) := ⟨fun pins s σ H Q I ⟨_, ht, q⟩ => ht.run pins s σ H Q I q⟩
theorem ps_w {st : Stmt} : PS X st (WS X st) := ⟨fun pins s σ H Q I ⟨_, ht, q⟩ => ht.run pins s σ H Q I q⟩
end

/-! ### heaps without some addresses -/
def off (M : List Addr) (H : Hp) : Hp := fun a => if a ∈ M then none else H a
theorem off_in {M : List Addr} {H : Hp} {a : Addr} (h : a ∈ M) : off M H a = none := by unfold off; rw [if_pos h]
theorem off_out {M : List Addr} {H : Hp} {a : Addr} (h : a ∉ M) : off M H a = H a := by unfold off; rw [if_neg h]
theorem of_off {M : List Addr} {H : Hp} {a : Addr} {o : HO} (h : off M H a = some o) : a ∉ M ∧ H a = some o := by
  unfold off at h
  split at h
  · cases h
  · exact ⟨by assumption, h⟩
theorem off_ex {M : List Addr} {H : Hp} : Ex (off M H) H := fun a o h => (of_off h).2
theorem off_less {M M' : List Addr} {H : Hp} (h : ∀ a ∈ M', a ∈ M) : Ex (off M H) (off M' H) := fun a o q => by
  obtain ⟨h1, h2⟩ := of_off q
  rw [off_out fun z => h1 (h a z)]
  exact h2
theorem off_mono {M : List Addr} {H H' : Hp} (e : Ex H H') : Ex (off M H) (off M H') := fun a o q => by
  obtain ⟨h1, h2⟩ := of_off q
  rw [off_out h1]
  exact e a o h2

/-! ### data -/
mutual
theorem dp_mono {K : PySem.W.Frag} {H H' : Hp} (e : Ex H H') : ∀ {v : V} {d : PyData}, Dp K H v d → Dp K H' v d
  | _, _, .non => .non
  | _, _, .bl b => .bl b
  | _, _, .int i => .int i
  | _, _, .str x => .str x
  | _, _, .lst h q => .lst (ex_l e h) (dpAll_mono e q)
  | _, _, .tup h q => .tup (ex_t e h) (dpAll_mono e q)
theorem dpAll_mono {K : PySem.W.Frag} {H H' : Hp} (e : Ex H H') : ∀ {vs : List V} {ds : List PyData}, DpAll K H vs ds → DpAll K H' vs ds
  | _, _, .nil => .nil
  | _, _, .cons h q => .cons (dp_mono e h) (dpAll_mono e q)
end
section
variable {K : PySem.W.Frag} {H H' : Hp}
theorem dpa_length : ∀ {vs : List V} {ds : List PyData}, DpAll K H vs ds → vs.length = ds.length
  | _, _, .nil => rfl
  | _, _, .cons _ q => congrArg (· + 1) (dpa_length q)
theorem dpa_append : ∀ {vs ws : List V} {ds es : List PyData}, DpAll K H vs ds → DpAll K H ws es → DpAll K H (vs ++ ws) (ds ++ es)
  | _, _, _, _, .nil, r => r
  | _, _, _, _, .cons h q, r => .cons h (dpa_append q r)
theorem dpa_get : ∀ {vs : List V} {ds : List PyData} {i : Nat} {d : PyData}, DpAll K H vs ds → ds[i]? = some d → ∃ v, vs[i]? = some v ∧ Dp K H v d
  | _, _, _, _, .nil, e => by simp at e
  | _, _, 0, _, .cons h _, e => by simp at e; subst e; exact ⟨_, rfl, h⟩
  | _, _, i + 1, d, .cons _ q, e => by
    obtain ⟨v, h1, h2⟩ := dpa_get (i := i) (d := d) q (by simpa using e)
    exact ⟨v, by simpa using h1, h2⟩
theorem dpa_getV : ∀ {vs : List V} {ds : List PyData} {i : Nat} {v : V}, DpAll K H vs ds → vs[i]? = some v → ∃ d, ds[i]? = some d ∧ Dp K H v d
  | _, _, _, _, .nil, e => by simp at e
  | _, _, 0, _, .cons h _, e => by simp at e; subst e; exact ⟨_, rfl, h⟩
  | _, _, i + 1, v, .cons _ q, e => by
    obtain ⟨d, h1, h2⟩ := dpa_getV (i := i) (v := v) q (by simpa using e)
    exact ⟨d, by simpa using h1, h2⟩
theorem dpa_take : ∀ {vs : List V} {ds : List PyData} (n : Nat), DpAll K H vs ds → DpAll K H (vs.take n) (ds.take n)
  | _, _, 0, _ => .nil
  | _, _, _ + 1, .nil => .nil
  | _, _, n + 1, .cons h q => .cons h (dpa_take n q)
theorem dpa_drop : ∀ {vs : List V} {ds : List PyData} (n : Nat), DpAll K H vs ds → DpAll K H (vs.drop n) (ds.drop n)
  | _, _, 0, h => h
  | _, _, _ + 1, .nil => .nil
  | _, _, n + 1, .cons _ q => dpa_drop n q
theorem dpa_set {v : V} {d : PyData} (r : Dp K H v d) : ∀ {vs : List V} {ds : List PyData} (i : Nat), DpAll K H vs ds → DpAll K H (vs.set i v) (ds.set i d)
  | _, _, _, .nil => .nil
  | _, _, 0, .cons _ q => .cons r q
  | _, _, i + 1, .cons h q => .cons h (dpa_set r i q)
theorem dpa_reverse : ∀ {vs : List V} {ds : List PyData}, DpAll K H vs ds → DpAll K H vs.reverse ds.reverse
  | _, _, .nil => .nil
  | _, _, .cons h q => by
    rw [List.reverse_cons, List.reverse_cons]
    exact dpa_append (dpa_reverse q) (.cons h .nil)
theorem dpa_ints : ∀ {vs : List V} {ns : List Int}, DpAll K H vs (ns.map PyData.int) → vs = ns.map V.int
  | [], [], _ => rfl
  | v :: vs, n :: ns, .cons h q => by
    cases h
    rw [dpa_ints q]
    rfl
theorem dpa_of_ints : ∀ (ns : List Int), DpAll K H (ns.map V.int) (ns.map PyData.int)
  | [] => .nil
  | n :: ns => .cons (.int n) (dpa_of_ints ns)
theorem dpa_bools : ∀ {vs : List V} {ns : List Bool}, DpAll K H vs (ns.map PyData.bool) → vs = ns.map V.bl
  | [], [], _ => rfl
  | v :: vs, n :: ns, .cons h q => by
    cases h
    rw [dpa_bools q]
    rfl
end

/-- a datum, or an instance with slots -/
inductive Dt where
  | d (x : PyData)
  | ins (C : Addr) (fs : List PyData)
abbrev dI (i : Int) : Dt := .d (.int i)
abbrev dB (b : Bool) : Dt := .d (.bool b)
abbrev dN : Dt := .d .none
abbrev dS (s : Str) : Dt := .d (.str s)
abbrev dT (ds : List PyData) : Dt := .d (.tuple ds)
abbrev dL (ds : List PyData) : Dt := .d (.list ds)
def DtR (K : PySem.W.Frag) (H : Hp) (v : V) : Dt → Prop
  | .d x => Dp K H v x
  | .ins C fs => ∃ (a dx : Addr) (ws : List (Option V)), v = .ref a ∧ H a = some (SlX.SlO a C dx ws) ∧ H dx = some (.xd []) ∧ ∀ (i : Nat) (x : PyData), fs[i]? = some x → ∃ w, ws[i]? = some (some w) ∧ Dp K H w x
theorem dt_mono {K : PySem.W.Frag} {H H' : Hp} (e : Ex H H') {v : V} {d : Dt} (h : DtR K H v d) : DtR K H' v d := by
  cases d with
  | d x => exact dp_mono e h
  | ins C fs =>
    obtain ⟨a, dx, ws, h1, h2, h3, h4⟩ := h
    exact ⟨a, dx, ws, h1, e _ _ h2, e _ _ h3, fun i x q => let ⟨w, q1, q2⟩ := h4 i x q; ⟨w, q1, dp_mono e q2⟩⟩
theorem dt_int {K : PySem.W.Frag} {H : Hp} {i : Int} : DtR K H (.int i) (dI i) := Dp.int i
theorem dt_bl {K : PySem.W.Frag} {H : Hp} {b : Bool} : DtR K H (.bl b) (dB b) := Dp.bl b
inductive DtAll (K : PySem.W.Frag) (H : Hp) : List V → List Dt → Prop
  | nil : DtAll K H [] []
  | cons {v : V} {vs : List V} {d : Dt} {ds : List Dt} : DtR K H v d → DtAll K H vs ds → DtAll K H (v :: vs) (d :: ds)
theorem dtAll_mono {K : PySem.W.Frag} {H H' : Hp} (e : Ex H H') {vs : List V} {ds : List Dt} (h : DtAll K H vs ds) : DtAll K H' vs ds := by
  induction h with
  | nil => exact .nil
  | cons h _ ih => exact .cons (dt_mono e h) ih
theorem DtAll.length {K : PySem.W.Frag} {H : Hp} {vs : List V} {ds : List Dt} (h : DtAll K H vs ds) : vs.length = ds.length := by
  induction h with
  | nil => rfl
  | cons _ _ ih => exact congrArg (· + 1) ih

/-! ### slots -/
/-- what a slot holds: a value; a list of one's own, that may still change; the source of the law; an instance that is being made -/
inductive Ent where
  | im (d : Dt)
  | ow (ds : List PyData)
  | src (n s : Int)
  | slf (C : Addr) (fs : List (Option PyData))
abbrev DEnv := List (Option Ent)
def EntR (K : PySem.W.Frag) (M O S : List Addr) (H : Hp) (v : V) : Ent → Prop
  | .im d => DtR K (off (O ++ M) H) v d
  | .ow ds => ∃ a vs, v = .ref a ∧ a ∈ O ∧ H a = some (.lst vs) ∧ DpAll K (off (O ++ M) H) vs ds
  | .src n s => ∃ a, v = .ref a ∧ S = [a] ∧ H a = some (.lst [.int n, .int s])
  | .slf C fs => ∃ (a dx : Addr) (ws : List (Option V)), v = .ref a ∧ S = [a, dx] ∧ SlX.Slt H a C dx ws ∧ ∀ (i : Nat) (x : PyData), fs[i]? = some (some x) → ∃ w, ws[i]? = some (some w) ∧ Dp K (off (O ++ M) H) w x
structure EnvOk (K : PySem.W.Frag) (H0 : Hp) (M O S : List Addr) (ρ : DEnv) (σ : L2.St) (H : Hp) : Prop where
  ex : Ex H0 H
  h0 : ∀ a, a ∈ S ++ O → H0 a = none
  dom : ∀ a, a ∈ O ++ M → H a ≠ none
  sub : ∀ a ∈ S, a ∈ M
  apart : ∀ a ∈ O, a ∉ M
  len : σ.length = ρ.length
  ent : ∀ (i : Nat) (e : Ent), ρ[i]? = some (some e) → ∃ v, σ[i]? = some (some v) ∧ EntR K M O S H v e
  dist : ∀ (i j : Nat) (ds es : List PyData), ρ[i]? = some (some (.ow ds)) → ρ[j]? = some (some (.ow es)) → σ[i]? = σ[j]? → i = j

section
variable {K : PySem.W.Frag} {H0 H H' H1 H2 : Hp} {M O S : List Addr} {ρ ρ' : DEnv} {σ : L2.St} {v : V} {d : Dt}
theorem entR_mono {e : Ent} (x : Ex H H') (h : EntR K M O S H v e) : EntR K M O S H' v e := by
  cases e with
  | im d => exact dt_mono (off_mono x) h
  | ow ds => obtain ⟨a, vs, h1, h2, h3, h4⟩ := h; exact ⟨a, vs, h1, h2, x _ _ h3, dpAll_mono (off_mono x) h4⟩
  | src n s => obtain ⟨a, h1, h2, h3⟩ := h; exact ⟨a, h1, h2, x _ _ h3⟩
  | slf C fs =>
    obtain ⟨a, dx, ws, h1, h2, h3, h4⟩ := h
    refine ⟨a, dx, ws, h1, h2, ?_, fun i y q => let ⟨w, q1, q2⟩ := h4 i y q; ⟨w, q1, dp_mono (off_mono x) q2⟩⟩
    rcases h3 with ⟨q1, q2⟩ | ⟨q1, q2⟩
    · exact .inl ⟨x _ _ q1, q2⟩
    · exact .inr ⟨x _ _ q1, x _ _ q2⟩
theorem EnvOk.grow (E : EnvOk K H0 M O S ρ σ H) (x : Ex H H') : EnvOk K H0 M O S ρ σ H' where
  ex := E.ex.trans x
  h0 := E.h0
  dom := fun a ha => by
    cases q : H a with
    | none => exact absurd q (E.dom a ha)
    | some o => rw [x a o q]; exact fun z => nomatch z
  sub := E.sub
  apart := E.apart
  len := E.len
  ent := fun i e h => let ⟨v, h1, h2⟩ := E.ent i e h; ⟨v, h1, entR_mono x h2⟩
  dist := E.dist
/-- the heap of now, for what is evaluated next -/
theorem EnvOk.re (E : EnvOk K H0 M O S ρ σ H) : EnvOk K (off (S ++ O) H) M O S ρ σ H := ⟨off_ex, fun a ha => off_in ha, E.dom, E.sub, E.apart, E.len, E.ent, E.dist⟩
/-- .. and back -/
theorem EnvOk.back (E : EnvOk K H0 M O S ρ σ H1) (F : EnvOk K (off (S ++ O) H1) M O S ρ' σ H2) : EnvOk K H0 M O S ρ' σ H2 :=
  ⟨fun a o h => F.ex a o (by rw [off_out fun z => by rw [E.h0 a z] at h; cases h]; exact E.ex a o h), E.h0, F.dom, F.sub, F.apart, F.len, F.ent, F.dist⟩
/-- what was a value stays one -/
theorem EnvOk.stay (F : EnvOk K (off (S ++ O) H1) M O S ρ' σ H2) : Ex (off (O ++ M) H1) (off (O ++ M) H2) := fun a o h => by
  obtain ⟨h1, h2⟩ := of_off h
  rw [off_out h1]
  refine F.ex a o ?_
  rw [off_out fun z => ?_]
  · exact h2
  · rcases List.mem_append.mp z with z | z
    · exact h1 (List.mem_append_right _ (F.sub a z))
    · exact h1 (List.mem_append_left _ z)
theorem EnvOk.outS (E : EnvOk K H0 M O S ρ σ H) {p : Addr} (h : H p = none) : p ∉ O ++ M ∧ p ∉ S ++ O ∧ H0 p = none := by
  have h1 : p ∉ O ++ M := fun z => E.dom p z h
  refine ⟨h1, fun z => ?_, ?_⟩
  · rcases List.mem_append.mp z with z | z
    · exact h1 (List.mem_append_right _ (E.sub p z))
    · exact h1 (List.mem_append_left _ z)
  · cases q : H0 p with
    | none => rfl
    | some o =>
      rw [E.ex p o q] at h
      cases h
end

/-! ### what is said of code -/
section
variable (X : Cx)
/-- e gives a d, leaving ρ', of which Q d ρ' is wanted -/
def EvP (e : Expr) (ρ : DEnv) (Q : Dt → DEnv → Prop) : Prop := ∀ (H0 : Hp) (M O S : List Addr) (σ : L2.St) (H : Hp), EnvOk X.K H0 M O S ρ σ H → ∀ R : VK,
  (∀ v H' d ρ', Q d ρ' → EnvOk X.K H0 M O S ρ' σ H' → DtR X.K (off (O ++ M) H') v d → R v H') → WE X e σ H R
/-- .. a new list -/
def EvN (e : Expr) (ρ : DEnv) (Q : List PyData → DEnv → Prop) : Prop := ∀ (H0 : Hp) (M O S : List Addr) (σ : L2.St) (H : Hp), EnvOk X.K H0 M O S ρ σ H → ∀ R : VK,
  (∀ p vs H' ds ρ', Q ds ρ' → p ∉ O ++ M → EnvOk X.K H0 M O S ρ' σ H' → EnvOk X.K H0 M (p :: O) S ρ' σ H' → H' p = some (.lst vs) → DpAll X.K (off (p :: O ++ M) H') vs ds → R (.ref p) H') → WE X e σ H R
/-- .. something to be read as a tuple (b) or a list; it may be a list of one's own -/
def EvQ (e : Expr) (ρ : DEnv) (Q : Bool → List PyData → DEnv → Prop) : Prop := ∀ (H0 : Hp) (M O S : List Addr) (σ : L2.St) (H : Hp), EnvOk X.K H0 M O S ρ σ H → ∀ R : VK,
  (∀ a vs H' b ds ρ', Q b ds ρ' → EnvOk X.K H0 M O S ρ' σ H' → (if b = true then SqT X.K (off (O ++ M) H') a vs else SqL X.K H' a vs) → DpAll X.K (off (O ++ M) H') vs ds → R (.ref a) H') → WE X e σ H R
def EvT (e : Expr) (ρ : DEnv) (Q : Bool → DEnv → Prop) : Prop := ∀ (H0 : Hp) (M O S : List Addr) (σ : L2.St) (H : Hp), EnvOk X.K H0 M O S ρ σ H → ∀ R : Bool → Hp → Prop,
  (∀ H' b ρ', Q b ρ' → EnvOk X.K H0 M O S ρ' σ H' → R b H') → WT X e σ H R
def EvA (es : List Expr) (ρ : DEnv) (Q : List Dt → DEnv → Prop) : Prop := ∀ (H0 : Hp) (M O S : List Addr) (σ : L2.St) (H : Hp), EnvOk X.K H0 M O S ρ σ H → ∀ R : List V → Hp → Prop,
  (∀ vs H' ds ρ', Q ds ρ' → EnvOk X.K H0 M O S ρ' σ H' → DtAll X.K (off (O ++ M) H') vs ds → R vs H') → WA X es σ H R
structure Post where
  nx : DEnv → Prop
  rt : Dt → DEnv → Prop
  bk : DEnv → Prop := fun _ => False
  ct : DEnv → Prop := fun _ => False
def RunP (st : List Stmt) (ρ : DEnv) (P : Post) : Prop := ∀ (H0 : Hp) (M O S : List Addr) (σ : L2.St) (H : Hp), EnvOk X.K H0 M O S ρ σ H → ∀ D : Ends,
  (∀ O' σ' H' ρ', P.nx ρ' → EnvOk X.K H0 M O' S ρ' σ' H' → D.nx σ' H') → (∀ v O' σ' H' d ρ', P.rt d ρ' → EnvOk X.K H0 M O' S ρ' σ' H' → DtR X.K (off M H') v d → D.rt v H') →
  (∀ O' σ' H' ρ', P.bk ρ' → EnvOk X.K H0 M O' S ρ' σ' H' → D.bk σ' H') → (∀ O' σ' H' ρ', P.ct ρ' → EnvOk X.K H0 M O' S ρ' σ' H' → D.ct σ' H') → WSs X st D σ H
end

section
variable {X : Cx} {ρ : DEnv}
theorem EvP.imp {e : Expr} {Q Q' : Dt → DEnv → Prop} (h : EvP X e ρ Q) (q : ∀ d ρ', Q d ρ' → Q' d ρ') : EvP X e ρ Q' := fun H0 M O S σ H E R r => h H0 M O S σ H E R fun v H' d ρ' z => r v H' d ρ' (q d ρ' z)
theorem RunP.imp {st : List Stmt} {P P' : Post} (h : RunP X st ρ P) (h1 : ∀ ρ', P.nx ρ' → P'.nx ρ') (h2 : ∀ d ρ', P.rt d ρ' → P'.rt d ρ') (h3 : ∀ ρ', P.bk ρ' → P'.bk ρ') (h4 : ∀ ρ', P.ct ρ' → P'.ct ρ') : RunP X st ρ P' :=
  fun H0 M O S σ H E D a b c d => h H0 M O S σ H E D (fun O' σ' H' ρ' z => a O' σ' H' ρ' (h1 _ z)) (fun v O' σ' H' e ρ' z => b v O' σ' H' e ρ' (h2 _ _ z)) (fun O' σ' H' ρ' z => c O' σ' H' ρ' (h3 _ z)) (fun O' σ' H' ρ' z => d O' σ' H' ρ' (h4 _ z))

/-! ### two operands -/
theorem ev_two {a b : Expr} {Z : Dt → Dt → DEnv → Prop} (h : EvP X a ρ fun d1 ρ1 => EvP X b ρ1 fun d2 ρ2 => Z d1 d2 ρ2) {H0 : Hp} {M O S : List Addr} {σ : L2.St} {H : Hp} (E : EnvOk X.K H0 M O S ρ σ H) {R : V → V → Hp → Prop}
    (r : ∀ v1 v2 H2 d1 d2 ρ2, Z d1 d2 ρ2 → EnvOk X.K H0 M O S ρ2 σ H2 → DtR X.K (off (O ++ M) H2) v1 d1 → DtR X.K (off (O ++ M) H2) v2 d2 → R v1 v2 H2) : WE X a σ H fun v1 H1 => WE X b σ H1 fun v2 H2 => R v1 v2 H2 :=
  h H0 M O S σ H E _ fun v1 H1 d1 ρ1 hb E1 r1 => hb _ M O S σ H1 E1.re _ fun v2 H2 d2 ρ2 z E2 r2 => r v1 v2 H2 d1 d2 ρ2 z (E1.back E2) (dt_mono E2.stay r1) r2
/-- an operation on two values -/
def Op2 (X : Cx) (r : R2) (d1 d2 : Dt) (Q : Dt → Prop) : Prop := ∀ (L : List Addr) (v1 v2 : V) (H : Hp), (∀ a ∈ L, H a ≠ none) → DtR X.K (off L H) v1 d1 → DtR X.K (off L H) v2 d2 → ∀ R : VK, (∀ v H' d, Q d → Ex H H' → DtR X.K (off L H') v d → R v H') → r v1 v2 H R
def Op1 (X : Cx) (r : V → Hp → VK → Prop) (d1 : Dt) (Q : Dt → Prop) : Prop := ∀ (L : List Addr) (v1 : V) (H : Hp), (∀ a ∈ L, H a ≠ none) → DtR X.K (off L H) v1 d1 → ∀ R : VK, (∀ v H' d, Q d → Ex H H' → DtR X.K (off L H') v d → R v H') → r v1 H R
def OpA (X : Cx) (r : List V → Hp → VK → Prop) (ds : List Dt) (Q : Dt → Prop) : Prop := ∀ (L : List Addr) (vs : List V) (H : Hp), (∀ a ∈ L, H a ≠ none) → DtAll X.K (off L H) vs ds → ∀ R : VK, (∀ v H' d, Q d → Ex H H' → DtR X.K (off L H') v d → R v H') → r vs H R
theorem tOp_ev {a b : Expr} {r : R2} {Q : Dt → DEnv → Prop} (h : EvP X a ρ fun d1 ρ1 => EvP X b ρ1 fun d2 ρ2 => Op2 X r d1 d2 fun d => Q d ρ2) {H0 : Hp} {M O S : List Addr} {σ : L2.St} {H : Hp} (E : EnvOk X.K H0 M O S ρ σ H) (R : VK)
    (k : ∀ v H' d ρ', Q d ρ' → EnvOk X.K H0 M O S ρ' σ H' → DtR X.K (off (O ++ M) H') v d → R v H') : tOp r (WE X a) (WE X b) σ H R :=
  ev_two h E fun v1 v2 H2 d1 d2 ρ2 z E2 r1 r2 => z (O ++ M) v1 v2 H2 E2.dom r1 r2 R fun v H' d q x rd => k v H' d ρ2 q (E2.grow x) rd
theorem ev_op {a b : Expr} {op : Operator} {pos : Pos} {r : R2} {Q : Dt → DEnv → Prop} (ho : OpR X (binaryOp op) r) (h : EvP X a ρ fun d1 ρ1 => EvP X b ρ1 fun d2 ρ2 => Op2 X r d1 d2 fun d => Q d ρ2) : EvP X (.BinOp a op b pos) ρ Q :=
  fun H0 M O S σ H E R k => ⟨_, pe_op ho pe_w pe_w, tOp_ev h E R k⟩
theorem ev_cmp {a b : Expr} {op : CmpOp} {pos : Pos} {r : R2} {Q : Dt → DEnv → Prop} (ho : OpR X (compareOp op) r) (hm : behindInMarks op b = false) (h : EvP X a ρ fun d1 ρ1 => EvP X b ρ1 fun d2 ρ2 => Op2 X r d1 d2 fun d => Q d ρ2) : EvP X (.Compare a [op] [b] pos) ρ Q :=
  fun H0 M O S σ H E R k => ⟨_, pe_cmpR ho pe_w pe_w hm, tOp_ev h E R k⟩
theorem et_cmp {a b : Expr} {op : CmpOp} {pos : Pos} {r : R2} {Q : Bool → DEnv → Prop} (ho : OpR X (compareOp op) r) (hm : behindInMarks op b = false) (h : EvP X a ρ fun d1 ρ1 => EvP X b ρ1 fun d2 ρ2 => Op2 X r d1 d2 fun d => ∃ c, d = dB c ∧ Q c ρ2) : EvT X (.Compare a [op] [b] pos) ρ Q :=
  fun H0 M O S σ H E R k => ⟨_, pt_cmpR ho pe_w pe_w hm, tOp_ev (Q := fun d ρ2 => ∃ c, d = dB c ∧ Q c ρ2) h E _ fun v H' d ρ' ⟨c, e, q⟩ E' r => by
    subst e
    cases r
    exact ⟨c, rfl, k H' c ρ' q E'⟩⟩
theorem ev_un {a : Expr} {op : UnaryOp} {pos : Pos} {r : V → Hp → VK → Prop} {Q : Dt → DEnv → Prop} (ho : UnR X (unaryOp op) r) (h : EvP X a ρ fun d1 ρ1 => Op1 X r d1 fun d => Q d ρ1) : EvP X (.UnaryOp op a pos) ρ Q :=
  fun H0 M O S σ H E R k => ⟨_, pe_un ho pe_w, h H0 M O S σ H E _ fun v1 H1 d1 ρ1 z E1 r1 => z (O ++ M) v1 H1 E1.dom r1 R fun v H' d q x rd => k v H' d ρ1 q (E1.grow x) rd⟩
/-! names and constants -/
theorem ev_var {i : Nat} {x : Str} {pos : Pos} {d : Dt} {Q : Dt → DEnv → Prop} (hN : X.N[i]? = some x) (hv : Vis X.env.scope x) (he : ρ[i]? = some (some (.im d))) (q : Q d ρ) (hd : (x == ("__debug__" : Str)) = false := by decide) (hcd : (x == ("__classdict__" : Str)) = false := by decide) : EvP X (.Name x pos) ρ Q :=
  fun H0 M O S σ H E R k => ⟨_, pe_var hN hv hd hcd, by
    obtain ⟨v, h1, h2⟩ := E.ent i _ he
    exact ⟨v, h1, k v H d ρ q E h2⟩⟩
theorem eq_own {i : Nat} {x : Str} {pos : Pos} {ds : List PyData} {Q : Bool → List PyData → DEnv → Prop} (hN : X.N[i]? = some x) (hv : Vis X.env.scope x) (he : ρ[i]? = some (some (.ow ds))) (q : Q false ds ρ) (hd : (x == ("__debug__" : Str)) = false := by decide) (hcd : (x == ("__classdict__" : Str)) = false := by decide) : EvQ X (.Name x pos) ρ Q :=
  fun H0 M O S σ H E R k => ⟨_, pe_var hN hv hd hcd, by
    obtain ⟨v, h1, a, vs, h2, h3, h4, h5⟩ := E.ent i _ he
    subst h2
    exact ⟨_, h1, k a vs H false ds ρ q E (by rw [if_neg Bool.false_ne_true]; exact SqL.of h4) h5⟩⟩
theorem eq_list {e : Expr} {Q : Bool → List PyData → DEnv → Prop} (h : EvP X e ρ fun d ρ' => ∃ ds, d = dL ds ∧ Q false ds ρ') : EvQ X e ρ Q := fun H0 M O S σ H E R k => h H0 M O S σ H E R fun v H' d ρ' ⟨ds, e, q⟩ E' r => by
  subst e
  cases r with
  | lst h1 h2 => exact k _ _ H' false ds ρ' q E' (by rw [if_neg Bool.false_ne_true]; exact ex_l off_ex h1) h2
theorem eq_tup {e : Expr} {Q : Bool → List PyData → DEnv → Prop} (h : EvP X e ρ fun d ρ' => ∃ ds, d = dT ds ∧ Q true ds ρ') : EvQ X e ρ Q := fun H0 M O S σ H E R k => h H0 M O S σ H E R fun v H' d ρ' ⟨ds, e, q⟩ E' r => by
  subst e
  cases r with
  | tup h1 h2 => exact k _ _ H' true ds ρ' q E' (by rw [if_pos rfl]; exact h1) h2
theorem ev_int {j : Int} {k pos} {Q : Dt → DEnv → Prop} (q : Q (dI j) ρ) : EvP X (.Constant (.int j) k pos) ρ Q := fun H0 M O S σ H E R k => ⟨_, pe_int, k _ H _ ρ q E (.int j)⟩
theorem ev_bl {b : Bool} {k pos} {Q : Dt → DEnv → Prop} (q : Q (dB b) ρ) : EvP X (.Constant (.bool b) k pos) ρ Q := fun H0 M O S σ H E R k => ⟨_, pe_bl, k _ H _ ρ q E (.bl b)⟩
theorem ev_non {k pos} {Q : Dt → DEnv → Prop} (q : Q dN ρ) : EvP X (.Constant .none k pos) ρ Q := fun H0 M O S σ H E R k => ⟨_, pe_non, k _ H _ ρ q E .non⟩
theorem ev_str {x : Str} {k pos} {Q : Dt → DEnv → Prop} (q : Q (dS x) ρ) : EvP X (.Constant (.str x) k pos) ρ Q := fun H0 M O S σ H E R k => ⟨_, pe_str, k _ H _ ρ q E (.str x)⟩
/-- a module's name whose value is known to the fragment -/
theorem ev_glob {x : Str} {pos : Pos} {v : V} {u : Value} {d : PyData} {Q : Dt → DEnv → Prop} (hg : Gl X x) (hm : X.mg x = some u) (r : RelV v u) (hd : Dp X.K (fun _ => none) v d) (q : Q (.d d) ρ) (hdb : (x == ("__debug__" : Str)) = false := by decide) : EvP X (.Name x pos) ρ Q :=
  fun H0 M O S σ H E R k => ⟨_, pe_glob hg hm r hdb, k _ H _ ρ q E (dp_mono (fun a o z => by cases z) hd)⟩
end
end DL
end
section
set_option Elab.async false
set_option linter.all false
set_option maxRecDepth 100000
set_option maxHeartbeats 4000000
/-! The data logic's operations: ints, ==, in, +, *, subscripts, slices, len, any, all, sum, tuple, list. -/
namespace DL
open PySem PySem.Spec PyProof.Rows L2 Evl

section
variable {X : Cx}
/-! ### ints -/
theorem op2_0 {g : Int → Int → V} {i j : Int} {d : Dt} {Q : Dt → Prop} (hd : ∀ H, DtR X.K H (g i j) d) (q : Q d) : Op2 X (rI0 g) (dI i) (dI j) Q := fun L v1 v2 H hL h1 h2 R k => by
  cases h1
  cases h2
  exact ⟨i, j, rfl, rfl, k _ H d q (Ex.refl H) (hd _)⟩
theorem op2_1 {C : Int → Int → Prop} {g : Int → Int → V} {i j : Int} {d : Dt} {Q : Dt → Prop} (c : C i j) (hd : ∀ H, DtR X.K H (g i j) d) (q : Q d) : Op2 X (rI C g) (dI i) (dI j) Q := fun L v1 v2 H hL h1 h2 R k => by
  cases h1
  cases h2
  exact ⟨i, j, rfl, rfl, c, k _ H d q (Ex.refl H) (hd _)⟩
variable {ρ : DEnv} {Q : Dt → DEnv → Prop} {a b : Expr} {pos : Pos}
theorem ev_add (h : EvP X a ρ fun d1 ρ1 => EvP X b ρ1 fun d2 ρ2 => ∃ i j, d1 = dI i ∧ d2 = dI j ∧ Q (dI (i + j)) ρ2) : EvP X (.BinOp a .Add b pos) ρ Q :=
  ev_op op_add (h.imp fun d1 ρ1 h2 => h2.imp fun d2 ρ2 ⟨i, j, e1, e2, q⟩ => by subst e1 e2; exact op2_0 (fun _ => dt_int) q)
theorem ev_sub (h : EvP X a ρ fun d1 ρ1 => EvP X b ρ1 fun d2 ρ2 => ∃ i j, d1 = dI i ∧ d2 = dI j ∧ Q (dI (i - j)) ρ2) : EvP X (.BinOp a .Sub b pos) ρ Q :=
  ev_op op_sub (h.imp fun d1 ρ1 h2 => h2.imp fun d2 ρ2 ⟨i, j, e1, e2, q⟩ => by subst e1 e2; exact op2_0 (fun _ => dt_int) q)
theorem ev_mul (h : EvP X a ρ fun d1 ρ1 => EvP X b ρ1 fun d2 ρ2 => ∃ i j, d1 = dI i ∧ d2 = dI j ∧ CMul i j ∧ Q (dI (i * j)) ρ2) : EvP X (.BinOp a .Mult b pos) ρ Q :=
  ev_op op_mul (h.imp fun d1 ρ1 h2 => h2.imp fun d2 ρ2 ⟨i, j, e1, e2, c, q⟩ => by subst e1 e2; exact op2_1 c (fun _ => dt_int) q)
theorem ev_mod (h : EvP X a ρ fun d1 ρ1 => EvP X b ρ1 fun d2 ρ2 => ∃ i j, d1 = dI i ∧ d2 = dI j ∧ 0 < j ∧ Q (dI (i % j)) ρ2) : EvP X (.BinOp a .Mod b pos) ρ Q :=
  ev_op op_mod (h.imp fun d1 ρ1 h2 => h2.imp fun d2 ρ2 ⟨i, j, e1, e2, c, q⟩ => by subst e1 e2; exact op2_1 c (fun _ => dt_int) q)
theorem ev_fdiv (h : EvP X a ρ fun d1 ρ1 => EvP X b ρ1 fun d2 ρ2 => ∃ i j, d1 = dI i ∧ d2 = dI j ∧ CDiv i j ∧ Q (dI (i / j)) ρ2) : EvP X (.BinOp a .FloorDiv b pos) ρ Q :=
  ev_op op_fdiv (h.imp fun d1 ρ1 h2 => h2.imp fun d2 ρ2 ⟨i, j, e1, e2, c, q⟩ => by subst e1 e2; exact op2_1 c (fun _ => dt_int) q)
theorem ev_neg (h : EvP X a ρ fun d1 ρ1 => ∃ i, d1 = dI i ∧ Q (dI (-i)) ρ1) : EvP X (.UnaryOp .USub a pos) ρ Q :=
  ev_un un_neg (h.imp fun d1 ρ1 ⟨i, e, q⟩ => by
    subst e
    intro L v1 H hL h1 R k
    cases h1
    exact ⟨i, rfl, k _ H _ q (Ex.refl H) (.int _)⟩)
/-- comparisons of ints -/
def cmpI : CmpOp → Option (Int → Int → Bool)
  | .Lt => some fun i j => decide (i < j)
  | .LtE => some fun i j => decide (i ≤ j)
  | .Gt => some fun i j => decide (j < i)
  | .GtE => some fun i j => decide (j ≤ i)
  | _ => none
theorem op_cmpI {op : CmpOp} {f : Int → Int → Bool} (h : cmpI op = some f) : OpR X (compareOp op) (rI0 fun i j => .bl (f i j)) := by
  cases op <;> simp only [cmpI, Option.some.injEq, reduceCtorEq] at h <;> subst h
  · exact op_lt
  · exact op_le
  · exact op_gt
  · exact op_ge
theorem cmp_mark {op : CmpOp} {f : Int → Int → Bool} (h : cmpI op = some f) (b : Expr) : behindInMarks op b = false := by
  cases op <;> simp only [cmpI, reduceCtorEq] at h <;> exact nomark b
theorem ev_cmpI {op : CmpOp} {f : Int → Int → Bool} (hf : cmpI op = some f) (h : EvP X a ρ fun d1 ρ1 => EvP X b ρ1 fun d2 ρ2 => ∃ i j, d1 = dI i ∧ d2 = dI j ∧ Q (dB (f i j)) ρ2) : EvP X (.Compare a [op] [b] pos) ρ Q :=
  ev_cmp (op_cmpI hf) (cmp_mark hf b) (h.imp fun d1 ρ1 h2 => h2.imp fun d2 ρ2 ⟨i, j, e1, e2, q⟩ => by subst e1 e2; exact op2_0 (fun _ => dt_bl) q)
theorem et_cmpI {T : Bool → DEnv → Prop} {op : CmpOp} {f : Int → Int → Bool} (hf : cmpI op = some f) (h : EvP X a ρ fun d1 ρ1 => EvP X b ρ1 fun d2 ρ2 => ∃ i j, d1 = dI i ∧ d2 = dI j ∧ T (f i j) ρ2) : EvT X (.Compare a [op] [b] pos) ρ T :=
  et_cmp (op_cmpI hf) (cmp_mark hf b) (h.imp fun d1 ρ1 h2 => h2.imp fun d2 ρ2 ⟨i, j, e1, e2, q⟩ => by subst e1 e2; exact op2_0 (fun _ => dt_bl) ⟨_, rfl, q⟩)

/-! ### == and != of data -/
abbrev shp (d : PyData) : Prop := SeqAt.shaped d = true
theorem op2_eqD {x y : PyData} {P : Dt → Prop} (h1 : shp x) (h2 : shp y) (q : P (dB (PyData.eqv x y))) : Op2 X (rEqD X.K) (.d x) (.d y) P := fun L v1 v2 H hL r1 r2 R k =>
  ⟨x, y, dp_mono off_ex r1, dp_mono off_ex r2, h1, h2, k _ H _ q (Ex.refl H) (.bl _)⟩
theorem op2_neD {x y : PyData} {P : Dt → Prop} (h1 : shp x) (h2 : shp y) (q : P (dB (!PyData.eqv x y))) : Op2 X (rNeD X.K) (.d x) (.d y) P := fun L v1 v2 H hL r1 r2 R k =>
  ⟨x, y, dp_mono off_ex r1, dp_mono off_ex r2, h1, h2, k _ H _ q (Ex.refl H) (.bl _)⟩
theorem ev_eq (hu : X.A.units + 64 < cLine) (h : EvP X a ρ fun d1 ρ1 => EvP X b ρ1 fun d2 ρ2 => ∃ x y, d1 = .d x ∧ d2 = .d y ∧ shp x ∧ shp y ∧ Q (dB (PyData.eqv x y)) ρ2) : EvP X (.Compare a [.Eq] [b] pos) ρ Q :=
  ev_cmp (op_eqD hu) (nomark b) (h.imp fun d1 ρ1 h2 => h2.imp fun d2 ρ2 ⟨i, j, e1, e2, s1, s2, q⟩ => by subst e1 e2; exact op2_eqD s1 s2 q)
theorem ev_ne (hu : X.A.units + 64 < cLine) (h : EvP X a ρ fun d1 ρ1 => EvP X b ρ1 fun d2 ρ2 => ∃ x y, d1 = .d x ∧ d2 = .d y ∧ shp x ∧ shp y ∧ Q (dB (!PyData.eqv x y)) ρ2) : EvP X (.Compare a [.NotEq] [b] pos) ρ Q :=
  ev_cmp (op_neD hu) (nomark b) (h.imp fun d1 ρ1 h2 => h2.imp fun d2 ρ2 ⟨i, j, e1, e2, s1, s2, q⟩ => by subst e1 e2; exact op2_neD s1 s2 q)
theorem et_eq {T : Bool → DEnv → Prop} (hu : X.A.units + 64 < cLine) (h : EvP X a ρ fun d1 ρ1 => EvP X b ρ1 fun d2 ρ2 => ∃ x y, d1 = .d x ∧ d2 = .d y ∧ shp x ∧ shp y ∧ T (PyData.eqv x y) ρ2) : EvT X (.Compare a [.Eq] [b] pos) ρ T :=
  et_cmp (op_eqD hu) (nomark b) (h.imp fun d1 ρ1 h2 => h2.imp fun d2 ρ2 ⟨i, j, e1, e2, s1, s2, q⟩ => by subst e1 e2; exact op2_eqD s1 s2 ⟨_, rfl, q⟩)
theorem et_ne {T : Bool → DEnv → Prop} (hu : X.A.units + 64 < cLine) (h : EvP X a ρ fun d1 ρ1 => EvP X b ρ1 fun d2 ρ2 => ∃ x y, d1 = .d x ∧ d2 = .d y ∧ shp x ∧ shp y ∧ T (!PyData.eqv x y) ρ2) : EvT X (.Compare a [.NotEq] [b] pos) ρ T :=
  et_cmp (op_neD hu) (nomark b) (h.imp fun d1 ρ1 h2 => h2.imp fun d2 ρ2 ⟨i, j, e1, e2, s1, s2, q⟩ => by subst e1 e2; exact op2_neD s1 s2 ⟨_, rfl, q⟩)
/-- x in l, l a list of data of any depth -/
theorem op2_inD {x : PyData} {ys : List PyData} {P : Dt → Prop} (h1 : shp x) (h2 : shp (.list ys)) (q : P (dB (ys.any fun z => PyData.eqv z x))) : Op2 X (rInD X.K) (.d x) (dL ys) P := fun L v1 v2 H hL r1 r2 R k =>
  ⟨x, ys, dp_mono off_ex r1, dp_mono off_ex r2, h1, h2, k _ H _ q (Ex.refl H) (.bl _)⟩
theorem op2_niD {x : PyData} {ys : List PyData} {P : Dt → Prop} (h1 : shp x) (h2 : shp (.list ys)) (q : P (dB (!ys.any fun z => PyData.eqv z x))) : Op2 X (rNotInD X.K) (.d x) (dL ys) P := fun L v1 v2 H hL r1 r2 R k =>
  ⟨x, ys, dp_mono off_ex r1, dp_mono off_ex r2, h1, h2, k _ H _ q (Ex.refl H) (.bl _)⟩
/-- x is None -/
def isNoneD : Dt → Bool
  | .d .none => true
  | _ => false
theorem ev_isN {j pos'} (h : EvP X a ρ fun d1 ρ1 => Q (dB (isNoneD d1)) ρ1) : EvP X (.Compare a [.Is] [.Constant .none j pos'] pos) ρ Q :=
  fun H0 M O S σ H E R k => ⟨_, pe_cmp (pc_isN pe_w) rfl, h H0 M O S σ H E _ fun v H' d ρ' q E' r => by
    refine k _ H' _ ρ' q E' ?_
    have : decide (v = V.non) = isNoneD d := by
      cases d with
      | d x => cases r <;> rfl
      | ins C fs => obtain ⟨a, _, _, e, _⟩ := r; subst e; rfl
    rw [this]
    exact .bl _⟩
theorem ev_notN {j pos'} (h : EvP X a ρ fun d1 ρ1 => Q (dB (!isNoneD d1)) ρ1) : EvP X (.Compare a [.IsNot] [.Constant .none j pos'] pos) ρ Q :=
  fun H0 M O S σ H E R k => ⟨_, pe_cmp (pc_notN pe_w) rfl, h H0 M O S σ H E _ fun v H' d ρ' q E' r => by
    refine k _ H' _ ρ' q E' ?_
    have : (!decide (v = V.non)) = !isNoneD d := by
      cases d with
      | d x => cases r <;> rfl
      | ins C fs => obtain ⟨a, _, _, e, _⟩ := r; subst e; rfl
    rw [this]
    exact .bl _⟩

/-! ### truth values -/
theorem ev_one {op : BoolOp} (h : EvP X a ρ Q) : EvP X (.BoolOp op [a] pos) ρ Q := fun H0 M O S σ H E R k => ⟨_, pe_one pe_w, h H0 M O S σ H E R k⟩
theorem ev_and {rest : List Expr} (h : EvP X a ρ fun d1 ρ1 => ∃ c, d1 = dB c ∧ (c = true → EvP X (.BoolOp .And (b :: rest) pos) ρ1 Q) ∧ (c = false → Q (dB false) ρ1)) : EvP X (.BoolOp .And (a :: b :: rest) pos) ρ Q :=
  fun H0 M O S σ H E R k => ⟨_, pe_and pe_w pe_w, h H0 M O S σ H E _ fun v H1 d ρ1 ⟨c, e, q1, q2⟩ E1 r => by
    subst e
    cases r
    refine ⟨c, rfl, ?_⟩
    cases c with
    | true => exact iteT (q1 rfl H0 M O S σ H1 E1 R k)
    | false => exact iteF (k _ H1 _ ρ1 (q2 rfl) E1 (.bl _))⟩
theorem ev_or {rest : List Expr} (h : EvP X a ρ fun d1 ρ1 => ∃ c, d1 = dB c ∧ (c = false → EvP X (.BoolOp .Or (b :: rest) pos) ρ1 Q) ∧ (c = true → Q (dB true) ρ1)) : EvP X (.BoolOp .Or (a :: b :: rest) pos) ρ Q :=
  fun H0 M O S σ H E R k => ⟨_, pe_or pe_w pe_w, h H0 M O S σ H E _ fun v H1 d ρ1 ⟨c, e, q1, q2⟩ E1 r => by
    subst e
    cases r
    refine ⟨c, rfl, ?_⟩
    cases c with
    | false => exact iteF (q1 rfl H0 M O S σ H1 E1 R k)
    | true => exact iteT (k _ H1 _ ρ1 (q2 rfl) E1 (.bl _))⟩
theorem ev_not (h : EvP X a ρ fun d1 ρ1 => ∃ c, d1 = dB c ∧ Q (dB (!c)) ρ1) : EvP X (.UnaryOp .Not a pos) ρ Q :=
  fun H0 M O S σ H E R k => ⟨_, pe_not pe_w, h H0 M O S σ H E _ fun v H1 d ρ1 ⟨c, e, q⟩ E1 r => by
    subst e
    cases r
    exact ⟨c, rfl, k _ H1 _ ρ1 q E1 (.bl _)⟩⟩
def WW (X : Cx) (e : Expr) : TT := fun σ H Q => ∃ t, PW X e t ∧ t σ H Q
theorem pw_w {e : Expr} : PW X e (WW X e) := ⟨fun whole pins s σ H Q I ⟨_, ht, q⟩ => ht.run whole pins s σ H Q I q⟩
def EvW (X : Cx) (e : Expr) (ρ : DEnv) (Q : Bool → DEnv → Prop) : Prop := ∀ (H0 : Hp) (M O S : List Addr) (σ : L2.St) (H : Hp), EnvOk X.K H0 M O S ρ σ H → ∀ R : Bool → Hp → Prop,
  (∀ H' b ρ', Q b ρ' → EnvOk X.K H0 M O S ρ' σ H' → R b H') → WW X e σ H R
variable {T : Bool → DEnv → Prop}
theorem et_w {e : Expr} (h : EvW X e ρ T) : EvT X e ρ T := fun H0 M O S σ H E R k => ⟨_, pw_w.pt, h H0 M O S σ H E R k⟩
theorem ew_and1 (h : EvT X a ρ T) : EvW X (.BoolOp .And [a] pos) ρ T := fun H0 M O S σ H E R k => ⟨_, pw_and1 pt_w, h H0 M O S σ H E R k⟩
theorem ew_or1 (h : EvT X a ρ T) : EvW X (.BoolOp .Or [a] pos) ρ T := fun H0 M O S σ H E R k => ⟨_, pw_or1 pt_w, h H0 M O S σ H E R k⟩
theorem ew_and {rest : List Expr} (h : EvT X a ρ fun c ρ1 => (c = true → EvW X (.BoolOp .And (b :: rest) pos) ρ1 T) ∧ (c = false → T false ρ1)) : EvW X (.BoolOp .And (a :: b :: rest) pos) ρ T :=
  fun H0 M O S σ H E R k => ⟨_, pw_and pt_w pw_w, h H0 M O S σ H E _ fun H1 c ρ1 ⟨q1, q2⟩ E1 => by
    cases c with
    | true => exact iteT (q1 rfl H0 M O S σ H1 E1 R k)
    | false => exact iteF (k H1 _ ρ1 (q2 rfl) E1)⟩
theorem ew_or {rest : List Expr} (h : EvT X a ρ fun c ρ1 => (c = false → EvW X (.BoolOp .Or (b :: rest) pos) ρ1 T) ∧ (c = true → T true ρ1)) : EvW X (.BoolOp .Or (a :: b :: rest) pos) ρ T :=
  fun H0 M O S σ H E R k => ⟨_, pw_or pt_w pw_w, h H0 M O S σ H E _ fun H1 c ρ1 ⟨q1, q2⟩ E1 => by
    cases c with
    | false => exact iteF (q1 rfl H0 M O S σ H1 E1 R k)
    | true => exact iteT (k H1 _ ρ1 (q2 rfl) E1)⟩
theorem et_not (h : EvT X a ρ fun c ρ1 => T (!c) ρ1) : EvT X (.UnaryOp .Not a pos) ρ T := fun H0 M O S σ H E R k => ⟨_, pt_not pt_w, h H0 M O S σ H E _ fun H1 c ρ1 q E1 => k H1 _ ρ1 q E1⟩
theorem et_val {e : Expr} (h : EvP X e ρ fun d ρ1 => ∃ c, d = dB c ∧ T c ρ1) (he : ∀ whole, isTrue e X.env whole = (do let v ← whole; standAt e.pos; holding [v] (truthy v)) := by intro _; rfl) : EvT X e ρ T :=
  fun H0 M O S σ H E R k => ⟨_, pt_val pe_w he, h H0 M O S σ H E _ fun v H1 d ρ1 ⟨c, e, q⟩ E1 r => by
    subst e
    cases r
    exact ⟨c, rfl, k H1 c ρ1 q E1⟩⟩
theorem ev_if {c : Expr} (h : EvT X c ρ fun z ρ1 => (z = true → EvP X a ρ1 Q) ∧ (z = false → EvP X b ρ1 Q)) : EvP X (.IfExp c a b pos) ρ Q :=
  fun H0 M O S σ H E R k => ⟨_, pe_ifExp pt_w pe_w pe_w, h H0 M O S σ H E _ fun H1 z ρ1 ⟨q1, q2⟩ E1 => by
    cases z with
    | true => exact iteT (q1 rfl H0 M O S σ H1 E1 R k)
    | false => exact iteF (q2 rfl H0 M O S σ H1 E1 R k)⟩

/-! ### a new object -/
theorem EnvOk.new {K : PySem.W.Frag} {H0 H H' : Hp} {M O S : List Addr} {σ : L2.St} (E : EnvOk K H0 M O S ρ σ H) {p : Addr} (x : Ex H H') (hp : H p = none) (hp' : H' p ≠ none) : EnvOk K H0 M (p :: O) S ρ σ H' := by
  obtain ⟨n1, n2, n3⟩ := E.outS hp
  have key : Ex (off (O ++ M) H) (off (p :: O ++ M) H') := fun a o h => by
    obtain ⟨h1, h2⟩ := of_off h
    have : a ≠ p := fun z => by rw [z, hp] at h2; cases h2
    rw [off_out fun z => ?_]
    · exact x a o h2
    · rcases List.mem_cons.mp z with z | z
      · exact this z
      · exact h1 z
  have E' := E.grow x
  refine ⟨E'.ex, fun a ha => ?_, fun a ha => ?_, E.sub, fun a ha => ?_, E.len, fun i e h => ?_, E.dist⟩
  · rcases List.mem_append.mp ha with z | z
    · exact E.h0 a (List.mem_append_left _ z)
    · rcases List.mem_cons.mp z with z | z
      · rw [z]; exact n3
      · exact E.h0 a (List.mem_append_right _ z)
  · rcases List.mem_cons.mp ha with z | z
    · rw [z]; exact hp'
    · exact E'.dom a z
  · rcases List.mem_cons.mp ha with z | z
    · rw [z]; exact fun q => n1 (List.mem_append_right _ q)
    · exact E.apart a z
  · obtain ⟨v, h1, h2⟩ := E.ent i e h
    refine ⟨v, h1, ?_⟩
    cases e with
    | im d => exact dt_mono key h2
    | ow ds => obtain ⟨a, vs, q1, q2, q3, q4⟩ := h2; exact ⟨a, vs, q1, List.mem_cons_of_mem _ q2, x _ _ q3, dpAll_mono key q4⟩
    | src n s => obtain ⟨a, q1, q2, q3⟩ := h2; exact ⟨a, q1, q2, x _ _ q3⟩
    | slf C fs =>
      obtain ⟨a, dx, ws, q1, q2, q3, q4⟩ := h2
      refine ⟨a, dx, ws, q1, q2, ?_, fun i y q => let ⟨w, z1, z2⟩ := q4 i y q; ⟨w, z1, dp_mono key z2⟩⟩
      rcases q3 with ⟨z1, z2⟩ | ⟨z1, z2⟩
      · exact .inl ⟨x _ _ z1, z2⟩
      · exact .inr ⟨x _ _ z1, x _ _ z2⟩
/-- a new list as a value -/
theorem ev_new {e : Expr} (h : EvN X e ρ fun ds ρ' => Q (dL ds) ρ') : EvP X e ρ Q := fun H0 M O S σ H E R k => h H0 M O S σ H E R fun p vs H' ds ρ' q np E' E2 hp r =>
  k _ H' _ ρ' q E' (.lst (SqL.of (by rw [off_out np]; exact hp)) (dpAll_mono (off_less fun a ha => List.mem_cons_of_mem _ ha) r))
end
end DL
end
section
set_option Elab.async false
set_option linter.all false
set_option maxRecDepth 100000
set_option maxHeartbeats 4000000
/-! The data logic: arguments, displays, subscripts, slices, built-ins over sequences. -/
namespace DL
open PySem PySem.Spec PyProof.Rows L2 Evl

section
variable {X : Cx} {ρ : DEnv} {Q : Dt → DEnv → Prop} {N : List PyData → DEnv → Prop} {a b e : Expr} {es : List Expr} {pos p : Pos}
/-! ### arguments -/
theorem dtAll_of : ∀ {vs : List V} {xs : List PyData} {K : PySem.W.Frag} {H : Hp}, DpAll K H vs xs → DtAll K H vs (xs.map Dt.d)
  | [], [], _, _, _ => .nil
  | _ :: _, _ :: _, _, _, .cons h q => .cons h (dtAll_of q)
theorem of_dtAll : ∀ {vs : List V} {xs : List PyData} {K : PySem.W.Frag} {H : Hp}, DtAll K H vs (xs.map Dt.d) → DpAll K H vs xs
  | [], [], _, _, _ => .nil
  | _ :: _, [], _, _, h => nomatch h
  | [], _ :: _, _, _, h => nomatch h
  | _ :: _, _ :: _, _, _, .cons h q => .cons h (of_dtAll q)
theorem dtAll_append {K : PySem.W.Frag} {H : Hp} {vs ws : List V} {ds es : List Dt} (h : DtAll K H vs ds) (q : DtAll K H ws es) : DtAll K H (vs ++ ws) (ds ++ es) := by
  induction h with
  | nil => exact q
  | cons h _ ih => exact .cons h ih
theorem ea_nil {P : List Dt → DEnv → Prop} (q : P [] ρ) : EvA X [] ρ P := fun H0 M O S σ H E R k => ⟨_, pa_nil, k [] H [] ρ q E .nil⟩
theorem ea_cons {P : List Dt → DEnv → Prop} (h : EvP X e ρ fun d ρ1 => EvA X es ρ1 fun ds ρ2 => P (d :: ds) ρ2) (hs : starEach (e :: es) X.env = (false, eval e X.env) :: starEach es X.env := by rfl) : EvA X (e :: es) ρ P :=
  fun H0 M O S σ H E R k => ⟨_, pa_cons pe_w pa_w hs, h H0 M O S σ H E _ fun v1 H1 d1 ρ1 hb E1 r1 => hb _ M O S σ H1 E1.re _ fun vs H2 ds ρ2 z E2 r2 => k (v1 :: vs) H2 (d1 :: ds) ρ2 z (E1.back E2) (.cons (dt_mono E2.stay r1) r2)⟩
/-- *e, the sequence e as it is then -/
theorem ea_star {P : List Dt → DEnv → Prop} (h : EvQ X e ρ fun _ ds ρ1 => EvA X es ρ1 fun ds2 ρ2 => P (ds.map Dt.d ++ ds2) ρ2) (hs : starEach (.Starred e p :: es) X.env = (true, eval e X.env) :: starEach es X.env := by rfl) : EvA X (.Starred e p :: es) ρ P :=
  fun H0 M O S σ H E R k => ⟨_, StX.pa_star pe_w pa_w hs, h H0 M O S σ H E _ fun a vs H1 b ds ρ1 hb E1 sq r1 => by
    refine ⟨a, vs, rfl, ?_, hb _ M O S σ H1 E1.re _ fun ws H2 ds2 ρ2 z E2 r2 => k (vs ++ ws) H2 _ ρ2 z (E1.back E2) (dtAll_append (dtAll_of (dpAll_mono E2.stay r1)) r2)⟩
    cases b with
    | true => exact .inl (ex_t off_ex (by simpa using sq))
    | false => exact .inr (by simpa using sq)⟩
theorem EnvOk.fresh {K : PySem.W.Frag} {H0 H : Hp} {M O S : List Addr} {σ : L2.St} {p : Addr} (E : EnvOk K H0 M O S ρ σ H) (hp : H p = none) (o : HO) : EnvOk K H0 M O S ρ σ (upd H p o) ∧ EnvOk K H0 M (p :: O) S ρ σ (upd H p o) ∧ p ∉ O ++ M :=
  ⟨E.grow (Ex.new hp), E.new (Ex.new hp) hp (by rw [upd_same]; exact fun z => nomatch z), (E.outS hp).1⟩
theorem off_new {M : List Addr} {H : Hp} {p : Addr} {o : HO} (hp : H p = none) : Ex (off M H) (off (p :: M) (upd H p o)) := fun a u h => by
  obtain ⟨h1, h2⟩ := of_off h
  have : a ≠ p := fun z => by rw [z, hp] at h2; cases h2
  rw [off_out fun z => ?_, upd_ne this]
  · exact h2
  · rcases List.mem_cons.mp z with z | z
    · exact this z
    · exact h1 z
theorem ev_tup {x1} (h : EvA X es ρ fun ds ρ' => ∃ xs, ds = xs.map Dt.d ∧ xs.length ≤ sizeLine ∧ Q (dT xs) ρ') : EvP X (.Tuple es x1 pos) ρ Q := fun H0 M O S σ H E R k => ⟨_, pe_tup pa_w, h H0 M O S σ H E _ fun vs H1 ds ρ1 ⟨xs, e, hl, q⟩ E1 r => by
  subst e
  have r' := of_dtAll r
  refine ⟨by rw [dpa_length r']; exact hl, fun p hp => ?_⟩
  obtain ⟨E2, _, np⟩ := E1.fresh hp (.tup vs)
  exact k _ _ _ ρ1 q E2 (.tup (SqT.of (by rw [off_out np, upd_same])) (dpAll_mono (off_mono (Ex.new hp)) r'))⟩
theorem en_lst (h : EvA X es ρ fun ds ρ' => ∃ xs, ds = xs.map Dt.d ∧ xs.length ≤ sizeLine ∧ N xs ρ') : EvN X (.List es pos) ρ N := fun H0 M O S σ H E R k => ⟨_, pe_lst pa_w, h H0 M O S σ H E _ fun vs H1 ds ρ1 ⟨xs, e, hl, q⟩ E1 r => by
  subst e
  have r' := of_dtAll r
  refine ⟨by rw [dpa_length r']; exact hl, fun p hp => ?_⟩
  obtain ⟨E2, E3, np⟩ := E1.fresh hp (.lst vs)
  exact k p vs _ xs ρ1 q np E2 E3 upd_same (dpAll_mono (off_new hp) r')⟩

/-! ### subscripts -/
theorem atI_len {α β : Type} {xs : List α} {ys : List β} {i : Int} (h : xs.length = ys.length) : atI xs i = (ixN ys.length i).bind fun j => xs[j]? := by unfold atI; rw [h]
theorem dpa_atI {K : PySem.W.Frag} {H : Hp} {vs : List V} {ds : List PyData} {i : Int} {d : PyData} (r : DpAll K H vs ds) (h : atI ds i = some d) : ∃ v, atI vs i = some v ∧ Dp K H v d := by
  rw [atI_len (dpa_length r)]
  unfold atI at h
  cases q : ixN ds.length i with
  | none => rw [q] at h; cases h
  | some j =>
    rw [q] at h
    exact dpa_get r h
theorem ev_ix (hs : PlainIx b) (h : EvP X a ρ fun d1 ρ1 => EvP X b ρ1 fun d2 ρ2 => ∃ ds i x, (d1 = dL ds ∨ d1 = dT ds) ∧ d2 = dI i ∧ atI ds i = some x ∧ Q (.d x) ρ2) : EvP X (.Subscript a b pos) ρ Q := fun H0 M O S σ H E R k => ⟨_, pe_ix ix_seq pe_w pe_w hs, by
  refine ev_two h E fun v1 v2 H2 d1 d2 ρ2 ⟨ds, i, x, e1, e2, hx, q⟩ E2 r1 r2 => ?_
  subst e2
  cases r2
  rcases e1 with e1 | e1
  · subst e1
    cases r1 with
    | lst h1 h2 =>
      obtain ⟨v, hv, rv⟩ := dpa_atI h2 hx
      exact .inl ⟨_, _, i, v, rfl, rfl, ex_l off_ex h1, hv, k v H2 _ ρ2 q E2 rv⟩
  · subst e1
    cases r1 with
    | tup h1 h2 =>
      obtain ⟨v, hv, rv⟩ := dpa_atI h2 hx
      exact .inr (.inl ⟨_, _, i, v, rfl, rfl, ex_t off_ex h1, hv, k v H2 _ ρ2 q E2 rv⟩)⟩
/-! ### slices -/
def WO (X : Cx) (o : Option Expr) : TO := fun σ H Q => ∃ t, PO X o t ∧ t σ H Q
def EvO (X : Cx) (o : Option Expr) (ρ : DEnv) (Q : Option Int → DEnv → Prop) : Prop := ∀ (H0 : Hp) (M O S : List Addr) (σ : L2.St) (H : Hp), EnvOk X.K H0 M O S ρ σ H → ∀ R : Option Int → Hp → Prop,
  (∀ H' i ρ', Q i ρ' → EnvOk X.K H0 M O S ρ' σ H' → R i H') → ∃ t, PO X o t ∧ t σ H R
theorem eo_none {Z : Option Int → DEnv → Prop} (q : Z none ρ) : EvO X none ρ Z := fun H0 M O S σ H E R k => ⟨_, po_none, k H none ρ q E⟩
theorem eo_some {Z : Option Int → DEnv → Prop} (h : EvP X e ρ fun d ρ1 => ∃ i, d = dI i ∧ Z (some i) ρ1) : EvO X (some e) ρ Z := fun H0 M O S σ H E R k => ⟨_, po_some pe_w, h H0 M O S σ H E _ fun v H1 d ρ1 ⟨i, e, q⟩ E1 r => by
  subst e
  cases r
  exact ⟨i, rfl, k H1 _ ρ1 q E1⟩⟩
def cutP (xs : List PyData) (lo hi : Option Int) : List PyData := (xs.drop (HT.sIx xs.length 0 lo)).take (HT.sIx xs.length xs.length hi - HT.sIx xs.length 0 lo)
theorem dpa_cut {K : PySem.W.Frag} {H : Hp} {vs : List V} {ds : List PyData} {lo hi : Option Int} (r : DpAll K H vs ds) : DpAll K H (cutV vs lo hi) (cutP ds lo hi) := by
  unfold cutV cutP
  rw [dpa_length r]
  exact dpa_take _ (dpa_drop _ r)
theorem po_w {o : Option Expr} : PO X o (WO X o) := ⟨fun pins s σ H Q I ⟨_, ht, q⟩ => ht.run pins s σ H Q I q⟩
theorem ev_slT {lo hi : Option Expr} {p2 : Pos} (h : EvP X e ρ fun d ρ1 => EvO X lo ρ1 fun l ρ2 => EvO X hi ρ2 fun u ρ3 => ∃ xs, d = dT xs ∧ Q (dT (cutP xs l u)) ρ3) : EvP X (.Subscript e (.Slice lo hi none p2) pos) ρ Q := fun H0 M O S σ H E R k => ⟨_, pe_slice sl_tupA pe_w po_w po_w, by
  refine h H0 M O S σ H E _ fun v1 H1 d1 ρ1 hb E1 r1 => hb _ M O S σ H1 E1.re _ fun H2 l ρ2 hc E2 => hc _ M O S σ H2 (E2.re) _ fun H3 u ρ3 ⟨xs, e, q⟩ E3 => ?_
  subst e
  have E3' := E1.back (E2.back E3)
  have r3 := dt_mono E3.stay (dt_mono E2.stay r1)
  cases r3 with
  | tup h1 h2 =>
    rename_i a vs
    refine ⟨a, vs, rfl, ex_t off_ex h1, fun ⟨w1, w2⟩ => k _ H3 _ ρ3 q E3' ?_, fun _ p hp => ?_⟩
    · have : cutP xs l u = xs := by
        unfold cutP
        rw [dpa_length h2] at w1 w2
        rw [w1, w2, List.drop_zero, Nat.sub_zero, List.take_length]
      rw [this]
      exact .tup h1 h2
    · obtain ⟨E4, _, np⟩ := E3'.fresh hp (.tup (cutV vs l u))
      exact k _ _ _ ρ3 q E4 (.tup (SqT.of (by rw [off_out np, upd_same])) (dpAll_mono (off_mono (Ex.new hp)) (dpa_cut h2)))⟩
/-- e[::-1], e a list -/
theorem en_rev {k1 : Nat} {p1 p2 p3 : Pos} (h : EvQ X e ρ fun b ds ρ' => b = false ∧ N ds.reverse ρ') : EvN X (.Subscript e (.Slice none none (some (.UnaryOp .USub (.Constant (.int 1) k1 p1) p2)) p3) pos) ρ N :=
  fun H0 M O S σ H E R k => ⟨_, pe_revL pe_w, h H0 M O S σ H E _ fun a vs H1 b ds ρ1 ⟨eb, q⟩ E1 sq r => by
    subst eb
    refine ⟨a, vs, rfl, by simpa using sq, fun p hp => ?_⟩
    obtain ⟨E2, E3, np⟩ := E1.fresh hp (.lst vs.reverse)
    exact k p _ _ _ ρ1 q np E2 E3 upd_same (dpAll_mono (off_new hp) (dpa_reverse r))⟩

/-! ### built-ins over one sequence -/
def SqB (K : PySem.W.Frag) (H : Hp) (b : Bool) (a : Addr) (vs : List V) : Prop := if b = true then SqT K H a vs else SqL K H a vs
theorem SqB.either {K : PySem.W.Frag} {H : Hp} {b : Bool} {a : Addr} {vs : List V} (h : SqB K H b a vs) : SqL K H a vs ∨ SqT K H a vs := by
  unfold SqB at h
  cases b with
  | true => exact .inr (by simpa using h)
  | false => exact .inl (by simpa using h)
theorem SqB.of {K : PySem.W.Frag} {H : Hp} {L : List Addr} {b : Bool} {a : Addr} {vs : List V} (h : if b = true then SqT K (off L H) a vs else SqL K H a vs) : SqB K H b a vs := by
  unfold SqB
  cases b with
  | true => exact ex_t off_ex (by simpa using h)
  | false => simpa using h
def OpQ (X : Cx) (r : List V → Hp → VK → Prop) (b : Bool) (ds : List PyData) (P : Dt → Prop) : Prop := ∀ (L : List Addr) (a : Addr) (vs : List V) (H : Hp), (∀ a ∈ L, H a ≠ none) → SqB X.K H b a vs → DpAll X.K (off L H) vs ds → ∀ R : VK, (∀ v H' d, P d → Ex H H' → DtR X.K (off L H') v d → R v H') → r [.ref a] H R
def OpN (X : Cx) (r : List V → Hp → VK → Prop) (b : Bool) (ds : List PyData) (P : List PyData → Prop) : Prop := ∀ (L : List Addr) (a : Addr) (vs : List V) (H : Hp), (∀ a ∈ L, H a ≠ none) → SqB X.K H b a vs → DpAll X.K (off L H) vs ds → ∀ R : VK,
  (∀ p ws H' es, P es → H p = none → Ex H H' → H' p = some (.lst ws) → DpAll X.K (off (p :: L) H') ws es → R (.ref p) H') → r [.ref a] H R
variable {x : Str} {bid T : String} {r : List V → Hp → VK → Prop}
theorem ev_callQ (hc : CallR X (.builtin bid) r) (hg : Gl X x) (hm : X.mg x = none) (hv : bootBuiltins x = some (.builtin bid)) (h : EvQ X e ρ fun b ds ρ' => OpQ X r b ds fun d => Q d ρ') (he : starEach [e] X.env = (false, eval e X.env) :: starEach [] X.env := by rfl) (hn : x ≠ "__name__" := by decide) (hdb : (x == ("__debug__" : Str)) = false := by decide) :
    EvP X (.Call (.Name x p) [e] [] pos) ρ Q := fun H0 M O S σ H E R k => ⟨_, pe_callB hc hg hm hv (pa_cons pe_w pa_nil he) hn hdb he, h H0 M O S σ H E _ fun a vs H1 b ds ρ1 o E1 sq rr => o (O ++ M) a vs H1 E1.dom (SqB.of sq) rr R fun v H' d q y z => k v H' d ρ1 q (E1.grow y) z⟩
theorem ev_callTQ (hc : CallR X (.type T) r) (hg : Gl X x) (hm : X.mg x = none) (hv : bootBuiltins x = some (.type T)) (h : EvQ X e ρ fun b ds ρ' => OpQ X r b ds fun d => Q d ρ') (he : starEach [e] X.env = (false, eval e X.env) :: starEach [] X.env := by rfl) (hn : x ≠ "__name__" := by decide) (hdb : (x == ("__debug__" : Str)) = false := by decide) :
    EvP X (.Call (.Name x p) [e] [] pos) ρ Q := fun H0 M O S σ H E R k => ⟨_, pe_callTy hc hg hm hv (pa_cons pe_w pa_nil he) hn hdb he, h H0 M O S σ H E _ fun a vs H1 b ds ρ1 o E1 sq rr => o (O ++ M) a vs H1 E1.dom (SqB.of sq) rr R fun v H' d q y z => k v H' d ρ1 q (E1.grow y) z⟩
theorem en_callQ (hc : CallR X (.builtin bid) r) (hg : Gl X x) (hm : X.mg x = none) (hv : bootBuiltins x = some (.builtin bid)) (h : EvQ X e ρ fun b ds ρ' => OpN X r b ds fun d => N d ρ') (he : starEach [e] X.env = (false, eval e X.env) :: starEach [] X.env := by rfl) (hn : x ≠ "__name__" := by decide) (hdb : (x == ("__debug__" : Str)) = false := by decide) :
    EvN X (.Call (.Name x p) [e] [] pos) ρ N := fun H0 M O S σ H E R k => ⟨_, pe_callB hc hg hm hv (pa_cons pe_w pa_nil he) hn hdb he, h H0 M O S σ H E _ fun a vs H1 b ds ρ1 o E1 sq rr => o (O ++ M) a vs H1 E1.dom (SqB.of sq) rr R fun p ws H' es q hp y hp' z =>
      k p ws H' es ρ1 q (E1.outS hp).1 (E1.grow y) (E1.new y hp (by rw [hp']; exact fun z => nomatch z)) hp' z⟩
theorem en_callTQ (hc : CallR X (.type T) r) (hg : Gl X x) (hm : X.mg x = none) (hv : bootBuiltins x = some (.type T)) (h : EvQ X e ρ fun b ds ρ' => OpN X r b ds fun d => N d ρ') (he : starEach [e] X.env = (false, eval e X.env) :: starEach [] X.env := by rfl) (hn : x ≠ "__name__" := by decide) (hdb : (x == ("__debug__" : Str)) = false := by decide) :
    EvN X (.Call (.Name x p) [e] [] pos) ρ N := fun H0 M O S σ H E R k => ⟨_, pe_callTy hc hg hm hv (pa_cons pe_w pa_nil he) hn hdb he, h H0 M O S σ H E _ fun a vs H1 b ds ρ1 o E1 sq rr => o (O ++ M) a vs H1 E1.dom (SqB.of sq) rr R fun p ws H' es q hp y hp' z =>
      k p ws H' es ρ1 q (E1.outS hp).1 (E1.grow y) (E1.new y hp (by rw [hp']; exact fun z => nomatch z)) hp' z⟩
theorem EvQ.imp {Z Z' : Bool → List PyData → DEnv → Prop} (h : EvQ X e ρ Z) (q : ∀ b ds ρ', Z b ds ρ' → Z' b ds ρ') : EvQ X e ρ Z' := fun H0 M O S σ H E R k => h H0 M O S σ H E R fun a vs H1 b ds ρ1 z => k a vs H1 b ds ρ1 (q _ _ _ z)
theorem ev_len (hg : Gl X "len") (hm : X.mg "len" = none) (h : EvQ X e ρ fun _ ds ρ' => Q (dI (ds.length : Int)) ρ') (he : starEach [e] X.env = (false, eval e X.env) :: starEach [] X.env := by rfl) : EvP X (.Call (.Name "len" p) [e] [] pos) ρ Q :=
  ev_callQ call_len_seq hg hm PySem.boot_len (h.imp fun b ds ρ' q => fun L a vs H hL sq rr R k => ⟨a, vs, rfl, SqB.either sq, by
    rw [dpa_length rr]
    exact k _ H _ q (Ex.refl H) dt_int⟩) he
/-- tuple(e) -/
theorem ev_tuple (hg : Gl X "tuple") (hm : X.mg "tuple" = none) (hv : bootBuiltins "tuple" = some (.type "tuple")) (h : EvQ X e ρ fun _ ds ρ' => Q (dT ds) ρ') (he : starEach [e] X.env = (false, eval e X.env) :: starEach [] X.env := by rfl) : EvP X (.Call (.Name "tuple" p) [e] [] pos) ρ Q := by
  intro H0 M O S σ H E R k
  refine ⟨_, pe_callTy call_tuple_of hg hm hv (pa_cons pe_w pa_nil he) (by decide) (by decide) he, h H0 M O S σ H E _ fun a vs H1 b ds ρ1 q E1 sq rr => ?_⟩
  refine ⟨a, vs, rfl, ?_⟩
  cases b with
  | false =>
    refine .inl ⟨by simpa using sq, fun p hp => ?_⟩
    obtain ⟨E2, _, np⟩ := E1.fresh hp (.tup vs)
    exact k _ _ _ ρ1 q E2 (.tup (SqT.of (by rw [off_out np, upd_same])) (dpAll_mono (off_mono (Ex.new hp)) rr))
  | true => exact .inr ⟨ex_t off_ex (by simpa using sq), k _ H1 _ ρ1 q E1 (.tup (by simpa using sq) rr)⟩
/-- list(e) -/
theorem en_list (hg : Gl X "list") (hm : X.mg "list" = none) (hv : bootBuiltins "list" = some (.type "list")) (h : EvQ X e ρ fun _ ds ρ' => N ds ρ') (he : starEach [e] X.env = (false, eval e X.env) :: starEach [] X.env := by rfl) : EvN X (.Call (.Name "list" p) [e] [] pos) ρ N :=
  en_callTQ call_list_of hg hm hv (h.imp fun b ds ρ' q => fun L a vs H hL sq rr R k => ⟨a, vs, rfl, SqB.either sq, fun l hl => k l vs _ ds q hl (Ex.new hl) upd_same (dpAll_mono (off_new hl) rr)⟩) he
/-! ### sum, any, all, min -/
theorem ev_sum (hc : X.calm = true) (hg : Gl X "sum") (hm : X.mg "sum" = none) (hv : bootBuiltins "sum" = some (.builtin "sum")) (h : EvQ X e ρ fun b ds ρ' => ∃ ns : List Int, b = false ∧ ds = ns.map PyData.int ∧ Q (dI ns.sum) ρ') (he : starEach [e] X.env = (false, eval e X.env) :: starEach [] X.env := by rfl) : EvP X (.Call (.Name "sum" p) [e] [] pos) ρ Q :=
  ev_callQ (cr_sum hc) hg hm hv (h.imp fun b ds ρ' ⟨ns, eb, ed, q⟩ => fun L a vs H hL sq rr R k => by
    subst eb ed
    have := dpa_ints rr
    subst this
    exact ⟨a, ns, rfl, by simpa [SqB] using sq, k _ H _ q (Ex.refl H) dt_int⟩) he
/-- min of a list of ints -/
theorem ev_min (hc : X.calm = true) (hg : Gl X "min") (hm : X.mg "min" = none) (hv : bootBuiltins "min" = some (.builtin "min")) (h : EvQ X e ρ fun b ds ρ' => ∃ ns : List Int, b = false ∧ ds = ns.map PyData.int ∧ 0 < ns.length ∧ ∀ m, m ∈ ns → (∀ y ∈ ns, m ≤ y) → Q (dI m) ρ') (he : starEach [e] X.env = (false, eval e X.env) :: starEach [] X.env := by rfl) : EvP X (.Call (.Name "min" p) [e] [] pos) ρ Q :=
  ev_callQ (cr_min hc) hg hm hv (h.imp fun b ds ρ' ⟨ns, eb, ed, hl, q⟩ => fun L a vs H hL sq rr R k => by
    subst eb ed
    have := dpa_ints rr
    subst this
    exact ⟨a, ns, rfl, by simpa [SqB] using sq, hl, fun m h1 h2 => k _ H _ (q m h1 h2) (Ex.refl H) dt_int⟩) he
/-- the truth of data without parts -/
def truP : PyData → Option Bool
  | .none => some false
  | .bool b => some b
  | .int i => some (i != 0)
  | _ => none
def truV : V → Option Bool
  | .non => some false
  | .bl b => some b
  | .int i => some (i != 0)
  | _ => none
theorem truV_of {K : PySem.W.Frag} {H : Hp} {v : V} {d : PyData} {b : Bool} (r : Dp K H v d) (h : truP d = some b) : truV v = some b := by
  cases r <;> first | exact h | cases h
theorem truVs_of {K : PySem.W.Frag} {H : Hp} : ∀ {vs : List V} {ds : List PyData} {bs : List Bool}, DpAll K H vs ds → ds.map truP = bs.map some → vs.map truV = bs.map some
  | [], [], [], _, _ => rfl
  | [], [], _ :: _, _, h => nomatch h
  | _ :: _, _ :: _, [], _, h => nomatch h
  | _ :: _, _ :: _, _ :: _, .cons r q, h => by
    have h1 := List.cons.inj h
    show _ :: _ = _ :: _
    rw [truV_of r h1.1, truVs_of q h1.2]
theorem truth_vals {prog : Program} {w : World} {A : Around} {vs : List V} {its : List Value} {bs : List Bool} (r : Vals vs its) (e : vs.map truV = bs.map some) : TruthOf prog w A (fun i v => its.toArray[i]? = some v) (fun i => bs.getD i false) := fun i u s Q E hv hq => by
  have hv' : its[i]? = some u := by simpa using hv
  have hlen := r.length
  obtain ⟨hi, eu⟩ := List.getElem?_eq_some_iff.mp hv'
  obtain ⟨v, hvs⟩ : ∃ v, vs[i]? = some v := ⟨_, List.getElem?_eq_getElem (by omega)⟩
  obtain ⟨u', hu', rv⟩ := r.get hvs
  rw [hv'] at hu'
  cases hu'
  have h1 : (vs.map truV)[i]? = some (truV v) := by rw [List.getElem?_map, hvs]; rfl
  rw [e, List.getElem?_map] at h1
  obtain ⟨b, hb, eb⟩ := Option.map_eq_some_iff.mp h1
  have hg : bs.getD i false = b := by rw [List.getD_eq_getElem?_getD, hb] <;> rfl
  have hq' : Q (bs.getD i false) s := hq
  rw [hg] at hq'
  cases v with
  | non => cases (show u = Value.none from rv); cases eb; exact truthy_none hq'
  | bl c => cases (show u = Value.bool c from rv); cases eb; exact wpAny_truthy_bool hq'
  | int j => obtain ⟨t, z⟩ := (show ∃ t, u = Value.int j t from rv); cases z; cases eb; exact truthy_int hq'
  | str _ => cases eb
  | byt _ => cases eb
  | flt _ => cases eb
  | ref _ => cases eb
  | ty _ => cases eb
def rAnyS (all : Bool) (K : PySem.W.Frag) : List V → Hp → VK → Prop := fun vs H Q => ∃ (a : Addr) (xs : List V) (bs : List Bool), vs = [V.ref a] ∧ (SqL K H a xs ∨ SqT K H a xs) ∧ xs.map truV = bs.map some ∧ Q (.bl (if all = true then bs.all id else bs.any id)) H
theorem iter_tup {prog : Program} {w : World} {A : Around} {E : Value → Shared → Prop} {s : Shared} {l : Addr} {items : Array Value} {Q : Value → Shared → Prop} (hl : s.heap.IsTuple l items)
    (h : ∀ s₂ : Shared, s₂ = { s with heap := s.heap.push { cls := .type "tuple_iterator", data := .fields #[.ref l, .int 0 0] } } →
      (s₂.heap.IsTupleIter s.heap.objs.size l 0 ∧ s₂.heap.IsTuple l items) → l ≠ s.heap.objs.size → Q (.ref s.heap.objs.size) s₂) : wpAny (model prog w) A (pyIter (.ref l)) Q E s := by
  have hlt : l < s.heap.objs.size := by obtain ⟨_, e, _⟩ := hl; exact Heap.lt_size e
  refine wpAny_pyIter_tuple hl (h _ rfl ⟨⟨_, Heap.get?_push_size _ rfl, rfl, rfl⟩, ?_⟩ (Nat.ne_of_lt hlt))
  obtain ⟨o, e, r⟩ := hl
  exact ⟨o, Heap.get?_push_of_some _ e, r⟩
theorem cr_anyS (hc : X.calm = true) : CallR X (.builtin "any") (rAnyS false X.K) := by
  intro pins s σ H vs us Q I r h
  obtain ⟨a, xs, bs, rfl, hs, eb, q⟩ := h
  rw [Vals.ref1 r]
  have elen : xs.length = bs.length := by have := congrArg List.length eb; simpa using this
  rcases hs with hs | hs
  · obtain ⟨its, rv, hl, _⟩ := I.list hs
    refine call_any_walk (iter_any hl.isList fun s₂ e2 st hne => ?_)
    subst e2
    refine ⟨_, _, _, _, _, _, _, rfl, Walks.list (A := X.A.in1) (I.ok.hd hc) _ a hne its.toArray, st, truth_vals rv eb, fun h' tk hk => ?_⟩
    refine ⟨.bl _, H, I.kept fun b o eo => hk b o (fun hmem => ?_) (Heap.get?_push_of_some _ eo), ?_, q⟩
    · rcases List.mem_cons.mp hmem with e1 | hmem
      · exact absurd (e1 ▸ Heap.lt_size eo) (Nat.lt_irrefl _)
      · cases hmem
    · show Value.bool _ = Value.bool _
      have h2 : its.toArray.size = bs.length := by rw [List.size_toArray, ← rv.length, elen]
      rw [h2, L2.any_range, if_neg Bool.false_ne_true]
  · obtain ⟨its, rv, hl, _⟩ := I.tuple hs
    refine call_any_walk (iter_tup hl fun s₂ e2 st hne => ?_)
    subst e2
    refine ⟨_, _, _, _, _, _, _, rfl, Walks.tuple (A := X.A.in1) (I.ok.hd hc) _ a hne its.toArray, st, truth_vals rv eb, fun h' tk hk => ?_⟩
    refine ⟨.bl _, H, I.kept fun b o eo => hk b o (fun hmem => ?_) (Heap.get?_push_of_some _ eo), ?_, q⟩
    · rcases List.mem_cons.mp hmem with e1 | hmem
      · exact absurd (e1 ▸ Heap.lt_size eo) (Nat.lt_irrefl _)
      · cases hmem
    · show Value.bool _ = Value.bool _
      have h2 : its.toArray.size = bs.length := by rw [List.size_toArray, ← rv.length, elen]
      rw [h2, L2.any_range, if_neg Bool.false_ne_true]
theorem cr_allS (hc : X.calm = true) : CallR X (.builtin "all") (rAnyS true X.K) := by
  intro pins s σ H vs us Q I r h
  obtain ⟨a, xs, bs, rfl, hs, eb, q⟩ := h
  rw [Vals.ref1 r]
  have elen : xs.length = bs.length := by have := congrArg List.length eb; simpa using this
  rcases hs with hs | hs
  · obtain ⟨its, rv, hl, _⟩ := I.list hs
    refine call_all_walk (iter_any hl.isList fun s₂ e2 st hne => ?_)
    subst e2
    refine ⟨_, _, _, _, _, _, _, rfl, Walks.list (A := X.A.in1) (I.ok.hd hc) _ a hne its.toArray, st, truth_vals rv eb, fun h' tk hk => ?_⟩
    refine ⟨.bl _, H, I.kept fun b o eo => hk b o (fun hmem => ?_) (Heap.get?_push_of_some _ eo), ?_, q⟩
    · rcases List.mem_cons.mp hmem with e1 | hmem
      · exact absurd (e1 ▸ Heap.lt_size eo) (Nat.lt_irrefl _)
      · cases hmem
    · show Value.bool _ = Value.bool _
      have h2 : its.toArray.size = bs.length := by rw [List.size_toArray, ← rv.length, elen]
      rw [h2, L2.all_range, if_pos rfl]
  · obtain ⟨its, rv, hl, _⟩ := I.tuple hs
    refine call_all_walk (iter_tup hl fun s₂ e2 st hne => ?_)
    subst e2
    refine ⟨_, _, _, _, _, _, _, rfl, Walks.tuple (A := X.A.in1) (I.ok.hd hc) _ a hne its.toArray, st, truth_vals rv eb, fun h' tk hk => ?_⟩
    refine ⟨.bl _, H, I.kept fun b o eo => hk b o (fun hmem => ?_) (Heap.get?_push_of_some _ eo), ?_, q⟩
    · rcases List.mem_cons.mp hmem with e1 | hmem
      · exact absurd (e1 ▸ Heap.lt_size eo) (Nat.lt_irrefl _)
      · cases hmem
    · show Value.bool _ = Value.bool _
      have h2 : its.toArray.size = bs.length := by rw [List.size_toArray, ← rv.length, elen]
      rw [h2, L2.all_range, if_pos rfl]
theorem ev_any (hc : X.calm = true) (hg : Gl X "any") (hm : X.mg "any" = none) (hv : bootBuiltins "any" = some (.builtin "any")) (h : EvQ X e ρ fun _ ds ρ' => ∃ bs : List Bool, ds.map truP = bs.map some ∧ Q (dB (bs.any id)) ρ') (he : starEach [e] X.env = (false, eval e X.env) :: starEach [] X.env := by rfl) : EvP X (.Call (.Name "any" p) [e] [] pos) ρ Q :=
  ev_callQ (cr_anyS hc) hg hm hv (h.imp fun b ds ρ' ⟨bs, ed, q⟩ => fun L a vs H hL sq rr R k => ⟨a, vs, bs, rfl, SqB.either sq, truVs_of rr ed, k _ H _ q (Ex.refl H) dt_bl⟩) he
theorem ev_all (hc : X.calm = true) (hg : Gl X "all") (hm : X.mg "all" = none) (hv : bootBuiltins "all" = some (.builtin "all")) (h : EvQ X e ρ fun _ ds ρ' => ∃ bs : List Bool, ds.map truP = bs.map some ∧ Q (dB (bs.all id)) ρ') (he : starEach [e] X.env = (false, eval e X.env) :: starEach [] X.env := by rfl) : EvP X (.Call (.Name "all" p) [e] [] pos) ρ Q :=
  ev_callQ (cr_allS hc) hg hm hv (h.imp fun b ds ρ' ⟨bs, ed, q⟩ => fun L a vs H hL sq rr R k => ⟨a, vs, bs, rfl, SqB.either sq, truVs_of rr ed, k _ H _ q (Ex.refl H) dt_bl⟩) he
end
end DL
end
section
set_option Elab.async false
set_option linter.all false
set_option maxRecDepth 100000
set_option maxHeartbeats 4000000
/-! The data logic: targets, what is walked, list comprehensions. -/
namespace DL
open PySem PySem.Spec PyProof.Rows L2 Evl

/-! ### targets -/
/-- a target: a name, a tuple of names (their slots) -/
inductive Tgt where
  | one (i : Nat)
  | tup (is : List Nat)
def Tgt.slots : Tgt → List Nat
  | .one i => [i]
  | .tup is => is
def gSlots : List Nat → TGs
  | [] => gNil
  | i :: is => gCons (gName i) (gSlots is)
def gT (K : PySem.W.Frag) : Tgt → TG
  | .one i => gName i
  | .tup is => gTup K is.length (gSlots is)
/-- slots forgotten -/
def wipeE (ρ : DEnv) : List Nat → DEnv
  | [] => ρ
  | i :: is => (wipeE ρ is).set i none
def setEs : List Nat → List PyData → DEnv → Option DEnv
  | [], [], ρ => some ρ
  | i :: is, x :: xs, ρ => setEs is xs (ρ.set i (some (.im (.d x))))
  | _, _, _ => none
def setT : Tgt → PyData → DEnv → Option DEnv
  | .one i, x, ρ => some (ρ.set i (some (.im (.d x))))
  | .tup is, .tuple xs, ρ => setEs is xs ρ
  | .tup _, _, _ => none
section
variable {K : PySem.W.Frag} {H0 H : Hp} {M O S : List Addr} {ρ : DEnv} {σ : L2.St}
theorem set_get {α : Type} {l : List α} {i j : Nat} {x y : α} (h : (l.set i x)[j]? = some y) : (i = j ∧ y = x) ∨ (i ≠ j ∧ l[j]? = some y) := by
  by_cases e : i = j
  · subst e
    by_cases q : i < l.length
    · rw [List.getElem?_set_self q] at h
      exact .inl ⟨rfl, (Option.some.inj h).symm⟩
    · rw [List.getElem?_eq_none (by simpa using q)] at h
      cases h
  · rw [List.getElem?_set_ne e] at h
    exact .inr ⟨e, h⟩
theorem EnvOk.set_im (E : EnvOk K H0 M O S ρ σ H) {i : Nat} {v : V} {d : Dt} (r : DtR K (off (O ++ M) H) v d) : EnvOk K H0 M O S (ρ.set i (some (.im d))) (σ.set i (some v)) H := by
  refine ⟨E.ex, E.h0, E.dom, E.sub, E.apart, by rw [List.length_set, List.length_set]; exact E.len, fun j e h => ?_, fun j k ds es h1 h2 h3 => ?_⟩
  · rcases set_get h with ⟨h1, h2⟩ | ⟨h1, h2⟩
    · subst h1
      cases h2
      have hi : i < ρ.length := by
        obtain ⟨q, _⟩ := List.getElem?_eq_some_iff.mp h
        simpa using q
      exact ⟨v, List.getElem?_set_self (by rw [E.len]; exact hi), r⟩
    · rw [List.getElem?_set_ne h1]
      exact E.ent j e h2
  · rcases set_get h1 with ⟨_, q⟩ | ⟨q1, q2⟩
    · cases q
    · rcases set_get h2 with ⟨_, q⟩ | ⟨q3, q4⟩
      · cases q
      · rw [List.getElem?_set_ne q1, List.getElem?_set_ne q3] at h3
        exact E.dist j k ds es q2 q4 h3
/-- a slot is forgotten (or all that is known of it) -/
theorem EnvOk.set_none (E : EnvOk K H0 M O S ρ σ H) (i : Nat) (u : Option V) : EnvOk K H0 M O S (ρ.set i none) (σ.set i u) H := by
  refine ⟨E.ex, E.h0, E.dom, E.sub, E.apart, by rw [List.length_set, List.length_set]; exact E.len, fun j e h => ?_, fun j k ds es h1 h2 h3 => ?_⟩
  · rcases set_get h with ⟨h1, h2⟩ | ⟨h1, h2⟩
    · cases h2
    · rw [List.getElem?_set_ne h1]
      exact E.ent j e h2
  · rcases set_get h1 with ⟨_, q⟩ | ⟨q1, q2⟩
    · cases q
    · rcases set_get h2 with ⟨_, q⟩ | ⟨q3, q4⟩
      · cases q
      · rw [List.getElem?_set_ne q1, List.getElem?_set_ne q3] at h3
        exact E.dist j k ds es q2 q4 h3
theorem EnvOk.forget (E : EnvOk K H0 M O S ρ σ H) (i : Nat) : EnvOk K H0 M O S (ρ.set i none) σ H := by
  refine ⟨E.ex, E.h0, E.dom, E.sub, E.apart, by rw [List.length_set]; exact E.len, fun j e h => ?_, fun j k ds es h1 h2 h3 => ?_⟩
  · rcases set_get h with ⟨h1, h2⟩ | ⟨h1, h2⟩
    · cases h2
    · exact E.ent j e h2
  · rcases set_get h1 with ⟨_, q⟩ | ⟨q1, q2⟩
    · cases q
    · rcases set_get h2 with ⟨_, q⟩ | ⟨q3, q4⟩
      · cases q
      · exact E.dist j k ds es q2 q4 h3
theorem EnvOk.wiped : ∀ {vs : List Nat}, EnvOk K H0 M O S ρ σ H → EnvOk K H0 M O S (wipeE ρ vs) (wipe σ vs) H
  | [], E => E
  | i :: is, E => by
    unfold wipeE wipe
    exact (EnvOk.wiped E).set_none i none
/-- out of a block: what it knew of the slots that aren't its own -/
theorem EnvOk.unwiped {vs : List Nat} (E : EnvOk K H0 M O S ρ (wipe σ vs) H) : EnvOk K H0 M O S (wipeE ρ vs) σ H := by
  have key : ∀ (us : List Nat) (ρ' : DEnv) (i : Nat) (e : Ent), (wipeE ρ' us)[i]? = some (some e) → i ∉ us ∧ ρ'[i]? = some (some e) := by
    intro us
    induction us with
    | nil => intro ρ' i e h; exact ⟨by simp, h⟩
    | cons u us ih =>
      intro ρ' i e h
      unfold wipeE at h
      rcases set_get h with ⟨_, q⟩ | ⟨q1, q2⟩
      · cases q
      · obtain ⟨z1, z2⟩ := ih ρ' i e q2
        exact ⟨by simp only [List.mem_cons, not_or]; exact ⟨Ne.symm q1, z1⟩, z2⟩
  have klen : ∀ (us : List Nat) (ρ' : DEnv), (wipeE ρ' us).length = ρ'.length := by
    intro us
    induction us with
    | nil => intro ρ'; rfl
    | cons u us ih => intro ρ'; unfold wipeE; rw [List.length_set, ih]
  refine ⟨E.ex, E.h0, E.dom, E.sub, E.apart, ?_, fun j e h => ?_, fun j k ds es h1 h2 h3 => ?_⟩
  · have := E.len
    rw [wipe_length] at this
    rw [klen]
    exact this
  · obtain ⟨z1, z2⟩ := key vs ρ j e h
    obtain ⟨v, q1, q2⟩ := E.ent j e z2
    rw [wipe_out z1] at q1
    exact ⟨v, q1, q2⟩
  · obtain ⟨z1, z2⟩ := key vs ρ j _ h1
    obtain ⟨z3, z4⟩ := key vs ρ k _ h2
    exact E.dist j k ds es z2 z4 (by rw [wipe_out z1, wipe_out z3]; exact h3)
theorem wipe_set {i : Nat} {v : Option V} : ∀ {vs : List Nat} {σ : L2.St}, i ∈ vs → wipe (σ.set i v) vs = wipe σ vs
  | [], _, h => nomatch h
  | u :: us, σ, h => by
    unfold wipe
    by_cases e : i ∈ us
    · rw [wipe_set e]
    · have : i = u := by
        rcases List.mem_cons.mp h with z | z
        · exact z
        · exact absurd z e
      subst this
      have q : ∀ (us : List Nat) (σ : L2.St), i ∉ us → wipe (σ.set i v) us = (wipe σ us).set i v := by
        intro us
        induction us with
        | nil => intro σ _; rfl
        | cons w ws ih =>
          intro σ hn
          unfold wipe
          have h1 : i ≠ w := fun z => hn (by rw [z]; exact List.mem_cons_self)
          rw [ih σ fun z => hn (List.mem_cons_of_mem _ z), List.set_comm _ _ h1]
      rw [q us σ e, List.set_set]
theorem wipe_wipe {vs : List Nat} : ∀ {us : List Nat} {σ : L2.St}, (∀ i ∈ us, i ∈ vs) → wipe (wipe σ us) vs = wipe σ vs
  | [], _, _ => rfl
  | u :: us, σ, h => by
    rw [show wipe σ (u :: us) = (wipe σ us).set u none from rfl, wipe_set (h u List.mem_cons_self)]
    exact wipe_wipe fun i hi => h i (List.mem_cons_of_mem _ hi)
theorem gSlots_ok {vs : List Nat} : ∀ {is : List Nat} {xs : List PyData} {ws : List V} {ρ ρ' : DEnv} {σ : L2.St}, (∀ i ∈ is, i ∈ vs) → EnvOk K H0 M O S ρ σ H → DpAll K (off (O ++ M) H) ws xs → setEs is xs ρ = some ρ' → ∀ R : L2.St → Hp → Prop,
    (∀ σ', EnvOk K H0 M O S ρ' σ' H → wipe σ' vs = wipe σ vs → R σ' H) → gSlots is ws σ H R
  | [], [], [], _, _, _, _, E, _, e, R, k => by
    cases e
    exact ⟨rfl, k _ E rfl⟩
  | i :: is, x :: xs, w :: ws, ρ, ρ', σ, hm, E, .cons r rr, e, R, k => by
    refine ⟨w, ws, rfl, ?_⟩
    show gSlots is ws (σ.set i (some w)) H R
    refine gSlots_ok (fun j hj => hm j (List.mem_cons_of_mem _ hj)) (E.set_im (d := .d x) r) rr e R fun σ' E' hw => k σ' E' ?_
    rw [hw, wipe_set (hm i List.mem_cons_self)]
  | [], _ :: _, _, _, _, _, _, _, _, e, _, _ => nomatch e
  | _ :: _, [], _, _, _, _, _, _, _, e, _, _ => nomatch e
theorem tgt_ok {t : Tgt} {v : V} {x : PyData} {ρ' : DEnv} (E : EnvOk K H0 M O S ρ σ H) (r : Dp K (off (O ++ M) H) v x) (e : setT t x ρ = some ρ') (R : L2.St → Hp → Prop)
    (k : ∀ σ', EnvOk K H0 M O S ρ' σ' H → wipe σ' t.slots = wipe σ t.slots → R σ' H) : gT K t v σ H R := by
  cases t with
  | one i =>
    cases e
    exact k _ (E.set_im (d := .d x) r) (wipe_set (by simp [Tgt.slots]))
  | tup is =>
    cases r with
    | tup h1 h2 =>
      rename_i a vs ds
      have e : setEs is ds ρ = some ρ' := e
      refine ⟨a, vs, rfl, ex_t off_ex h1, ?_, gSlots_ok (fun i hi => hi) E h2 e R k⟩
      have : ∀ (is : List Nat) (ds : List PyData) (ρ : DEnv), setEs is ds ρ = some ρ' → ds.length = is.length := by
        intro is
        induction is with
        | nil => intro ds ρ e; cases ds with
          | nil => rfl
          | cons _ _ => cases e
        | cons i is ih => intro ds ρ e; cases ds with
          | nil => cases e
          | cons d ds => exact congrArg (· + 1) (ih ds _ e)
      rw [dpa_length h2]
      exact this is ds ρ e
    | _ => cases e
/-- later, other own lists -/
theorem EnvOk.stay' {O' : List Addr} {ρ' : DEnv} {σ' : L2.St} {H1 H' : Hp} (F : EnvOk K (off (S ++ O) H1) M O' S ρ' σ' H') : Ex (off (O ++ M) H1) (off (O' ++ M) H') := fun a o h => by
  obtain ⟨h1, h2⟩ := of_off h
  have h3 : off (S ++ O) H1 a = some o := by
    rw [off_out fun z => ?_]
    · exact h2
    · rcases List.mem_append.mp z with z | z
      · exact h1 (List.mem_append_right _ (F.sub a z))
      · exact h1 (List.mem_append_left _ z)
  rw [off_out fun z => ?_]
  · exact F.ex a o h3
  · rcases List.mem_append.mp z with z | z
    · have := F.h0 a (List.mem_append_right _ z)
      rw [h3] at this
      cases this
    · exact h1 (List.mem_append_right _ z)
theorem EnvOk.back' {O' : List Addr} {ρ' : DEnv} {σ' : L2.St} {H1 H' : Hp} (E : EnvOk K H0 M O S ρ σ H1) (F : EnvOk K (off (S ++ O) H1) M O' S ρ' σ' H') : EnvOk K H0 M O' S ρ' σ' H' := by
  refine ⟨fun a o h => F.ex a o (by rw [off_out fun z => by rw [E.h0 a z] at h; cases h]; exact E.ex a o h), fun a ha => ?_, F.dom, F.sub, F.apart, F.len, F.ent, F.dist⟩
  cases q : H0 a with
  | none => rfl
  | some o =>
    have h1 := F.h0 a ha
    have z : a ∉ S ++ O := fun z => by
      rw [E.h0 a z] at q
      cases q
    rw [off_out z, E.ex a o q] at h1
    cases h1
end

/-! ### what is walked -/
def WalkD (K : PySem.W.Frag) (J : It) (H1 : Hp) (M O S : List Addr) (xs : List PyData) : Prop := ∀ (O' : List Addr) (ρ' : DEnv) (σ' : L2.St) (H' : Hp), EnvOk K (off (S ++ O) H1) M O' S ρ' σ' H' →
  (∀ i, i < xs.length → J.go i H') ∧ (∀ i, xs.length = i → J.stop i H') ∧ ∀ i x v H'', xs[i]? = some x → J.yld i H' v H'' → Ex H' H'' ∧ Dp K (off (O' ++ M) H'') v x
def WI (X : Cx) (tg iter : Expr) : TI := fun σ H R => ∃ wi, PI X tg iter wi ∧ wi σ H R
theorem pi_w {X : Cx} {tg iter : Expr} : PI X tg iter (WI X tg iter) := ⟨fun pins s σ H R I ⟨_, ht, q⟩ => ht.run pins s σ H R I q⟩
def EvI (X : Cx) (tg iter : Expr) (ρ : DEnv) (Q : List PyData → DEnv → Prop) : Prop := ∀ (H0 : Hp) (M O S : List Addr) (σ : L2.St) (H : Hp), EnvOk X.K H0 M O S ρ σ H → ∀ R : It → Hp → Prop,
  (∀ J H1 xs ρ1, Q xs ρ1 → EnvOk X.K H0 M O S ρ1 σ H1 → WalkD X.K J H1 M O S xs → R J H1) → WI X tg iter σ H R
section
variable {X : Cx} {ρ : DEnv} {tg e e2 : Expr} {Q : List PyData → DEnv → Prop} {p pos : Pos}
theorem get_lt {α : Type} {xs : List α} {i : Nat} (h : i < xs.length) : ∃ x, xs[i]? = some x := ⟨_, List.getElem?_eq_getElem h⟩
theorem ei_list (h : EvP X e ρ fun d ρ1 => ∃ xs, d = dL xs ∧ Q xs ρ1) : EvI X tg e ρ Q := fun H0 M O S σ H E R k => ⟨_, pi_list pe_w, h H0 M O S σ H E _ fun v H1 d ρ1 ⟨xs, ed, q⟩ E1 r => by
  subst ed
  cases r with
  | lst h1 h2 =>
    rename_i a vs
    refine ⟨a, rfl, ⟨vs, ex_l off_ex h1⟩, k _ H1 xs ρ1 q E1 fun O' ρ' σ' H' F => ?_⟩
    have s1 : SqL X.K H' a vs := ex_l off_ex (ex_l F.stay' h1)
    have s2 := dpAll_mono F.stay' h2
    have hl := dpa_length h2
    refine ⟨fun i hi => ?_, fun i hi => ⟨vs, s1, by omega⟩, fun i x v H'' hx hy => ?_⟩
    · obtain ⟨y, hy⟩ := get_lt (xs := vs) (i := i) (by omega)
      exact ⟨vs, y, s1, hy⟩
    · obtain ⟨e1, e2⟩ := hy
      subst e1
      obtain ⟨w, hw, rw'⟩ := dpa_get s2 hx
      have := e2 vs s1
      rw [hw] at this
      cases this
      exact ⟨Ex.refl _, rw'⟩⟩
theorem ei_tup (h : EvP X e ρ fun d ρ1 => ∃ xs, d = dT xs ∧ Q xs ρ1) : EvI X tg e ρ Q := fun H0 M O S σ H E R k => ⟨_, pi_tup pe_w, h H0 M O S σ H E _ fun v H1 d ρ1 ⟨xs, ed, q⟩ E1 r => by
  subst ed
  cases r with
  | tup h1 h2 =>
    rename_i a vs
    refine ⟨a, rfl, ⟨vs, ex_t off_ex h1⟩, k _ H1 xs ρ1 q E1 fun O' ρ' σ' H' F => ?_⟩
    have s1 : SqT X.K H' a vs := ex_t off_ex (ex_t F.stay' h1)
    have s2 := dpAll_mono F.stay' h2
    have hl := dpa_length h2
    refine ⟨fun i hi => ?_, fun i hi => ⟨vs, s1, by omega⟩, fun i x v H'' hx hy => ?_⟩
    · obtain ⟨y, hy⟩ := get_lt (xs := vs) (i := i) (by omega)
      exact ⟨vs, y, s1, hy⟩
    · obtain ⟨e1, e2⟩ := hy
      subst e1
      obtain ⟨w, hw, rw'⟩ := dpa_get s2 hx
      have := e2 vs s1
      rw [hw] at this
      cases this
      exact ⟨Ex.refl _, rw'⟩⟩
/-- the ints from lo on -/
def rangeD (lo : Int) (n : Nat) : List PyData := (List.range n).map fun (k : Nat) => PyData.int (lo + (k : Int))
theorem rangeD_len {lo : Int} {n : Nat} : (rangeD lo n).length = n := by unfold rangeD; simp
theorem rangeD_get {lo : Int} {n i : Nat} {x : PyData} (h : (rangeD lo n)[i]? = some x) : x = .int (lo + (i : Int)) := by
  have hi : i < n := by
    have := (List.getElem?_eq_some_iff.mp h).1
    rw [rangeD_len] at this
    exact this
  unfold rangeD at h
  rw [List.getElem?_map, List.getElem?_range hi] at h
  exact (Option.some.inj h).symm
theorem walk_rng {K : PySem.W.Frag} {H1 : Hp} {M O S : List Addr} (lo : Int) (n : Nat) : WalkD K (Itr lo n) H1 M O S (rangeD lo n) := fun O' ρ' σ' H' F => by
  have hl : (rangeD lo n).length = n := rangeD_len
  refine ⟨fun i hi => by rw [hl] at hi; exact hi, fun i hi => by rw [hl] at hi; exact Nat.le_of_eq hi, fun i x v H'' hx hy => ?_⟩
  obtain ⟨e1, e2⟩ := hy
  subst e1 e2
  have := rangeD_get hx
  subst this
  exact ⟨Ex.refl _, .int _⟩
theorem ei_range1 (hg : Gl X "range") (hm : X.mg "range" = none) (h : EvP X e ρ fun d ρ1 => ∃ n : Int, d = dI n ∧ -(2 ^ 62) ≤ n ∧ n < 2 ^ 62 ∧ Q (rangeD 0 n.toNat) ρ1) (hs : starEach [e] X.env = [(false, eval e X.env)] := by rfl) : EvI X tg (.Call (.Name "range" p) [e] [] pos) ρ Q :=
  fun H0 M O S σ H E R k => ⟨_, pi_range1 hg hm (pa_cons pe_w pa_nil hs) hs, h H0 M O S σ H E _ fun v H1 d ρ1 ⟨n, ed, q1, q2, q⟩ E1 r => by
    subst ed
    cases r
    exact ⟨n, rfl, q1, q2, k _ H1 _ ρ1 q E1 (walk_rng 0 n.toNat)⟩⟩
/-- pairs of two tuples, of two lists -/
theorem walk_zipT {K : PySem.W.Frag} {H1 : Hp} {M O S : List Addr} {a b : Addr} {vs ws : List V} {xs ys : List PyData} (h1 : SqT K (off (O ++ M) H1) a vs) (h2 : SqT K (off (O ++ M) H1) b ws) (r1 : DpAll K (off (O ++ M) H1) vs xs) (r2 : DpAll K (off (O ++ M) H1) ws ys) :
    WalkD K (RZ.ItzT K a b) H1 M O S ((xs.zip ys).map fun z => .tuple [z.1, z.2]) := fun O' ρ' σ' H' F => by
  have s1 : SqT K H' a vs := ex_t off_ex (ex_t F.stay' h1)
  have s2 : SqT K H' b ws := ex_t off_ex (ex_t F.stay' h2)
  have l1 := dpa_length r1
  have l2 := dpa_length r2
  have ll : ((xs.zip ys).map fun z => PyData.tuple [z.1, z.2]).length = min xs.length ys.length := by simp
  refine ⟨fun i hi => ?_, fun i hi => ⟨vs, ws, s1, s2, by rw [ll] at hi; omega⟩, fun i x v H'' hx hy => ?_⟩
  · rw [ll] at hi
    obtain ⟨x, hx⟩ := get_lt (xs := vs) (i := i) (by omega)
    obtain ⟨y, hy⟩ := get_lt (xs := ws) (i := i) (by omega)
    exact ⟨vs, ws, x, y, s1, s2, hx, hy⟩
  · obtain ⟨T, y, z, ev, hT, eH, f1, f2⟩ := hy
    subst ev eH
    have q1 := f1 vs s1
    have q2 := f2 ws s2
    obtain ⟨dx, hdx, rx⟩ := dpa_getV (dpAll_mono F.stay' r1) q1
    obtain ⟨dy, hdy, ry⟩ := dpa_getV (dpAll_mono F.stay' r2) q2
    have : x = .tuple [dx, dy] := by
      rw [List.getElem?_map, (List.getElem?_zip_eq_some (z := (dx, dy))).mpr ⟨hdx, hdy⟩] at hx
      exact (Option.some.inj hx).symm
    subst this
    have np := (F.outS hT).1
    exact ⟨Ex.new hT, .tup (SqT.of (by rw [off_out np, upd_same])) (.cons (dp_mono (off_mono (Ex.new hT)) rx) (.cons (dp_mono (off_mono (Ex.new hT)) ry) .nil))⟩
theorem walk_zipL {K : PySem.W.Frag} {H1 : Hp} {M O S : List Addr} {a b : Addr} {vs ws : List V} {xs ys : List PyData} (h1 : SqL K (off (O ++ M) H1) a vs) (h2 : SqL K (off (O ++ M) H1) b ws) (r1 : DpAll K (off (O ++ M) H1) vs xs) (r2 : DpAll K (off (O ++ M) H1) ws ys) :
    WalkD K (Itz K a b) H1 M O S ((xs.zip ys).map fun z => .tuple [z.1, z.2]) := fun O' ρ' σ' H' F => by
  have s1 : SqL K H' a vs := ex_l off_ex (ex_l F.stay' h1)
  have s2 : SqL K H' b ws := ex_l off_ex (ex_l F.stay' h2)
  have l1 := dpa_length r1
  have l2 := dpa_length r2
  have ll : ((xs.zip ys).map fun z => PyData.tuple [z.1, z.2]).length = min xs.length ys.length := by simp
  refine ⟨fun i hi => ?_, fun i hi => ⟨vs, ws, s1, s2, by rw [ll] at hi; omega⟩, fun i x v H'' hx hy => ?_⟩
  · rw [ll] at hi
    obtain ⟨x, hx⟩ := get_lt (xs := vs) (i := i) (by omega)
    obtain ⟨y, hy⟩ := get_lt (xs := ws) (i := i) (by omega)
    exact ⟨vs, ws, x, y, s1, s2, hx, hy⟩
  · obtain ⟨T, y, z, ev, hT, eH, f1, f2⟩ := hy
    subst ev eH
    have q1 := f1 vs s1
    have q2 := f2 ws s2
    obtain ⟨dx, hdx, rx⟩ := dpa_getV (dpAll_mono F.stay' r1) q1
    obtain ⟨dy, hdy, ry⟩ := dpa_getV (dpAll_mono F.stay' r2) q2
    have : x = .tuple [dx, dy] := by
      rw [List.getElem?_map, (List.getElem?_zip_eq_some (z := (dx, dy))).mpr ⟨hdx, hdy⟩] at hx
      exact (Option.some.inj hx).symm
    subst this
    have np := (F.outS hT).1
    exact ⟨Ex.new hT, .tup (SqT.of (by rw [off_out np, upd_same])) (.cons (dp_mono (off_mono (Ex.new hT)) rx) (.cons (dp_mono (off_mono (Ex.new hT)) ry) .nil))⟩
def zipD (xs ys : List PyData) : List PyData := (xs.zip ys).map fun z => .tuple [z.1, z.2]
theorem ei_zip {elts : List Expr} {kk : Nat} {tpos : Pos} (hg : Gl X "zip") (hm : X.mg "zip" = none) (h : EvP X e ρ fun d1 ρ1 => EvP X e2 ρ1 fun d2 ρ2 => ∃ xs ys, ((d1 = dT xs ∧ d2 = dT ys) ∨ (d1 = dL xs ∧ d2 = dL ys)) ∧ Q (zipD xs ys) ρ2)
    (hs : starEach [e, e2] X.env = (false, eval e X.env) :: starEach [e2] X.env := by rfl) (hs2 : starEach [e2] X.env = (false, eval e2 X.env) :: starEach [] X.env := by rfl) : EvI X (.Tuple elts kk tpos) (.Call (.Name "zip" p) [e, e2] [] pos) ρ Q := by
  intro H0 M O S σ H E R k
  refine ⟨_, RZ.pi_zipA hg hm (pa_cons pe_w (pa_cons pe_w pa_nil hs2) hs) hs (by rw [hs2]; rfl), ?_⟩
  refine ev_two (Z := fun d1 d2 ρ2 => ∃ xs ys, ((d1 = dT xs ∧ d2 = dT ys) ∨ (d1 = dL xs ∧ d2 = dL ys)) ∧ Q (zipD xs ys) ρ2) h E fun v1 v2 H2 d1 d2 ρ2 ⟨xs, ys, hd, q⟩ E2 r1 r2 => ?_
  rcases hd with ⟨h1, h2⟩ | ⟨h1, h2⟩
  · subst h1 h2
    cases r1 with
    | tup a1 a2 =>
      cases r2 with
      | tup b1 b2 => exact ⟨_, _, _, _, rfl, .inr ⟨ex_t off_ex a1, ex_t off_ex b1, k _ H2 _ ρ2 q E2 (walk_zipT a1 b1 a2 b2)⟩⟩
  · subst h1 h2
    cases r1 with
    | lst a1 a2 =>
      cases r2 with
      | lst b1 b2 => exact ⟨_, _, _, _, rfl, .inl ⟨ex_l off_ex a1, ex_l off_ex b1, k _ H2 _ ρ2 q E2 (walk_zipL a1 b1 a2 b2)⟩⟩
def enumD (xs : List PyData) : List PyData := (List.range xs.length).map fun (k : Nat) => PyData.tuple [.int (k : Int), (xs[k]?).getD .none]
theorem enumD_get {xs : List PyData} {i : Nat} {x d : PyData} (h : (enumD xs)[i]? = some x) (hd : xs[i]? = some d) : x = .tuple [.int (i : Int), d] := by
  have hi : i < xs.length := (List.getElem?_eq_some_iff.mp hd).1
  unfold enumD at h
  rw [List.getElem?_map, List.getElem?_range hi, Option.map_some, hd] at h
  exact (Option.some.inj h).symm
theorem ei_enumL {elts : List Expr} {kk : Nat} {tpos : Pos} (hg : Gl X "enumerate") (hm : X.mg "enumerate" = none) (h : EvP X e ρ fun d ρ1 => ∃ xs, d = dL xs ∧ Q (enumD xs) ρ1) (hs : starEach [e] X.env = [(false, eval e X.env)] := by rfl) : EvI X (.Tuple elts kk tpos) (.Call (.Name "enumerate" p) [e] [] pos) ρ Q :=
  fun H0 M O S σ H E R k => ⟨_, pi_enum hg hm (pa_cons pe_w pa_nil hs) hs, h H0 M O S σ H E _ fun v H1 d ρ1 ⟨xs, ed, q⟩ E1 r => by
    subst ed
    cases r with
    | lst h1 h2 =>
      rename_i a vs
      refine ⟨a, vs, rfl, ex_l off_ex h1, k _ H1 _ ρ1 q E1 fun O' ρ' σ' H' F => ?_⟩
      have s1 : SqL X.K H' a vs := ex_l off_ex (ex_l F.stay' h1)
      have hl := dpa_length h2
      have ll : (enumD xs).length = xs.length := by unfold enumD; simp
      refine ⟨fun i hi => ?_, fun i hi => ⟨vs, s1, by rw [ll] at hi; omega⟩, fun i x v H'' hx hy => ?_⟩
      · rw [ll] at hi
        obtain ⟨y, hy⟩ := get_lt (xs := vs) (i := i) (by omega)
        exact ⟨vs, y, s1, hy⟩
      · obtain ⟨T, y, ev, hT, eH, f1⟩ := hy
        subst ev eH
        obtain ⟨dy, hdy, ry⟩ := dpa_getV (dpAll_mono F.stay' h2) (f1 vs s1)
        have : x = .tuple [.int (i : Int), dy] := by
          exact enumD_get hx hdy
        subst this
        have np := (F.outS hT).1
        exact ⟨Ex.new hT, .tup (SqT.of (by rw [off_out np, upd_same])) (.cons (.int _) (.cons (dp_mono (off_mono (Ex.new hT)) ry) .nil))⟩⟩
end

/-! ### list comprehensions -/
def WTs (X : Cx) (ifs : List Expr) : TT := fun σ H Q => ∃ t, PTs X ifs t ∧ t σ H Q
theorem pts_w {X : Cx} {ifs : List Expr} : PTs X ifs (WTs X ifs) := ⟨fun pins s σ H Q I ⟨_, ht, q⟩ => ht.run pins s σ H Q I q⟩
def EvTs (X : Cx) (ifs : List Expr) (ρ : DEnv) (Q : Bool → DEnv → Prop) : Prop := ∀ (H0 : Hp) (M O S : List Addr) (σ : L2.St) (H : Hp), EnvOk X.K H0 M O S ρ σ H → ∀ R : Bool → Hp → Prop,
  (∀ H' b ρ', Q b ρ' → EnvOk X.K H0 M O S ρ' σ H' → R b H') → WTs X ifs σ H R
theorem ets_nil {X : Cx} {ρ : DEnv} {T : Bool → DEnv → Prop} (q : T true ρ) : EvTs X [] ρ T := fun H0 M O S σ H E R k => ⟨_, pts_nil, k H true ρ q E⟩
theorem ets_one {X : Cx} {ρ : DEnv} {T : Bool → DEnv → Prop} {c : Expr} (h : EvT X c ρ T) : EvTs X [c] ρ T := fun H0 M O S σ H E R k => ⟨_, pts_one pt_w, h H0 M O S σ H E R k⟩
theorem EnvOk.mutM {K : PySem.W.Frag} {H0 H : Hp} {M O S : List Addr} {ρ : DEnv} {σ : L2.St} {D : Addr} (E : EnvOk K H0 M O S ρ σ H) (hM : D ∈ M) (hS : D ∉ S) (h0 : H0 D = none) (o : HO) : EnvOk K H0 M O S ρ σ (upd H D o) := by
  have hO : D ∉ O := fun z => E.apart D z hM
  have key : Ex (off (O ++ M) H) (off (O ++ M) (upd H D o)) := fun a u h => by
    obtain ⟨h1, h2⟩ := of_off h
    have : a ≠ D := fun z => h1 (List.mem_append_right _ (z ▸ hM))
    rw [off_out h1, upd_ne this]
    exact h2
  refine ⟨fun a u h => ?_, E.h0, fun a ha => ?_, E.sub, E.apart, E.len, fun i e h => ?_, E.dist⟩
  · have : a ≠ D := fun z => by rw [z, h0] at h; cases h
    rw [upd_ne this]
    exact E.ex a u h
  · by_cases z : a = D
    · rw [z, upd_same]
      exact fun q => nomatch q
    · rw [upd_ne z]
      exact E.dom a ha
  · obtain ⟨v, h1, h2⟩ := E.ent i e h
    refine ⟨v, h1, ?_⟩
    cases e with
    | im d => exact dt_mono key h2
    | ow ds =>
      obtain ⟨a, vs, q1, q2, q3, q4⟩ := h2
      exact ⟨a, vs, q1, q2, by rw [upd_ne fun z => hO (by rw [← z]; exact q2)]; exact q3, dpAll_mono key q4⟩
    | src n s =>
      obtain ⟨a, q1, q2, q3⟩ := h2
      exact ⟨a, q1, q2, by rw [upd_ne fun z => hS (by rw [q2, ← z]; simp)]; exact q3⟩
    | slf C fs =>
      obtain ⟨a, dx, ws, q1, q2, q3, q4⟩ := h2
      have n1 : a ≠ D := fun z => hS (by rw [q2, ← z]; simp)
      have n2 : dx ≠ D := fun z => hS (by rw [q2, ← z]; simp)
      refine ⟨a, dx, ws, q1, q2, ?_, fun i y q => let ⟨w, z1, z2⟩ := q4 i y q; ⟨w, z1, dp_mono key z2⟩⟩
      rcases q3 with ⟨z1, z2⟩ | ⟨z1, z2⟩
      · exact .inl ⟨by rw [upd_ne n1]; exact z1, z2⟩
      · exact .inr ⟨by rw [upd_ne n1]; exact z1, by rw [upd_ne n2]; exact z2⟩
/-- a masked address that was new becomes one's own | is let go -/
theorem EnvOk.unM {K : PySem.W.Frag} {H0 H : Hp} {M O S : List Addr} {ρ : DEnv} {σ : L2.St} {D : Addr} (E : EnvOk K H0 (D :: M) O S ρ σ H) (hS : ∀ a ∈ S, a ∈ M) : EnvOk K H0 M O S ρ σ H := by
  have key : Ex (off (O ++ D :: M) H) (off (O ++ M) H) := off_less fun a ha => by
    rcases List.mem_append.mp ha with z | z
    · exact List.mem_append_left _ z
    · exact List.mem_append_right _ (List.mem_cons_of_mem _ z)
  refine ⟨E.ex, E.h0, fun a ha => E.dom a ?_, hS, fun a ha z => E.apart a ha (List.mem_cons_of_mem _ z), E.len, fun i e h => ?_, E.dist⟩
  · rcases List.mem_append.mp ha with z | z
    · exact List.mem_append_left _ z
    · exact List.mem_append_right _ (List.mem_cons_of_mem _ z)
  · obtain ⟨v, h1, h2⟩ := E.ent i e h
    refine ⟨v, h1, ?_⟩
    cases e with
    | im d => exact dt_mono key h2
    | ow ds => obtain ⟨a, vs, q1, q2, q3, q4⟩ := h2; exact ⟨a, vs, q1, q2, q3, dpAll_mono key q4⟩
    | src n s => exact h2
    | slf C fs =>
      obtain ⟨a, dx, ws, q1, q2, q3, q4⟩ := h2
      exact ⟨a, dx, ws, q1, q2, q3, fun i y q => let ⟨w, z1, z2⟩ := q4 i y q; ⟨w, z1, dp_mono key z2⟩⟩
theorem EnvOk.toOwn {K : PySem.W.Frag} {H0 H : Hp} {M O S : List Addr} {ρ : DEnv} {σ : L2.St} {D : Addr} (E : EnvOk K H0 (D :: M) O S ρ σ H) (hS : ∀ a ∈ S, a ∈ M) (h0 : H0 D = none) (hM : D ∉ M) : EnvOk K H0 M (D :: O) S ρ σ H := by
  have mem : ∀ a, a ∈ D :: O ++ M ↔ a ∈ O ++ D :: M := fun a => by simp [or_left_comm]
  have key : Ex (off (O ++ D :: M) H) (off (D :: O ++ M) H) := off_less fun a ha => (mem a).mp ha
  refine ⟨E.ex, fun a ha => ?_, fun a ha => E.dom a ((mem a).mp ha), hS, fun a ha z => ?_, E.len, fun i e h => ?_, E.dist⟩
  · rcases List.mem_append.mp ha with z | z
    · exact E.h0 a (List.mem_append_left _ z)
    · rcases List.mem_cons.mp z with z | z
      · rw [z]; exact h0
      · exact E.h0 a (List.mem_append_right _ z)
  · rcases List.mem_cons.mp ha with q | q
    · rw [q] at z; exact hM z
    · exact E.apart a q (List.mem_cons_of_mem _ z)
  · obtain ⟨v, h1, h2⟩ := E.ent i e h
    refine ⟨v, h1, ?_⟩
    cases e with
    | im d => exact dt_mono key h2
    | ow ds => obtain ⟨a, vs, q1, q2, q3, q4⟩ := h2; exact ⟨a, vs, q1, List.mem_cons_of_mem _ q2, q3, dpAll_mono key q4⟩
    | src n s => exact h2
    | slf C fs =>
      obtain ⟨a, dx, ws, q1, q2, q3, q4⟩ := h2
      exact ⟨a, dx, ws, q1, q2, q3, fun i y q => let ⟨w, z1, z2⟩ := q4 i y q; ⟨w, z1, dp_mono key z2⟩⟩
theorem EnvOk.maskM {K : PySem.W.Frag} {H0 H : Hp} {M O S : List Addr} {ρ : DEnv} {σ : L2.St} {D : Addr} (E : EnvOk K H0 M O S ρ σ H) (hD : H D = none) (o : HO) : EnvOk K H0 (D :: M) O S ρ σ (upd H D o) := by
  obtain ⟨n1, n2, n3⟩ := E.outS hD
  have key : Ex (off (O ++ M) H) (off (O ++ D :: M) (upd H D o)) := fun a u h => by
    obtain ⟨h1, h2⟩ := of_off h
    have : a ≠ D := fun z => by rw [z, hD] at h2; cases h2
    rw [off_out fun z => ?_, upd_ne this]
    · exact h2
    · rcases List.mem_append.mp z with z | z
      · exact h1 (List.mem_append_left _ z)
      · rcases List.mem_cons.mp z with z | z
        · exact this z
        · exact h1 (List.mem_append_right _ z)
  have E' := E.grow (Ex.new (o := o) hD)
  refine ⟨E'.ex, E.h0, fun a ha => ?_, fun a ha => List.mem_cons_of_mem _ (E.sub a ha), fun a ha z => ?_, E.len, fun i e h => ?_, E.dist⟩
  · by_cases z : a = D
    · rw [z, upd_same]
      exact fun q => nomatch q
    · refine E'.dom a ?_
      rcases List.mem_append.mp ha with y | y
      · exact List.mem_append_left _ y
      · rcases List.mem_cons.mp y with y | y
        · exact absurd y z
        · exact List.mem_append_right _ y
  · rcases List.mem_cons.mp z with z | z
    · exact n1 (List.mem_append_left _ (z ▸ ha))
    · exact E.apart a ha z
  · obtain ⟨v, h1, h2⟩ := E'.ent i e h
    obtain ⟨v', h1', h3⟩ := E.ent i e h
    rw [h1] at h1'
    cases h1'
    refine ⟨v, h1, ?_⟩
    cases e with
    | im d => exact dt_mono key h3
    | ow ds => obtain ⟨a, vs, q1, q2, q3, q4⟩ := h2; obtain ⟨a', vs', p1, p2, p3, p4⟩ := h3; exact ⟨a', vs', p1, p2, Ex.new hD _ _ p3, dpAll_mono key p4⟩
    | src n s => exact h2
    | slf C fs =>
      obtain ⟨a, dx, ws, q1, q2, q3, q4⟩ := h3
      obtain ⟨a', dx', ws', p1, p2, p3, p4⟩ := h2
      refine ⟨a, dx, ws, q1, q2, ?_, fun i y q => let ⟨w, z1, z2⟩ := q4 i y q; ⟨w, z1, dp_mono key z2⟩⟩
      rcases q3 with ⟨z1, z2⟩ | ⟨z1, z2⟩
      · exact .inl ⟨Ex.new hD _ _ z1, z2⟩
      · exact .inr ⟨Ex.new hD _ _ z1, Ex.new hD _ _ z2⟩
abbrev blkX (X : Cx) (scope : Scope) (s : Shared) (H : Hp) (C : Addr) (cl : List (Str × Addr)) (fp : List Addr) : Cx := X.blk s H scope (compEnvC scope cl C X.env) fp
def LcH (X : Cx) (scope : Scope) (t : Tgt) (tg elt : Expr) (ifs : List Expr) (iter : Expr) (ρ : DEnv) (N : List PyData → DEnv → Prop) : Prop := EvI X tg iter ρ fun xs ρ1 => xs.length ≤ sizeLine ∧ ∃ I : Nat → List PyData → DEnv → Prop, I 0 [] (wipeE ρ1 t.slots) ∧
  (∀ i acc x ρ', xs[i]? = some x → I i acc ρ' → ∃ ρ2, setT t x ρ' = some ρ2 ∧ ∀ s H C cl fp, EvTs (blkX X scope s H C cl fp) ifs ρ2 fun b ρ3 => (b = true → ∀ s H C cl fp, EvP (blkX X scope s H C cl fp) elt ρ3 fun d ρ4 => ∃ y, d = .d y ∧ I (i + 1) (acc ++ [y]) (wipeE ρ4 t.slots)) ∧ (b = false → I (i + 1) acc (wipeE ρ3 t.slots))) ∧
  ∀ acc ρ', I xs.length acc ρ' → N acc (wipeE ρ' t.slots)
section
variable {X : Cx} {ρ : DEnv} {tg elt iter : Expr} {ifs : List Expr} {scope : Scope} {pos : Pos} {N : List PyData → DEnv → Prop}
/-- the readings of a block's parts, whatever the block -/
def bE (X : Cx) (scope : Scope) (elt : Expr) : TE := fun σ H Q => ∀ s H' C cl fp, WE (blkX X scope s H' C cl fp) elt σ H Q
def bTs (X : Cx) (scope : Scope) (ifs : List Expr) : TT := fun σ H Q => ∀ s H' C cl fp, WTs (blkX X scope s H' C cl fp) ifs σ H Q
theorem lc_reads {t : Tgt} (h : LcH X scope t tg elt ifs iter ρ N) {H0 : Hp} {M O S : List Addr} {σ : L2.St} {H : Hp} (E : EnvOk X.K H0 M O S ρ σ H) (R : VK)
    (k : ∀ p vs H' ds ρ', N ds ρ' → p ∉ O ++ M → EnvOk X.K H0 M O S ρ' σ H' → EnvOk X.K H0 M (p :: O) S ρ' σ H' → H' p = some (.lst vs) → DpAll X.K (off (p :: O ++ M) H') vs ds → R (.ref p) H') :
    tLc (WI X tg iter) (gT X.K t) (bTs X scope ifs) (bE X scope elt) t.slots σ H R := by
  refine h H0 M O S σ H E _ fun J H1 xs ρ1 ⟨hsz, I, i0, turn, fin⟩ E1 wd D hD => ?_
  obtain ⟨n1, n2, n3⟩ := E1.outS hD
  have nM : D ∉ M := fun z => n1 (List.mem_append_right _ z)
  have nS : D ∉ S := fun z => n2 (List.mem_append_left _ z)
  have nO : D ∉ O := fun z => n1 (List.mem_append_left _ z)
  have hb0 : off (S ++ O) H1 D = none := by rw [off_out n2]; exact hD
  have mcons : ∀ (a : Addr), a ∈ O ++ D :: M ↔ a ∈ D :: O ++ M := fun a => by simp [or_left_comm]
  -- what a turn finds
  refine ⟨fun i m H' => m = xs.length - i ∧ i ≤ xs.length ∧ ∃ acc vs ρ', I i acc ρ' ∧ acc.length ≤ i ∧ EnvOk X.K (off (S ++ O) H1) (D :: M) O S ρ' (wipe σ t.slots) H' ∧ H' D = some (.lst vs) ∧ DpAll X.K (off (O ++ D :: M) H') vs acc,
    ⟨xs.length, rfl, Nat.zero_le _, [], [], _, i0, Nat.le_refl _, (E1.re.wiped (vs := t.slots)).maskM hD _, upd_same, .nil⟩, ?_⟩
  rintro i m H' ⟨rfl, hi, acc, vs, ρ', hI, hacc, F, hDl, rr⟩
  have F0 : EnvOk X.K (off (S ++ O) H1) M O S ρ' (wipe σ t.slots) H' := F.unM E1.sub
  obtain ⟨wgo, wstop, wyld⟩ := wd O ρ' _ H' F0
  by_cases hlt : i < xs.length
  · obtain ⟨x, hx⟩ := get_lt hlt
    refine .inr ⟨wgo i hlt, _, fun H'' z => ⟨xs.length - (i + 1), by omega, z⟩, fun v H2 y => ?_⟩
    obtain ⟨x2, rx⟩ := wyld i x v H2 hx y
    obtain ⟨ρ2, e2, step⟩ := turn i acc x ρ' hx hI
    have F2 := F.grow x2
    have rx' : Dp X.K (off (O ++ D :: M) H2) v x := by
      -- the item is no part of the new list
      obtain ⟨w1, w2, w3⟩ := wd (D :: O) ρ' _ H' (F.toOwn E1.sub hb0 nM)
      exact dp_mono (off_less fun a ha => (mcons a).mp ha) (w3 i x v H2 hx y).2
    refine tgt_ok F2 rx' e2 _ fun σ2 F3 hw => ?_
    rw [wipe_wipe fun i hi => hi] at hw
    refine ⟨hw, fun s Hs C cl fp => ?_⟩
    have F3' : EnvOk X.K (off (S ++ O) H2) (D :: M) O S ρ2 σ2 H2 := F3.re
    refine step s Hs C cl fp _ (D :: M) O S σ2 H2 F3' _ fun H3 b ρ3 ⟨qt, qf⟩ F4 => ?_
    have hD2 : H2 D = some (.lst vs) := x2 D _ hDl
    have hD3 : H3 D = some (.lst vs) := F4.ex D _ (by rw [off_out n2]; exact hD2)
    have rr3 : DpAll X.K (off (O ++ D :: M) H3) vs acc := dpAll_mono F4.stay (dpAll_mono (off_mono x2) rr)
    cases b with
    | false =>
      refine iteF ⟨rfl, hlt, acc, vs, _, qf rfl, Nat.le_succ_of_le hacc, ?_, hD3, rr3⟩
      have F5 := (F3.back F4).wiped (vs := t.slots)
      rw [hw] at F5
      exact F5
    | true =>
      refine iteT fun s' Hs' C' cl' fp' => ?_
      refine qt rfl s' Hs' C' cl' fp' _ (D :: M) O S σ2 H3 (F3.back F4).re _ fun w H4 d ρ4 ⟨y, ed, hI4⟩ F5 r5 => ?_
      subst ed
      have hD4 : H4 D = some (.lst vs) := F5.ex D _ (by rw [off_out n2]; exact hD3)
      have F6 : EnvOk X.K (off (S ++ O) H1) (D :: M) O S ρ4 σ2 H4 := (F3.back F4).back F5
      have F7 : EnvOk X.K (off (S ++ O) H1) (D :: M) O S ρ4 σ2 (upd H4 D (.lst (vs ++ [w]))) := F6.mutM List.mem_cons_self nS hb0 _
      have F8 := F7.wiped (vs := t.slots)
      rw [hw] at F8
      have key : Ex (off (O ++ D :: M) H4) (off (O ++ D :: M) (upd H4 D (.lst (vs ++ [w])))) := fun a u h => by
        obtain ⟨h1, h2⟩ := of_off h
        have : a ≠ D := fun z => h1 (List.mem_append_right _ (z ▸ List.mem_cons_self))
        rw [off_out h1, upd_ne this]
        exact h2
      have lv : vs.length = acc.length := dpa_length rr
      refine ⟨vs, hD4, by omega, rfl, hlt, acc ++ [y], vs ++ [w], _, hI4, by rw [List.length_append]; exact Nat.succ_le_succ hacc, F8, upd_same, dpAll_mono key (dpa_append (dpAll_mono F5.stay rr3) (.cons r5 .nil))⟩
  · have e : i = xs.length := by omega
    subst e
    refine .inl ⟨wstop _ rfl, ?_⟩
    have F5 : EnvOk X.K (off (S ++ O) H1) (D :: M) O S (wipeE ρ' t.slots) σ H' := F.unwiped
    refine k D vs H' acc _ (fin acc ρ' hI) n1 (E1.back (F5.unM E1.sub)) ?_ hDl (dpAll_mono (off_less fun a ha => (mcons a).mpr ha) rr)
    exact E1.back' (F5.toOwn E1.sub hb0 nM)
end
end DL
end
section
set_option Elab.async false
set_option linter.all false
set_option maxRecDepth 100000
set_option maxHeartbeats 4000000
/-! The data logic: statements, loops, calls of one's own defs. -/
namespace DL
open PySem PySem.Spec PyProof.Rows L2 Evl

section
variable {X : Cx} {ρ : DEnv} {tg elt iter : Expr} {ifs : List Expr} {scope : Scope} {pos : Pos} {N : List PyData → DEnv → Prop}
theorem pts_b : ∀ (s : Shared) (H : Hp) (C : Addr) (cl : List (Str × Addr)) (fp : List Addr), PTs (blkX X scope s H C cl fp) ifs (bTs X scope ifs) := fun s H C cl fp => ⟨fun pins s' σ H' Q I h => pts_w.run pins s' σ H' Q I (h s H C cl fp)⟩
theorem pe_b : ∀ (s : Shared) (H : Hp) (C : Addr) (cl : List (Str × Addr)) (fp : List Addr), PE (blkX X scope s H C cl fp) elt (bE X scope elt) := fun s H C cl fp => ⟨fun pins s' σ H' Q I h => pe_w.run pins s' σ H' Q I (h s H C cl fp)⟩
/-- [elt for tg in iter if ..] -/
theorem en_lc {own : List (Str × Nat)} (t : Tgt) (hc : X.calm = true) (hN : X.N.Nodup) (ht : t.slots = own.map (·.2)) (ok : BlkOk X.N X.env.scope scope own) (hg : ∀ s H C cl fp, PG (blkX X scope s H C cl fp) tg (gT X.K t))
    (h : LcH X scope t tg elt ifs iter ρ N) (hs : ∀ x, foldedSetIterable iter X.env x = pure x := by intro _; rfl) : EvN X (.ListComp elt [⟨tg, iter, ifs, 0⟩] scope pos) ρ N := fun H0 M O S σ H E R k =>
  ⟨_, pe_lc hc hN pi_w ok hg pts_b pe_b hs, by
    rw [← ht]
    exact lc_reads h E R k⟩

/-! ### statements -/
def RunS (X : Cx) (st : Stmt) (ρ : DEnv) (P : Post) : Prop := ∀ (H0 : Hp) (M O S : List Addr) (σ : L2.St) (H : Hp), EnvOk X.K H0 M O S ρ σ H → ∀ D : Ends,
  (∀ O' σ' H' ρ', P.nx ρ' → EnvOk X.K H0 M O' S ρ' σ' H' → D.nx σ' H') → (∀ v O' σ' H' d ρ', P.rt d ρ' → EnvOk X.K H0 M O' S ρ' σ' H' → DtR X.K (off M H') v d → D.rt v H') →
  (∀ O' σ' H' ρ', P.bk ρ' → EnvOk X.K H0 M O' S ρ' σ' H' → D.bk σ' H') → (∀ O' σ' H' ρ', P.ct ρ' → EnvOk X.K H0 M O' S ρ' σ' H' → D.ct σ' H') → WS X st D σ H
variable {P : Post} {st : Stmt} {rest : List Stmt}
theorem run_nil (h : P.nx ρ) : RunP X [] ρ P := fun H0 M O S σ H E D a b c d => ⟨_, pss_nil, a O σ H ρ h E⟩
theorem run_cons (h : RunS X st ρ { P with nx := fun ρ' => RunP X rest ρ' P }) : RunP X (st :: rest) ρ P := fun H0 M O S σ H E D a b c d =>
  ⟨_, pss_cons ps_w pss_w, h H0 M O S σ H E { D with nx := WSs X rest D } (fun O' σ' H' ρ' z E' => z H0 M O' S σ' H' E' D a b c d) b c d⟩
theorem run_one (h : RunS X st ρ P) : RunP X [st] ρ P := fun H0 M O S σ H E D a b c d => ⟨_, pss_one ps_w, h H0 M O S σ H E D a b c d⟩
variable {e : Expr} {i : Nat} {x : Str} {px spos : Pos}
/-- x = e, a value -/
theorem rs_asg (hN : X.N.Nodup) (hi : X.N[i]? = some x) (hx : Loc X.env.scope x) (h : EvP X e ρ fun d ρ' => P.nx (ρ'.set i (some (.im d)))) (hs : swapsWith e (some (.Name x px)) spos.line X.env = pure false := by rfl)
    (hf : X.fn x = true ∨ X.env.scope.names.lookup x = some .local := by first | exact .inl rfl | exact .inr rfl | assumption) : RunS X (.Assign [.Name x px] e spos) ρ P := fun H0 M O S σ H E D a b c d =>
  ⟨_, ps_set hN hi hx pe_w hs hf, h H0 M O S σ H E _ fun v H' dd ρ' q E' r => a O _ H' _ q (E'.set_im r)⟩
theorem EnvOk.set_ow {K : PySem.W.Frag} {H0 H : Hp} {M O S : List Addr} {σ : L2.St} {p : Addr} {vs : List V} {ds : List PyData} (E : EnvOk K H0 M (p :: O) S ρ σ H) (hn : ∀ (j : Nat) (es : List PyData), ρ[j]? = some (some (.ow es)) → σ[j]? ≠ some (some (.ref p))) (hp : H p = some (.lst vs)) (r : DpAll K (off (p :: O ++ M) H) vs ds) :
    EnvOk K H0 M (p :: O) S (ρ.set i (some (.ow ds))) (σ.set i (some (.ref p))) H := by
  refine ⟨E.ex, E.h0, E.dom, E.sub, E.apart, by rw [List.length_set, List.length_set]; exact E.len, fun j e h => ?_, fun j k es fs h1 h2 h3 => ?_⟩
  · rcases set_get h with ⟨h1, h2⟩ | ⟨h1, h2⟩
    · subst h1
      cases h2
      have hi : i < ρ.length := by
        obtain ⟨q, _⟩ := List.getElem?_eq_some_iff.mp h
        simpa using q
      exact ⟨.ref p, List.getElem?_set_self (by rw [E.len]; exact hi), p, vs, rfl, List.mem_cons_self, hp, r⟩
    · rw [List.getElem?_set_ne h1]
      exact E.ent j e h2
  · have key : ∀ j es, j ≠ i → ρ[j]? = some (some (.ow es)) → (σ.set i (some (.ref p)))[i]? = (σ.set i (some (.ref p)))[j]? → False := fun j es hj hr he => by
      rw [List.getElem?_set_ne (Ne.symm hj)] at he
      obtain ⟨v, q1, _⟩ := E.ent j _ hr
      have hi : i < σ.length := by
        rw [q1] at he
        have := (List.getElem?_eq_some_iff.mp he).1
        simpa using this
      rw [List.getElem?_set_self hi] at he
      exact hn j es hr he.symm
    rcases set_get h1 with ⟨q1, _⟩ | ⟨q1, q2⟩
    · rcases set_get h2 with ⟨q3, _⟩ | ⟨q3, q4⟩
      · rw [← q1, ← q3]
      · subst q1
        exact (key k fs (Ne.symm q3) q4 h3).elim
    · rcases set_get h2 with ⟨q3, _⟩ | ⟨q3, q4⟩
      · subst q3
        exact (key j es (Ne.symm q1) q2 h3.symm).elim
      · rw [List.getElem?_set_ne q1, List.getElem?_set_ne q3] at h3
        exact E.dist j k es fs q2 q4 h3
/-- what is new is no slot's list -/
theorem new_no {K : PySem.W.Frag} {H0 H : Hp} {M O S : List Addr} {σ : L2.St} {p : Addr} (E : EnvOk K H0 M O S ρ σ H) (np : p ∉ O ++ M) : ∀ (j : Nat) (es : List PyData), ρ[j]? = some (some (.ow es)) → σ[j]? ≠ some (some (.ref p)) := fun j es hr he => by
  obtain ⟨v, q1, a, vs, q2, q3, _⟩ := E.ent j _ hr
  rw [q1] at he
  have := Option.some.inj (Option.some.inj he)
  rw [q2] at this
  cases this
  exact np (List.mem_append_left _ q3)
/-- x = a new list, that will still change -/
theorem rs_asgO (hN : X.N.Nodup) (hi : X.N[i]? = some x) (hx : Loc X.env.scope x) (h : EvN X e ρ fun ds ρ' => P.nx (ρ'.set i (some (.ow ds)))) (hs : swapsWith e (some (.Name x px)) spos.line X.env = pure false := by rfl)
    (hf : X.fn x = true ∨ X.env.scope.names.lookup x = some .local := by first | exact .inl rfl | exact .inr rfl | assumption) : RunS X (.Assign [.Name x px] e spos) ρ P := fun H0 M O S σ H E D a b c d =>
  ⟨_, ps_set hN hi hx pe_w hs hf, h H0 M O S σ H E _ fun p vs H' ds ρ' q np E1 E' hp r => a (p :: O) _ H' _ q (E'.set_ow (new_no E1 np) hp r)⟩
/-- y = [ .. for .. ], on one line -/
theorem rs_asgLc {own : List (Str × Nat)} (t : Tgt) (hc : X.calm = true) (hN : X.N.Nodup) (hi : X.N[i]? = some x) (hx : X.env.scope.names.lookup x = some .local) (hsw : swapsWith (.ListComp elt [⟨tg, iter, ifs, 0⟩] scope pos) (some (.Name x px)) spos.line X.env = pure true)
    (ht : t.slots = own.map (·.2)) (ok : BlkOk X.N X.env.scope scope own) (hg : ∀ s H C cl fp, PG (blkX X scope s H C cl fp) tg (gT X.K t)) (h : LcH X scope t tg elt ifs iter ρ fun ds ρ' => P.nx (ρ'.set i (some (.im (dL ds))))) (hs : ∀ x, foldedSetIterable iter X.env x = pure x := by intro _; rfl) :
    RunS X (.Assign [.Name x px] (.ListComp elt [⟨tg, iter, ifs, 0⟩] scope pos) spos) ρ P := fun H0 M O S σ H E D a b c d =>
  ⟨_, ps_setLc hc hN hi hx hsw pi_w ok hg pts_b pe_b hs, by
    rw [← ht]
    exact lc_reads h E _ fun p vs H' ds ρ' q np E1 E' hp r => a O _ H' _ q (E1.set_im (d := dL ds) (.lst (SqL.of (by rw [off_out np]; exact hp)) (dpAll_mono (off_less fun a ha => List.mem_cons_of_mem _ ha) r)))⟩
theorem rs_asgLcO {own : List (Str × Nat)} (t : Tgt) (hc : X.calm = true) (hN : X.N.Nodup) (hi : X.N[i]? = some x) (hx : X.env.scope.names.lookup x = some .local) (hsw : swapsWith (.ListComp elt [⟨tg, iter, ifs, 0⟩] scope pos) (some (.Name x px)) spos.line X.env = pure true)
    (ht : t.slots = own.map (·.2)) (ok : BlkOk X.N X.env.scope scope own) (hg : ∀ s H C cl fp, PG (blkX X scope s H C cl fp) tg (gT X.K t)) (h : LcH X scope t tg elt ifs iter ρ fun ds ρ' => P.nx (ρ'.set i (some (.ow ds)))) (hs : ∀ x, foldedSetIterable iter X.env x = pure x := by intro _; rfl) :
    RunS X (.Assign [.Name x px] (.ListComp elt [⟨tg, iter, ifs, 0⟩] scope pos) spos) ρ P := fun H0 M O S σ H E D a b c d =>
  ⟨_, ps_setLc hc hN hi hx hsw pi_w ok hg pts_b pe_b hs, by
    rw [← ht]
    exact lc_reads h E _ fun p vs H' ds ρ' q np E1 E' hp r => a (p :: O) _ H' _ q (E'.set_ow (new_no E1 np) hp r)⟩
/-- a list of one's own changes no more -/
theorem run_freeze {sts : List Stmt} (i : Nat) {ds : List PyData} (hr : ρ[i]? = some (some (.ow ds))) (h : RunP X sts (ρ.set i (some (.im (dL ds)))) P) : RunP X sts ρ P := fun H0 M O S σ H E D a b c d => by
  obtain ⟨v, h1, p, vs, h2, h3, h4, h5⟩ := E.ent i _ hr
  subst h2
  -- the address leaves O
  have less : Ex (off (O ++ M) H) (off (O.filter (fun q => q ≠ p) ++ M) H) := off_less fun q hq => by
    rcases List.mem_append.mp hq with z | z
    · exact List.mem_append_left _ (List.mem_filter.mp z).1
    · exact List.mem_append_right _ z
  have npM : p ∉ M := E.apart p h3
  have nF : p ∉ O.filter (fun q => q ≠ p) ++ M := fun z => by
    rcases List.mem_append.mp z with z | z
    · have := (List.mem_filter.mp z).2
      simp at this
    · exact npM z
  have E' : EnvOk X.K H0 M (O.filter fun q => q ≠ p) S (ρ.set i (some (.im (dL ds)))) σ H := by
    refine ⟨E.ex, fun q hq => E.h0 q ?_, fun q hq => E.dom q ?_, E.sub, fun q hq => E.apart q (List.mem_filter.mp hq).1, by rw [List.length_set]; exact E.len, fun j e hj => ?_, fun j k es fs q1 q2 q3 => ?_⟩
    · rcases List.mem_append.mp hq with z | z
      · exact List.mem_append_left _ z
      · exact List.mem_append_right _ (List.mem_filter.mp z).1
    · rcases List.mem_append.mp hq with z | z
      · exact List.mem_append_left _ (List.mem_filter.mp z).1
      · exact List.mem_append_right _ z
    · rcases set_get hj with ⟨q1, q2⟩ | ⟨q1, q2⟩
      · subst q1
        cases q2
        exact ⟨_, h1, .lst (SqL.of (by rw [off_out nF]; exact h4)) (dpAll_mono less h5)⟩
      · obtain ⟨w, z1, z2⟩ := E.ent j e q2
        refine ⟨w, z1, ?_⟩
        cases e with
        | im d => exact dt_mono less z2
        | ow es =>
          obtain ⟨b, us, y1, y2, y3, y4⟩ := z2
          refine ⟨b, us, y1, List.mem_filter.mpr ⟨y2, ?_⟩, y3, dpAll_mono less y4⟩
          have : b ≠ p := fun z => q1 (E.dist i j ds es hr q2 (by rw [h1, z1, y1, z]))
          simpa using this
        | src n s => exact z2
        | slf C fs =>
          obtain ⟨b, dx, ws, y1, y2, y3, y4⟩ := z2
          exact ⟨b, dx, ws, y1, y2, y3, fun k y q => let ⟨w, u1, u2⟩ := y4 k y q; ⟨w, u1, dp_mono less u2⟩⟩
    · rcases set_get q1 with ⟨_, z⟩ | ⟨z1, z2⟩
      · cases z
      · rcases set_get q2 with ⟨_, z⟩ | ⟨z3, z4⟩
        · cases z
        · exact E.dist j k es fs z2 z4 q3
  exact h H0 M _ S σ H E' D a b c d
theorem run_wipe {sts : List Stmt} (i : Nat) (h : RunP X sts (ρ.set i none) P) : RunP X sts ρ P := fun H0 M O S σ H E D a b c d => h H0 M O S σ H (E.forget i) D a b c d
/-- return e -/
theorem rs_ret (h : EvP X e ρ fun d ρ' => P.rt d ρ') : RunS X (.Return (some e) pos) ρ P := fun H0 M O S σ H E D a b c d => ⟨_, ps_ret pe_w, h H0 M O S σ H E _ fun v H' dd ρ' q E' r => b v O σ H' dd ρ' q E' (dt_mono (off_less fun a ha => List.mem_append_right _ ha) r)⟩
/-- if -/
theorem rs_if {c : Expr} {s1 s2 : List Stmt} (h : EvT X c ρ fun z ρ' => (z = true → RunP X s1 ρ' P) ∧ (z = false → RunP X s2 ρ' P)) : RunS X (.If c s1 s2 pos) ρ P := fun H0 M O S σ H E D a b c d =>
  ⟨_, ps_if pt_w pss_w pss_w, h H0 M O S σ H E _ fun H' z ρ' ⟨q1, q2⟩ E' => by
    cases z with
    | true => exact iteT (q1 rfl H0 M O S σ H' E' D a b c d)
    | false => exact iteF (q2 rfl H0 M O S σ H' E' D a b c d)⟩
/-- e as a statement -/
theorem rs_expr (h : EvP X e ρ fun _ ρ' => P.nx ρ') (hs : swapsWith e none pos.line X.env = pure false := by rfl) : RunS X (.Expr e pos) ρ P := fun H0 M O S σ H E D a b c d => ⟨_, ps_expr pe_w hs, h H0 M O S σ H E _ fun v H' dd ρ' q E' r => a O σ H' ρ' q E'⟩
/-- x += e, ints -/
theorem rs_augI (hN : X.N.Nodup) (hi : X.N[i]? = some x) (hx : Loc X.env.scope x) {n : Int} (hr : ρ[i]? = some (some (.im (dI n)))) (h : EvP X e ρ fun d ρ' => ∃ m, d = dI m ∧ P.nx (ρ'.set i (some (.im (dI (n + m))))))
    (hf : X.fn x = true ∨ X.env.scope.names.lookup x = some .local := by first | exact .inl rfl | exact .inr rfl | assumption) : RunS X (.AugAssign (.Name x px) .Add e spos) ρ P := fun H0 M O S σ H E D a b c d =>
  ⟨_, ps_aug hN hi hx pe_w ip_add hf, by
    obtain ⟨v, h1, h2⟩ := E.ent i _ hr
    cases h2
    exact ⟨_, h1, h H0 M O S σ H E _ fun w H' dd ρ' ⟨m, ed, q⟩ E' r => by
      subst ed
      cases r
      exact ⟨n, m, rfl, rfl, a O _ H' _ q (E'.set_im dt_int)⟩⟩⟩
/-- for -/
theorem rs_for {body : List Stmt} (t : Tgt) (hp : PassesOwn (model X.prog X.w) X.A X.env X.xe) (hc : X.calm = true) (hg : PG X tg (gT X.K t))
    (h : EvI X tg iter ρ fun xs ρ1 => ∃ I : Nat → DEnv → Prop, I 0 ρ1 ∧ (∀ i y ρ', xs[i]? = some y → I i ρ' → ∃ ρ2, setT t y ρ' = some ρ2 ∧ RunP X body ρ2 { nx := I (i + 1), ct := I (i + 1), bk := P.nx, rt := P.rt }) ∧ ∀ ρ', I xs.length ρ' → P.nx ρ')
    (hs : ∀ x, foldedSetIterable iter X.env x = pure x := by intro _; rfl) : RunS X (.For tg iter body [] pos) ρ P := fun H0 M O S σ H E D a b c d =>
  ⟨_, ps_for hp hc pi_w hg pss_w hs, by
    refine h H0 M O S σ H E _ fun J H1 xs ρ1 ⟨I, i0, turn, fin⟩ E1 wd => ?_
    refine ⟨fun i m σ' H' => m = xs.length - i ∧ i ≤ xs.length ∧ ∃ O' ρ', I i ρ' ∧ EnvOk X.K (off (S ++ O) H1) M O' S ρ' σ' H', ⟨xs.length, rfl, Nat.zero_le _, O, ρ1, i0, E1.re⟩, ?_⟩
    rintro i m σ' H' ⟨rfl, hi, O', ρ', hI, F⟩
    obtain ⟨wgo, wstop, wyld⟩ := wd O' ρ' σ' H' F
    by_cases hlt : i < xs.length
    · obtain ⟨y, hy⟩ := get_lt hlt
      refine .inr ⟨wgo i hlt, fun σ2 H2 => xs.length - (i + 1) = xs.length - (i + 1) ∧ i + 1 ≤ xs.length ∧ ∃ O' ρ', I (i + 1) ρ' ∧ EnvOk X.K (off (S ++ O) H1) M O' S ρ' σ2 H2, fun σ2 H2 z => ⟨xs.length - (i + 1), by omega, z⟩, fun v H2 yy => ?_⟩
      obtain ⟨x2, r2⟩ := wyld i y v H2 hy yy
      obtain ⟨ρ2, e2, step⟩ := turn i y ρ' hy hI
      refine tgt_ok (F.grow x2) r2 e2 _ fun σ2 F3 _ => ?_
      refine step _ M O' S σ2 H2 F3 _ (fun O2 σ3 H3 ρ3 z F4 => ⟨rfl, hlt, O2, ρ3, z, F4⟩) (fun v O2 σ3 H3 dd ρ3 z F4 r4 => b v O2 σ3 H3 dd ρ3 z (E1.back' F4) r4) (fun O2 σ3 H3 ρ3 z F4 => a O2 σ3 H3 ρ3 z (E1.back' F4)) (fun O2 σ3 H3 ρ3 z F4 => ⟨rfl, hlt, O2, ρ3, z, F4⟩)
    · have e : i = xs.length := by omega
      subst e
      exact .inl ⟨wstop _ rfl, a O' σ' H' ρ' (fin ρ' hI) (E1.back' F)⟩⟩
/-- while, by a measure -/
theorem rs_while {c : Expr} {body : List Stmt} (hp : PassesOwn (model X.prog X.w) X.A X.env X.xe) (I : Nat → DEnv → Prop) {m0 : Nat} (h0 : I m0 ρ)
    (h : ∀ m ρ', I m ρ' → EvT X c ρ' fun z ρ2 => (z = false → P.nx ρ2) ∧ (z = true → RunP X body ρ2 { nx := fun ρ3 => ∃ m', m' < m ∧ I m' ρ3, ct := fun ρ3 => ∃ m', m' < m ∧ I m' ρ3, bk := P.nx, rt := P.rt })) : RunS X (.While c body [] pos) ρ P := fun H0 M O S σ H E D a b cc d =>
  ⟨_, ps_while hp pt_w pss_w, by
    refine ⟨fun m σ' H' => ∃ O' ρ', I m ρ' ∧ EnvOk X.K H0 M O' S ρ' σ' H', ⟨m0, O, ρ, h0, E⟩, ?_⟩
    rintro m σ' H' ⟨O', ρ', hI, F⟩
    refine h m ρ' hI H0 M O' S σ' H' F _ fun H1 z ρ2 ⟨q1, q2⟩ F1 => ?_
    cases z with
    | false => exact iteF (a O' σ' H1 ρ2 (q1 rfl) F1)
    | true =>
      refine iteT ⟨fun σ2 H2 => ∃ m', m' < m ∧ ∃ O2 ρ3, I m' ρ3 ∧ EnvOk X.K H0 M O2 S ρ3 σ2 H2, fun σ2 H2 z => z, ?_⟩
      exact q2 rfl H0 M O' S σ' H1 F1 _ (fun O2 σ2 H2 ρ3 ⟨m', hm, hI'⟩ F2 => ⟨m', hm, O2, ρ3, hI', F2⟩) b (fun O2 σ2 H2 ρ3 z F2 => a O2 σ2 H2 ρ3 z F2) (fun O2 σ2 H2 ρ3 ⟨m', hm, hI'⟩ F2 => ⟨m', hm, O2, ρ3, hI', F2⟩)⟩
end
end DL
end
section
set_option Elab.async false
set_option linter.all false
set_option maxRecDepth 100000
set_option maxHeartbeats 4000000
/-! The data logic: own lists changed, several targets, promises of defs, calls. -/
namespace DL
open PySem PySem.Spec PyProof.Rows L2 Evl

section
variable {X : Cx} {ρ : DEnv} {e o : Expr} {pos apos : Pos} {P : Post} {x : Str} {px : Pos}
/-! ### a list of one's own is written -/
theorem EnvOk.write_ow {K : PySem.W.Frag} {H0 H : Hp} {M O S : List Addr} {σ : L2.St} {i : Nat} {p : Addr} {ds es : List PyData} {ws : List V} (E : EnvOk K H0 M O S ρ σ H) (hr : ρ[i]? = some (some (.ow ds))) (hs : σ[i]? = some (some (.ref p))) (hO : p ∈ O) (r : DpAll K (off (O ++ M) H) ws es) :
    EnvOk K H0 M O S (ρ.set i (some (.ow es))) σ (upd H p (.lst ws)) := by
  have pM : p ∉ M := E.apart p hO
  have pS : p ∉ S := fun z => pM (E.sub p z)
  have p0 : H0 p = none := E.h0 p (List.mem_append_right _ hO)
  have key : Ex (off (O ++ M) H) (off (O ++ M) (upd H p (.lst ws))) := fun a u h => by
    obtain ⟨h1, h2⟩ := of_off h
    have : a ≠ p := fun z => h1 (List.mem_append_left _ (z ▸ hO))
    rw [off_out h1, upd_ne this]
    exact h2
  refine ⟨fun a u h => ?_, E.h0, fun a ha => ?_, E.sub, E.apart, by rw [List.length_set]; exact E.len, fun j e h => ?_, fun j k fs gs h1 h2 h3 => ?_⟩
  · have : a ≠ p := fun z => by rw [z, p0] at h; cases h
    rw [upd_ne this]
    exact E.ex a u h
  · by_cases z : a = p
    · rw [z, upd_same]
      exact fun q => nomatch q
    · rw [upd_ne z]
      exact E.dom a ha
  · rcases set_get h with ⟨h1, h2⟩ | ⟨h1, h2⟩
    · subst h1
      cases h2
      exact ⟨.ref p, hs, p, ws, rfl, hO, upd_same, dpAll_mono key r⟩
    · obtain ⟨v, q1, q2⟩ := E.ent j e h2
      refine ⟨v, q1, ?_⟩
      cases e with
      | im d => exact dt_mono key q2
      | ow fs =>
        obtain ⟨a, us, y1, y2, y3, y4⟩ := q2
        have : a ≠ p := fun z => h1 (E.dist i j ds fs hr h2 (by rw [hs, q1, y1, z]))
        exact ⟨a, us, y1, y2, by rw [upd_ne this]; exact y3, dpAll_mono key y4⟩
      | src n s =>
        obtain ⟨a, y1, y2, y3⟩ := q2
        have : a ≠ p := fun z => pS (by rw [y2, ← z]; simp)
        exact ⟨a, y1, y2, by rw [upd_ne this]; exact y3⟩
      | slf C fs =>
        obtain ⟨a, dx, us, y1, y2, y3, y4⟩ := q2
        have n1 : a ≠ p := fun z => pS (by rw [y2, ← z]; simp)
        have n2 : dx ≠ p := fun z => pS (by rw [y2, ← z]; simp)
        refine ⟨a, dx, us, y1, y2, ?_, fun k y q => let ⟨w, z1, z2⟩ := y4 k y q; ⟨w, z1, dp_mono key z2⟩⟩
        rcases y3 with ⟨z1, z2⟩ | ⟨z1, z2⟩
        · exact .inl ⟨by rw [upd_ne n1]; exact z1, z2⟩
        · exact .inr ⟨by rw [upd_ne n1]; exact z1, by rw [upd_ne n2]; exact z2⟩
  · rcases set_get h1 with ⟨q1, q2⟩ | ⟨q1, q2⟩
    · rcases set_get h2 with ⟨q3, q4⟩ | ⟨q3, q4⟩
      · rw [← q1, ← q3]
      · subst q1
        exact E.dist i k ds gs hr q4 h3
    · rcases set_get h2 with ⟨q3, q4⟩ | ⟨q3, q4⟩
      · subst q3
        exact E.dist j i fs ds q2 hr h3
      · exact E.dist j k fs gs q2 q4 h3
/-- x.append(e), x a list of one's own -/
theorem rs_append (i : Nat) (hi : X.N[i]? = some x) (hv : Vis X.env.scope x) (h : EvP X e ρ fun d ρ1 => ∃ ds y, ρ1[i]? = some (some (.ow ds)) ∧ d = .d y ∧ ds.length < sizeLine ∧ P.nx (ρ1.set i (some (.ow (ds ++ [y])))))
    (hd : (x == ("__debug__" : Str)) = false := by decide) (hcd : (x == ("__classdict__" : Str)) = false := by decide) (hbase : attributeBase (.Name x px) "append" X.env (eval (.Name x px) X.env) = eval (.Name x px) X.env := by rfl)
    (hfew : ((backTo pos (starEach [e] X.env)).all (fun x => !x.1) && (backToKw pos (keywordEach [] X.env)).all (fun x => x.1.isSome)
      && decide ([e].length + ([] : List Keyword).length + (if ([] : List Keyword).isEmpty then 0 else 1) < 30)) = true := by rfl)
    (hline : (apos.endLine == pos.line) = true := by rfl) (he : starEach [e] X.env = (false, eval e X.env) :: starEach [] X.env := by rfl)
    {spos : Pos} (hsw : swapsWith (.Call (.Attribute (.Name x px) "append" apos) [e] [] pos) none spos.line X.env = pure false := by rfl) (ho : ∃ ds, ρ[i]? = some (some (.ow ds))) :
    RunS X (.Expr (.Call (.Attribute (.Name x px) "append" apos) [e] [] pos) spos) ρ P := fun H0 M O S σ H E D a b c d => by
  refine ⟨_, ps_expr (pe_bm PySem.F.plainAttrs_list PySem.F.slot_list_append PySem.F.type_list_append mt_append (pe_var hi hv hd hcd) (pa_cons pe_w pa_nil he) hbase hfew hline he) hsw, ?_⟩
  obtain ⟨ds0, hr0⟩ := ho
  obtain ⟨v0, q1, p, vs0, q2, q3, q4, q5⟩ := E.ent i _ hr0
  subst q2
  refine ⟨.ref p, q1, .inl ⟨rfl, _, SqL.of q4⟩, h H0 M O S σ H E _ fun w H1 dd ρ1 ⟨ds, y, hr, ed, hl, q⟩ E1 r => ?_⟩
  subst ed
  obtain ⟨v1, z1, p1, vs, z2, z3, z4, z5⟩ := E1.ent i _ hr
  rw [q1] at z1
  cases z1
  cases z2
  exact ⟨p, vs, w, rfl, rfl, z4, by rw [dpa_length z5]; exact hl, a O σ _ _ q (E1.write_ow hr q1 z3 (dpa_append z5 (.cons r .nil)))⟩
/-- x.extend(e), e a new list -/
theorem rs_extend (i : Nat) (hi : X.N[i]? = some x) (hv : Vis X.env.scope x) (h : EvN X e ρ fun es ρ1 => ∃ ds, ρ1[i]? = some (some (.ow ds)) ∧ ds.length + es.length ≤ sizeLine ∧ P.nx (ρ1.set i (some (.ow (ds ++ es)))))
    (hd : (x == ("__debug__" : Str)) = false := by decide) (hcd : (x == ("__classdict__" : Str)) = false := by decide) (hbase : attributeBase (.Name x px) "extend" X.env (eval (.Name x px) X.env) = eval (.Name x px) X.env := by rfl)
    (hfew : ((backTo pos (starEach [e] X.env)).all (fun x => !x.1) && (backToKw pos (keywordEach [] X.env)).all (fun x => x.1.isSome)
      && decide ([e].length + ([] : List Keyword).length + (if ([] : List Keyword).isEmpty then 0 else 1) < 30)) = true := by rfl)
    (hline : (apos.endLine == pos.line) = true := by rfl) (he : starEach [e] X.env = (false, eval e X.env) :: starEach [] X.env := by rfl)
    {spos : Pos} (hsw : swapsWith (.Call (.Attribute (.Name x px) "extend" apos) [e] [] pos) none spos.line X.env = pure false := by rfl) (ho : ∃ ds, ρ[i]? = some (some (.ow ds))) :
    RunS X (.Expr (.Call (.Attribute (.Name x px) "extend" apos) [e] [] pos) spos) ρ P := fun H0 M O S σ H E D a b c d => by
  refine ⟨_, ps_expr (pe_bm PySem.F.plainAttrs_list PySem.F.slot_list_extend PySem.F.type_list_extend mt_extend (pe_var hi hv hd hcd) (pa_cons pe_w pa_nil he) hbase hfew hline he) hsw, ?_⟩
  obtain ⟨ds0, hr0⟩ := ho
  obtain ⟨v0, q1, p, vs0, q2, q3, q4, q5⟩ := E.ent i _ hr0
  subst q2
  refine ⟨.ref p, q1, .inl ⟨rfl, _, SqL.of q4⟩, h H0 M O S σ H E _ fun w ws H1 es ρ1 ⟨ds, hr, hl, q⟩ np E1 E2 hw r => ?_⟩
  obtain ⟨v1, z1, p1, vs, z2, z3, z4, z5⟩ := E1.ent i _ hr
  rw [q1] at z1
  cases z1
  cases z2
  have r' := dpAll_mono (off_less fun a ha => List.mem_cons_of_mem w ha) r
  exact ⟨p, w, vs, ws, rfl, rfl, z4, hw, by rw [dpa_length z5, dpa_length r']; exact hl, a O σ _ _ q (E1.write_ow hr q1 z3 (dpa_append z5 r'))⟩
/-- x[j] = e, x a list of one's own, j a written number -/
theorem rs_store (i : Nat) (hi : X.N[i]? = some x) (hv : Vis X.env.scope x) {j : Int} {k : Nat} {kk : Nat} {jp tp : Pos} {spos : Pos}
    (h : EvP X e ρ fun d ρ1 => ∃ ds y, ρ1[i]? = some (some (.ow ds)) ∧ d = .d y ∧ ixN ds.length j = some k ∧ P.nx (ρ1.set i (some (.ow (ds.set k y)))))
    (hd : (x == ("__debug__" : Str)) = false := by decide) (hcd : (x == ("__classdict__" : Str)) = false := by decide) (hs : swapsWithSole [.Subscript (.Name x px) (.Constant (.int j) kk jp) tp] e spos.line X.env = pure false := by rfl)
    (hw : swappedStores [.Subscript (.Name x px) (.Constant (.int j) kk jp) tp] e X.env = pure none := by rfl) : RunS X (.Assign [.Subscript (.Name x px) (.Constant (.int j) kk jp) tp] e spos) ρ P := fun H0 M O S σ H E D a b c d => by
  refine ⟨_, ps_asg pe_w (pg_sub (pe_var hi hv hd hcd) pe_int set_list) hs hw, h H0 M O S σ H E _ fun w H1 dd ρ1 ⟨ds, y, hr, ed, hj, q⟩ E1 r => ?_⟩
  subst ed
  obtain ⟨v1, z1, p, vs, z2, z3, z4, z5⟩ := E1.ent i _ hr
  subst z2
  exact ⟨.ref p, z1, p, vs, j, k, rfl, rfl, z4, by rw [dpa_length z5]; exact hj, a O σ _ _ q (E1.write_ow hr z1 z3 (dpa_set r k z5))⟩

/-! ### several targets -/
def setDs : List Nat → List Dt → DEnv → DEnv
  | i :: is, d :: ds, ρ => setDs is ds (ρ.set i (some (.im d)))
  | _, _, ρ => ρ
theorem gSlots_ds {K : PySem.W.Frag} {H0 H : Hp} {M O S : List Addr} : ∀ {is : List Nat} {ds : List Dt} {ws : List V} {ρ : DEnv} {σ : L2.St}, is.length = ds.length → EnvOk K H0 M O S ρ σ H → DtAll K (off (O ++ M) H) ws ds → ∀ R : L2.St → Hp → Prop,
    (∀ σ', EnvOk K H0 M O S (setDs is ds ρ) σ' H → R σ' H) → gSlots is ws σ H R
  | [], [], _, _, _, _, E, .nil, R, k => ⟨rfl, k _ E⟩
  | i :: is, d :: ds, _, ρ, σ, hl, E, .cons (v := w) (vs := ws) r rr, R, k => ⟨w, ws, rfl, gSlots_ds (Nat.succ.inj hl) (E.set_im r) rr R k⟩
  | [], _ :: _, _, _, _, hl, _, _, _, _ => nomatch hl
  | _ :: _, [], _, _, _, hl, _, _, _, _ => nomatch hl
/-- a, b, .. = (e, f, ..), the tuple made and undone -/
theorem rs_tup {es : List Expr} {tg : Expr} {is : List Nat} {x1} {tpos spos : Pos} (hg : PG X tg (gT X.K (.tup is))) (h : EvA X es ρ fun ds ρ' => ds.length = is.length ∧ ds.length ≤ sizeLine ∧ P.nx (setDs is ds ρ'))
    (hs : swapsWithSole [tg] (.Tuple es x1 tpos) spos.line X.env = pure false := by rfl) (hw : swappedStores [tg] (.Tuple es x1 tpos) X.env = pure none := by rfl) (h1 : (assignEach [tg] X.env).map (·.2) = [assign tg X.env] := by rfl) : RunS X (.Assign [tg] (.Tuple es x1 tpos) spos) ρ P := fun H0 M O S σ H E D a b c d =>
  ⟨_, ps_asg (pe_tup pa_w) hg hs hw h1, h H0 M O S σ H E _ fun vs H1 ds ρ1 ⟨hl, hz, q⟩ E1 r => by
    refine ⟨by rw [r.length]; exact hz, fun p hp => ?_⟩
    obtain ⟨E2, _, np⟩ := E1.fresh hp (.tup vs)
    refine ⟨p, vs, rfl, SqT.of upd_same, by rw [r.length]; exact hl, gSlots_ds hl.symm E2 (dtAll_mono (off_mono (Ex.new hp)) r) _ fun σ' E3 => a O σ' _ _ q E3⟩⟩
/-- a, b = e, e a tuple -/
theorem rs_unp {tg : Expr} {is : List Nat} {spos : Pos} (hg : PG X tg (gT X.K (.tup is))) (h : EvP X e ρ fun d ρ' => ∃ y ρ2, d = .d y ∧ setT (.tup is) y ρ' = some ρ2 ∧ P.nx ρ2)
    (hs : swapsWithSole [tg] e spos.line X.env = pure false := by rfl) (hw : swappedStores [tg] e X.env = pure none := by rfl) (h1 : (assignEach [tg] X.env).map (·.2) = [assign tg X.env] := by rfl) : RunS X (.Assign [tg] e spos) ρ P := fun H0 M O S σ H E D a b c d =>
  ⟨_, ps_asg pe_w hg hs hw h1, h H0 M O S σ H E _ fun v H1 dd ρ1 ⟨y, ρ2, ed, hset, q⟩ E1 r => by
    subst ed
    exact tgt_ok E1 r hset _ fun σ' E2 _ => a O σ' H1 ρ2 q E2⟩
/-- a, b = e, f with plain local names -/
theorem rs_par {i j : Nat} {y : Str} {a b : Expr} {py pt : Pos} {kt k2 pt2} (hc : X.calm = true) (hN : X.N.Nodup) (hi : X.N[i]? = some x) (hj : X.N[j]? = some y) (hij : i ≠ j)
    (hx : X.env.scope.names.lookup x = some .local) (hy : X.env.scope.names.lookup y = some .local) (h : EvA X [a, b] ρ fun ds ρ' => ∃ d1 d2, ds = [d1, d2] ∧ P.nx ((ρ'.set i (some (.im d1))).set j (some (.im d2))))
    (hw : swappedStores [.Tuple [.Name x px, .Name y py] kt pt] (.Tuple [a, b] k2 pt2) X.env = pure (some [x, y]) := by rfl)
    (hs : swapsWithSole [.Tuple [.Name x px, .Name y py] kt pt] (.Tuple [a, b] k2 pt2) pos.line X.env = pure false := by rfl) :
    RunS X (.Assign [.Tuple [.Name x px, .Name y py] kt pt] (.Tuple [a, b] k2 pt2) pos) ρ P := fun H0 M O S σ H E D a b c d =>
  ⟨_, ps_par hc hN hi hj hij hx hy pa_w hw hs, h H0 M O S σ H E _ fun vs H1 ds ρ1 ⟨d1, d2, ed, q⟩ E1 r => by
    subst ed
    cases r with
    | cons r1 rr =>
      cases rr with
      | cons r2 rr =>
        cases rr
        exact ⟨_, _, rfl, a O _ H1 _ q ((E1.set_im r1).set_im r2)⟩⟩

/-! ### promises -/
/-- what a def does, said by data: from the arguments, what holds of every result -/
abbrev Tr := List Dt → (Dt → Prop) → Prop
def spP (K : PySem.W.Frag) (T : Tr) : Sp := fun vs H Q _ => ∃ (M : List Addr) (ds : List Dt) (Z : Dt → Prop), (∀ a ∈ M, H a ≠ none) ∧ DtAll K (off M H) vs ds ∧ T ds Z ∧ ∀ v H' d, Z d → Ex H H' → DtR K (off M H') v d → Q v H'
/-- .. whose first argument is the source, that changes -/
abbrev TrS := Int → Int → List Dt → (Dt → Int → Int → Prop) → Prop
def spS (K : PySem.W.Frag) (T : TrS) : Sp := fun vs H Q _ => ∃ (M : List Addr) (a : Addr) (n s : Int) (ws : List V) (ds : List Dt) (Z : Dt → Int → Int → Prop), vs = .ref a :: ws ∧ a ∈ M ∧ (∀ a ∈ M, H a ≠ none) ∧ H a = some (.lst [.int n, .int s]) ∧ DtAll K (off M H) ws ds ∧ T n s ds Z ∧
  ∀ v H' d n' s', Z d n' s' → Ex (off [a] H) H' → H' a = some (.lst [.int n', .int s']) → DtR K (off M H') v d → Q v H'
/-- a def of the program that keeps a promise -/
structure Own (P : Program) (w : World) (K : PySem.W.Frag) (mg : Str → Option Value) (base : Heap) (k : Nat) (x : Str) (sp : Sp) : Prop where
  ex : ∃ (f : Addr) (fd : FuncData) (ps : List Str), FnOk P w K mg base CX0 k f fd ps sp ∧ mg x = some (.ref f) ∧ PySem.W.keepIn K (.ref f) = true ∧ Binds K fd ps []
abbrev OwnX (X : Cx) (k : Nat) (x : Str) (sp : Sp) : Prop := Own X.prog X.w X.K X.mg X.base k x sp
variable {k : Nat} {es : List Expr} {p : Pos}
theorem ev_call {T : Tr} {Q : Dt → DEnv → Prop} (F : OwnX X k x (spP X.K T)) (hr : Room k X.A) (hg : Gl X x) (h : EvA X (e :: es) ρ fun ds ρ' => T ds fun d => Q d ρ')
    (hdb : (x == ("__debug__" : Str)) = false := by decide) (he : starEach (e :: es) X.env = (false, eval e X.env) :: starEach es X.env := by rfl) (hpl : (backTo pos (starEach es X.env)).any (·.1) = false := by rfl) : EvP X (.Call (.Name x p) (e :: es) [] pos) ρ Q := by
  obtain ⟨f, fd, ps, F, hm, hk, hb⟩ := F.ex
  exact fun H0 M O S σ H E R kk => ⟨_, pe_call (dvs := []) F hr hg hm hk hb .nil pass0 pa_w hdb he hpl, h H0 M O S σ H E _ fun vs H1 ds ρ1 t E1 r => by
    rw [List.append_nil]
    exact ⟨O ++ M, ds, _, E1.dom, r, t, fun v H' d q y z => kk v H' d ρ1 q (E1.grow y) z⟩⟩
/-- the caller's slots: where the source is -/
theorem EnvOk.src_after {K : PySem.W.Frag} {H0 H H' : Hp} {M O S : List Addr} {σ : L2.St} {i : Nat} {a : Addr} {n s n' s' : Int} (E : EnvOk K H0 M O S ρ σ H) (hr : ρ[i]? = some (some (.src n s))) (hs : σ[i]? = some (some (.ref a))) (hS : S = [a]) (one : ∀ j n s, ρ[j]? = some (some (.src n s)) → j = i)
    (x : Ex (off [a] H) H') (ha : H' a = some (.lst [.int n', .int s'])) : EnvOk K H0 M O S (ρ.set i (some (.src n' s'))) σ H' := by
  subst hS
  have aM : a ∈ M := E.sub a (by simp)
  have aO : a ∉ O := fun z => E.apart a z aM
  have a0 : H0 a = none := E.h0 a (by simp)
  have keep : ∀ b o, b ≠ a → H b = some o → H' b = some o := fun b o hb q => x b o (by rw [off_out (by simpa using hb)]; exact q)
  have key : Ex (off (O ++ M) H) (off (O ++ M) H') := fun b u h => by
    obtain ⟨h1, h2⟩ := of_off h
    rw [off_out h1]
    exact keep b u (fun z => h1 (List.mem_append_right _ (z ▸ aM))) h2
  refine ⟨fun b u h => ?_, E.h0, fun b hb => ?_, E.sub, E.apart, by rw [List.length_set]; exact E.len, fun j e h => ?_, fun j k fs gs h1 h2 h3 => ?_⟩
  · exact keep b u (fun z => by rw [z, a0] at h; cases h) (E.ex b u h)
  · by_cases z : b = a
    · rw [z, ha]
      exact fun q => nomatch q
    · cases q : H b with
      | none => exact absurd q (E.dom b hb)
      | some u =>
        rw [keep b u z q]
        exact fun q => nomatch q
  · rcases set_get h with ⟨h1, h2⟩ | ⟨h1, h2⟩
    · subst h1
      cases h2
      exact ⟨.ref a, hs, a, rfl, rfl, ha⟩
    · obtain ⟨v, q1, q2⟩ := E.ent j e h2
      refine ⟨v, q1, ?_⟩
      cases e with
      | im d => exact dt_mono key q2
      | ow fs =>
        obtain ⟨b, us, y1, y2, y3, y4⟩ := q2
        exact ⟨b, us, y1, y2, keep b _ (fun z => aO (z ▸ y2)) y3, dpAll_mono key y4⟩
      | src m t => exact absurd (one j m t h2) (Ne.symm h1)
      | slf C fs =>
        obtain ⟨b, dx, us, y1, y2, y3, y4⟩ := q2
        cases y2
  · rcases set_get h1 with ⟨_, q⟩ | ⟨q1, q2⟩
    · cases q
    · rcases set_get h2 with ⟨_, q⟩ | ⟨q3, q4⟩
      · cases q
      · exact E.dist j k fs gs q2 q4 h3
def srcAt (i : Nat) (ρ : DEnv) : Bool := (List.range ρ.length).all fun j => match ρ[j]? with
  | some (some (.src _ _)) => j == i
  | _ => true
theorem srcAt_one {i : Nat} {ρ : DEnv} (h : srcAt i ρ = true) : ∀ j n s, ρ[j]? = some (some (.src n s)) → j = i := fun j n s hj => by
  have hl := (List.getElem?_eq_some_iff.mp hj).1
  have := List.all_eq_true.mp h j (List.mem_range.mpr hl)
  rw [hj] at this
  simpa using this
/-- f(source, e, ..) -/
theorem ev_callS {T : TrS} {Q : Dt → DEnv → Prop} {x0 : Str} {p0 : Pos} (i : Nat) (F : OwnX X k x (spS X.K T)) (hr : Room k X.A) (hg : Gl X x) (hi : X.N[i]? = some x0) (hv : Vis X.env.scope x0)
    (h : EvA X es ρ fun ds ρ' => ∃ n s, ρ'[i]? = some (some (.src n s)) ∧ srcAt i ρ' = true ∧ T n s ds fun d n' s' => Q d (ρ'.set i (some (.src n' s'))))
    (hd : (x0 == ("__debug__" : Str)) = false := by decide) (hcd : (x0 == ("__classdict__" : Str)) = false := by decide)
    (hdb : (x == ("__debug__" : Str)) = false := by decide) (he : starEach (.Name x0 p0 :: es) X.env = (false, eval (.Name x0 p0) X.env) :: starEach es X.env := by rfl) (hpl : (backTo pos (starEach es X.env)).any (·.1) = false := by rfl) (ho : ∃ n s, ρ[i]? = some (some (.src n s)) := by exact ⟨_, _, rfl⟩) :
    EvP X (.Call (.Name x p) (.Name x0 p0 :: es) [] pos) ρ Q := by
  obtain ⟨f, fd, ps, F, hm, hk, hb⟩ := F.ex
  intro H0 M O S σ H E R kk
  refine ⟨_, pe_call (dvs := []) F hr hg hm hk hb .nil pass0 (pa_cons (pe_var hi hv hd hcd) pa_w he) hdb he hpl, ?_⟩
  obtain ⟨n0, s0, hr0⟩ := ho
  obtain ⟨v0, q1, a, q2, q3, q4⟩ := E.ent i _ hr0
  subst q2
  refine ⟨.ref a, q1, h H0 M O S σ H E _ fun vs H1 ds ρ1 ⟨n, s, hr1, one, t⟩ E1 r => ?_⟩
  obtain ⟨v1, z1, a1, z2, z3, z4⟩ := E1.ent i _ hr1
  rw [q1] at z1
  cases z1
  cases z2
  refine ⟨O ++ M, a, n, s, vs, ds, _, by rw [List.append_nil], List.mem_append_right _ (E1.sub a (by rw [z3]; simp)), E1.dom, z4, r, t, fun v H' d n' s' q y ha z => ?_⟩
  exact kk v H' d _ q (E1.src_after hr1 q1 z3 (srcAt_one one) y ha) z

/-! ### defs -/
def entry (N : List Str) (ds : List Dt) : DEnv := ds.map (fun d => some (.im d)) ++ List.replicate (N.length - ds.length) none
theorem entry_get {N : List Str} {ds : List Dt} {i : Nat} {e : Ent} (h : (entry N ds)[i]? = some (some e)) : ∃ d, ds[i]? = some d ∧ e = .im d := by
  unfold entry at h
  by_cases hi : i < ds.length
  · rw [List.getElem?_append_left (by simpa using hi), List.getElem?_map] at h
    obtain ⟨d, h1, h2⟩ := Option.map_eq_some_iff.mp h
    exact ⟨d, h1, (Option.some.inj h2).symm⟩
  · rw [List.getElem?_append_right (by simpa using Nat.le_of_not_lt hi), List.getElem?_replicate] at h
    split at h
    · cases h
    · cases h
theorem dtAll_get {K : PySem.W.Frag} {H : Hp} : ∀ {vs : List V} {ds : List Dt} {i : Nat} {d : Dt}, DtAll K H vs ds → ds[i]? = some d → ∃ v, vs[i]? = some v ∧ DtR K H v d
  | _, _, _, _, .nil, e => by simp at e
  | _, _, 0, _, .cons h _, e => by simp at e; subst e; exact ⟨_, rfl, h⟩
  | _, _, i + 1, d, .cons _ q, e => by
    obtain ⟨v, h1, h2⟩ := dtAll_get (i := i) (d := d) q (by simpa using e)
    exact ⟨v, by simpa using h1, h2⟩
theorem start_get {N : List Str} {vs : List V} {i : Nat} {v : V} (h : vs[i]? = some v) : (L2.start N vs)[i]? = some (some v) := by
  unfold L2.start
  have hi := (List.getElem?_eq_some_iff.mp h).1
  rw [List.getElem?_append_left (by simpa using hi), List.getElem?_map, h]
  rfl
theorem start_length {N : List Str} {vs : List V} (h : vs.length ≤ N.length) : (L2.start N vs).length = N.length := by
  unfold L2.start
  rw [List.length_append, List.length_map, List.length_replicate]
  omega
theorem entry_ok {K : PySem.W.Frag} {H : Hp} {M : List Addr} {N : List Str} {vs : List V} {ds : List Dt} (dom : ∀ a ∈ M, H a ≠ none) (r : DtAll K (off M H) vs ds) : EnvOk K H M [] [] (entry N ds) (L2.start N vs) H := by
  refine ⟨Ex.refl H, fun a ha => absurd ha (by simp), fun a ha => dom a (by simpa using ha), fun a ha => absurd ha (by simp), fun a ha => absurd ha (by simp), ?_, fun i e h => ?_, fun i j fs gs h1 => ?_⟩
  · unfold entry L2.start
    simp only [List.length_append, List.length_map, List.length_replicate, r.length]
  · obtain ⟨d, h1, h2⟩ := entry_get h
    subst h2
    obtain ⟨v, q1, q2⟩ := dtAll_get r h1
    exact ⟨v, start_get q1, q2⟩
  · obtain ⟨d, _, h2⟩ := entry_get h1
    cases h2
abbrev fX (P : Program) (w : World) (K : PySem.W.Frag) (mg : Str → Option Value) (base : Heap) (N : List Str) (qual : Str) (st : Stmt) (f : Addr) (cdv : Value) (A : Around) (outer : List Env) (s : Shared) (H : Hp) (E : XK) : Cx :=
  (cxOf CX0 P w K mg base N qual (defScope st) f cdv A outer s H E).nox
/-- a def of values -/
theorem def_pure {P : Program} {w : World} {K : PySem.W.Frag} {mg : Str → Option Value} {base : Heap} {x qual : Str} {st : Stmt} {f : Addr} {fd : FuncData} {N ps : List Str} {k : Nat} {T : Tr} (F : Fun K x qual st f fd) (Sc : FnScope N ps (defScope st)) (hm : mg x = some (.ref f)) (hb : Binds K fd ps []) (hl : ∀ ds Z, T ds Z → ds.length = ps.length)
    (body : ∀ (cdv : Value) (A : Around) (outer : List Env) (s : Shared) (H : Hp) (E : XK), Room k (A.deeper (envOfC qual (defScope st) s.heap.objs.size f cdv)) → ∀ ds Z, T ds Z → RunP (fX P w K mg base N qual st f cdv A outer s H E) (defBody st) (entry N ds) { nx := fun _ => Z dN, rt := fun d _ => Z d }) :
    Own P w K mg base (k + 1) x (spP K T) := by
  refine ⟨f, fd, ps, F.ok Sc (fun vs H Q E ⟨M, ds, Z, _, r, t, _⟩ => by rw [r.length]; exact hl ds Z t) fun cdv A outer s H vs Q E hr ⟨M, ds, Z, dom, r, t, kk⟩ => ?_, hm, F.kp, hb⟩
  exact body cdv A outer s H E hr ds Z t H M [] [] (L2.start N vs) H (entry_ok dom r) _ (fun O' σ' H' ρ' z E' => kk .non H' dN z E'.ex (show Dp _ _ _ _ from .non)) (fun v O' σ' H' d ρ' z E' rd => kk v H' d z E'.ex rd) (fun _ _ _ _ z => z.elim) (fun _ _ _ _ z => z.elim)
/-- a def that draws -/
theorem def_src {P : Program} {w : World} {K : PySem.W.Frag} {mg : Str → Option Value} {base : Heap} {x qual : Str} {st : Stmt} {f : Addr} {fd : FuncData} {N ps : List Str} {k : Nat} {T : TrS} (F : Fun K x qual st f fd) (Sc : FnScope N ps (defScope st)) (hm : mg x = some (.ref f)) (hb : Binds K fd ps []) (hl : ∀ n s ds Z, T n s ds Z → ds.length + 1 = ps.length)
    (body : ∀ (cdv : Value) (A : Around) (outer : List Env) (s : Shared) (H : Hp) (E : XK), Room k (A.deeper (envOfC qual (defScope st) s.heap.objs.size f cdv)) → ∀ n t ds Z, T n t ds Z →
      RunP (fX P w K mg base N qual st f cdv A outer s H E) (defBody st) (some (.src n t) :: (entry N ds).take (N.length - 1)) { nx := fun _ => False, rt := fun d ρ' => ∃ n' t', ρ'[0]? = some (some (.src n' t')) ∧ Z d n' t' }) :
    Own P w K mg base (k + 1) x (spS K T) := by
  refine ⟨f, fd, ps, F.ok Sc (fun vs H Q E ⟨M, a, n, s, ws, ds, Z, ev, _, _, _, r, t, _⟩ => by rw [ev, List.length_cons, r.length]; exact hl n s ds Z t) fun cdv A outer s H vs Q E hr ⟨M, a, n, t, ws, ds, Z, ev, aM, dom, ha, r, ht, kk⟩ => ?_, hm, F.kp, hb⟩
  subst ev
  have hpl : ps.length ≤ N.length := by have := congrArg List.length Sc.pre; rw [List.length_take] at this; omega
  have hlen := hl n t ds Z ht
  have E0 : EnvOk K (off [a] H) M [] [a] (some (.src n t) :: (entry N ds).take (N.length - 1)) (L2.start N (.ref a :: ws)) H := by
    refine ⟨off_ex, fun b hb => off_in (by simpa using hb), fun b hb => dom b (by simpa using hb), fun b hb => by rw [List.mem_singleton.mp hb]; exact aM, fun b hb => absurd hb (by simp), ?_, fun i e h => ?_, fun i j fs gs h1 => ?_⟩
    · unfold entry L2.start
      have := r.length
      simp only [List.length_append, List.length_map, List.length_replicate, List.length_cons, List.length_take]
      omega
    · cases i with
      | zero =>
        have h : some (some (Ent.src n t)) = some (some e) := h
        cases h
        exact ⟨.ref a, start_get rfl, a, rfl, rfl, ha⟩
      | succ i =>
        rw [List.getElem?_cons_succ, List.getElem?_take] at h
        split at h
        · obtain ⟨d, h1, h2⟩ := entry_get h
          subst h2
          obtain ⟨v, q1, q2⟩ := dtAll_get r h1
          exact ⟨v, start_get (by rw [List.getElem?_cons_succ]; exact q1), q2⟩
        · cases h
    · cases i with
      | zero => cases h1
      | succ i =>
        rw [List.getElem?_cons_succ, List.getElem?_take] at h1
        split at h1
        · obtain ⟨d, _, h2⟩ := entry_get h1
          cases h2
        · cases h1
  refine body cdv A outer s H E hr n t ds Z ht _ M [] [a] _ H E0 _ (fun _ _ _ _ z => z.elim) (fun v O' σ' H' d ρ' ⟨n', t', hr', z⟩ E' rd => ?_) (fun _ _ _ _ z => z.elim) (fun _ _ _ _ z => z.elim)
  obtain ⟨v0, _, a', _, e2, e3⟩ := E'.ent 0 _ hr'
  cases e2
  exact kk v H' d n' t' z E'.ex e3 rd
end
end DL
namespace DL
open PySem PySem.Spec PyProof.Rows L2 Evl
section
variable {X : Cx} {ρ : DEnv} {Q : Dt → DEnv → Prop}
/-- the name in slot i -/
theorem ev_v (i : Nat) {x : Str} {pos : Pos} {d : Dt} (he : ρ[i]? = some (some (.im d))) (q : Q d ρ) (hN : X.N[i]? = some x := by rfl) (hv : Vis X.env.scope x := by first | exact Or.inl rfl | exact Or.inr (Or.inl rfl) | exact Or.inr (Or.inr rfl))
    (hd : (x == ("__debug__" : Str)) = false := by decide) (hcd : (x == ("__classdict__" : Str)) = false := by decide) : EvP X (.Name x pos) ρ Q := ev_var hN hv he q hd hcd
theorem eq_o (i : Nat) {x : Str} {pos : Pos} {ds : List PyData} {Z : Bool → List PyData → DEnv → Prop} (he : ρ[i]? = some (some (.ow ds))) (q : Z false ds ρ) (hN : X.N[i]? = some x := by rfl) (hv : Vis X.env.scope x := by first | exact Or.inl rfl | exact Or.inr (Or.inl rfl) | exact Or.inr (Or.inr rfl))
    (hd : (x == ("__debug__" : Str)) = false := by decide) (hcd : (x == ("__classdict__" : Str)) = false := by decide) : EvQ X (.Name x pos) ρ Z := eq_own hN hv he q hd hcd
variable {elt iter tg : Expr} {ifs : List Expr} {scope : Scope} {pos px : Pos} {N : List PyData → DEnv → Prop}
/-- [elt for x in iter if ..], x in slot i -/
theorem en_lc1 (i : Nat) {x : Str} {M : List Str} {sc : Scope} (nd : X.N.Nodup) (eN : X.N = M) (es : X.env.scope = sc) (hb : blkC M sc scope [(x, i)] = true) (h : LcH X scope (.one i) (.Name x px) elt ifs iter ρ N) (hc : X.calm = true := by rfl)
    (hg : ∀ s H C cl fp, PG (blkX X scope s H C cl fp) (.Name x px) (gName i)) (hs : ∀ x, foldedSetIterable iter X.env x = pure x := by intro _; rfl) : EvN X (.ListComp elt [⟨.Name x px, iter, ifs, 0⟩] scope pos) ρ N :=
  en_lc (own := [(x, i)]) (.one i) hc nd rfl (by rw [eN, es]; exact blkOk_by hb) hg h hs
end
end DL
end
section
set_option Elab.async false
set_option linter.all false
set_option maxRecDepth 100000
set_option maxHeartbeats 4000000
/-! The data logic: pure comprehensions, + and * of sequences, chains, isinstance. -/
namespace DL
open PySem PySem.Spec PyProof.Rows L2 Evl

/-! ### pure comprehensions -/
theorem wipeE_set {i : Nat} {v : Option Ent} : ∀ {vs : List Nat} {ρ : DEnv}, i ∈ vs → wipeE (ρ.set i v) vs = wipeE ρ vs
  | [], _, h => nomatch h
  | u :: us, ρ, h => by
    unfold wipeE
    by_cases e : i ∈ us
    · rw [wipeE_set e]
    · have : i = u := by
        rcases List.mem_cons.mp h with z | z
        · exact z
        · exact absurd z e
      subst this
      have q : ∀ (us : List Nat) (ρ : DEnv), i ∉ us → wipeE (ρ.set i v) us = (wipeE ρ us).set i v := by
        intro us
        induction us with
        | nil => intro ρ _; rfl
        | cons w ws ih =>
          intro ρ hn
          unfold wipeE
          have h1 : i ≠ w := fun z => hn (by rw [z]; exact List.mem_cons_self)
          rw [ih ρ fun z => hn (List.mem_cons_of_mem _ z), List.set_comm _ _ h1]
      rw [q us ρ e, List.set_set]
theorem wipeE_wipe {vs : List Nat} : ∀ {us : List Nat} {ρ : DEnv}, (∀ i ∈ us, i ∈ vs) → wipeE (wipeE ρ us) vs = wipeE ρ vs
  | [], _, _ => rfl
  | u :: us, ρ, h => by
    rw [show wipeE ρ (u :: us) = (wipeE ρ us).set u none from rfl, wipeE_set (h u List.mem_cons_self)]
    exact wipeE_wipe fun i hi => h i (List.mem_cons_of_mem _ hi)
theorem wipeE_setEs {vs : List Nat} : ∀ {is : List Nat} {xs : List PyData} {ρ ρ' : DEnv}, (∀ i ∈ is, i ∈ vs) → setEs is xs ρ = some ρ' → wipeE ρ' vs = wipeE ρ vs
  | [], [], ρ, ρ', _, e => by cases e; rfl
  | i :: is, x :: xs, ρ, ρ', h, e => by rw [wipeE_setEs (fun j hj => h j (List.mem_cons_of_mem _ hj)) (show setEs is xs (ρ.set i (some (.im (.d x)))) = some ρ' from e), wipeE_set (h i List.mem_cons_self)]
  | [], _ :: _, _, _, _, e => nomatch e
  | _ :: _, [], _, _, _, e => nomatch e
theorem wipeE_setT {t : Tgt} {x : PyData} {ρ ρ' : DEnv} (e : setT t x ρ = some ρ') : wipeE ρ' t.slots = wipeE ρ t.slots := by
  cases t with
  | one i =>
    cases e
    exact wipeE_set (by simp [Tgt.slots])
  | tup is =>
    cases x with
    | tuple xs => exact wipeE_setEs (fun i hi => hi) (show setEs is xs ρ = some ρ' from e)
    | _ => cases e
section
variable {X : Cx} {ρ : DEnv} {tg elt iter : Expr} {ifs : List Expr} {scope : Scope} {N : List PyData → DEnv → Prop} {t : Tgt}
/-- [g x for x in xs if f x] -/
theorem lch_mf (f : PyData → Bool) (g : PyData → PyData) (h : EvI X tg iter ρ fun xs ρ1 => xs.length ≤ sizeLine ∧ (∀ (i : Nat) (x : PyData), xs[i]? = some x → ∃ ρ2, setT t x (wipeE ρ1 t.slots) = some ρ2 ∧
      ∀ s H C cl fp, EvTs (blkX X scope s H C cl fp) ifs ρ2 fun b ρ3 => b = f x ∧ ρ3 = ρ2 ∧ (f x = true → ∀ s H C cl fp, EvP (blkX X scope s H C cl fp) elt ρ2 fun d ρ4 => d = .d (g x) ∧ ρ4 = ρ2)) ∧ N ((xs.filter f).map g) (wipeE ρ1 t.slots)) :
    LcH X scope t tg elt ifs iter ρ N := fun H0 M O S σ H E R k => h H0 M O S σ H E R fun J H1 xs ρ1 ⟨hl, turn, fin⟩ E1 wd => k J H1 xs ρ1 ⟨hl, fun i acc ρ' => ρ' = wipeE ρ1 t.slots ∧ acc = ((xs.take i).filter f).map g, ⟨rfl, rfl⟩, fun i acc x ρ' hx ⟨e1, e2⟩ => by
      subst e1 e2
      obtain ⟨ρ2, h2, ht⟩ := turn i x hx
      have hw := wipeE_setT h2
      rw [wipeE_wipe fun i hi => hi] at hw
      refine ⟨ρ2, h2, fun s Hb C cl fp H0 M O S σ H E R k => ht s Hb C cl fp H0 M O S σ H E R fun H' b ρ3 ⟨eb, er, he⟩ E' => k H' b ρ3 ⟨fun hb => ?_, fun hb => ?_⟩ E'⟩
      · subst er
        intro s H C cl fp
        refine (he (eb ▸ hb) s H C cl fp).imp fun d ρ4 ⟨ed, er4⟩ => ?_
        subst er4
        refine ⟨_, ed, hw, ?_⟩
        rw [List.take_add_one, hx]
        simp [List.filter_append, ← eb, hb]
      · subst er
        refine ⟨hw, ?_⟩
        rw [List.take_add_one, hx]
        simp [List.filter_append, ← eb, hb], fun acc ρ' ⟨e1, e2⟩ => by
      subst e1 e2
      rw [wipeE_wipe fun i hi => hi, List.take_length]
      exact fin⟩ E1 wd
/-- [g x for x in xs] -/
theorem lch_map (g : PyData → PyData) (h : EvI X tg iter ρ fun xs ρ1 => xs.length ≤ sizeLine ∧ (∀ (i : Nat) (x : PyData), xs[i]? = some x → ∃ ρ2, setT t x (wipeE ρ1 t.slots) = some ρ2 ∧
      ∀ s H C cl fp, EvP (blkX X scope s H C cl fp) elt ρ2 fun d ρ4 => d = .d (g x) ∧ ρ4 = ρ2) ∧ N (xs.map g) (wipeE ρ1 t.slots)) : LcH X scope t tg elt [] iter ρ N :=
  lch_mf (fun _ => true) g fun H0 M O S σ H E R k => h H0 M O S σ H E R fun J H1 xs ρ1 ⟨hl, turn, fin⟩ E1 wd => k J H1 xs ρ1 ⟨hl, fun i x hx => by
    obtain ⟨ρ2, h2, he⟩ := turn i x hx
    exact ⟨ρ2, h2, fun s H C cl fp => ets_nil ⟨rfl, rfl, fun _ => he⟩⟩, by
    rw [List.filter_eq_self.mpr fun _ _ => rfl]
    exact fin⟩ E1 wd
end

section
variable {X : Cx} {ρ : DEnv} {Q : Dt → DEnv → Prop} {N : List PyData → DEnv → Prop} {a b c e : Expr} {pos p : Pos}
/-! ### + and * of sequences -/
theorem ev_catT (h : EvP X a ρ fun d1 ρ1 => EvP X b ρ1 fun d2 ρ2 => ∃ xs ys, d1 = dT xs ∧ d2 = dT ys ∧ xs.length + ys.length ≤ sizeLine ∧ Q (dT (xs ++ ys)) ρ2) : EvP X (.BinOp a .Add b pos) ρ Q :=
  ev_op op_catA (h.imp fun d1 ρ1 h2 => h2.imp fun d2 ρ2 ⟨xs, ys, e1, e2, hl, q⟩ => by
    subst e1 e2
    intro L v1 v2 H hL r1 r2 R k
    cases r1 with
    | tup a1 a2 =>
      cases r2 with
      | tup b1 b2 =>
        rename_i a vs b ws
        have l1 := dpa_length a2
        have l2 := dpa_length b2
        refine ⟨a, b, vs, ws, rfl, rfl, ex_t off_ex a1, ex_t off_ex b1, by omega, fun z => ?_, fun _ z => ?_, fun _ _ p hp => ?_⟩
        · have : xs = [] := List.eq_nil_of_length_eq_zero (by rw [← l1, z]; rfl)
          subst this
          exact k _ H _ q (Ex.refl H) (.tup b1 b2)
        · have : ys = [] := List.eq_nil_of_length_eq_zero (by rw [← l2, z]; rfl)
          subst this
          rw [List.append_nil] at q
          exact k _ H _ q (Ex.refl H) (.tup a1 a2)
        · exact k _ _ _ q (Ex.new hp) (.tup (SqT.of (by rw [off_out fun z => hL p z hp, upd_same])) (dpAll_mono (off_mono (Ex.new hp)) (dpa_append a2 b2))))
/-- list + list, of any two that may be read -/
def rCatS (K : PySem.W.Frag) : R2 := fun x y H Q => ∃ l b xs zs, x = .ref l ∧ y = .ref b ∧ SqL K H l xs ∧ SqL K H b zs ∧ xs.length + zs.length ≤ sizeLine ∧ ∀ p, H p = none → Q (.ref p) (upd H p (.lst (xs ++ zs)))
theorem op_catS : OpR X (binaryOp .Add) (rCatS X.K) := by
  intro pins s σ H x y v u Q I rx ry h
  obtain ⟨l, b, xs, zs, rfl, rfl, h1, h2, hz, q⟩ := h
  cases rx
  cases ry
  obtain ⟨i1, r1, ⟨⟨c1, d1, t1, z1⟩, n1, o1, k1, m1, y1⟩, _⟩ := I.list h1
  obtain ⟨i2, r2, ⟨⟨c2, d2, t2, z2⟩, n2, o2, k2, m2, y2⟩, _⟩ := I.list h2
  simp only at k1 m1 y1 k2 m2 y2
  subst k1 m1 y1 k2 m2 y2
  have l1 := r1.length
  have l2 := r2.length
  refine concat_meets (s := s) ⟨_, o1, rfl⟩ ⟨_, o2, rfl⟩ noFill_list_add seq_list_add PySem.F.slot_list_add PySem.F.entry_list_add (PySem.F.args_list_add_2 _ _)
    (list_addW l b i1.toArray i2.toArray n1 n2 none none z1 z2 (by rw [List.size_toArray, List.size_toArray]; omega)) ⟨o1, o2, ?_⟩
  refine ⟨.ref _, upd H s.heap.objs.size (.lst (xs ++ zs)), I.laid (t' := s.toks) (fun _ _ e => Heap.get?_push_of_some _ e) (Nat.le_refl _) ⟨by rw [List.length_append]; exact hz, i1 ++ i2, 0, r1.append r2, ?_⟩, rfl, q _ (I.hok.fresh (Nat.le_refl _))⟩
  rw [Heap.get?_push_size _ rfl]
  simp
theorem en_cat (h : EvP X a ρ fun d1 ρ1 => EvP X b ρ1 fun d2 ρ2 => ∃ xs ys, d1 = dL xs ∧ d2 = dL ys ∧ xs.length + ys.length ≤ sizeLine ∧ N (xs ++ ys) ρ2) : EvN X (.BinOp a .Add b pos) ρ N := fun H0 M O S σ H E R k =>
  ⟨_, pe_op op_catS pe_w pe_w, ev_two (Z := fun d1 d2 ρ2 => ∃ xs ys, d1 = dL xs ∧ d2 = dL ys ∧ xs.length + ys.length ≤ sizeLine ∧ N (xs ++ ys) ρ2) h E fun v1 v2 H2 d1 d2 ρ2 ⟨xs, ys, e1, e2, hl, q⟩ E2 r1 r2 => by
    subst e1 e2
    cases r1 with
    | lst a1 a2 =>
      cases r2 with
      | lst b1 b2 =>
        refine ⟨_, _, _, _, rfl, rfl, ex_l off_ex a1, ex_l off_ex b1, by rw [dpa_length a2, dpa_length b2]; exact hl, fun p hp => ?_⟩
        obtain ⟨E3, E4, np⟩ := E2.fresh hp _
        exact k p _ _ _ ρ2 q np E3 E4 upd_same (dpAll_mono (off_new hp) (dpa_append a2 b2))⟩
theorem dpa_flat {K : PySem.W.Frag} {H : Hp} {vs : List V} {ds : List PyData} (r : DpAll K H vs ds) : ∀ n : Nat, DpAll K H (List.replicate n vs).flatten (List.replicate n ds).flatten
  | 0 => .nil
  | n + 1 => by
    rw [List.replicate_succ, List.replicate_succ, List.flatten_cons, List.flatten_cons]
    exact dpa_append r (dpa_flat r n)
/-- list * int, the list just made -/
theorem en_rep (h : EvN X a ρ fun xs ρ1 => EvP X b ρ1 fun d ρ2 => ∃ n : Int, d = dI n ∧ -(2 ^ 63) ≤ n ∧ n < 2 ^ 63 ∧ xs.length * n.toNat ≤ sizeLine ∧ N (List.replicate n.toNat xs).flatten ρ2) : EvN X (.BinOp a .Mult b pos) ρ N := fun H0 M O S σ H E R k =>
  ⟨_, pe_op op_rep pe_w pe_w, h H0 M O S σ H E _ fun p vs H1 xs ρ1 hb np E1 E1' hp r => by
    refine hb _ M O S σ H1 E1.re _ fun v2 H2 d ρ2 ⟨n, ed, n1, n2, hl, q⟩ E2 r2 => ?_
    subst ed
    cases r2
    have nS : p ∉ S ++ O := fun z => np (by
      rcases List.mem_append.mp z with z | z
      · exact List.mem_append_right _ (E1.sub p z)
      · exact List.mem_append_left _ z)
    have hp2 : H2 p = some (.lst vs) := E2.ex p _ (by rw [off_out nS]; exact hp)
    have r3 := dpAll_mono E2.stay (dpAll_mono (off_less fun a ha => List.mem_cons_of_mem p ha) r)
    have E3 := E1.back E2
    refine ⟨p, n, vs, rfl, rfl, hp2, n1, n2, by rw [dpa_length r3]; exact hl, fun z hz => ?_⟩
    obtain ⟨E4, E5, nz⟩ := E3.fresh hz _
    exact k z _ _ _ ρ2 q nz E4 E5 upd_same (dpAll_mono (off_new hz) (dpa_flat r3 _))⟩
/-! ### chains of comparisons -/
theorem ev_chain {op op' : CmpOp} {r r' : R2} (ho : OpR X (compareOp op) r) (ho' : OpR X (compareOp op') r')
    (h : EvP X a ρ fun d1 ρ1 => EvP X b ρ1 fun d2 ρ2 => Op2 X r d1 d2 fun d => ∃ z, d = dB z ∧ (z = true → EvP X c ρ2 fun d3 ρ3 => Op2 X r' d2 d3 fun d => Q d ρ3) ∧ (z = false → Q (dB false) ρ2))
    (hm : lastMarks [op, op'] [b, c] = false := by with_unfolding_all rfl) : EvP X (.Compare a [op, op'] [b, c] pos) ρ Q := fun H0 M O S σ H E R k => ⟨_, pe_chain ho ho' pe_w pe_w pe_w hm, by
  refine ev_two (Z := fun d1 d2 ρ2 => Op2 X r d1 d2 fun d => ∃ z, d = dB z ∧ (z = true → EvP X c ρ2 fun d3 ρ3 => Op2 X r' d2 d3 fun d => Q d ρ3) ∧ (z = false → Q (dB false) ρ2)) h E fun v1 v2 H2 d1 d2 ρ2 z E2 r1 r2 => ?_
  refine z (O ++ M) v1 v2 H2 E2.dom r1 r2 _ fun v H3 d ⟨zz, ed, q1, q2⟩ x rd => ?_
  subst ed
  cases rd
  refine ⟨zz, rfl, ?_⟩
  have E3 := E2.grow x
  have r2' := dt_mono (off_mono x) r2
  cases zz with
  | false => exact iteF (k _ H3 _ ρ2 (q2 rfl) E3 dt_bl)
  | true =>
    refine iteT ?_
    refine q1 rfl _ M O S σ H3 E3.re _ fun v3 H4 d3 ρ3 z3 E4 r3 => ?_
    have E5 := E3.back E4
    exact z3 (O ++ M) v2 v3 H4 E5.dom (dt_mono E4.stay r2') r3 R fun v H5 d q x5 rd => k v H5 d ρ3 q (E5.grow x5) rd⟩
theorem et_of_ev {T : Bool → DEnv → Prop} {op op' : CmpOp} {r r' : R2} (ho : OpR X (compareOp op) r) (ho' : OpR X (compareOp op') r')
    (h : EvP X a ρ fun d1 ρ1 => EvP X b ρ1 fun d2 ρ2 => Op2 X r d1 d2 fun d => ∃ z, d = dB z ∧ (z = true → EvP X c ρ2 fun d3 ρ3 => Op2 X r' d2 d3 fun d => ∃ u, d = dB u ∧ T u ρ3) ∧ (z = false → T false ρ2))
    (hm : lastMarks [op, op'] [b, c] = false := by with_unfolding_all rfl) : EvT X (.Compare a [op, op'] [b, c] pos) ρ T := fun H0 M O S σ H E R k => ⟨_, pt_chain ho ho' pe_w pe_w pe_w hm, by
  refine ev_two (Z := fun d1 d2 ρ2 => Op2 X r d1 d2 fun d => ∃ z, d = dB z ∧ (z = true → EvP X c ρ2 fun d3 ρ3 => Op2 X r' d2 d3 fun d => ∃ u, d = dB u ∧ T u ρ3) ∧ (z = false → T false ρ2)) h E fun v1 v2 H2 d1 d2 ρ2 z E2 r1 r2 => ?_
  refine z (O ++ M) v1 v2 H2 E2.dom r1 r2 _ fun v H3 d ⟨zz, ed, q1, q2⟩ x rd => ?_
  subst ed
  cases rd
  refine ⟨zz, rfl, ?_⟩
  have E3 := E2.grow x
  have r2' := dt_mono (off_mono x) r2
  cases zz with
  | false => exact iteF ⟨false, rfl, k H3 _ ρ2 (q2 rfl) E3⟩
  | true =>
    refine iteT ?_
    refine q1 rfl _ M O S σ H3 E3.re _ fun v3 H4 d3 ρ3 z3 E4 r3 => ?_
    have E5 := E3.back E4
    exact z3 (O ++ M) v2 v3 H4 E5.dom (dt_mono E4.stay r2') r3 _ fun v H5 d ⟨u, eu, q⟩ x5 rd => by
      subst eu
      cases rd
      exact ⟨u, rfl, k H5 u ρ3 q (E5.grow x5)⟩⟩
/-- low <= x <= high, ints -/
theorem ev_chainI {op op' : CmpOp} {f g : Int → Int → Bool} (hf : cmpI op = some f) (hg : cmpI op' = some g)
    (h : EvP X a ρ fun d1 ρ1 => EvP X b ρ1 fun d2 ρ2 => ∃ i j, d1 = dI i ∧ d2 = dI j ∧ (f i j = true → EvP X c ρ2 fun d3 ρ3 => ∃ l, d3 = dI l ∧ Q (dB (g j l)) ρ3) ∧ (f i j = false → Q (dB false) ρ2))
    (hm : lastMarks [op, op'] [b, c] = false := by with_unfolding_all rfl) : EvP X (.Compare a [op, op'] [b, c] pos) ρ Q :=
  ev_chain (op_cmpI hf) (op_cmpI hg) (h.imp fun d1 ρ1 h2 => h2.imp fun d2 ρ2 ⟨i, j, e1, e2, q1, q2⟩ => by
    subst e1 e2
    exact op2_0 (fun _ => dt_bl) ⟨_, rfl, fun z => (q1 z).imp fun d3 ρ3 ⟨l, e3, q⟩ => by subst e3; exact op2_0 (fun _ => dt_bl) q, q2⟩) hm
theorem et_chainI {T : Bool → DEnv → Prop} {op op' : CmpOp} {f g : Int → Int → Bool} (hf : cmpI op = some f) (hg : cmpI op' = some g)
    (h : EvP X a ρ fun d1 ρ1 => EvP X b ρ1 fun d2 ρ2 => ∃ i j, d1 = dI i ∧ d2 = dI j ∧ (f i j = true → EvP X c ρ2 fun d3 ρ3 => ∃ l, d3 = dI l ∧ T (g j l) ρ3) ∧ (f i j = false → T false ρ2))
    (hm : lastMarks [op, op'] [b, c] = false := by with_unfolding_all rfl) : EvT X (.Compare a [op, op'] [b, c] pos) ρ T :=
  et_of_ev (op_cmpI hf) (op_cmpI hg) (h.imp fun d1 ρ1 h2 => h2.imp fun d2 ρ2 ⟨i, j, e1, e2, q1, q2⟩ => by
    subst e1 e2
    exact op2_0 (fun _ => dt_bl) ⟨_, rfl, fun z => (q1 z).imp fun d3 ρ3 ⟨l, e3, q⟩ => by subst e3; exact op2_0 (fun _ => dt_bl) ⟨_, rfl, q⟩, q2⟩) hm

/-! ### isinstance -/
def tyD : PyData → String
  | .none => "NoneType"
  | .bool _ => "bool"
  | .int _ => "int"
  | .str _ => "str"
  | .list _ => "list"
  | .tuple _ => "tuple"
  | .dict _ => "dict"
theorem tyX_of {K : PySem.W.Frag} {H : Hp} {v : V} {d : PyData} (r : Dp K H v d) : TyX K H v (.type (tyD d)) := by
  cases r with
  | non => exact .base .non
  | bl b => exact .base (.bl b)
  | int i => exact .base (.int i)
  | str x => exact .base (.str x)
  | lst h _ =>
    rcases h with (h | ⟨o, h⟩) | ⟨o, its, n, h1, h2, _⟩
    · exact .base (.lst h)
    · exact .base (.frz h)
    · exact .kList h1 h2
  | tup h _ =>
    rcases h with (h | ⟨o, h⟩) | ⟨o, its, n, h1, h2, _⟩
    · exact .base (.tup h)
    · exact .fTuple h
    · exact .kTuple h1 h2
def isS (t T : String) : Bool := t == T || (T == "int" && t == "bool")
/-- is d of the type T (int, bool, list, tuple, str) -/
def isD (d : PyData) (T : String) : Bool := isS (tyD d) T
theorem kit_all : (["NoneType", "bool", "int", "str", "list", "tuple", "dict"].all fun t => ["int", "bool", "list", "tuple", "str"].all fun T => decide (kitB t T = some (isS t T))) = true := by decide +kernel
theorem tyD_mem (d : PyData) : tyD d ∈ ["NoneType", "bool", "int", "str", "list", "tuple", "dict"] := by cases d <;> simp [tyD]
theorem kit_d (d : PyData) (T : String) (hT : T = "int" ∨ T = "bool" ∨ T = "list" ∨ T = "tuple" ∨ T = "str") : kitB (tyD d) T = some (isD d T) := by
  have h1 := List.all_eq_true.mp kit_all _ (tyD_mem d)
  have h2 := List.all_eq_true.mp h1 T (by rcases hT with h | h | h | h | h <;> subst h <;> simp)
  exact of_decide_eq_true h2
theorem ev_isi {T : String} {y : Str} {py : Pos} (hT : T = "int" ∨ T = "bool" ∨ T = "list" ∨ T = "tuple" ∨ T = "str") (hg : Gl X "isinstance") (hm : X.mg "isinstance" = none) (hv : bootBuiltins "isinstance" = some (.builtin "isinstance")) (hgT : Gl X y) (hmT : X.mg y = none) (hvT : bootBuiltins y = some (.type T))
    (h : EvP X a ρ fun d ρ1 => ∃ x, d = .d x ∧ Q (dB (isD x T)) ρ1) (hnT : y ≠ "__name__" := by decide) (hdT : (y == ("__debug__" : Str)) = false := by decide)
    (he : starEach [a, .Name y py] X.env = (false, eval a X.env) :: starEach [.Name y py] X.env := by rfl) (he2 : starEach [.Name y py] X.env = (false, eval (.Name y py) X.env) :: starEach [] X.env := by rfl)
    (hpl : (backTo pos (starEach [.Name y py] X.env)).any (·.1) = false := by rfl) : EvP X (.Call (.Name "isinstance" p) [a, .Name y py] [] pos) ρ Q := fun H0 M O S σ H E R k =>
  ⟨_, pe_callB call_isi hg hm hv (pa_cons pe_w (pa_cons (pe_bltn (v := .ty T) hgT hmT hvT rfl hnT hdT) pa_nil he2) he) (by decide) (by decide) he hpl, h H0 M O S σ H E _ fun v H1 d ρ1 ⟨x, ed, q⟩ E1 r => by
    subst ed
    exact ⟨v, .ty T, _, _, _, rfl, .ty T, tyX_of (dp_mono off_ex r), kit_ty (kit_d x T hT), k _ H1 _ ρ1 q E1 dt_bl⟩⟩
/-- isinstance(x, (list, tuple)) -/
theorem ev_isiLT {py pz pt : Pos} {x1} (hg : Gl X "isinstance") (hm : X.mg "isinstance" = none) (hv : bootBuiltins "isinstance" = some (.builtin "isinstance")) (hgL : Gl X "list") (hmL : X.mg "list" = none) (hgT : Gl X "tuple") (hmT : X.mg "tuple" = none)
    (hvL : bootBuiltins "list" = some (.type "list")) (hvT : bootBuiltins "tuple" = some (.type "tuple"))
    (h : EvP X a ρ fun d ρ1 => ∃ x, d = .d x ∧ Q (dB (isD x "list" || isD x "tuple")) ρ1)
    (he : starEach [a, .Tuple [.Name "list" py, .Name "tuple" pz] x1 pt] X.env = (false, eval a X.env) :: starEach [.Tuple [.Name "list" py, .Name "tuple" pz] x1 pt] X.env := by rfl) (he2 : starEach [.Tuple [.Name "list" py, .Name "tuple" pz] x1 pt] X.env = (false, eval (.Tuple [.Name "list" py, .Name "tuple" pz] x1 pt) X.env) :: starEach [] X.env := by rfl)
    (hpl : (backTo pos (starEach [.Tuple [.Name "list" py, .Name "tuple" pz] x1 pt] X.env)).any (·.1) = false := by rfl)
    (he3 : starEach [.Name "list" py, .Name "tuple" pz] X.env = (false, eval (.Name "list" py) X.env) :: starEach [.Name "tuple" pz] X.env := by rfl) (he4 : starEach [.Name "tuple" pz] X.env = (false, eval (.Name "tuple" pz) X.env) :: starEach [] X.env := by rfl) :
    EvP X (.Call (.Name "isinstance" p) [a, .Tuple [.Name "list" py, .Name "tuple" pz] x1 pt] [] pos) ρ Q := fun H0 M O S σ H E R k =>
  ⟨_, pe_callB call_isiT hg hm hv (pa_cons pe_w (pa_cons (pe_tup (pa_cons (pe_bltn (v := .ty "list") hgL hmL hvL rfl) (pa_cons (pe_bltn (v := .ty "tuple") hgT hmT hvT rfl) pa_nil he4) he3)) pa_nil he2) he) (by decide) (by decide) he hpl, h H0 M O S σ H E _ fun v H1 d ρ1 ⟨x, ed, q⟩ E1 r => by
    subst ed
    refine ⟨by show 2 ≤ sizeLine; decide, fun tp htp => ?_⟩
    obtain ⟨E2, _, _⟩ := E1.fresh htp (.tup [.ty "list", .ty "tuple"])
    refine ⟨v, tp, [.ty "list", .ty "tuple"], _, [.type "list", .type "tuple"], isD x "list" || isD x "tuple", rfl, upd_same, .cons (.ty "list") (.cons (.ty "tuple") .nil), tyX_of (dp_mono (Ex.new htp) (dp_mono off_ex r)), ?_, k _ _ _ ρ1 q E2 dt_bl⟩
    refine kitAny_cons (kit_ty (kit_d x "list" (by simp))) (fun h1 => ?_) (fun h1 => by rw [h1]; rfl)
    rw [h1, Bool.false_or]
    exact kitAny_cons (kit_ty (kit_d x "tuple" (by simp))) (fun h2 => by rw [h2]; exact kitAny_nil) fun h2 => h2⟩
end
end DL
end
section
set_option Elab.async false
set_option linter.all false
set_option maxRecDepth 100000
set_option maxHeartbeats 4000000
namespace K87
open PySem PySem.Spec PyProof.Rows L2 DL
def top (i : Nat) : Stmt := PySem.Challenge.pw_keysaloud_k87_whole_fewest_touches.main.body.getD i (.Pass ⟨0, 0, 0, 0⟩)
abbrev pI (xs : List Int) : List PyData := xs.map PyData.int
abbrev pT (xs : List Int) : PyData := .tuple (pI xs)
abbrev pB (xs : List Bool) : List PyData := xs.map PyData.bool
/-- the built-ins that no name of the module hides -/
structure Bl (mg : Str → Option Value) : Prop where
  tuple : mg "tuple" = none
  list : mg "list" = none
  len : mg "len" = none
  zip : mg "zip" = none
  range : mg "range" = none
  sum : mg "sum" = none
  any : mg "any" = none
  all : mg "all" = none
  min : mg "min" = none
  max : mg "max" = none
  int : mg "int" = none
  bool : mg "bool" = none
  set : mg "set" = none
  repr : mg "repr" = none
  sorted : mg "sorted" = none
  enumerate : mg "enumerate" = none
  isinstance : mg "isinstance" = none

/-! ### plain mathematics -/
def addL (p : Int) (a b : List Int) (f : Int) : List Int := List.zipWith (fun x y => (x + f * y) % p) a b
def leadL (a : List Int) : Nat := (a.takeWhile (· == 0)).length
def dot (a b : List Int) : Int := (List.zipWith (· * ·) a b).sum
def valL (p : Int) (a b : List Int) : Int := dot a b % p
/-- a row of n numbers below p -/
def Wf (p : Int) (n : Nat) (a : List Int) : Prop := a.length = n ∧ ∀ x ∈ a, 0 ≤ x ∧ x < p

theorem get_ints {xs : List Int} {i : Nat} {y : PyData} (h : (pI xs)[i]? = some y) : ∃ x, xs[i]? = some x ∧ y = .int x := by
  rw [List.getElem?_map] at h
  obtain ⟨x, h1, h2⟩ := Option.map_eq_some_iff.mp h
  exact ⟨x, h1, h2.symm⟩
theorem take_succ {α : Type} {xs : List α} {i : Nat} {x : α} (h : xs[i]? = some x) : xs.take (i + 1) = xs.take i ++ [x] := by
  rw [List.take_add_one, h]
  rfl
theorem len_pI {xs : List Int} : (pI xs).length = xs.length := List.length_map ..
theorem sz {n : Nat} (h : n ≤ 1000000) : n ≤ sizeLine := by rw [sizeLine_eq]; omega
theorem atI_pI {xs : List Int} {i : Nat} {x : Int} (h : xs[i]? = some x) : atI (pI xs) (i : Int) = some (.int x) := by
  have hl := (List.getElem?_eq_some_iff.mp h).1
  unfold atI ixN
  rw [if_pos (by omega), if_pos (by rw [len_pI]; omega)]
  show (pI xs)[(i : Int).toNat]? = _
  rw [Int.toNat_natCast, List.getElem?_map, h]
  rfl
theorem zip_ints {xs ys : List Int} {i : Nat} {z : PyData} (h : (zipD (pI xs) (pI ys))[i]? = some z) : ∃ x y, xs[i]? = some x ∧ ys[i]? = some y ∧ z = .tuple [.int x, .int y] := by
  unfold zipD at h
  rw [List.getElem?_map] at h
  obtain ⟨q, h1, h2⟩ := Option.map_eq_some_iff.mp h
  obtain ⟨h3, h4⟩ := List.getElem?_zip_eq_some.mp h1
  obtain ⟨x, hx, ex⟩ := get_ints h3
  obtain ⟨y, hy, ey⟩ := get_ints h4
  exact ⟨x, y, hx, hy, by rw [← h2, ex, ey]⟩
theorem zip_map (g : Int → Int → Int) : ∀ xs ys : List Int, (zipD (pI xs) (pI ys)).map (fun z => match z with | .tuple [.int x, .int y] => .int (g x y) | d => d) = pI (List.zipWith g xs ys)
  | [], _ => by simp [zipD]
  | _ :: _, [] => by simp [zipD]
  | x :: xs, y :: ys => by
    exact congrArg (List.cons (PyData.int (g x y))) (zip_map g xs ys)
theorem zipD_len {xs ys : List PyData} : (zipD xs ys).length = min xs.length ys.length := by unfold zipD; simp

section
variable {P : Program} {w : World} {K : PySem.W.Frag} {mg : Str → Option Value} {base : Heap} {f : Addr} {fd : FuncData}
/-! ### scaled -/
abbrev sScaled : Stmt := top 12
abbrev nScaled : List Str := ["row", "factor", "prime", "number"]
theorem scScaled : FnScope nScaled ["row", "factor", "prime"] (defScope sScaled) := ⟨rfl, rfl, rfl, by decide +kernel, rfl, by decide +kernel, by decide +kernel⟩
def tScaled : Tr := fun ds Z => ∃ xs f p, ds = [dT (pI xs), dI f, dI p] ∧ xs.length ≤ 1000 ∧ 0 < p ∧ (-(2 ^ 64) < f ∧ f < 2 ^ 64) ∧ Z (dT (pI (xs.map fun n => n * f % p)))
theorem own_scaled (B : Bl mg) (F : Fun K "scaled" "scaled" sScaled f fd) (hm : mg "scaled" = some (.ref f)) : Own P w K mg base 1 "scaled" (spP K tScaled) := by
  refine def_pure F scScaled hm (F.binds fun _ _ _ _ _ _ us hl => match us, hl with | [_, _, _], _ => rfl) (fun ds Z ⟨_, _, _, e, _⟩ => by rw [e]; rfl) fun cdv A outer s H E hr ds Z ⟨xs, ff, p, ed, hl, hp, hf, q⟩ => ?_
  subst ed
  refine run_one (rs_ret (ev_tuple rfl B.tuple (by decide +kernel) (eq_list (ev_new (en_lc1 (M := nScaled) (sc := defScope sScaled) 3 scScaled.nd rfl rfl (by decide +kernel) (lch_map (fun z => match z with | .int n => .int (n * ff % p) | d => d) ?_) rfl fun _ _ _ _ _ => pg_name (i := 3) scScaled.nd rfl (Or.inl rfl))))))
  refine ei_tup (ev_v 0 rfl ⟨_, rfl, by rw [len_pI]; exact sz (by omega), fun i y hy => ?_, ?_⟩)
  · obtain ⟨x, hx, ey⟩ := get_ints hy
    subst ey
    refine ⟨_, rfl, fun s H C cl fp => ?_⟩
    exact ev_mod (ev_mul (ev_v 3 rfl (ev_v 1 rfl ⟨x, ff, rfl, rfl, .inr hf, ev_v 2 rfl ⟨_, _, rfl, rfl, hp, rfl, rfl⟩⟩)))
  · refine ⟨_, rfl, ?_⟩
    rw [List.map_map, show ((fun z => match z with | .int n => PyData.int (n * ff % p) | d => d) ∘ PyData.int) = PyData.int ∘ (fun n => n * ff % p) from rfl, ← List.map_map]
    exact q
/-! ### added -/
abbrev sAdded : Stmt := top 13
abbrev nAdded : List Str := ["row", "other", "factor", "prime", "one", "two"]
theorem scAdded : FnScope nAdded ["row", "other", "factor", "prime"] (defScope sAdded) := ⟨rfl, rfl, rfl, by decide +kernel, rfl, by decide +kernel, by decide +kernel⟩
def tAdded : Tr := fun ds Z => ∃ xs ys f p, ds = [dT (pI xs), dT (pI ys), dI f, dI p] ∧ xs.length ≤ 1000 ∧ 0 < p ∧ (-(2 ^ 64) < f ∧ f < 2 ^ 64) ∧ Z (dT (pI (addL p xs ys f)))
theorem own_added (B : Bl mg) (F : Fun K "added" "added" sAdded f fd) (hm : mg "added" = some (.ref f)) : Own P w K mg base 1 "added" (spP K tAdded) := by
  refine def_pure F scAdded hm (F.binds fun _ _ _ _ _ _ us hl => match us, hl with | [_, _, _, _], _ => rfl) (fun ds Z ⟨_, _, _, _, e, _⟩ => by rw [e]; rfl) fun cdv A outer s H E hr ds Z ⟨xs, ys, ff, p, ed, hl, hp, hf, q⟩ => ?_
  subst ed
  refine run_one (rs_ret (ev_tuple rfl B.tuple (by decide +kernel) (eq_list (ev_new (en_lc (own := [("one", 4), ("two", 5)]) (.tup [4, 5]) rfl scAdded.nd rfl (blkOk_by (N := nAdded) (sc := defScope sAdded) (by decide +kernel))
    (fun _ _ _ _ _ => pg_tup rfl (pgs_cons (pg_name (i := 4) scAdded.nd rfl (Or.inl rfl)) (pgs_cons (pg_name (i := 5) scAdded.nd rfl (Or.inl rfl)) pgs_nil))) (lch_map (fun z => match z with | .tuple [.int x, .int y] => .int ((x + ff * y) % p) | d => d) ?_))))))
  refine ei_zip rfl B.zip (ev_v 0 rfl (ev_v 1 rfl ⟨_, _, .inl ⟨rfl, rfl⟩, by rw [zipD_len, len_pI, len_pI]; exact sz (by omega), fun i z hz => ?_, ?_⟩))
  · obtain ⟨x, y, hx, hy, ez⟩ := zip_ints hz
    subst ez
    refine ⟨_, rfl, fun s H C cl fp => ?_⟩
    exact ev_mod (ev_add (ev_v 4 rfl (ev_mul (ev_v 2 rfl (ev_v 5 rfl ⟨ff, y, rfl, rfl, .inl hf, ⟨x, _, rfl, rfl, ev_v 3 rfl ⟨_, _, rfl, rfl, hp, rfl, rfl⟩⟩⟩)))))
  · refine ⟨_, rfl, ?_⟩
    rw [zip_map]
    exact q
/-! ### lead -/
abbrev sLead : Stmt := top 14
abbrev nLead : List Str := ["row", "place"]
theorem scLead : FnScope nLead ["row"] (defScope sLead) := ⟨rfl, rfl, rfl, by decide +kernel, rfl, by decide +kernel, by decide +kernel⟩
def tLead : Tr := fun ds Z => ∃ xs, ds = [dT (pI xs)] ∧ xs.length ≤ 1000 ∧ Z (dI (leadL xs))
theorem lead_le (xs : List Int) : leadL xs ≤ xs.length := (List.takeWhile_sublist _).length_le
theorem lead_stop : ∀ {xs : List Int} {k : Nat}, k ≤ leadL xs → (k = leadL xs ↔ ¬ ∃ x, xs[k]? = some x ∧ x = 0)
  | [], k, h => by
    have : leadL [] = 0 := rfl
    rw [this] at h ⊢
    simp
    omega
  | x :: xs, k, h => by
    by_cases hx : x = 0
    · subst hx
      have e : leadL (0 :: xs) = leadL xs + 1 := by unfold leadL; simp
      cases k with
      | zero =>
        rw [e]
        constructor
        · intro q; omega
        · intro q
          exact absurd ⟨0, rfl, rfl⟩ q
      | succ k =>
        rw [e] at h ⊢
        have ih := lead_stop (xs := xs) (k := k) (by omega)
        rw [List.getElem?_cons_succ, ← ih]
        omega
    · have e : leadL (x :: xs) = 0 := by unfold leadL; simp [hx]
      rw [e] at h ⊢
      have : k = 0 := by omega
      subst this
      simp [hx]
theorem own_lead (B : Bl mg) (F : Fun K "lead" "lead" sLead f fd) (hm : mg "lead" = some (.ref f)) : Own P w K mg base 1 "lead" (spP K tLead) := by
  refine def_pure F scLead hm (F.binds fun _ _ _ _ _ _ us hl => match us, hl with | [_], _ => rfl) (fun ds Z ⟨_, e, _⟩ => by rw [e]; rfl) fun cdv A outer s H E hr ds Z ⟨xs, ed, hl, q⟩ => ?_
  subst ed
  refine run_cons (rs_asg (i := 1) scLead.nd rfl (Or.inl rfl) (ev_int ?_))
  refine run_cons (rs_while PassesOwn.never (fun m ρ' => ∃ k : Nat, k ≤ leadL xs ∧ m = xs.length - k ∧ ρ' = [some (.im (dT (pI xs))), some (.im (dI k))]) (m0 := xs.length) ⟨0, Nat.zero_le _, rfl, rfl⟩ fun m ρ' ⟨k, hk, em, er⟩ => ?_)
  subst er
  have hle := lead_le xs
  refine et_w (ew_and (et_cmpI rfl (ev_v 1 rfl (ev_len rfl B.len (eq_tup (ev_v 0 rfl ⟨_, rfl, _, _, rfl, rfl, fun hc => ?yes, fun hc => ?no⟩))))))
  case yes =>
    refine ew_and1 (et_eq hr.units (ev_ix (fun _ _ => rfl) (ev_v 0 rfl (ev_v 1 rfl ?_))))
    have hlt : k < xs.length := by
      have := of_decide_eq_true hc
      rw [len_pI] at this
      omega
    obtain ⟨x, hx⟩ := get_lt hlt
    refine ⟨_, _, _, .inr rfl, rfl, atI_pI hx, ev_int ⟨_, _, rfl, rfl, rfl, rfl, fun hz => ?_, fun hz => ?_⟩⟩
    · have e : (k : Nat) = leadL xs := (lead_stop hk).mpr fun ⟨y, hy, e0⟩ => by
        rw [hx] at hy
        cases hy
        subst e0
        exact absurd hz (by decide)
      refine run_one (rs_ret (ev_v 1 rfl ?_))
      rw [e]
      exact q
    · have e0 : x = 0 := by simpa [PyData.eqv] using hz
      have ne : k ≠ leadL xs := fun e => (lead_stop hk).mp e ⟨x, hx, e0⟩
      refine run_one (rs_augI (i := 1) scLead.nd rfl (Or.inl rfl) rfl (ev_int ⟨_, rfl, xs.length - (k + 1), by omega, k + 1, by omega, rfl, rfl⟩))
  case no =>
    have hge : xs.length ≤ k := by
      have := of_decide_eq_false hc
      rw [len_pI] at this
      omega
    refine ⟨fun _ => run_one (rs_ret (ev_v 1 rfl ?_)), fun z => nomatch z⟩
    have e : k = leadL xs := by omega
    rw [e]
    exact q
end
end K87
end
section
set_option Elab.async false
set_option linter.all false
set_option maxRecDepth 100000
set_option maxHeartbeats 4000000
namespace K87
open PySem PySem.Spec PyProof.Rows L2 DL
/-- a def of the program and where it stands: by name -/
structure At (K : PySem.W.Frag) (mg : Str → Option Value) (x : Str) (st : Stmt) (f : Addr) (fd : FuncData) : Prop where
  fn : Fun K x x st f fd
  mg : mg x = some (.ref f)
section
variable {P : Program} {w : World} {K : PySem.W.Frag} {mg : Str → Option Value} {base : Heap} {f : Addr} {fd : FuncData}
/-! ### inverse -/
abbrev sInv : Stmt := top 11
abbrev nInv : List Str := ["number", "prime", "found"]
theorem scInv : FnScope nInv ["number", "prime"] (defScope sInv) := ⟨rfl, rfl, rfl, by decide +kernel, rfl, by decide +kernel, by decide +kernel⟩
def tInv : Tr := fun ds Z => ∃ (n p : Int) (k : Nat), ds = [dI n, dI p] ∧ 0 < p ∧ (-(2 ^ 64) < n ∧ n < 2 ^ 64) ∧ 1 ≤ k ∧ (k * n) % p = 1 ∧ (∀ j : Nat, 1 ≤ j → j < k → (j * n) % p ≠ 1) ∧ Z (dI k)
theorem own_inv (h : At K mg "inverse" sInv f fd) : Own P w K mg base 1 "inverse" (spP K tInv) := by
  refine def_pure h.fn scInv h.mg (h.fn.binds fun _ _ _ _ _ _ us hl => match us, hl with | [_, _], _ => rfl) (fun ds Z ⟨_, _, _, e, _⟩ => by rw [e]; rfl) fun cdv A outer s H E hr ds Z ⟨n, p, k, ed, hp, hn, k1, hk, hmin, q⟩ => ?_
  subst ed
  refine run_cons (rs_asg (i := 2) scInv.nd rfl (Or.inl rfl) (ev_int ?_))
  refine run_cons (rs_while PassesOwn.never (fun m ρ' => ∃ j : Nat, 1 ≤ j ∧ j ≤ k ∧ m = k - j ∧ ρ' = [some (.im (dI n)), some (.im (dI p)), some (.im (dI j))]) (m0 := k - 1) ⟨1, Nat.le_refl _, k1, rfl, rfl⟩ fun m ρ' ⟨j, j1, jk, em, er⟩ => ?_)
  subst er
  refine et_ne hr.units (ev_mod (ev_mul (ev_v 2 rfl (ev_v 0 rfl ⟨_, _, rfl, rfl, .inr hn, ev_v 1 rfl ⟨_, _, rfl, rfl, hp, ev_int ⟨_, _, rfl, rfl, rfl, rfl, fun hz => ?_, fun hz => ?_⟩⟩⟩))))
  · have e1 : ((j : Int) * n) % p = 1 := by simpa [PyData.eqv] using hz
    have e2 : j = k := by
      rcases Nat.lt_or_ge j k with z | z
      · exact absurd e1 (hmin j j1 z)
      · omega
    subst e2
    exact run_one (rs_ret (ev_v 2 rfl q))
  · have e1 : ((j : Int) * n) % p ≠ 1 := by simpa [PyData.eqv] using hz
    have : j ≠ k := fun e => e1 (by rw [e]; exact hk)
    exact run_one (rs_augI (i := 2) scInv.nd rfl (Or.inl rfl) rfl (ev_int ⟨_, rfl, k - (j + 1), by omega, j + 1, by omega, by omega, rfl, rfl⟩))
/-! ### power -/
abbrev sPow : Stmt := top 19
abbrev nPow : List Str := ["base", "exponent", "found", "index"]
theorem scPow : FnScope nPow ["base", "exponent"] (defScope sPow) := ⟨rfl, rfl, rfl, by decide +kernel, rfl, by decide +kernel, by decide +kernel⟩
def tPow : Tr := fun ds Z => ∃ (b : Int) (e : Nat), ds = [dI b, dI e] ∧ (-(2 ^ 64) < b ∧ b < 2 ^ 64) ∧ e ≤ 1000 ∧ Z (dI (b ^ e))
theorem own_pow (B : Bl mg) (h : At K mg "power" sPow f fd) : Own P w K mg base 1 "power" (spP K tPow) := by
  refine def_pure h.fn scPow h.mg (h.fn.binds fun _ _ _ _ _ _ us hl => match us, hl with | [_, _], _ => rfl) (fun ds Z ⟨_, _, e, _⟩ => by rw [e]; rfl) fun cdv A outer s H E hr ds Z ⟨b, e, ed, hb, he, q⟩ => ?_
  subst ed
  refine run_cons (rs_asg (i := 2) scPow.nd rfl (Or.inl rfl) (ev_int ?_))
  refine run_cons (rs_for (.one 3) PassesOwn.never rfl (pg_name (i := 3) scPow.nd rfl (Or.inl rfl)) (ei_range1 rfl B.range (ev_v 1 rfl ⟨_, rfl, by omega, by omega, fun i ρ' => ∃ x, ρ' = [some (.im (dI b)), some (.im (dI e)), some (.im (dI (b ^ i))), x], ⟨none, by rw [Int.pow_zero]; rfl⟩, fun i y ρ' hy ⟨x, er⟩ => ⟨_, rfl, ?_⟩, fun ρ' ⟨x, er⟩ => ?_⟩)))
  · subst er
    refine run_one (rs_asg (i := 2) scPow.nd rfl (Or.inl rfl) (ev_mul (ev_v 2 rfl (ev_v 0 rfl ⟨_, _, rfl, rfl, .inr hb, some (.im (.d y)), ?_⟩))))
    rw [← Int.pow_succ]
    rfl
  · subst er
    rw [rangeD_len, Int.toNat_natCast] at *
    exact run_one (rs_ret (ev_v 2 rfl q))
/-! ### rest_of -/
abbrev sRest : Stmt := top 15
abbrev nRest : List Str := ["row", "rows", "prime", "other"]
theorem scRest : FnScope nRest ["row", "rows", "prime"] (defScope sRest) := ⟨rfl, rfl, rfl, by decide +kernel, rfl, by decide +kernel, by decide +kernel⟩
def restL (p : Int) (row : List Int) (rows : List (List Int)) : List Int := rows.foldl (fun r o => addL p r o (-(r.getD (leadL o) 0))) row
theorem wf_addL {p : Int} {n : Nat} {a b : List Int} {f : Int} (hp : 0 < p) (ha : a.length = n) (hb : b.length = n) : Wf p n (addL p a b f) := by
  unfold addL
  refine ⟨by simp [ha, hb], fun x hx => ?_⟩
  obtain ⟨i, hi, e⟩ := List.getElem_of_mem hx
  rw [List.getElem_zipWith] at e
  rw [← e]
  exact ⟨Int.emod_nonneg _ (by omega), Int.emod_lt_of_pos _ hp⟩
theorem wf_restL {p : Int} {n : Nat} (hp : 0 < p) : ∀ {rows : List (List Int)} {row : List Int}, Wf p n row → (∀ o ∈ rows, o.length = n) → Wf p n (restL p row rows)
  | [], _, h, _ => h
  | o :: os, row, h, ho => wf_restL hp (rows := os) (wf_addL hp h.1 (ho o List.mem_cons_self)) fun o' ho' => ho o' (List.mem_cons_of_mem _ ho')
/-- rows that rest_of may take: of length n, below p, not zero -/
def Rows (p : Int) (n : Nat) (rows : List (List Int)) : Prop := ∀ o ∈ rows, Wf p n o ∧ leadL o < n
def tRest : Tr := fun ds Z => ∃ (p : Int) (n : Nat) (row : List Int) (rows : List (List Int)), ds = [dT (pI row), dL (rows.map pT), dI p] ∧ 0 < p ∧ p ≤ 1000 ∧ n ≤ 1000 ∧ Wf p n row ∧ Rows p n rows ∧ Z (dT (pI (restL p row rows)))
theorem own_rest (h : At K mg "rest_of" sRest f fd) (oA : Own P w K mg base 1 "added" (spP K tAdded)) (oL : Own P w K mg base 1 "lead" (spP K tLead)) : Own P w K mg base 2 "rest_of" (spP K tRest) := by
  refine def_pure h.fn scRest h.mg (h.fn.binds fun _ _ _ _ _ _ us hl => match us, hl with | [_, _, _], _ => rfl) (fun ds Z ⟨_, _, _, _, e, _⟩ => by rw [e]; rfl) fun cdv A outer s H E hr ds Z ⟨p, n, row, rows, ed, hp, hp2, hn, hw, hrs, q⟩ => ?_
  subst ed
  refine run_cons (rs_for (.one 3) PassesOwn.never rfl (pg_name (i := 3) scRest.nd rfl (Or.inl rfl)) (ei_list (ev_v 1 rfl ⟨_, rfl, fun i ρ' => ∃ x, ρ' = [some (.im (dT (pI (restL p row (rows.take i))))), some (.im (dL (rows.map pT))), some (.im (dI p)), x], ⟨_, rfl⟩, fun i y ρ' hy ⟨x, er⟩ => ⟨_, rfl, ?_⟩, fun ρ' ⟨x, er⟩ => ?_⟩)))
  · subst er
    rw [List.getElem?_map] at hy
    obtain ⟨o, ho, ey⟩ := Option.map_eq_some_iff.mp hy
    subst ey
    have hm : o ∈ rows := List.mem_of_getElem? ho
    obtain ⟨wo, lo⟩ := hrs o hm
    have wr : Wf p n (restL p row (rows.take i)) := wf_restL hp hw fun o' ho' => (hrs o' (List.mem_of_mem_take ho')).1.1
    obtain ⟨z, hz⟩ := get_lt (xs := restL p row (rows.take i)) (i := leadL o) (by rw [wr.1]; exact lo)
    have hzb := wr.2 z (List.mem_of_getElem? hz)
    refine run_one (rs_asg (i := 0) scRest.nd rfl (Or.inl rfl) ?_)
    refine ev_call oA hr rfl (ea_cons (ev_v 0 rfl ?_))
    refine ea_cons (ev_v 3 rfl ?_)
    refine ea_cons (ev_neg (ev_ix (fun _ _ => rfl) (ev_v 0 rfl ?_)))
    refine ev_call oL hr rfl (ea_cons (ev_v 3 rfl (ea_nil ?_)))
    refine ⟨o, rfl, by rw [wo.1]; exact hn, _, _, _, .inr rfl, rfl, atI_pI hz, z, rfl, ?_⟩
    refine ea_cons (ev_v 2 rfl (ea_nil ?_))
    refine ⟨_, _, _, _, rfl, by rw [wr.1]; exact hn, hp, ⟨by omega, by omega⟩, some (.im (.d (pT o))), ?_⟩
    rw [take_succ ho]
    unfold restL
    rw [List.foldl_append, List.foldl_cons, List.foldl_nil]
    have e2 : (List.foldl (fun r o => addL p r o (-r.getD (leadL o) 0)) row (rows.take i)).getD (leadL o) 0 = z := by
      rw [List.getD_eq_getElem?_getD]
      rw [show (List.foldl (fun r o => addL p r o (-r.getD (leadL o) 0)) row (rows.take i))[leadL o]? = some z from hz]
      rfl
    rw [e2]
    rfl
  · subst er
    rw [List.length_map, List.take_length] at *
    exact run_one (rs_ret (ev_v 0 rfl q))
end
end K87
end
section
set_option Elab.async false
set_option linter.all false
set_option maxRecDepth 100000
set_option maxHeartbeats 4000000
/-! The data logic: in (flat), enumerate of a tuple, the builtins int, max. -/
namespace DL
open PySem PySem.Spec PyProof.Rows L2 Evl
def flatP : PyData → Bool
  | .none => true
  | .bool _ => true
  | .int _ => true
  | .str _ => true
  | _ => false
def toV : PyData → V
  | .none => .non
  | .bool b => .bl b
  | .int i => .int i
  | .str s => .str s
  | _ => .non
theorem flat_v {K : PySem.W.Frag} {H : Hp} {v : V} {d : PyData} (r : Dp K H v d) (h : flatP d = true) : v = toV d ∧ flatV v = true := by
  cases r <;> first | exact ⟨rfl, rfl⟩ | cases h
theorem flat_vs {K : PySem.W.Frag} {H : Hp} : ∀ {vs : List V} {ds : List PyData}, DpAll K H vs ds → ds.all flatP = true → vs = ds.map toV ∧ vs.all flatV = true
  | [], [], _, _ => ⟨rfl, rfl⟩
  | v :: vs, d :: ds, .cons r q, h => by
    rw [List.all_cons, Bool.and_eq_true] at h
    obtain ⟨h1, h2⟩ := flat_v r h.1
    obtain ⟨h3, h4⟩ := flat_vs q h.2
    refine ⟨by rw [h1, h3]; rfl, ?_⟩
    rw [List.all_cons, h2, h4]
    rfl
theorem eqV_eqv (x y : PyData) (hx : flatP x = true) (hy : flatP y = true) : eqV (toV y) (toV x) = PyData.eqv y x := by
  cases x <;> cases y <;> first
    | (exfalso; exact Bool.false_ne_true hx)
    | (exfalso; exact Bool.false_ne_true hy)
    | rfl
    | simp [eqV, toV, PyData.eqv]
section
variable {X : Cx} {ρ : DEnv} {Q : Dt → DEnv → Prop} {a b e : Expr} {pos p : Pos}
theorem op2_in {x : PyData} {ys : List PyData} {d : Dt} {P : Dt → Prop} (hd : d = dT ys ∨ d = dL ys) (h1 : flatP x = true) (h2 : ys.all flatP = true) (q : P (dB (ys.any fun y => PyData.eqv y x))) : Op2 X (rIn X.K false) (.d x) d P := fun L v1 v2 H hL r1 r2 R k => by
  obtain ⟨e1, f1⟩ := flat_v r1 h1
  have key : ∀ (a : Addr) (vs : List V), DpAll X.K (off L H) vs ys → (SqL X.K H a vs ∨ SqT X.K H a vs) → rIn X.K false v1 (.ref a) H R := fun a vs rr sq => by
    obtain ⟨e3, f3⟩ := flat_vs rr h2
    refine ⟨a, vs, rfl, sq, f1, f3, ?_⟩
    rw [if_neg Bool.false_ne_true]
    have : inV v1 vs = ys.any fun y => PyData.eqv y x := by
      unfold inV
      rw [e1, e3, List.any_map]
      have : ∀ zs : List PyData, zs.all flatP = true → zs.any ((fun y => eqV y (toV x)) ∘ toV) = zs.any fun y => PyData.eqv y x := by
        intro zs
        induction zs with
        | nil => intro _; rfl
        | cons z zs ih =>
          intro hz
          rw [List.all_cons, Bool.and_eq_true] at hz
          rw [List.any_cons, List.any_cons, ih hz.2]
          show (eqV (toV z) (toV x) || _) = _
          rw [eqV_eqv x z h1 hz.1]
      exact this ys h2
    rw [this]
    exact k _ H _ q (Ex.refl H) dt_bl
  rcases hd with hd | hd <;> subst hd
  · cases r2 with
    | tup a1 a2 => exact key _ _ a2 (.inr (ex_t off_ex a1))
  · cases r2 with
    | lst a1 a2 => exact key _ _ a2 (.inl (ex_l off_ex a1))
/-- x in (a tuple or list of flat data) -/
theorem ev_in (h : EvP X a ρ fun d1 ρ1 => EvP X b ρ1 fun d2 ρ2 => ∃ x ys, d1 = .d x ∧ (d2 = dT ys ∨ d2 = dL ys) ∧ flatP x = true ∧ ys.all flatP = true ∧ Q (dB (ys.any fun y => PyData.eqv y x)) ρ2) (hm : behindInMarks .In b = false := by rfl) : EvP X (.Compare a [.In] [b] pos) ρ Q :=
  ev_cmp op_in_seq hm (h.imp fun d1 ρ1 h2 => h2.imp fun d2 ρ2 ⟨x, ys, e1, e2, f1, f2, q⟩ => by subst e1; exact op2_in e2 f1 f2 q)
/-- x in l, l a list of data of any depth -/
theorem ev_inD (hu : X.A.units + 65 < cLine) (h : EvP X a ρ fun d1 ρ1 => EvP X b ρ1 fun d2 ρ2 => ∃ x ys, d1 = .d x ∧ d2 = dL ys ∧ shp x ∧ shp (.list ys) ∧ Q (dB (ys.any fun y => PyData.eqv y x)) ρ2) (hm : behindInMarks .In b = false := by rfl) : EvP X (.Compare a [.In] [b] pos) ρ Q :=
  ev_cmp (op_inD hu) hm (h.imp fun d1 ρ1 h2 => h2.imp fun d2 ρ2 ⟨x, ys, e1, e2, f1, f2, q⟩ => by subst e1 e2; exact op2_inD f1 f2 q)
theorem et_niD {T : Bool → DEnv → Prop} (hu : X.A.units + 65 < cLine) (h : EvP X a ρ fun d1 ρ1 => EvP X b ρ1 fun d2 ρ2 => ∃ x ys, d1 = .d x ∧ d2 = dL ys ∧ shp x ∧ shp (.list ys) ∧ T (!ys.any fun y => PyData.eqv y x) ρ2) (hm : behindInMarks .NotIn b = false := by rfl) : EvT X (.Compare a [.NotIn] [b] pos) ρ T :=
  et_cmp (op_notInD hu) hm (h.imp fun d1 ρ1 h2 => h2.imp fun d2 ρ2 ⟨x, ys, e1, e2, f1, f2, q⟩ => by subst e1 e2; exact op2_niD f1 f2 ⟨_, rfl, q⟩)
/-- int(x) of an int, a bool -/
theorem ev_int1 (hg : Gl X "int") (hm : X.mg "int" = none) (hv : bootBuiltins "int" = some (.type "int")) (h : EvP X e ρ fun d ρ1 => (∃ i, d = dI i ∧ Q (dI i) ρ1) ∨ ∃ b, d = dB b ∧ Q (dI (if b = true then 1 else 0)) ρ1)
    (he : starEach [e] X.env = (false, eval e X.env) :: starEach [] X.env := by rfl) : EvP X (.Call (.Name "int" p) [e] [] pos) ρ Q := fun H0 M O S σ H E R k =>
  ⟨_, pe_callTy call_int1 hg hm hv (pa_cons pe_w pa_nil he) (by decide) (by decide) he, h H0 M O S σ H E _ fun v H1 d ρ1 hd E1 r => by
    rcases hd with ⟨i, ed, q⟩ | ⟨b, ed, q⟩
    · subst ed
      cases r
      exact .inl ⟨i, rfl, k _ H1 _ ρ1 q E1 dt_int⟩
    · subst ed
      cases r
      exact .inr ⟨b, rfl, k _ H1 _ ρ1 q E1 dt_int⟩⟩
/-- max(a, b), min(a, b) of ints -/
theorem ev_max2 (hc : X.calm = true) (hg : Gl X "max") (hm : X.mg "max" = none) (hv : bootBuiltins "max" = some (.builtin "max")) (h : EvP X a ρ fun d1 ρ1 => EvP X b ρ1 fun d2 ρ2 => ∃ i j, d1 = dI i ∧ d2 = dI j ∧ Q (dI (if j > i then j else i)) ρ2)
    (he : starEach [a, b] X.env = (false, eval a X.env) :: starEach [b] X.env := by rfl) (he2 : starEach [b] X.env = (false, eval b X.env) :: starEach [] X.env := by rfl) (hpl : (backTo pos (starEach [b] X.env)).any (·.1) = false := by rfl) : EvP X (.Call (.Name "max" p) [a, b] [] pos) ρ Q := fun H0 M O S σ H E R k =>
  ⟨_, pe_callB (call_max2 hc) hg hm hv (pa_cons pe_w (pa_cons pe_w pa_nil he2) he) (by decide) (by decide) he hpl, ev_two (Z := fun d1 d2 ρ2 => ∃ i j, d1 = dI i ∧ d2 = dI j ∧ Q (dI (if j > i then j else i)) ρ2) h E fun v1 v2 H2 d1 d2 ρ2 ⟨i, j, e1, e2, q⟩ E2 r1 r2 => by
    subst e1 e2
    cases r1
    cases r2
    exact ⟨i, j, rfl, k _ H2 _ ρ2 q E2 dt_int⟩⟩
theorem ev_min2 (hc : X.calm = true) (hg : Gl X "min") (hm : X.mg "min" = none) (hv : bootBuiltins "min" = some (.builtin "min")) (h : EvP X a ρ fun d1 ρ1 => EvP X b ρ1 fun d2 ρ2 => ∃ i j, d1 = dI i ∧ d2 = dI j ∧ Q (dI (if j < i then j else i)) ρ2)
    (he : starEach [a, b] X.env = (false, eval a X.env) :: starEach [b] X.env := by rfl) (he2 : starEach [b] X.env = (false, eval b X.env) :: starEach [] X.env := by rfl) (hpl : (backTo pos (starEach [b] X.env)).any (·.1) = false := by rfl) : EvP X (.Call (.Name "min" p) [a, b] [] pos) ρ Q := fun H0 M O S σ H E R k =>
  ⟨_, pe_callB (call_min2 hc) hg hm hv (pa_cons pe_w (pa_cons pe_w pa_nil he2) he) (by decide) (by decide) he hpl, ev_two (Z := fun d1 d2 ρ2 => ∃ i j, d1 = dI i ∧ d2 = dI j ∧ Q (dI (if j < i then j else i)) ρ2) h E fun v1 v2 H2 d1 d2 ρ2 ⟨i, j, e1, e2, q⟩ E2 r1 r2 => by
    subst e1 e2
    cases r1
    cases r2
    exact ⟨i, j, rfl, k _ H2 _ ρ2 q E2 dt_int⟩⟩
/-- a walk over a list or a tuple, whichever it is -/
def iSeq (K : PySem.W.Frag) (tl : TE) : TI := fun σ H R => tl σ H fun x H1 => ∃ a, x = .ref a ∧ (((∃ xs, SqL K H1 a xs) ∧ R (Itl K a) H1) ∨ ((∃ xs, SqT K H1 a xs) ∧ R (Itt K a) H1))
theorem pi_seq {tg l : Expr} {tl : TE} (hl : PE X l tl) : PI X tg l (iSeq X.K tl) := by
  refine ⟨fun pins s σ H R I h => thn (hl.run pins s σ H _ I h) fun v s1 hv => ?_⟩
  obtain ⟨x, H1, I1, rx, a, ex, hh⟩ := hv
  subst ex
  cases rx
  have one : ∀ q, q ∈ [s1.heap.objs.size] → FpOk X pins H1 q := fun q hq => by
    rw [List.mem_singleton.mp hq]
    exact I1.fpOk (Nat.le_refl _) (I1.hok.fresh (Nat.le_refl _))
  rcases hh with ⟨⟨xs, hs⟩, q⟩ | ⟨⟨xs, hs⟩, q⟩
  · obtain ⟨its, _, pl, _⟩ := I1.list hs
    exact wpAny_pyIter_list pl.isList ⟨s1.heap.objs.size, [s1.heap.objs.size], _, _, H1, rfl, I1.kept (t' := s1.toks) fun _ _ z => Heap.get?_push_of_some _ z, turn_list a _, ⟨_, Heap.get?_push_size _ rfl, rfl, rfl⟩, one, q⟩
  · obtain ⟨its, _, pt, _⟩ := I1.tuple hs
    exact wpAny_pyIter_tuple (show s1.heap.IsTuple a its.toArray from pt) ⟨s1.heap.objs.size, [s1.heap.objs.size], _, _, H1, rfl, I1.kept (t' := s1.toks) fun _ _ z => Heap.get?_push_of_some _ z, turn_tuple a _, ⟨_, Heap.get?_push_size _ rfl, rfl, rfl⟩, one, q⟩
theorem ei_seq {tg : Expr} {Z : List PyData → DEnv → Prop} (h : EvP X e ρ fun d ρ1 => ∃ xs, (d = dL xs ∨ d = dT xs) ∧ Z xs ρ1) : EvI X tg e ρ Z := fun H0 M O S σ H E R k => ⟨_, pi_seq pe_w, h H0 M O S σ H E _ fun v H1 d ρ1 ⟨xs, hd, q⟩ E1 r => by
  rcases hd with hd | hd <;> subst hd
  · cases r with
    | lst h1 h2 =>
      rename_i a vs
      refine ⟨a, rfl, .inl ⟨⟨vs, ex_l off_ex h1⟩, k _ H1 xs ρ1 q E1 fun O' ρ' σ' H' F => ?_⟩⟩
      have s1 : SqL X.K H' a vs := ex_l off_ex (ex_l F.stay' h1)
      have s2 := dpAll_mono F.stay' h2
      have hl := dpa_length h2
      refine ⟨fun i hi => ?_, fun i hi => ⟨vs, s1, by omega⟩, fun i x v H'' hx hy => ?_⟩
      · obtain ⟨y, hy⟩ := get_lt (xs := vs) (i := i) (by omega)
        exact ⟨vs, y, s1, hy⟩
      · obtain ⟨e1, e2⟩ := hy
        subst e1
        obtain ⟨w, hw, rw'⟩ := dpa_get s2 hx
        have := e2 vs s1
        rw [hw] at this
        cases this
        exact ⟨Ex.refl _, rw'⟩
  · cases r with
    | tup h1 h2 =>
      rename_i a vs
      refine ⟨a, rfl, .inr ⟨⟨vs, ex_t off_ex h1⟩, k _ H1 xs ρ1 q E1 fun O' ρ' σ' H' F => ?_⟩⟩
      have s1 : SqT X.K H' a vs := ex_t off_ex (ex_t F.stay' h1)
      have s2 := dpAll_mono F.stay' h2
      have hl := dpa_length h2
      refine ⟨fun i hi => ?_, fun i hi => ⟨vs, s1, by omega⟩, fun i x v H'' hx hy => ?_⟩
      · obtain ⟨y, hy⟩ := get_lt (xs := vs) (i := i) (by omega)
        exact ⟨vs, y, s1, hy⟩
      · obtain ⟨e1, e2⟩ := hy
        subst e1
        obtain ⟨w, hw, rw'⟩ := dpa_get s2 hx
        have := e2 vs s1
        rw [hw] at this
        cases this
        exact ⟨Ex.refl _, rw'⟩⟩
theorem eq_seq {Z : Bool → List PyData → DEnv → Prop} (h : EvP X e ρ fun d ρ' => ∃ ds, (d = dL ds ∨ d = dT ds) ∧ ∀ b, Z b ds ρ') : EvQ X e ρ Z := fun H0 M O S σ H E R k => h H0 M O S σ H E R fun v H' d ρ' ⟨ds, hd, q⟩ E' r => by
  rcases hd with hd | hd <;> subst hd
  · cases r with
    | lst h1 h2 => exact k _ _ H' false ds ρ' (q _) E' (by rw [if_neg Bool.false_ne_true]; exact ex_l off_ex h1) h2
  · cases r with
    | tup h1 h2 => exact k _ _ H' true ds ρ' (q _) E' (by rw [if_pos rfl]; exact h1) h2
end
end DL
end
section
set_option Elab.async false
set_option linter.all false
set_option maxRecDepth 100000
set_option maxHeartbeats 4000000
namespace K87
open PySem PySem.Spec PyProof.Rows L2 DL
/-- the module's constants -/
structure Cn (K : PySem.W.Frag) (mg : Str → Option Value) : Prop where
  primes : ∃ a : Addr, mg "PRIMES" = some (.ref a) ∧ SqT K (fun _ => none) a [.int 2, .int 3, .int 5, .int 7]
  data : ∃ t, mg "MOST_DATA" = some (.int 4096 t)
  value : ∃ t, mg "MOST_VALUE" = some (.int 6 t)
  pieces : ∃ t, mg "MOST_PIECES" = some (.int 6 t)
  parts : ∃ t, mg "MOST_PARTS" = some (.int 3 t)
  spots : ∃ t, mg "MOST_SPOTS" = some (.int 10 t)
def isIntD : PyData → Bool
  | .int _ => true
  | _ => false
def betw (x : PyData) (l h : Int) : Bool := match x with
  | .int i => decide (l ≤ i) && decide (i ≤ h)
  | _ => false
def primeD (x : PyData) : Bool := match x with
  | .int i => i == 2 || i == 3 || i == 5 || i == 7
  | _ => false
def sizeD (x y : PyData) : Bool := primeD x && betw y 1 6 && match x, y with
  | .int i, .int j => decide (i ^ j.toNat ≤ 4096)
  | _, _ => false
def dataD (p n : Int) (v : PyData) : Bool := match v with
  | .list xs => decide ((xs.length : Int) = n) && xs.all fun x => betw x 0 (p - 1)
  | .tuple xs => decide ((xs.length : Int) = n) && xs.all fun x => betw x 0 (p - 1)
  | _ => false
section
variable {P : Program} {w : World} {K : PySem.W.Frag} {mg : Str → Option Value} {base : Heap} {f : Addr} {fd : FuncData}
/-! ### is_between -/
abbrev sBetw : Stmt := top 24
abbrev nBetw : List Str := ["value", "low", "high"]
theorem scBetw : FnScope nBetw ["value", "low", "high"] (defScope sBetw) := ⟨rfl, rfl, rfl, by decide +kernel, rfl, by decide +kernel, by decide +kernel⟩
def tBetw : Tr := fun ds Z => ∃ (x : PyData) (l h : Int), ds = [.d x, dI l, dI h] ∧ Z (dB (betw x l h))
theorem isD_int {x : PyData} (h : isD x "int" = true) (h2 : isD x "bool" = false) : ∃ i, x = .int i := by
  cases x <;> simp [isD, isS, tyD] at h h2 ⊢
theorem not_isD {x : PyData} (h : isD x "int" = false ∨ isD x "bool" = true) (l u : Int) : betw x l u = false ∧ isIntD x = false ∧ primeD x = false := by
  cases x <;> simp [isD, isS, tyD] at h <;> exact ⟨rfl, rfl, rfl⟩
theorem own_betw (B : Bl mg) (h : At K mg "is_between" sBetw f fd) : Own P w K mg base 1 "is_between" (spP K tBetw) := by
  refine def_pure h.fn scBetw h.mg (h.fn.binds fun _ _ _ _ _ _ us hl => match us, hl with | [_, _, _], _ => rfl) (fun ds Z ⟨_, _, _, e, _⟩ => by rw [e]; rfl) fun cdv A outer s H E hr ds Z ⟨x, l, u, ed, q⟩ => ?_
  subst ed
  refine run_one (rs_ret (ev_and (ev_isi (T := "int") (.inl rfl) rfl B.isinstance (by decide +kernel) rfl B.int (by decide +kernel) (ev_v 0 rfl ⟨x, rfl, _, rfl, fun h1 => ?_, fun h1 => ?_⟩))))
  · refine ev_and (ev_not (ev_isi (T := "bool") (.inr (.inl rfl)) rfl B.isinstance (by decide +kernel) rfl B.bool (by decide +kernel) (ev_v 0 rfl ⟨x, rfl, _, rfl, _, rfl, fun h2 => ?_, fun h2 => ?_⟩)))
    · obtain ⟨i, ex⟩ := isD_int h1 (by simpa using h2)
      subst ex
      refine ev_one (ev_chainI rfl rfl (ev_v 1 rfl (ev_v 0 rfl ⟨_, _, rfl, rfl, fun hc => ev_v 2 rfl ⟨_, rfl, ?_⟩, fun hc => ?_⟩)))
      · have : betw (.int i) l u = decide (i ≤ u) := by
          show (decide (l ≤ i) && decide (i ≤ u)) = _
          rw [hc, Bool.true_and]
        rw [this] at q
        exact q
      · have : betw (.int i) l u = false := by
          show (decide (l ≤ i) && decide (i ≤ u)) = _
          rw [hc, Bool.false_and]
        rw [this] at q
        exact q
    · rw [(not_isD (.inr (by simpa using h2)) l u).1] at q
      exact q
  · rw [(not_isD (.inl h1) l u).1] at q
    exact q
/-! ### is_integer -/
abbrev sInt : Stmt := top 25
abbrev nInt : List Str := ["value"]
theorem scInt : FnScope nInt ["value"] (defScope sInt) := ⟨rfl, rfl, rfl, by decide +kernel, rfl, by decide +kernel, by decide +kernel⟩
def tInt : Tr := fun ds Z => ∃ (x : PyData), ds = [.d x] ∧ Z (dB (isIntD x))
theorem own_int (B : Bl mg) (h : At K mg "is_integer" sInt f fd) : Own P w K mg base 1 "is_integer" (spP K tInt) := by
  refine def_pure h.fn scInt h.mg (h.fn.binds fun _ _ _ _ _ _ us hl => match us, hl with | [_], _ => rfl) (fun ds Z ⟨_, e, _⟩ => by rw [e]; rfl) fun cdv A outer s H E hr ds Z ⟨x, ed, q⟩ => ?_
  subst ed
  refine run_one (rs_ret (ev_and (ev_isi (T := "int") (.inl rfl) rfl B.isinstance (by decide +kernel) rfl B.int (by decide +kernel) (ev_v 0 rfl ⟨x, rfl, _, rfl, fun h1 => ?_, fun h1 => ?_⟩))))
  · refine ev_one (ev_not (ev_isi (T := "bool") (.inr (.inl rfl)) rfl B.isinstance (by decide +kernel) rfl B.bool (by decide +kernel) (ev_v 0 rfl ⟨x, rfl, _, rfl, ?_⟩)))
    cases h2 : isD x "bool" with
    | true =>
      rw [(not_isD (.inr h2) 0 0).2.1] at q
      exact q
    | false =>
      obtain ⟨i, ex⟩ := isD_int h1 h2
      subst ex
      exact q
  · rw [(not_isD (.inl h1) 0 0).2.1] at q
    exact q
/-! ### is_prime -/
abbrev sPrime : Stmt := top 26
theorem scPrime : FnScope nInt ["value"] (defScope sPrime) := ⟨rfl, rfl, rfl, by decide +kernel, rfl, by decide +kernel, by decide +kernel⟩
def tPrime : Tr := fun ds Z => ∃ (x : PyData), ds = [.d x] ∧ Z (dB (primeD x))
theorem dp_primes {K : PySem.W.Frag} {a : Addr} (h : SqT K (fun _ => none) a [.int 2, .int 3, .int 5, .int 7]) : Dp K (fun _ => none) (.ref a) (.tuple [.int 2, .int 3, .int 5, .int 7]) := .tup h (.cons (.int _) (.cons (.int _) (.cons (.int _) (.cons (.int _) .nil))))
theorem own_prime (C : Cn K mg) (h : At K mg "is_prime" sPrime f fd) (oI : Own P w K mg base 1 "is_integer" (spP K tInt)) : Own P w K mg base 2 "is_prime" (spP K tPrime) := by
  refine def_pure h.fn scPrime h.mg (h.fn.binds fun _ _ _ _ _ _ us hl => match us, hl with | [_], _ => rfl) (fun ds Z ⟨_, e, _⟩ => by rw [e]; rfl) fun cdv A outer s H E hr ds Z ⟨x, ed, q⟩ => ?_
  subst ed
  refine run_one (rs_ret (ev_and (ev_call oI hr rfl (ea_cons (ev_v 0 rfl (ea_nil ⟨x, rfl, _, rfl, fun h1 => ?_, fun h1 => ?_⟩))))))
  · obtain ⟨a, ha, hs⟩ := C.primes
    refine ev_one (ev_in (ev_v 0 rfl (ev_glob (v := .ref a) rfl ha rfl (dp_primes hs) ⟨x, _, rfl, .inl rfl, ?_, rfl, ?_⟩)))
    · cases x <;> first | rfl | cases h1
    · cases x with
      | int i =>
        have : ([PyData.int 2, .int 3, .int 5, .int 7].any fun y => PyData.eqv y (.int i)) = primeD (.int i) := by
          simp only [List.any_cons, List.any_nil, Bool.or_false, PyData.eqv, primeD]
          rw [Bool.beq_comm (a := i), Bool.beq_comm (a := i), Bool.beq_comm (a := i), Bool.beq_comm (a := i)]
          simp only [Bool.or_assoc]
        rw [this]
        exact q
      | _ => cases h1
  · have : primeD x = false := by cases x <;> first | rfl | cases h1
    rw [this] at q
    exact q
/-! ### is_size -/
abbrev sSize : Stmt := top 27
abbrev nSize : List Str := ["prime", "value"]
theorem scSize : FnScope nSize ["prime", "value"] (defScope sSize) := ⟨rfl, rfl, rfl, by decide +kernel, rfl, by decide +kernel, by decide +kernel⟩
def tSize : Tr := fun ds Z => ∃ (x y : PyData), ds = [.d x, .d y] ∧ Z (dB (sizeD x y))
theorem primeD_int {x : PyData} (h : primeD x = true) : ∃ i, x = .int i ∧ 2 ≤ i ∧ i ≤ 7 := by
  cases x with
  | int i =>
    refine ⟨i, rfl, ?_⟩
    simp [primeD] at h
    omega
  | _ => cases h
theorem betw_int {x : PyData} {l u : Int} (h : betw x l u = true) : ∃ i, x = .int i ∧ l ≤ i ∧ i ≤ u := by
  cases x with
  | int i =>
    refine ⟨i, rfl, ?_⟩
    simpa [betw] using h
  | _ => cases h
theorem own_size (C : Cn K mg) (h : At K mg "is_size" sSize f fd) (oP : Own P w K mg base 2 "is_prime" (spP K tPrime)) (oB : Own P w K mg base 1 "is_between" (spP K tBetw)) (oW : Own P w K mg base 1 "power" (spP K tPow)) : Own P w K mg base 3 "is_size" (spP K tSize) := by
  refine def_pure h.fn scSize h.mg (h.fn.binds fun _ _ _ _ _ _ us hl => match us, hl with | [_, _], _ => rfl) (fun ds Z ⟨_, _, e, _⟩ => by rw [e]; rfl) fun cdv A outer s H E hr ds Z ⟨x, y, ed, q⟩ => ?_
  subst ed
  refine run_one (rs_ret (ev_and (ev_call oP hr rfl (ea_cons (ev_v 0 rfl (ea_nil ⟨x, rfl, _, rfl, fun h1 => ?_, fun h1 => ?_⟩))))))
  · refine ev_and (ev_call oB (hr.mono (by decide)) rfl (ea_cons (ev_v 1 rfl ?_)))
    refine ea_cons (ev_int (ea_cons (ev_int (ea_nil ⟨y, _, _, rfl, _, rfl, fun h2 => ?_, fun h2 => ?_⟩))))
    · obtain ⟨i, ex, i1, i2⟩ := primeD_int h1
      obtain ⟨j, ey, j1, j2⟩ := betw_int h2
      subst ex ey
      obtain ⟨t, ht⟩ := C.data
      refine ev_one (ev_cmpI rfl (ev_call oW (hr.mono (by decide)) rfl (ea_cons (ev_v 0 rfl ?_))))
      refine ea_cons (ev_v 1 rfl (ea_nil ⟨i, j.toNat, ?_, ⟨by omega, by omega⟩, by omega, ?_⟩))
      · rw [Int.toNat_of_nonneg (by omega)]
      · refine ev_glob (v := .int 4096) rfl ht ⟨t, rfl⟩ (.int _) ⟨_, _, rfl, rfl, ?_⟩
        have : sizeD (.int i) (.int j) = decide (i ^ j.toNat ≤ 4096) := by
          unfold sizeD
          rw [h1, h2]
          rfl
        rw [this] at q
        exact q
    · have : sizeD x y = false := by
        unfold sizeD
        rw [h2, Bool.and_false, Bool.false_and]
      rw [this] at q
      exact q
  · have : sizeD x y = false := by
      unfold sizeD
      rw [h1, Bool.false_and, Bool.false_and]
    rw [this] at q
    exact q
end
end K87
end
section
set_option Elab.async false
set_option linter.all false
set_option maxRecDepth 100000
set_option maxHeartbeats 4000000
/-! zip of a tuple or list with a tuple or list, in any mix. -/
namespace DL
open PySem PySem.Spec PyProof.Rows L2 Evl

/-- an iterator over a tuple (b) or a list, at its i-th place -/
def ItB (b : Bool) (h : Heap) (it a : Addr) (i : Nat) : Prop := if b = true then h.IsTupleIter it a i else h.IsListIter it a i
def SeB (b : Bool) (h : Heap) (a : Addr) (items : Array Value) : Prop := if b = true then h.IsTuple a items else h.IsList a items
def itObj (b : Bool) (a : Addr) : Obj := if b = true then { cls := .type "tuple_iterator", data := .fields #[.ref a, .int 0 0] } else { cls := .type "list_iterator", data := .fields #[.ref a, .int 0 0] }
theorem draws_b {prog : Program} {w : World} {A : Around} (hh : A.handled = none) (b : Bool) (it a : Addr) (hne : a ≠ it) (items : Array Value) :
    Draws prog w A it [it, a] items.size (fun i v => items[i]? = some v) (fun i h => ItB b h it a i ∧ SeB b h a items) := by
  cases b with
  | true => exact Draws.tuple hh it a hne items
  | false => exact Draws.list hh it a hne items
theorem begins_b (b : Bool) (a : Addr) (items : Array Value) : Begins (.ref a) (itObj b a) fun h => SeB b h a items := by
  cases b with
  | true => exact begins_tuple a items
  | false => exact begins_list a items
theorem itb_new {b : Bool} {h : Heap} {it a : Addr} (e : h.get? it = some (itObj b a)) : ItB b h it a 0 := by
  cases b with
  | true => exact ⟨_, e, rfl, rfl⟩
  | false => exact ⟨_, e, rfl, rfl⟩
theorem itb_at {b : Bool} {h h' : Heap} {it a : Addr} {i : Nat} (x : ItB b h it a i) (k : ∀ o, h.get? it = some o → h'.get? it = some o) : ItB b h' it a i := by
  cases b with
  | true => exact (show h.IsTupleIter it a i from x).at k
  | false => exact (show h.IsListIter it a i from x).at k
theorem itb_obj {b : Bool} {h : Heap} {it a : Addr} {i : Nat} (x : ItB b h it a i) : ∃ o, h.get? it = some o ∧ ∀ v, o.data ≠ .cell v := by
  cases b with
  | true =>
    obtain ⟨o, e, _, d⟩ := (show h.IsTupleIter it a i from x)
    exact ⟨o, e, fun v q => by rw [d] at q; cases q⟩
  | false =>
    obtain ⟨o, e, _, d⟩ := (show h.IsListIter it a i from x)
    exact ⟨o, e, fun v q => by rw [d] at q; cases q⟩
theorem seb_lt {b : Bool} {h : Heap} {a : Addr} {items : Array Value} (x : SeB b h a items) : a < h.objs.size := by
  cases b with
  | true => obtain ⟨_, e, _⟩ := (show h.IsTuple a items from x); exact Heap.lt_size e
  | false => obtain ⟨_, e, _⟩ := (show h.IsList a items from x); exact Heap.lt_size e
section
variable {X : Cx} {pins : List (Addr × Obj)} {σ : L2.St} {H : Hp} {s : Shared}
theorem seq_b {b : Bool} {a : Addr} {xs : List V} (I : Inv X pins σ H s) (h : SqB X.K H b a xs) : ∃ its : List Value, Vals xs its ∧ SeB b s.heap a its.toArray := by
  cases b with
  | true =>
    obtain ⟨its, r, p, _⟩ := I.tuple (show SqT X.K H a xs by simpa [SqB] using h)
    exact ⟨its, r, p⟩
  | false =>
    obtain ⟨its, r, p, _⟩ := I.list (show SqL X.K H a xs by simpa [SqB] using h)
    exact ⟨its, r, p.isList⟩
theorem seq_inj {b : Bool} {a : Addr} {xs ys : List V} (I : Inv X pins σ H s) (h : SqB X.K H b a xs) (h' : SqB X.K H b a ys) : xs = ys := by
  cases b with
  | true => exact I.tuple_inj (by simpa [SqB] using h) (by simpa [SqB] using h')
  | false => exact I.list_inj (by simpa [SqB] using h) (by simpa [SqB] using h')
end
/-- the two sequences as they stand at each turn, the items in new pairs -/
def ItX (K : PySem.W.Frag) (b1 b2 : Bool) (a c : Addr) : It :=
  ⟨fun i H => ∃ (xs ys : List V) (x y : V), SqB K H b1 a xs ∧ SqB K H b2 c ys ∧ xs[i]? = some x ∧ ys[i]? = some y,
    fun i H v H' => ∃ T x y, v = .ref T ∧ H T = none ∧ H' = upd H T (.tup [x, y]) ∧ (∀ xs, SqB K H b1 a xs → xs[i]? = some x) ∧ ∀ ys, SqB K H b2 c ys → ys[i]? = some y,
    fun i H => ∃ xs ys : List V, SqB K H b1 a xs ∧ SqB K H b2 c ys ∧ i ≤ xs.length ∧ i ≤ ys.length ∧ (xs.length = i ∨ ys.length = i)⟩
structure Apart (z TI TO i1 i2 a c : Addr) : Prop where
  nd : [z, TI, TO, i1, i2].Nodup
  na : a ∉ [z, TI, TO, i1, i2]
  nc : c ∉ [z, TI, TO, i1, i2]
theorem Apart.sep {z TI TO i1 i2 a c : Addr} (D : Apart z TI TO i1 i2 a c) : ZipSep2 z TI TO i1 i2 [i1, a] [i2, c] := by
  have h1 := D.nd
  have h2 := D.na
  have h3 := D.nc
  simp only [List.nodup_cons, List.mem_cons, List.not_mem_nil, or_false, not_or, List.nodup_nil, and_true, not_false_eq_true] at h1 h2 h3
  obtain ⟨⟨a1, a2, a3, a4⟩, ⟨b1, b2, b3⟩, ⟨c1, c2⟩, d1⟩ := h1
  obtain ⟨e1, e2, e3, e4, e5⟩ := h2
  obtain ⟨f1, f2, f3, f4, f5⟩ := h3
  refine ⟨Ne.symm a1, Ne.symm a2, b1, b2, by simp, ?_, ?_, b3, by simp, ?_, ?_, ?_, ?_⟩
  · simp only [List.mem_cons, List.not_mem_nil, or_false, not_or]; exact ⟨a3, Ne.symm e1⟩
  · simp only [List.mem_cons, List.not_mem_nil, or_false, not_or]; exact ⟨c1, Ne.symm e3⟩
  · simp only [List.mem_cons, List.not_mem_nil, or_false, not_or]; exact ⟨a4, Ne.symm f1⟩
  · simp only [List.mem_cons, List.not_mem_nil, or_false, not_or]; exact ⟨c2, Ne.symm f3⟩
  · simp only [List.mem_cons, List.not_mem_nil, or_false, not_or]; exact ⟨d1, Ne.symm f4⟩
  · simp only [List.mem_cons, List.not_mem_nil, or_false, not_or]; exact ⟨Ne.symm d1, Ne.symm e5⟩
theorem turn_zipX {P : Program} {w : World} {K : PySem.W.Frag} {elts : List Expr} {kk : Nat} {tpos : Pos} {b1 b2 : Bool} {a c z TI TO i1 i2 : Addr} (D : Apart z TI TO i1 i2 a c) :
    Turn P w K (.Tuple elts kk tpos) (ItX K b1 b2 a c) [z, TI, TO, i1, i2] z (fun i h => IsZip h z TI TO .none ∧ IsTupOf2 h TI (.ref i1) (.ref i2) ∧ (∃ x y, IsTupOf2 h TO x y) ∧ ItB b1 h i1 a i ∧ ItB b2 h i2 c i) where
  mem := List.mem_cons_self
  obj := fun i h st q hq => by
    obtain ⟨hz, hTI, ⟨x, y, hTO⟩, q1, q2⟩ := st
    simp only [List.mem_cons, List.not_mem_nil, or_false] at hq
    rcases hq with r | r | r | r | r <;> subst r
    · exact ⟨_, hz, fun v u => nomatch u⟩
    · exact ⟨_, hTI, fun v u => nomatch u⟩
    · exact ⟨_, hTO, fun v u => nomatch u⟩
    · exact itb_obj q1
    · exact itb_obj q2
  keep := fun i h h' st k => by
    obtain ⟨hz, hTI, ⟨x, y, hTO⟩, q1, q2⟩ := st
    exact ⟨k z (by simp) _ hz, k TI (by simp) _ hTI, ⟨x, y, k TO (by simp) _ hTO⟩, itb_at q1 fun o e => k i1 (by simp) o e, itb_at q2 fun o e => k i2 (by simp) o e⟩
  item := by
    intro X hP hw hK hc i pins s σ H E I hf st hg
    subst hP hw hK
    obtain ⟨hz, hTI, ⟨x0, y0, hTO⟩, q1, q2⟩ := st
    obtain ⟨xs, ys, x, y, sx, sy, hx, hy⟩ := hg
    obtain ⟨its, rx, px⟩ := seq_b I sx
    obtain ⟨jts, ry, py⟩ := seq_b I sy
    obtain ⟨u, hu, ru⟩ := rx.get hx
    obtain ⟨v, hv, rv⟩ := ry.get hy
    have hh : X.A.in1.handled = none := I.ok.hd hc
    have hua : its.toArray[i]? = some u := by simpa using hu
    have hva : jts.toArray[i]? = some v := by simpa using hv
    have S := D.sep
    have lz : z < s.heap.objs.size := Heap.lt_size hz
    have d0 := D.na
    have d1 := D.nc
    simp only [List.mem_cons, List.not_mem_nil, or_false, not_or] at d0 d1
    refine wpAny_pyNext_zipD2_item S (draws_b hh b1 i1 a d0.2.2.2.1 its.toArray) (draws_b hh b2 i2 c d1.2.2.2.2 jts.toArray) hz hTI hTO ⟨q1, px⟩ ⟨q2, py⟩ (Array.getElem?_eq_some_iff.mp hua).1 (Array.getElem?_eq_some_iff.mp hva).1 fun u' v' h' tk e1 e2 z' TO' s1 s2 hT hsz hk => ?_
    rw [hua] at e1
    rw [hva] at e2
    cases e1
    cases e2
    refine ⟨_, rfl, wpAny_letOwnedTupleGo_zip (s := { s with heap := h', toks := tk }) z' fun h'' z'' sb => ?_⟩
    have hT2 : h''.get? s.heap.objs.size = some { cls := .type "tuple", data := .seq #[u, v] } := (sb.2 _ (Nat.ne_of_gt lz)).trans hT
    have new : ObjOk X.prog X.w (upd H s.heap.objs.size (.tup [x, y])) h'' s.heap.objs.size (.tup [x, y]) := ⟨by show 2 ≤ sizeLine; decide, [u, v], .cons ru (.cons rv .nil), ⟨_, hT2, rfl, _, rfl⟩⟩
    have keep : ∀ q o, q ∉ [z, TI, TO, i1, i2] → s.heap.get? q = some o → h''.get? q = some o := fun q o hq e => by
      simp only [List.mem_cons, List.not_mem_nil, or_false, not_or] at hq
      exact (sb.2 q hq.1).trans (hk q o hq.1 hq.2.2.1 hq.2.2.2.1 hq.2.2.2.2 e)
    have I1 : Inv X pins σ (upd H s.heap.objs.size (.tup [x, y])) { s with heap := h'', toks := tk } := I.turnedNew keep hf (Nat.le_refl _) new
    refine ⟨.ref s.heap.objs.size, _, I1, rfl, ⟨_, x, y, rfl, I.hok.fresh (Nat.le_refl _), rfl, fun l hl => by rw [seq_inj I hl sx]; exact hx, fun l hl => by rw [seq_inj I hl sy]; exact hy⟩, ⟨z'', ?_, ⟨u, v, ?_⟩, ?_, ?_⟩, fun q hq => ?_⟩
    · exact (sb.2 _ S.TIz).trans (hk _ _ S.TIz S.TITO S.TIi1 S.TIi2 hTI)
    · exact (sb.2 _ S.TOz).trans TO'
    · exact itb_at s1.1 fun o e => (sb.2 _ (Ne.symm S.zi1)).trans e
    · exact itb_at s2.1 fun o e => (sb.2 _ (Ne.symm S.zi2)).trans e
    · have hlt : q < s.heap.objs.size := by
        simp only [List.mem_cons, List.not_mem_nil, or_false] at hq
        rcases hq with r | r | r | r | r <;> subst r
        · exact lz
        · exact Heap.lt_size hTI
        · exact Heap.lt_size hTO
        · obtain ⟨_, e, _⟩ := itb_obj q1; exact Heap.lt_size e
        · obtain ⟨_, e, _⟩ := itb_obj q2; exact Heap.lt_size e
      rw [upd_ne (Nat.ne_of_lt hlt)]
      exact (hf q hq).1
  done := by
    intro X hP hw hK hc i pins s σ H E I hf st hg
    subst hP hw hK
    obtain ⟨hz, hTI, ⟨x0, y0, hTO⟩, q1, q2⟩ := st
    obtain ⟨xs, ys, sx, sy, l1, l2, hend⟩ := hg
    obtain ⟨its, rx, px⟩ := seq_b I sx
    obtain ⟨jts, ry, py⟩ := seq_b I sy
    have hh : X.A.in1.handled = none := I.ok.hd hc
    have n1 : its.toArray.size = xs.length := by rw [List.size_toArray, rx.length]
    have n2 : jts.toArray.size = ys.length := by rw [List.size_toArray, ry.length]
    have d0 := D.na
    have d1 := D.nc
    simp only [List.mem_cons, List.not_mem_nil, or_false, not_or] at d0 d1
    refine wpAny_pyNext_zipD2_end D.sep (draws_b hh b1 i1 a d0.2.2.2.1 its.toArray) (draws_b hh b2 i2 c d1.2.2.2.2 jts.toArray) hz hTI hTO ⟨q1, px⟩ ⟨q2, py⟩ (by omega) (by omega) (by omega) fun h' tk hk => ⟨rfl, ?_⟩
    refine I.turnedL (ch := [z, TI, TO, i1, i2]) (fun q o hq e => ?_) hf
    simp only [List.mem_cons, List.not_mem_nil, or_false, not_or] at hq
    exact hk q o hq.1 hq.2.2.1 hq.2.2.2.1 hq.2.2.2.2 e
  self := fun A i s Q E st h => wpAny_pyIter_zip st.1 h
def iZipX (K : PySem.W.Frag) (ta : TA) : TI := fun σ H R => ta σ H fun vs H1 => ∃ b1 b2 a c xs ys, vs = [.ref a, .ref c] ∧ SqB K H1 b1 a xs ∧ SqB K H1 b2 c ys ∧ R (ItX K b1 b2 a c) H1
theorem pi_zipX {X : Cx} {e e2 : Expr} {ta : TA} {p pos tpos : Pos} {elts : List Expr} {kk : Nat} (hg : Gl X "zip") (hm : X.mg "zip" = none) (ha : PA X [e, e2] ta)
    (hs : starEach [e, e2] X.env = (false, eval e X.env) :: starEach [e2] X.env := by rfl) (hpl : (backTo pos (starEach [e2] X.env)).any (·.1) = false := by rfl) : PI X (.Tuple elts kk tpos) (.Call (.Name "zip" p) [e, e2] [] pos) (iZipX X.K ta) := by
  refine ⟨fun pins s σ H R I h => ?_⟩
  refine Call_ (ld_blt I hg hm PyProof.Rows.boot_zip (PyProof.Rows.callWith_type1 (thn (ha.run pos pins s σ H _ I h) fun us s1 h1 => ?_) hs hpl))
  obtain ⟨vs, H1, I1, r1, b1, b2, a, c, xs, ys, ev, sx, sy, q⟩ := h1
  subst ev
  obtain ⟨u1, u2, eu, q1, q2⟩ := vals2 r1
  subst eu
  cases q1
  cases q2
  obtain ⟨its, rx, px⟩ := seq_b I1 sx
  obtain ⟨jts, ry, py⟩ := seq_b I1 sy
  have la := seb_lt px
  have lc := seb_lt py
  refine zip_begins2 (begins_b b1 a its.toArray) (begins_b b2 c jts.toArray) px py fun h' hz hTI hTO g1 g2 hsz hk => wpAny_pyIter_zip hz ?_
  have I2 : Inv X pins σ H1 { s1 with heap := h' } := I1.kept (t' := s1.toks) hk
  generalize hn : s1.heap.objs.size = n at hz hTI hTO g1 g2 hsz la lc
  have fresh5 : ∀ q ∈ [n + 4, n + 2, n + 3, n, n + 1], FpOk X pins H1 q := fun q hq => by
    have hle : s1.heap.objs.size ≤ q := by
      rw [hn]
      simp only [List.mem_cons, List.not_mem_nil, or_false] at hq
      rcases hq with r | r | r | r | r <;> rw [r] <;> first | exact Nat.le_add_right _ _ | exact Nat.le_refl _
    exact I1.fpOk hle (I1.hok.fresh hle)
  refine ⟨n + 4, [n + 4, n + 2, n + 3, n, n + 1], _, _, H1, rfl, I2, turn_zipX (b1 := b1) (b2 := b2) (a := a) (c := c) ⟨?_, ?_, ?_⟩, ⟨hz, hTI, ⟨_, _, hTO⟩, itb_new g1, itb_new g2⟩, fresh5, q⟩
  · have key : ∀ m : Nat, ([m + 4, m + 2, m + 3, m, m + 1] : List Nat).Nodup := fun m => by simp
    exact key n
  · have key : ∀ m k : Nat, k < m → k ∉ ([m + 4, m + 2, m + 3, m, m + 1] : List Nat) := fun m k hk => by simp; omega
    exact key n a la
  · have key : ∀ m k : Nat, k < m → k ∉ ([m + 4, m + 2, m + 3, m, m + 1] : List Nat) := fun m k hk => by simp; omega
    exact key n c lc
section
variable {X : Cx} {ρ : DEnv} {e e2 : Expr} {Q : List PyData → DEnv → Prop} {p pos : Pos}
theorem sqb_ex {K : PySem.W.Frag} {H H' : Hp} {b : Bool} {a : Addr} {xs : List V} (x : Ex H H') (h : SqB K H b a xs) : SqB K H' b a xs := by
  cases b with
  | true => simpa [SqB] using ex_t x (by simpa [SqB] using h)
  | false => simpa [SqB] using ex_l x (by simpa [SqB] using h)
theorem walk_zipX {K : PySem.W.Frag} {H1 : Hp} {M O S : List Addr} {b1 b2 : Bool} {a c : Addr} {vs ws : List V} {xs ys : List PyData} (h1 : SqB K (off (O ++ M) H1) b1 a vs) (h2 : SqB K (off (O ++ M) H1) b2 c ws) (r1 : DpAll K (off (O ++ M) H1) vs xs) (r2 : DpAll K (off (O ++ M) H1) ws ys) :
    ∀ (O' : List Addr) (ρ' : DEnv) (σ' : L2.St) (H' : Hp), EnvOk K (off (S ++ O) H1) M O' S ρ' σ' H' → (∀ i, i < (zipD xs ys).length → (ItX K b1 b2 a c).go i H') ∧ (∀ i, (zipD xs ys).length = i → (ItX K b1 b2 a c).stop i H') ∧
      ∀ i x v H'', (zipD xs ys)[i]? = some x → (ItX K b1 b2 a c).yld i H' v H'' → Ex H' H'' ∧ Dp K (off (O' ++ M) H'') v x := fun O' ρ' σ' H' F => by
  have s1 : SqB K H' b1 a vs := sqb_ex off_ex (sqb_ex F.stay' h1)
  have s2 : SqB K H' b2 c ws := sqb_ex off_ex (sqb_ex F.stay' h2)
  have l1 := dpa_length r1
  have l2 := dpa_length r2
  have ll : (zipD xs ys).length = min xs.length ys.length := by unfold zipD; simp
  refine ⟨fun i hi => ?_, fun i hi => ⟨vs, ws, s1, s2, by rw [ll] at hi; omega, by rw [ll] at hi; omega, by rw [ll] at hi; omega⟩, fun i x v H'' hx hy => ?_⟩
  · rw [ll] at hi
    obtain ⟨x, hx⟩ := get_lt (xs := vs) (i := i) (by omega)
    obtain ⟨y, hy⟩ := get_lt (xs := ws) (i := i) (by omega)
    exact ⟨vs, ws, x, y, s1, s2, hx, hy⟩
  · obtain ⟨T, y, z, ev, hT, eH, f1, f2⟩ := hy
    subst ev eH
    obtain ⟨dx, hdx, rx⟩ := dpa_getV (dpAll_mono F.stay' r1) (f1 vs s1)
    obtain ⟨dy, hdy, ry⟩ := dpa_getV (dpAll_mono F.stay' r2) (f2 ws s2)
    have : x = .tuple [dx, dy] := by
      unfold zipD at hx
      rw [List.getElem?_map, (List.getElem?_zip_eq_some (z := (dx, dy))).mpr ⟨hdx, hdy⟩] at hx
      exact (Option.some.inj hx).symm
    subst this
    have np := (F.outS hT).1
    exact ⟨Ex.new hT, .tup (SqT.of (by rw [off_out np, upd_same])) (.cons (dp_mono (off_mono (Ex.new hT)) rx) (.cons (dp_mono (off_mono (Ex.new hT)) ry) .nil))⟩
/-- zip(x, y), each a tuple or a list -/
theorem ei_zipX {elts : List Expr} {kk : Nat} {tpos : Pos} (hg : Gl X "zip") (hm : X.mg "zip" = none) (h : EvP X e ρ fun d1 ρ1 => EvP X e2 ρ1 fun d2 ρ2 => ∃ xs ys, (d1 = dT xs ∨ d1 = dL xs) ∧ (d2 = dT ys ∨ d2 = dL ys) ∧ Q (zipD xs ys) ρ2)
    (hs : starEach [e, e2] X.env = (false, eval e X.env) :: starEach [e2] X.env := by rfl) (hs2 : starEach [e2] X.env = (false, eval e2 X.env) :: starEach [] X.env := by rfl) : EvI X (.Tuple elts kk tpos) (.Call (.Name "zip" p) [e, e2] [] pos) ρ Q := by
  intro H0 M O S σ H E R k
  refine ⟨_, pi_zipX hg hm (pa_cons pe_w (pa_cons pe_w pa_nil hs2) hs) hs (by rw [hs2]; rfl), ?_⟩
  refine ev_two (Z := fun d1 d2 ρ2 => ∃ xs ys, (d1 = dT xs ∨ d1 = dL xs) ∧ (d2 = dT ys ∨ d2 = dL ys) ∧ Q (zipD xs ys) ρ2) h E fun v1 v2 H2 d1 d2 ρ2 ⟨xs, ys, h1, h2, q⟩ E2 r1 r2 => ?_
  have sides : ∀ {v : V} {d : Dt} {zs : List PyData}, DtR X.K (off (O ++ M) H2) v d → (d = dT zs ∨ d = dL zs) → ∃ b a vs, v = .ref a ∧ SqB X.K (off (O ++ M) H2) b a vs ∧ DpAll X.K (off (O ++ M) H2) vs zs := fun {v d zs} r hd => by
    rcases hd with hd | hd <;> subst hd
    · cases r with
      | tup a1 a2 => exact ⟨true, _, _, rfl, by simpa [SqB] using a1, a2⟩
    · cases r with
      | lst a1 a2 => exact ⟨false, _, _, rfl, by simpa [SqB] using a1, a2⟩
  obtain ⟨b1, a, vs, e1, s1, q1⟩ := sides r1 h1
  obtain ⟨b2, c, ws, e2', s2, q2⟩ := sides r2 h2
  subst e1 e2'
  exact ⟨b1, b2, a, c, vs, ws, rfl, sqb_ex off_ex s1, sqb_ex off_ex s2, k _ H2 _ ρ2 q E2 (walk_zipX s1 s2 q1 q2)⟩
end
/-! ### enumerate of a tuple or a list -/
def ItN (K : PySem.W.Frag) (b : Bool) (a : Addr) : It :=
  ⟨fun i H => ∃ (xs : List V) (x : V), SqB K H b a xs ∧ xs[i]? = some x, fun i H v H' => ∃ T x, v = .ref T ∧ H T = none ∧ H' = upd H T (.tup [.int (i : Nat), x]) ∧ ∀ xs, SqB K H b a xs → xs[i]? = some x, fun i H => ∃ xs : List V, SqB K H b a xs ∧ xs.length = i⟩
end DL
end
section
set_option Elab.async false
set_option linter.all false
set_option maxRecDepth 100000
set_option maxHeartbeats 4000000
/-! enumerate of a tuple or a list. -/
namespace DL
open PySem PySem.Spec PyProof.Rows L2 Evl

theorem meets_en1 {v : Value} {o : Obj} {H : Heap → Prop} (B : Begins v o H) :
    Meets (Builtin.«enumerate.__new__» ⟨[.type "enumerate", v], []⟩) (fun _ R s => H s.heap ∧
      R (.ok (.ret (.ref (s.heap.push o).objs.size))) { s with heap := (s.heap.push o).push { cls := .type "enumerate", data := .fields #[.none, .bool false, .ref s.heap.objs.size, rawInt 0, .none, .none] } }) :=
  .of_wp fun prog w A R s z => by
    obtain ⟨hp, gn, dr, tk, os⟩ := s
    obtain ⟨z1, z2⟩ := z
    have sub := sub_enumerate
    have begin_ : ∀ {A' : Around} {E' : Value → Shared → Prop} {Q' : Value → Shared → Prop}, Q' (.ref hp.objs.size) ⟨hp.push o, gn, dr, tk, os⟩ → wpAny (model prog w) A' (pyIter v) Q' E' ⟨hp, gn, dr, tk, os⟩ := fun q => B.iter prog w _ _ ⟨hp, gn, dr, tk, os⟩ _ z1 q
    wp_walk using begin_
    refine wpAny_stack_any fun st => wpAny_pure ?_
    split
    · rename_i c _ _ _ _ _
      cases (c == Value.type "enumerate")
      · wp_walk using begin_
        exact ⟨_, rfl, z2⟩
      · wp_walk using begin_
        exact ⟨_, rfl, z2⟩
    · wp_walk using begin_
      exact ⟨_, rfl, z2⟩
theorem en1_begins {prog : Program} {w : World} {A : Around} {E : Value → Shared → Prop} {s : Shared} {v : Value} {o : Obj} {H : Heap → Prop} {Q : Value → Shared → Prop} (B : Begins v o H) (h1 : H s.heap)
    (k : ∀ h', IsEnum h' (s.heap.objs.size + 1) s.heap.objs.size 0 .none → h'.get? s.heap.objs.size = some o → (∀ q u, s.heap.get? q = some u → h'.get? q = some u) → Q (.ref (s.heap.objs.size + 1)) { s with heap := h' }) : wpAny (model prog w) A (call (.type "enumerate") [v]) Q E s := by
  refine callType_new F.called_enumerate (by decide) (F.typeCall_enumerate_1 _) (F.newCall_enumerate_1 _) (fun obj => F.args_object_init_2 obj _) F.entry_enumerate_new (meets_en1 B) ⟨h1, ?_⟩
  have sz : (s.heap.push o).objs.size = s.heap.objs.size + 1 := Heap.size_push ..
  have at1 : IsEnum ((s.heap.push o).push { cls := .type "enumerate", data := .fields #[.none, .bool false, .ref s.heap.objs.size, rawInt 0, .none, .none] }) (s.heap.push o).objs.size s.heap.objs.size 0 .none := Heap.get?_push_size _ rfl
  show _ ∧ _
  rw [sz] at at1 ⊢
  exact ⟨⟨_, at1, rfl⟩, k _ at1 (Heap.get?_push_of_some _ (Heap.get?_push_size _ B.free)) fun q u e => Heap.get?_push_of_some _ (Heap.get?_push_of_some _ e)⟩
theorem turn_enumX {P : Program} {w : World} {K : PySem.W.Frag} {elts : List Expr} {kk : Nat} {tpos : Pos} {b : Bool} {a e it : Addr} (hne : e ≠ it) (ha : a ≠ it) (hae : a ≠ e) :
    Turn P w K (.Tuple elts kk tpos) (ItN K b a) [e, it] e (fun i h => (∃ old, IsEnum h e it ((i : Nat) : Int) old) ∧ ItB b h it a i) where
  mem := List.mem_cons_self
  obj := fun i h st q hq => by
    obtain ⟨⟨old, he⟩, hi⟩ := st
    simp only [List.mem_cons, List.not_mem_nil, or_false] at hq
    rcases hq with r | r <;> subst r
    · exact ⟨_, he, fun v u => nomatch u⟩
    · exact itb_obj hi
  keep := fun i h h' st k => by
    obtain ⟨⟨old, he⟩, hi⟩ := st
    exact ⟨⟨old, k e (by simp) _ he⟩, itb_at hi fun o z => k it (by simp) o z⟩
  item := by
    intro X hP hw hK hc i pins s σ H E I hf st hg
    subst hP hw hK
    obtain ⟨⟨old, he⟩, hit⟩ := st
    obtain ⟨xs, x, sx, hx⟩ := hg
    obtain ⟨its, rx, px⟩ := seq_b I sx
    obtain ⟨u, hu, ru⟩ := rx.get hx
    have hh : X.A.in1.handled = none := I.ok.hd hc
    have hua : its.toArray[i]? = some u := by simpa using hu
    have le : e < s.heap.objs.size := Heap.lt_size he
    have li : it < s.heap.objs.size := by obtain ⟨_, z, _⟩ := itb_obj hit; exact Heap.lt_size z
    refine wpAny_pyNext_enum_itemD (draws_b hh b it a ha its.toArray) he ⟨hit, px⟩ (Array.getElem?_eq_some_iff.mp hua).1 hne (by simp only [List.mem_cons, List.not_mem_nil, or_false, not_or]; exact ⟨hne, Ne.symm hae⟩) fun x' h' tk e1 ho hst' hT hsz hk => ?_
    rw [hua] at e1
    cases e1
    refine ⟨_, rfl, wpAny_letOwnedTupleGo_enum (s := { s with heap := h', toks := tk + 1 }) ho fun h'' he' sb => ?_⟩
    have hT2 : h''.get? s.heap.objs.size = some { cls := .type "tuple", data := .seq #[.int i tk, u] } := (sb.2 _ (Nat.ne_of_gt le)).trans hT
    have new : ObjOk X.prog X.w (upd H s.heap.objs.size (.tup [.int (i : Nat), x])) h'' s.heap.objs.size (.tup [.int (i : Nat), x]) := ⟨by show 2 ≤ sizeLine; decide, [.int i tk, u], .cons ⟨_, rfl⟩ (.cons ru .nil), ⟨_, hT2, rfl, _, rfl⟩⟩
    have keep : ∀ q o, q ∉ [e, it] → s.heap.get? q = some o → h''.get? q = some o := fun q o hq z => by
      simp only [List.mem_cons, List.not_mem_nil, or_false, not_or] at hq
      exact (sb.2 q hq.1).trans (hk q o hq.1 hq.2 z)
    have I1 : Inv X pins σ (upd H s.heap.objs.size (.tup [.int (i : Nat), x])) { s with heap := h'', toks := tk + 1 } := I.turnedNew keep hf (Nat.le_refl _) new
    refine ⟨.ref s.heap.objs.size, _, I1, rfl, ⟨_, x, rfl, I.hok.fresh (Nat.le_refl _), rfl, fun l hl => by rw [seq_inj I hl sx]; exact hx⟩, ⟨⟨u, ?_⟩, ?_⟩, fun q hq => ?_⟩
    · have e1 : ((i + 1 : Nat) : Int) = (i : Int) + 1 := by omega
      rw [e1]
      exact he'
    · exact itb_at hst'.1 fun o z => (sb.2 _ (Ne.symm hne)).trans z
    · have hlt : q < s.heap.objs.size := by
        simp only [List.mem_cons, List.not_mem_nil, or_false] at hq
        rcases hq with r | r <;> subst r
        · exact le
        · exact li
      rw [upd_ne (Nat.ne_of_lt hlt)]
      exact (hf q hq).1
  done := by
    intro X hP hw hK hc i pins s σ H E I hf st hg
    subst hP hw hK
    obtain ⟨⟨old, he⟩, hit⟩ := st
    obtain ⟨xs, sx, hend⟩ := hg
    obtain ⟨its, rx, px⟩ := seq_b I sx
    have hh : X.A.in1.handled = none := I.ok.hd hc
    have n1 : its.toArray.size = i := by rw [List.size_toArray, ← rx.length, hend]
    obtain ⟨f0, f1, f2, f3, f4, f5⟩ := hf it (by simp)
    exact wpAny_pyNext_enum_endD (draws_b hh b it a ha its.toArray) he (by rw [n1]; exact ⟨hit, px⟩) fun h' eb => ⟨rfl, I.turned (t' := s.toks) (fun q o hq z => eb q o hq z) f0 f1 f3 f4 f5⟩
  self := fun A i s Q E st h => let ⟨⟨_, he⟩, _⟩ := st; wpAny_pyIter_enum he h
def iEnX (K : PySem.W.Frag) (ta : TA) : TI := fun σ H R => ta σ H fun vs H1 => ∃ b a xs, vs = [.ref a] ∧ SqB K H1 b a xs ∧ R (ItN K b a) H1
theorem pi_enumX {X : Cx} {e : Expr} {ta : TA} {p pos tpos : Pos} {elts : List Expr} {kk : Nat} (hg : Gl X "enumerate") (hm : X.mg "enumerate" = none) (ha : PA X [e] ta) (hs : starEach [e] X.env = [(false, eval e X.env)] := by rfl) :
    PI X (.Tuple elts kk tpos) (.Call (.Name "enumerate" p) [e] [] pos) (iEnX X.K ta) := by
  refine ⟨fun pins s σ H R I h => ?_⟩
  refine Call_ (ld_blt I hg hm boot_enumerate (PyProof.Rows.callWith_type1 (thn (ha.run pos pins s σ H _ I h) fun us s1 h1 => ?_) hs rfl))
  obtain ⟨vs, H1, I1, r1, b, a, xs, ev, sx, q⟩ := h1
  subst ev
  obtain ⟨u1, eu, q1⟩ := vals1 r1
  subst eu
  cases q1
  obtain ⟨its, rx, px⟩ := seq_b I1 sx
  have la := seb_lt px
  refine en1_begins (begins_b b a its.toArray) px fun h' he g1 hk => wpAny_pyIter_enum he ?_
  have I2 : Inv X pins σ H1 { s1 with heap := h' } := I1.kept (t' := s1.toks) hk
  refine ⟨s1.heap.objs.size + 1, [s1.heap.objs.size + 1, s1.heap.objs.size], _, _, H1, rfl, I2, turn_enumX (b := b) (a := a) (Nat.succ_ne_self _) (Nat.ne_of_lt la) (Nat.ne_of_lt (Nat.lt_succ_of_lt la)), ⟨⟨.none, he⟩, itb_new g1⟩, fun z hz => ?_, q⟩
  have hle : s1.heap.objs.size ≤ z := by
    simp only [List.mem_cons, List.not_mem_nil, or_false] at hz
    rcases hz with r | r <;> rw [r]
    · exact Nat.le_succ _
    · exact Nat.le_refl _
  exact I1.fpOk hle (I1.hok.fresh hle)
section
variable {X : Cx} {ρ : DEnv} {e : Expr} {Q : List PyData → DEnv → Prop} {p pos : Pos}
/-- enumerate(x), x a tuple or a list -/
theorem ei_enum {elts : List Expr} {kk : Nat} {tpos : Pos} (hg : Gl X "enumerate") (hm : X.mg "enumerate" = none) (h : EvP X e ρ fun d ρ1 => ∃ xs, (d = dT xs ∨ d = dL xs) ∧ Q (enumD xs) ρ1) (hs : starEach [e] X.env = [(false, eval e X.env)] := by rfl) : EvI X (.Tuple elts kk tpos) (.Call (.Name "enumerate" p) [e] [] pos) ρ Q :=
  fun H0 M O S σ H E R k => ⟨_, pi_enumX hg hm (pa_cons pe_w pa_nil hs) hs, h H0 M O S σ H E _ fun v H1 d ρ1 ⟨xs, hd, q⟩ E1 r => by
    have side : ∃ b a vs, v = .ref a ∧ SqB X.K (off (O ++ M) H1) b a vs ∧ DpAll X.K (off (O ++ M) H1) vs xs := by
      rcases hd with hd | hd <;> subst hd
      · cases r with
        | tup a1 a2 => exact ⟨true, _, _, rfl, by simpa [SqB] using a1, a2⟩
      · cases r with
        | lst a1 a2 => exact ⟨false, _, _, rfl, by simpa [SqB] using a1, a2⟩
    obtain ⟨b, a, vs, e1, s1, h2⟩ := side
    subst e1
    refine ⟨b, a, vs, rfl, sqb_ex off_ex s1, k _ H1 _ ρ1 q E1 fun O' ρ' σ' H' F => ?_⟩
    have s2 : SqB X.K H' b a vs := sqb_ex off_ex (sqb_ex F.stay' s1)
    have hl := dpa_length h2
    have ll : (enumD xs).length = xs.length := by unfold enumD; simp
    refine ⟨fun i hi => ?_, fun i hi => ⟨vs, s2, by rw [ll] at hi; omega⟩, fun i x v H'' hx hy => ?_⟩
    · rw [ll] at hi
      obtain ⟨y, hy⟩ := get_lt (xs := vs) (i := i) (by omega)
      exact ⟨vs, y, s2, hy⟩
    · obtain ⟨T, y, ev, hT, eH, f1⟩ := hy
      subst ev eH
      obtain ⟨dy, hdy, ry⟩ := dpa_getV (dpAll_mono F.stay' h2) (f1 vs s2)
      have := enumD_get hx hdy
      subst this
      have np := (F.outS hT).1
      exact ⟨Ex.new hT, .tup (SqT.of (by rw [off_out np, upd_same])) (.cons (.int _) (.cons (dp_mono (off_mono (Ex.new hT)) ry) .nil))⟩⟩
end
end DL
end
section
set_option Elab.async false
set_option linter.all false
set_option maxRecDepth 100000
set_option maxHeartbeats 4000000
namespace K87
open PySem PySem.Spec PyProof.Rows L2 DL
section
variable {P : Program} {w : World} {K : PySem.W.Frag} {mg : Str → Option Value} {base : Heap} {f : Addr} {fd : FuncData}
/-! ### has_row -/
abbrev sHas : Stmt := top 17
abbrev nHas : List Str := ["rows", "row", "prime"]
theorem scHas : FnScope nHas ["rows", "row", "prime"] (defScope sHas) := ⟨rfl, rfl, rfl, by decide +kernel, rfl, by decide +kernel, by decide +kernel⟩
def zeroL (a : List Int) : Bool := a.all (· == 0)
theorem any_ne (a : List Int) : ((a.map fun x => (x != 0)).any id) = !zeroL a := by
  unfold zeroL
  rw [List.any_map, List.not_all_eq_any_not]
  rfl
theorem tru_ints (a : List Int) : (pI a).map truP = (a.map fun x => (x != 0)).map some := by
  rw [List.map_map, List.map_map]
  rfl
def tHas : Tr := fun ds Z => ∃ (p : Int) (n : Nat) (row : List Int) (rows : List (List Int)), ds = [dL (rows.map pT), dT (pI row), dI p] ∧ 0 < p ∧ p ≤ 1000 ∧ n ≤ 1000 ∧ Wf p n row ∧ Rows p n rows ∧ Z (dB (zeroL (restL p row rows)))
theorem own_has (B : Bl mg) (h : At K mg "has_row" sHas f fd) (oR : Own P w K mg base 2 "rest_of" (spP K tRest)) : Own P w K mg base 3 "has_row" (spP K tHas) := by
  refine def_pure h.fn scHas h.mg (h.fn.binds fun _ _ _ _ _ _ us hl => match us, hl with | [_, _, _], _ => rfl) (fun ds Z ⟨_, _, _, _, e, _⟩ => by rw [e]; rfl) fun cdv A outer s H E hr ds Z ⟨p, n, row, rows, ed, hp, hp2, hn, hw, hrs, q⟩ => ?_
  subst ed
  refine run_one (rs_ret (ev_not (ev_any rfl rfl B.any (by decide +kernel) (eq_tup ?_))))
  refine ev_call oR hr rfl (ea_cons (ev_v 1 rfl ?_))
  refine ea_cons (ev_v 0 rfl ?_)
  refine ea_cons (ev_v 2 rfl (ea_nil ⟨p, n, row, rows, rfl, hp, hp2, hn, hw, hrs, _, rfl, _, tru_ints _, _, rfl, ?_⟩))
  rw [any_ne, Bool.not_not]
  exact q
/-! ### value_of -/
abbrev sVal : Stmt := top 18
abbrev nVal : List Str := ["row", "data", "prime", "factor", "value"]
theorem scVal : FnScope nVal ["row", "data", "prime"] (defScope sVal) := ⟨rfl, rfl, rfl, by decide +kernel, rfl, by decide +kernel, by decide +kernel⟩
def tVal : Tr := fun ds Z => ∃ (p : Int) (row data : List Int) (d : Dt), ds = [dT (pI row), d, dI p] ∧ (d = dT (pI data) ∨ d = dL (pI data)) ∧ 0 < p ∧ row.length ≤ 1000 ∧ (∀ x ∈ row, -(2 ^ 64) < x ∧ x < 2 ^ 64) ∧ Z (dI (valL p row data))
theorem own_val (B : Bl mg) (h : At K mg "value_of" sVal f fd) : Own P w K mg base 1 "value_of" (spP K tVal) := by
  refine def_pure h.fn scVal h.mg (h.fn.binds fun _ _ _ _ _ _ us hl => match us, hl with | [_, _, _], _ => rfl) (fun ds Z ⟨_, _, _, _, e, _⟩ => by rw [e]; rfl) fun cdv A outer s H E hr ds Z ⟨p, row, data, d, ed, hd, hp, hl, hb, q⟩ => ?_
  subst ed
  refine run_one (rs_ret (ev_mod (ev_sum rfl rfl B.sum (by decide +kernel) (eq_list (ev_new ?_)))))
  refine en_lc (own := [("factor", 3), ("value", 4)]) (.tup [3, 4]) rfl scVal.nd rfl (blkOk_by (N := nVal) (sc := defScope sVal) (by decide +kernel))
    (fun _ _ _ _ _ => pg_tup rfl (pgs_cons (pg_name (i := 3) scVal.nd rfl (Or.inl rfl)) (pgs_cons (pg_name (i := 4) scVal.nd rfl (Or.inl rfl)) pgs_nil))) (lch_map (fun z => match z with | .tuple [.int x, .int y] => .int (x * y) | d => d) ?_)
  refine ei_zipX rfl B.zip (ev_v 0 rfl (ev_v 1 rfl ⟨_, _, .inl rfl, hd, ?_, fun i z hz => ?_, ?_⟩))
  · rw [zipD_len, len_pI, len_pI]
    exact sz (by omega)
  · obtain ⟨x, y, hx, hy, ez⟩ := zip_ints hz
    subst ez
    exact ⟨_, rfl, fun s H C cl fp => ev_mul (ev_v 3 rfl (ev_v 4 rfl ⟨x, y, rfl, rfl, .inl (hb x (List.mem_of_getElem? hx)), rfl, rfl⟩))⟩
  · refine ⟨_, rfl, _, rfl, zip_map _ _ _, ev_v 2 rfl ⟨_, _, rfl, rfl, hp, ?_⟩⟩
    exact q
/-! ### is_data -/
abbrev sData : Stmt := top 28
abbrev nData : List Str := ["prime", "size", "value", "number"]
theorem scData : FnScope nData ["prime", "size", "value"] (defScope sData) := ⟨rfl, rfl, rfl, by decide +kernel, rfl, by decide +kernel, by decide +kernel⟩
def tData : Tr := fun ds Z => ∃ (p n : Int) (v : PyData), ds = [dI p, dI n, .d v] ∧ sizeD (.int p) (.int n) = true ∧ Z (dB (dataD p n v))
theorem sizeD_n {p n : Int} (h : sizeD (.int p) (.int n) = true) : 1 ≤ n ∧ n ≤ 6 ∧ 2 ≤ p ∧ p ≤ 7 := by
  unfold sizeD at h
  rw [Bool.and_eq_true, Bool.and_eq_true] at h
  obtain ⟨i, e1, h1, h2⟩ := primeD_int h.1.1
  obtain ⟨j, e2, h3, h4⟩ := betw_int h.1.2
  cases e1
  cases e2
  exact ⟨h3, h4, h1, h2⟩
theorem tru_bools (bs : List Bool) : (pB bs).map truP = bs.map some := by
  rw [List.map_map]
  rfl
theorem map_betw (f : PyData → Bool) (xs : List PyData) : xs.map (fun x => PyData.bool (f x)) = pB (xs.map f) := by
  show _ = List.map PyData.bool (List.map f xs)
  rw [List.map_map]
  rfl
/-- a sequence of n items -/
theorem dataD_seq {p n : Int} {v : PyData} (h : isD v "list" = true ∨ isD v "tuple" = true) : ∃ xs, (Dt.d v = dL xs ∨ Dt.d v = dT xs) ∧ dataD p n v = (decide ((xs.length : Int) = n) && xs.all fun x => betw x 0 (p - 1)) := by
  cases v <;> simp [isD, isS, tyD] at h
  · exact ⟨_, .inl rfl, rfl⟩
  · exact ⟨_, .inr rfl, rfl⟩
theorem or_of_not {a b : Bool} (h : (!(a || b)) = false) : a = true ∨ b = true := by cases a <;> cases b <;> simp at h ⊢
theorem dataD_no {p n : Int} {v : PyData} (h : isD v "list" = false ∧ isD v "tuple" = false) : dataD p n v = false := by
  cases v <;> simp [isD, isS, tyD] at h <;> rfl
theorem own_data (B : Bl mg) (h : At K mg "is_data" sData f fd) (oS : Own P w K mg base 3 "is_size" (spP K tSize)) (oB : Own P w K mg base 1 "is_between" (spP K tBetw)) : Own P w K mg base 4 "is_data" (spP K tData) := by
  refine def_pure h.fn scData h.mg (h.fn.binds fun _ _ _ _ _ _ us hl => match us, hl with | [_, _, _], _ => rfl) (fun ds Z ⟨_, _, _, e, _⟩ => by rw [e]; rfl) fun cdv A outer s H E hr ds Z ⟨p, n, v, ed, hs, q⟩ => ?_
  subst ed
  obtain ⟨n1, n6, _, _⟩ := sizeD_n hs
  refine run_cons (rs_if (et_w (ew_or (et_not (et_val ?_)))))
  refine ev_call oS hr rfl (ea_cons (ev_v 0 rfl (ea_cons (ev_v 1 rfl (ea_nil ⟨_, _, rfl, _, rfl, ?_, ?_⟩)))))
  · intro _
    refine ew_or (et_not (et_val (ev_isiLT rfl B.isinstance (by decide +kernel) rfl B.list rfl B.tuple (by decide +kernel) (by decide +kernel) (ev_v 2 rfl ⟨v, rfl, _, rfl, fun h1 => ?_, fun h1 => ?_⟩))))
    · obtain ⟨xs, hv, hd⟩ := dataD_seq (p := p) (n := n) (v := v) (or_of_not h1)
      rw [hd] at q
      refine ew_or1 (et_ne hr.units (ev_len rfl B.len (eq_seq (ev_v 2 rfl ⟨xs, hv, fun b => ev_v 1 rfl ⟨_, _, rfl, rfl, rfl, rfl, fun hz => ?_, fun hz => ?_⟩⟩))))
      · have : decide ((xs.length : Int) = n) = false := by simpa [PyData.eqv] using hz
        rw [this, Bool.false_and] at q
        exact run_one (rs_ret (ev_bl q))
      · have e1 : (xs.length : Int) = n := by simpa [PyData.eqv] using hz
        rw [decide_eq_true e1, Bool.true_and] at q
        refine run_nil ?_
        refine run_one (rs_ret (ev_all rfl rfl B.all (by decide +kernel) (eq_list (ev_new ?_))))
        refine en_lc1 (M := nData) (sc := defScope sData) 3 scData.nd rfl rfl (by decide +kernel) (lch_map (fun x => .bool (betw x 0 (p - 1))) ?_) rfl fun _ _ _ _ _ => pg_name (i := 3) scData.nd rfl (Or.inl rfl)
        refine ei_seq (ev_v 2 rfl ⟨xs, hv, sz (by omega), fun i x hx => ⟨_, rfl, fun s H C cl fp => ?_⟩, ?_⟩)
        · refine ev_call oB (hr.mono (by decide)) rfl (ea_cons (ev_v 3 rfl ?_))
          refine ea_cons (ev_int ?_)
          exact ea_cons (ev_sub (ev_v 0 rfl (ev_int ⟨_, _, rfl, rfl, ea_nil ⟨x, _, _, rfl, rfl, rfl⟩⟩)))
        · refine ⟨_, rfl, xs.map fun x => betw x 0 (p - 1), by rw [map_betw, tru_bools], ?_⟩
          rw [List.all_map]
          exact q
    · have h2 : isD v "list" = false ∧ isD v "tuple" = false := by simpa using h1
      rw [dataD_no h2] at q
      exact ⟨fun _ => run_one (rs_ret (ev_bl q)), fun z => nomatch z⟩
  · intro z
    rw [hs] at z
    cases z
end
end K87
end
section
set_option Elab.async false
set_option linter.all false
set_option maxRecDepth 100000
set_option maxHeartbeats 4000000
/-! The data logic: the law's source: read, written, made. -/
namespace DL
open PySem PySem.Spec PyProof.Rows L2 Evl
section
variable {X : Cx} {ρ : DEnv} {Q : Dt → DEnv → Prop} {e : Expr} {pos : Pos} {x : Str} {px : Pos} {P : Post}
/-- source[0], source[1] -/
theorem ev_src (i : Nat) {n s : Int} {k : Int} {kk : Nat} {jp : Pos} (hr : ρ[i]? = some (some (.src n s))) {z : Int} (hz : (k = 0 ∧ z = n) ∨ (k = 1 ∧ z = s)) (q : Q (dI z) ρ) (hs : PlainIx (.Constant (.int k) kk jp) := by exact fun _ _ => rfl) (hi : X.N[i]? = some x := by rfl)
    (hv : Vis X.env.scope x := by first | exact Or.inl rfl | exact Or.inr (Or.inl rfl) | exact Or.inr (Or.inr rfl)) (hd : (x == ("__debug__" : Str)) = false := by decide) (hcd : (x == ("__classdict__" : Str)) = false := by decide) : EvP X (.Subscript (.Name x px) (.Constant (.int k) kk jp) pos) ρ Q := fun H0 M O S σ H E R kk =>
  ⟨_, pe_ix ix_list (pe_var hi hv hd hcd) pe_int hs, by
    obtain ⟨v, h1, a, h2, h3, h4⟩ := E.ent i _ hr
    subst h2
    refine ⟨_, h1, a, _, k, .int z, rfl, rfl, SqL.of h4, ?_, kk _ H _ ρ q E dt_int⟩
    rcases hz with ⟨e1, e2⟩ | ⟨e1, e2⟩ <;> subst e1 e2 <;> rfl⟩
/-- source[0] = e, source[1] = e -/
theorem rs_src (i : Nat) {k : Int} {kk : Nat} {jp tp spos : Pos} (h : EvP X e ρ fun d ρ1 => ∃ n s m, ρ1[i]? = some (some (.src n s)) ∧ srcAt i ρ1 = true ∧ d = dI m ∧ ((k = 0 ∧ P.nx (ρ1.set i (some (.src m s)))) ∨ (k = 1 ∧ P.nx (ρ1.set i (some (.src n m))))))
    (hi : X.N[i]? = some x := by rfl) (hv : Vis X.env.scope x := by first | exact Or.inl rfl | exact Or.inr (Or.inl rfl) | exact Or.inr (Or.inr rfl)) (hd : (x == ("__debug__" : Str)) = false := by decide) (hcd : (x == ("__classdict__" : Str)) = false := by decide)
    (hs : swapsWithSole [.Subscript (.Name x px) (.Constant (.int k) kk jp) tp] e spos.line X.env = pure false := by rfl) (hw : swappedStores [.Subscript (.Name x px) (.Constant (.int k) kk jp) tp] e X.env = pure none := by rfl) : RunS X (.Assign [.Subscript (.Name x px) (.Constant (.int k) kk jp) tp] e spos) ρ P := fun H0 M O S σ H E D a b c d => by
  refine ⟨_, ps_asg pe_w (pg_sub (pe_var hi hv hd hcd) pe_int set_list) hs hw, h H0 M O S σ H E _ fun w H1 dd ρ1 ⟨n, s, m, hr, one, ed, hk⟩ E1 r => ?_⟩
  subst ed
  cases r
  obtain ⟨v1, z1, p, z2, z3, z4⟩ := E1.ent i _ hr
  subst z2
  have far : ∀ vs, Ex (off [p] H1) (upd H1 p (.lst vs)) := fun vs q o hq => by
    obtain ⟨h1, h2⟩ := of_off hq
    rw [upd_ne (by simpa using h1)]
    exact h2
  rcases hk with ⟨ek, q⟩ | ⟨ek, q⟩ <;> subst ek
  · exact ⟨.ref p, z1, p, [.int n, .int s], 0, 0, rfl, rfl, z4, rfl, a O σ _ _ q (E1.src_after hr z1 z3 (srcAt_one one) (far _) upd_same)⟩
  · exact ⟨.ref p, z1, p, [.int n, .int s], 1, 1, rfl, rfl, z4, rfl, a O σ _ _ q (E1.src_after hr z1 z3 (srcAt_one one) (far _) upd_same)⟩
/-- no slot is special -/
def plainE (ρ : DEnv) : Bool := ρ.all fun e => match e with
  | some (.src _ _) => false
  | some (.slf _ _) => false
  | _ => true
theorem plainE_at {ρ : DEnv} (h : plainE ρ = true) {i : Nat} {e : Ent} (he : ρ[i]? = some (some e)) : (∀ n s, e ≠ .src n s) ∧ ∀ C fs, e ≠ .slf C fs := by
  have := List.all_eq_true.mp h _ (List.mem_of_getElem? he)
  refine ⟨fun n s z => ?_, fun C fs z => ?_⟩ <;> (subst z; cases this)
/-- the promise of a def that makes a source -/
def spK (K : PySem.W.Frag) (T : List Dt → (Int → Int → Prop) → Prop) : Sp := fun vs H Q _ => ∃ (M : List Addr) (ds : List Dt) (Z : Int → Int → Prop), (∀ a ∈ M, H a ≠ none) ∧ DtAll K (off M H) vs ds ∧ T ds Z ∧
  ∀ p H' n s, Z n s → H p = none → Ex H H' → H' p = some (.lst [.int n, .int s]) → Q (.ref p) H'
theorem EnvOk.withSrc {K : PySem.W.Frag} {H0 H H' : Hp} {M O S : List Addr} {σ : L2.St} {i : Nat} {p : Addr} {n s : Int} (E : EnvOk K H0 M O S ρ σ H) (pl : plainE ρ = true) (hp : H p = none) (x : Ex H H') (hp' : H' p = some (.lst [.int n, .int s])) :
    EnvOk K H0 (p :: M) O [p] (ρ.set i (some (.src n s))) (σ.set i (some (.ref p))) H' := by
  obtain ⟨n1, n2, n3⟩ := E.outS hp
  have key : Ex (off (O ++ M) H) (off (O ++ p :: M) H') := fun a u h => by
    obtain ⟨h1, h2⟩ := of_off h
    have : a ≠ p := fun z => by rw [z, hp] at h2; cases h2
    rw [off_out fun z => ?_]
    · exact x a u h2
    · rcases List.mem_append.mp z with z | z
      · exact h1 (List.mem_append_left _ z)
      · rcases List.mem_cons.mp z with z | z
        · exact this z
        · exact h1 (List.mem_append_right _ z)
  have E' := E.grow x
  refine ⟨E'.ex, fun a ha => ?_, fun a ha => ?_, fun a ha => ?_, fun a ha z => ?_, by rw [List.length_set, List.length_set]; exact E.len, fun j e h => ?_, fun j k ds es h1 h2 h3 => ?_⟩
  · rcases List.mem_cons.mp ha with z | z
    · rw [z]; exact n3
    · exact E.h0 a (List.mem_append_right _ z)
  · by_cases z : a = p
    · rw [z, hp']
      exact fun q => nomatch q
    · refine E'.dom a ?_
      rcases List.mem_append.mp ha with y | y
      · exact List.mem_append_left _ y
      · rcases List.mem_cons.mp y with y | y
        · exact absurd y z
        · exact List.mem_append_right _ y
  · rw [List.mem_singleton.mp ha]
    exact List.mem_cons_self
  · rcases List.mem_cons.mp z with z | z
    · exact n1 (List.mem_append_left _ (z ▸ ha))
    · exact E.apart a ha z
  · rcases set_get h with ⟨h1, h2⟩ | ⟨h1, h2⟩
    · subst h1
      cases h2
      have hi : i < ρ.length := by
        obtain ⟨q, _⟩ := List.getElem?_eq_some_iff.mp h
        simpa using q
      exact ⟨.ref p, List.getElem?_set_self (by rw [E.len]; exact hi), p, rfl, rfl, hp'⟩
    · obtain ⟨v, q1, q2⟩ := E.ent j e h2
      refine ⟨v, by rw [List.getElem?_set_ne h1]; exact q1, ?_⟩
      cases e with
      | im d => exact dt_mono key q2
      | ow ds => obtain ⟨a, vs, y1, y2, y3, y4⟩ := q2; exact ⟨a, vs, y1, y2, x _ _ y3, dpAll_mono key y4⟩
      | src m t => exact absurd rfl ((plainE_at pl h2).1 m t)
      | slf C fs => exact absurd rfl ((plainE_at pl h2).2 C fs)
  · rcases set_get h1 with ⟨_, q⟩ | ⟨q1, q2⟩
    · cases q
    · rcases set_get h2 with ⟨_, q⟩ | ⟨q3, q4⟩
      · cases q
      · rw [List.getElem?_set_ne q1, List.getElem?_set_ne q3] at h3
        exact E.dist j k ds es q2 q4 h3
/-- the source is let go -/
theorem EnvOk.lessSrc {K : PySem.W.Frag} {H0 H : Hp} {M O S : List Addr} {σ : L2.St} {i : Nat} {p : Addr} (E : EnvOk K H0 (p :: M) O [p] ρ σ H) (one : plainE (ρ.set i none) = true) (hS : ∀ a ∈ S, a ∈ M) (h0 : ∀ a ∈ S, H0 a = none) : EnvOk K H0 M O S (ρ.set i none) σ H := by
  have key : Ex (off (O ++ p :: M) H) (off (O ++ M) H) := off_less fun a ha => by
    rcases List.mem_append.mp ha with z | z
    · exact List.mem_append_left _ z
    · exact List.mem_append_right _ (List.mem_cons_of_mem _ z)
  refine ⟨E.ex, fun a ha => ?_, fun a ha => E.dom a ?_, hS, fun a ha z => E.apart a ha (List.mem_cons_of_mem _ z), by rw [List.length_set]; exact E.len, fun j e h => ?_, fun j k ds es h1 h2 h3 => ?_⟩
  · rcases List.mem_append.mp ha with z | z
    · exact h0 a z
    · exact E.h0 a (List.mem_append_right _ z)
  · rcases List.mem_append.mp ha with z | z
    · exact List.mem_append_left _ z
    · exact List.mem_append_right _ (List.mem_cons_of_mem _ z)
  · have pl := plainE_at one h
    rcases set_get h with ⟨h1, h2⟩ | ⟨h1, h2⟩
    · cases h2
    · obtain ⟨v, q1, q2⟩ := E.ent j e h2
      refine ⟨v, q1, ?_⟩
      cases e with
      | im d => exact dt_mono key q2
      | ow ds => obtain ⟨a, vs, y1, y2, y3, y4⟩ := q2; exact ⟨a, vs, y1, y2, y3, dpAll_mono key y4⟩
      | src m t => exact absurd rfl (pl.1 m t)
      | slf C fs => exact absurd rfl (pl.2 C fs)
  · rcases set_get h1 with ⟨_, q⟩ | ⟨q1, q2⟩
    · cases q
    · rcases set_get h2 with ⟨_, q⟩ | ⟨q3, q4⟩
      · cases q
      · exact E.dist j k ds es q2 q4 h3
/-- source = make(..); rest: the source is one's own in the rest -/
theorem run_newSrc {k : Nat} {i : Nat} {y : Str} {py p : Pos} {es : List Expr} {rest : List Stmt} {cpos spos : Pos} {T : List Dt → (Int → Int → Prop) → Prop} (F : OwnX X k x (spK X.K T)) (hr : Room k X.A) (hg : Gl X x) (hN : X.N.Nodup) (hi : X.N[i]? = some y) (hy : Loc X.env.scope y)
    (h : EvA X (e :: es) ρ fun ds ρ' => plainE ρ' = true ∧ T ds fun n s => RunP X rest (ρ'.set i (some (.src n s))) { nx := fun ρ2 => plainE (ρ2.set i none) = true ∧ P.nx (ρ2.set i none), rt := fun d ρ2 => plainE (ρ2.set i none) = true ∧ P.rt d (ρ2.set i none), bk := fun ρ2 => plainE (ρ2.set i none) = true ∧ P.bk (ρ2.set i none), ct := fun ρ2 => plainE (ρ2.set i none) = true ∧ P.ct (ρ2.set i none) })
    (hdb : (x == ("__debug__" : Str)) = false := by decide) (he : starEach (e :: es) X.env = (false, eval e X.env) :: starEach es X.env := by rfl) (hpl : (backTo cpos (starEach es X.env)).any (·.1) = false := by rfl)
    (hs : swapsWith (.Call (.Name x p) (e :: es) [] cpos) (some (.Name y py)) spos.line X.env = pure false := by rfl) (hf : X.fn y = true ∨ X.env.scope.names.lookup y = some .local := by first | exact .inl rfl | exact .inr rfl | assumption) :
    RunP X (.Assign [.Name y py] (.Call (.Name x p) (e :: es) [] cpos) spos :: rest) ρ P := by
  obtain ⟨f, fd, ps, F, hm, hk, hb⟩ := F.ex
  intro H0 M O S σ H E D a b c d
  refine ⟨_, pss_cons (ps_set hN hi hy (pe_call (dvs := []) F hr hg hm hk hb .nil pass0 pa_w hdb he hpl) hs hf) pss_w, ?_⟩
  refine h H0 M O S σ H E _ fun vs H1 ds ρ1 ⟨pl, t⟩ E1 r => ?_
  rw [List.append_nil]
  refine ⟨O ++ M, ds, _, E1.dom, r, t, fun q H' n s rn hq y hq' => ?_⟩
  have E2 := E1.withSrc (i := i) pl hq y hq'
  have hS0 : ∀ a ∈ S, H0 a = none := fun a ha => E1.h0 a (List.mem_append_left _ ha)
  refine rn H0 (q :: M) O [q] _ H' E2 D (fun O' σ' H2 ρ' ⟨o, z⟩ E3 => a O' σ' H2 _ z (E3.lessSrc o E1.sub hS0)) (fun v O' σ' H2 dd ρ' ⟨o, z⟩ E3 rd => b v O' σ' H2 dd _ z (E3.lessSrc o E1.sub hS0) (dt_mono (off_less fun a ha => List.mem_cons_of_mem _ ha) rd)) (fun O' σ' H2 ρ' ⟨o, z⟩ E3 => c O' σ' H2 _ z (E3.lessSrc o E1.sub hS0)) (fun O' σ' H2 ρ' ⟨o, z⟩ E3 => d O' σ' H2 _ z (E3.lessSrc o E1.sub hS0))
/-- statements that end by giving a new list of two ints -/
def RunM (X : Cx) (sts : List Stmt) (ρ : DEnv) (Z : Int → Int → Prop) : Prop := ∀ (H0 : Hp) (M O S : List Addr) (σ : L2.St) (H : Hp), EnvOk X.K H0 M O S ρ σ H → ∀ D : Ends,
  (∀ p H' n s, Z n s → H0 p = none → Ex H0 H' → H' p = some (.lst [.int n, .int s]) → D.rt (.ref p) H') → WSs X sts D σ H
variable {Z : Int → Int → Prop}
theorem rm_cons {st : Stmt} {rest : List Stmt} (h : RunS X st ρ { nx := fun ρ' => RunM X rest ρ' Z, rt := fun _ _ => False }) : RunM X (st :: rest) ρ Z := fun H0 M O S σ H E D k =>
  ⟨_, pss_cons ps_w pss_w, h H0 M O S σ H E { D with nx := WSs X rest D } (fun O' σ' H' ρ' z E' => z H0 M O' S σ' H' E' D k) (fun _ _ _ _ _ _ z => z.elim) (fun _ _ _ _ z => z.elim) (fun _ _ _ _ z => z.elim)⟩
theorem rm_ret (h : EvN X e ρ fun ds _ => ∃ n s, ds = [.int n, .int s] ∧ Z n s) : RunM X [.Return (some e) pos] ρ Z := fun H0 M O S σ H E D k =>
  ⟨_, pss_one (ps_ret pe_w), h H0 M O S σ H E _ fun p vs H' ds ρ' ⟨n, s, ed, z⟩ np E1 E2 hp r => by
    subst ed
    have hv := dpa_ints (ns := [n, s]) r
    subst hv
    exact k p H' n s z (E2.h0 p (List.mem_append_right _ List.mem_cons_self)) E2.ex hp⟩
/-- a def that makes a source -/
theorem def_mk {P : Program} {w : World} {K : PySem.W.Frag} {mg : Str → Option Value} {base : Heap} {x qual : Str} {st : Stmt} {f : Addr} {fd : FuncData} {N ps : List Str} {k : Nat} {T : List Dt → (Int → Int → Prop) → Prop} (F : Fun K x qual st f fd) (Sc : FnScope N ps (defScope st)) (hm : mg x = some (.ref f)) (hb : Binds K fd ps []) (hl : ∀ ds Z, T ds Z → ds.length = ps.length)
    (body : ∀ (cdv : Value) (A : Around) (outer : List Env) (s : Shared) (H : Hp) (E : XK), Room k (A.deeper (envOfC qual (defScope st) s.heap.objs.size f cdv)) → ∀ ds Z, T ds Z → RunM (fX P w K mg base N qual st f cdv A outer s H E) (defBody st) (entry N ds) Z) :
    Own P w K mg base (k + 1) x (spK K T) := by
  refine ⟨f, fd, ps, F.ok Sc (fun vs H Q E ⟨M, ds, Z, _, r, t, _⟩ => by rw [r.length]; exact hl ds Z t) fun cdv A outer s H vs Q E hr ⟨M, ds, Z, dom, r, t, kk⟩ => ?_, hm, F.kp, hb⟩
  exact body cdv A outer s H E hr ds Z t H M [] [] _ H (entry_ok dom r) { nx := fun _ H' => Q .non H', rt := Q } kk
end
end DL
end
section
set_option Elab.async false
set_option linter.all false
set_option maxRecDepth 100000
set_option maxHeartbeats 4000000
namespace K87
open PySem PySem.Spec PyProof.Rows L2 DL
def SrcOk (n s : Int) : Prop := 0 ≤ n ∧ 0 ≤ s ∧ s < 2147483647
section
variable {P : Program} {w : World} {K : PySem.W.Frag} {mg : Str → Option Value} {base : Heap} {f : Addr} {fd : FuncData}
/-! ### _law_source -/
abbrev sSource : Stmt := top 53
abbrev nSource : List Str := ["script", "turn", "cell", "number", "seed"]
theorem scSource : FnScope nSource ["script", "turn"] (defScope sSource) := ⟨rfl, rfl, rfl, by decide +kernel, rfl, by decide +kernel, by decide +kernel⟩
def tSource : List Dt → (Int → Int → Prop) → Prop := fun ds Z => ∃ (ns : List Int) (t : Nat), ds = [dL (pI ns), dI t] ∧ t ≤ 1000 ∧ ∀ n s, SrcOk n s → Z n s
theorem ev_pow {X : Cx} {ρ : DEnv} {Q : Dt → DEnv → Prop} {a b : Expr} {pos : Pos} (h : EvP X a ρ fun d1 ρ1 => EvP X b ρ1 fun d2 ρ2 => ∃ i j, d1 = dI i ∧ d2 = dI j ∧ CPow i j ∧ Q (dI (i ^ j.toNat)) ρ2) : EvP X (.BinOp a .Pow b pos) ρ Q :=
  ev_op op_pow (h.imp fun d1 ρ1 h2 => h2.imp fun d2 ρ2 ⟨i, j, e1, e2, c, q⟩ => by subst e1 e2; exact op2_1 c (fun _ => dt_int) q)
theorem own_source (B : Bl mg) (h : At K mg "_law_source" sSource f fd) : Own P w K mg base 1 "_law_source" (spK K tSource) := by
  refine def_mk h.fn scSource h.mg (h.fn.binds fun _ _ _ _ _ _ us hl => match us, hl with | [_, _], _ => rfl) (fun ds Z ⟨_, _, e, _⟩ => by rw [e]; rfl) fun cdv A outer s H E hr ds Z ⟨ns, t, ed, ht, q⟩ => ?_
  subst ed
  refine rm_cons (rs_asg (i := 2) scSource.nd rfl (Or.inl rfl) (ev_int ?_))
  -- from cell on
  have tail : ∀ c : Int, RunM (fX P w K mg base nSource "_law_source" sSource f cdv A outer s H E) ((defBody sSource).drop 2) [some (.im (dL (pI ns))), some (.im (dI t)), some (.im (dI c)), none, none] Z := fun c => by
    have hn : 0 ≤ (if -1 - c > c then -1 - c else c) := by split <;> omega
    generalize hN : (if -1 - c > c then -1 - c else c) = number at hn
    refine rm_cons (rs_asg (i := 3) scSource.nd rfl (Or.inl rfl) (ev_max2 rfl rfl B.max (by decide +kernel) (ev_v 2 rfl (ev_sub (ev_neg (ev_int ⟨1, rfl, ev_v 2 rfl ⟨_, _, rfl, rfl, c, -1 - c, rfl, rfl, ?_⟩⟩)))) ))
    rw [hN]
    refine rm_cons (rs_asg (i := 4) scSource.nd rfl (Or.inl rfl) (ev_mod (ev_int1 rfl B.int (by decide +kernel) ?_)))
    refine ev_add (ev_add (ev_mul (ev_mod (ev_int1 rfl B.int (by decide +kernel) (ev_v 3 rfl (.inl ⟨number, rfl, ?_⟩))))))
    have m1 := Int.emod_nonneg number (show (2147483629 : Int) ≠ 0 by decide)
    have m2 := Int.emod_lt_of_pos number (show (0 : Int) < 2147483629 by decide)
    refine ev_int ⟨number, 2147483629, rfl, rfl, by decide, ev_int ⟨_, _, rfl, rfl, .inl ⟨by omega, by omega⟩, ?_⟩⟩
    refine ev_mul (ev_int (ev_v 1 rfl ⟨_, _, rfl, rfl, .inl ⟨by decide, by decide⟩, _, _, rfl, rfl, ?_⟩))
    refine ev_int ⟨_, _, rfl, rfl, .inl ⟨_, rfl, ev_int ⟨_, _, rfl, rfl, by decide, ?_⟩⟩⟩
    have s1 := Int.emod_nonneg (number % 2147483629 * 16807 + 104729 * (t : Int) + 11) (show (2147483647 : Int) ≠ 0 by decide)
    have s2 := Int.emod_lt_of_pos (number % 2147483629 * 16807 + 104729 * (t : Int) + 11) (show (0 : Int) < 2147483647 by decide)
    refine rm_cons (rs_if (et_cmpI rfl (ev_v 3 rfl (ev_pow (ev_int (ev_int ⟨_, _, rfl, rfl, ⟨by decide, by decide, by decide⟩, _, _, rfl, rfl, fun _ => ?_, fun _ => ?_⟩))))))
    · refine run_one (rs_asg (i := 3) scSource.nd rfl (Or.inl rfl) (ev_int ?_))
      exact rm_ret (en_lst (ea_cons (ev_v 3 rfl (ea_cons (ev_v 4 rfl (ea_nil ⟨[_, _], rfl, (by show 2 ≤ sizeLine; decide), _, _, rfl, q _ _ ⟨Int.le_refl _, s1, s2⟩⟩))))))
    · refine run_nil ?_
      exact rm_ret (en_lst (ea_cons (ev_v 3 rfl (ea_cons (ev_v 4 rfl (ea_nil ⟨[_, _], rfl, (by show 2 ≤ sizeLine; decide), _, _, rfl, q _ _ ⟨hn, s1, s2⟩⟩))))))
  refine rm_cons (rs_if (et_cmpI rfl (ev_v 1 rfl (ev_len rfl B.len (eq_list (ev_v 0 rfl ⟨_, rfl, _, _, rfl, rfl, fun hc => ?_, fun hc => ?_⟩))))))
  · have hlt : t < ns.length := by
      have := of_decide_eq_true hc
      rw [len_pI] at this
      omega
    obtain ⟨x, hx⟩ := get_lt hlt
    exact run_one (rs_asg (i := 2) scSource.nd rfl (Or.inl rfl) (ev_ix (fun _ _ => rfl) (ev_v 0 rfl (ev_v 1 rfl ⟨_, _, _, .inl rfl, rfl, atI_pI hx, tail x⟩))))
  · exact run_nil (tail 0)
/-! ### _law_draw -/
abbrev sDraw : Stmt := top 54
abbrev nDraw : List Str := ["source", "amount", "digit"]
theorem scDraw : FnScope nDraw ["source", "amount"] (defScope sDraw) := ⟨rfl, rfl, rfl, by decide +kernel, rfl, by decide +kernel, by decide +kernel⟩
def tDraw : TrS := fun n s ds Z => ∃ a, ds = [dI a] ∧ 0 < a ∧ a < 1073741824 ∧ SrcOk n s ∧ ∀ d n' s', 0 ≤ d → d < a → SrcOk n' s' → Z (dI d) n' s'
theorem own_draw (B : Bl mg) (h : At K mg "_law_draw" sDraw f fd) : Own P w K mg base 1 "_law_draw" (spS K tDraw) := by
  refine def_src h.fn scDraw h.mg (h.fn.binds fun _ _ _ _ _ _ us hl => match us, hl with | [_, _], _ => rfl) (fun n s ds Z ⟨_, e, _⟩ => by rw [e]; rfl) fun cdv A outer s0 H E hr n s ds Z ⟨a, ed, a0, a1, ⟨n0, s1, s2⟩, q⟩ => ?_
  subst ed
  refine run_cons (rs_if (et_cmpI rfl (ev_src 0 rfl (.inl ⟨rfl, rfl⟩) (ev_int ⟨_, _, rfl, rfl, fun hc => ?_, fun hc => ?_⟩))))
  · have d1 := Int.emod_nonneg n (show a ≠ 0 by omega)
    have d2 := Int.emod_lt_of_pos n a0
    have q1 := Int.ediv_nonneg n0 (Int.le_of_lt a0)
    refine run_cons (rs_asg (i := 2) scDraw.nd rfl (Or.inl rfl) (ev_mod (ev_int1 rfl B.int (by decide +kernel) (ev_src 0 rfl (.inl ⟨rfl, rfl⟩) (.inl ⟨_, rfl, ev_v 1 rfl ⟨_, _, rfl, rfl, a0, ?_⟩⟩)))))
    refine run_cons (rs_src 0 (ev_fdiv (ev_src 0 rfl (.inl ⟨rfl, rfl⟩) (ev_v 1 rfl ⟨_, _, rfl, rfl, ⟨a0, a1⟩, n, s, _, rfl, rfl, rfl, .inl ⟨rfl, ?_⟩⟩))))
    exact run_one (rs_ret (ev_v 2 rfl ⟨_, _, rfl, q _ _ _ d1 d2 ⟨q1, s1, s2⟩⟩))
  · refine run_nil ?_
    have t1 := Int.emod_nonneg (s * 48271 + 11) (show (2147483647 : Int) ≠ 0 by decide)
    have t2 := Int.emod_lt_of_pos (s * 48271 + 11) (show (0 : Int) < 2147483647 by decide)
    refine run_cons (rs_src 0 (ev_mod (ev_int1 rfl B.int (by decide +kernel) (ev_add (ev_mul (ev_src 0 rfl (.inr ⟨rfl, rfl⟩) (ev_int ⟨_, _, rfl, rfl, .inl ⟨by omega, by omega⟩, ?_⟩)))))))
    refine ev_int ⟨_, _, rfl, rfl, .inl ⟨_, rfl, ev_int ⟨_, _, rfl, rfl, by decide, n, s, _, rfl, rfl, rfl, .inr ⟨rfl, ?_⟩⟩⟩⟩
    generalize hs : (s * 48271 + 11) % 2147483647 = s' at t1 t2
    refine run_one (rs_ret (ev_mod (ev_int1 rfl B.int (by decide +kernel) (ev_fdiv (ev_mod (ev_int1 rfl B.int (by decide +kernel) (ev_mul (ev_src 0 rfl (.inr ⟨rfl, rfl⟩) (ev_src 0 rfl (.inr ⟨rfl, rfl⟩) ⟨_, _, rfl, rfl, .inl ⟨by omega, by omega⟩, ?_⟩)))))))))
    refine .inl ⟨_, rfl, ev_int ⟨_, _, rfl, rfl, by decide, ev_int ⟨_, _, rfl, rfl, ⟨by decide, by decide⟩, .inl ⟨_, rfl, ev_v 1 rfl ⟨_, _, rfl, rfl, a0, ?_⟩⟩⟩⟩⟩
    exact ⟨_, _, rfl, q _ _ _ (Int.emod_nonneg _ (by omega)) (Int.emod_lt_of_pos _ a0) ⟨n0, t1, t2⟩⟩
end
end K87
end
section
set_option Elab.async false
set_option linter.all false
set_option maxRecDepth 100000
set_option maxHeartbeats 4000000
namespace K87
open PySem PySem.Spec PyProof.Rows L2 DL
/-! ### plain mathematics -/
def rangeI (p : Int) : List Int := (List.range p.toNat).map fun (k : Nat) => (k : Int)
def allL (p : Int) : Nat → List (List Int)
  | 0 => [[]]
  | n + 1 => (allL p n).flatMap fun row => (rangeI p).map fun k => row ++ [k]
theorem rangeD_pI (n : Int) : rangeD 0 n.toNat = pI (rangeI n) := by
  unfold rangeD rangeI
  simp only [pI, List.map_map]
  refine List.map_congr_left fun k _ => ?_
  show PyData.int (0 + (k : Int)) = PyData.int (k : Int)
  rw [Int.zero_add]
theorem len_range {p : Int} : (rangeI p).length = p.toNat := by unfold rangeI; simp
theorem range_get {p : Int} {i : Nat} {x : Int} (h : (rangeI p)[i]? = some x) : x = (i : Int) ∧ (i : Int) < p := by
  have hi := (List.getElem?_eq_some_iff.mp h).1
  rw [len_range] at hi
  unfold rangeI at h
  rw [List.getElem?_map, List.getElem?_range hi] at h
  exact ⟨(Option.some.inj h).symm, by omega⟩
theorem len_flat {α β : Type} {f : α → List β} {m : Nat} : ∀ {xs : List α}, (∀ x ∈ xs, (f x).length = m) → (xs.flatMap f).length = xs.length * m
  | [], _ => by simp
  | x :: xs, h => by
    rw [List.flatMap_cons, List.length_append, h x List.mem_cons_self, len_flat (xs := xs) fun y hy => h y (List.mem_cons_of_mem _ hy), List.length_cons, Nat.succ_mul]
    omega
theorem len_all {p : Int} : ∀ n, (allL p n).length = p.toNat ^ n
  | 0 => rfl
  | n + 1 => by
    rw [allL, len_flat (m := p.toNat) fun x _ => by rw [List.length_map, len_range], len_all n, Nat.pow_succ]
theorem mem_all {p : Int} : ∀ {n : Nat} {row : List Int}, row ∈ allL p n → Wf p n row
  | 0, row, h => by
    have : row = [] := by simpa [allL] using h
    subst this
    exact ⟨rfl, fun x hx => nomatch hx⟩
  | n + 1, row, h => by
    obtain ⟨r, hr, hm⟩ := List.mem_flatMap.mp (show row ∈ (allL p n).flatMap fun row => (rangeI p).map fun k => row ++ [k] from h)
    obtain ⟨k, hk, ek⟩ := List.mem_map.mp hm
    obtain ⟨h1, h2⟩ := mem_all hr
    obtain ⟨i, hi⟩ := List.mem_iff_getElem?.mp hk
    obtain ⟨e, hlt⟩ := range_get hi
    subst ek
    refine ⟨by rw [List.length_append, h1]; rfl, fun x hx => ?_⟩
    rcases List.mem_append.mp hx with z | z
    · exact h2 x z
    · rw [List.mem_singleton.mp z, e]
      exact ⟨by omega, hlt⟩
theorem pow_le {p : Nat} {n : Nat} (hp : p ≤ 7) (hn : n ≤ 3) : p ^ n ≤ 343 := by
  have h1 : p ^ n ≤ 7 ^ n := Nat.pow_le_pow_left hp n
  have h2 : 7 ^ n ≤ 7 ^ 3 := Nat.pow_le_pow_right (by decide) hn
  exact Nat.le_trans h1 (Nat.le_trans h2 (by decide))
abbrev pPc (pc : List (List Int)) : PyData := .tuple (pc.map pT)
def zeroPc (p : Int) (pc : List (List Int)) (data : List Int) : Bool := pc.all fun r => valL p r data == 0
def touL (p : Int) (pieces : List (List (List Int))) (data : List Int) : Nat := (pieces.filter fun pc => !zeroPc p pc data).length
def unitL (n : Nat) (i : Int) : List Int := (rangeI n).map fun a => if a = i then 1 else 0
section
variable {P : Program} {w : World} {K : PySem.W.Frag} {mg : Str → Option Value} {base : Heap} {f : Addr} {fd : FuncData}
/-! ### _law_all -/
abbrev sAll : Stmt := top 55
abbrev nAll : List Str := ["prime", "size", "found", "turn", "longer", "row", "number"]
theorem scAll : FnScope nAll ["prime", "size"] (defScope sAll) := ⟨rfl, rfl, rfl, by decide +kernel, rfl, by decide +kernel, by decide +kernel⟩
def tAll : Tr := fun ds Z => ∃ (p : Int) (n : Nat), ds = [dI p, dI n] ∧ 0 < p ∧ p ≤ 7 ∧ n ≤ 3 ∧ Z (dL ((allL p n).map pT))
theorem own_all (B : Bl mg) (h : At K mg "_law_all" sAll f fd) : Own P w K mg base 1 "_law_all" (spP K tAll) := by
  refine def_pure h.fn scAll h.mg (h.fn.binds fun _ _ _ _ _ _ us hl => match us, hl with | [_, _], _ => rfl) (fun ds Z ⟨_, _, e, _⟩ => by rw [e]; rfl) fun cdv A outer s H E hr ds Z ⟨p, n, ed, p0, p7, n3, q⟩ => ?_
  subst ed
  refine run_cons (rs_asg (i := 2) scAll.nd rfl (Or.inl rfl) (ev_new (en_lst (ea_cons (ev_tup (ea_nil ⟨[], rfl, Nat.zero_le _, ea_nil ⟨[.tuple []], rfl, (by show 1 ≤ sizeLine; decide), ?_⟩⟩))))))
  refine run_cons (rs_for (.one 3) PassesOwn.never rfl (pg_name (i := 3) scAll.nd rfl (Or.inl rfl)) (ei_range1 rfl B.range (ev_v 1 rfl ⟨_, rfl, by omega, by omega, fun i ρ' => ∃ a b c d, ρ' = [some (.im (dI p)), some (.im (dI n)), some (.im (dL ((allL p i).map pT))), a, b, c, d], ⟨_, _, _, _, rfl⟩, fun i y ρ' hy ⟨a, b, c, d, er⟩ => ⟨_, rfl, ?_⟩, fun ρ' ⟨a, b, c, d, er⟩ => ?_⟩)))
  · subst er
    have hi : i < n := by
      have := (List.getElem?_eq_some_iff.mp hy).1
      rw [rangeD_len, Int.toNat_natCast] at this
      exact this
    refine run_cons (rs_asg (i := 4) scAll.nd rfl (Or.inl rfl) (ev_new (en_lst (ea_nil ⟨[], rfl, Nat.zero_le _, ?_⟩))))
    refine run_cons (rs_for (.one 5) PassesOwn.never rfl (pg_name (i := 5) scAll.nd rfl (Or.inr rfl)) (ei_list (ev_v 2 rfl ⟨_, rfl, fun j ρ' => ∃ c d, ρ' = [some (.im (dI p)), some (.im (dI n)), some (.im (dL ((allL p i).map pT))), some (.im (.d y)), some (.im (dL ((((allL p i).take j).flatMap fun row => (rangeI p).map fun k => row ++ [k]).map pT))), c, d], ⟨_, _, rfl⟩, fun j z ρ' hz ⟨c, d, er⟩ => ⟨_, rfl, ?_⟩, fun ρ' ⟨c, d, er⟩ => ?_⟩)))
    · subst er
      rw [List.getElem?_map] at hz
      obtain ⟨row, hrow, ez⟩ := Option.map_eq_some_iff.mp hz
      subst ez
      have hj : j < (allL p i).length := (List.getElem?_eq_some_iff.mp hrow).1
      have l1 : (((allL p i).take j).flatMap fun row => (rangeI p).map fun k => row ++ [k]).length = j * p.toNat := by
        rw [len_flat (m := p.toNat) fun x _ => by rw [List.length_map, len_range], List.length_take, Nat.min_eq_left (Nat.le_of_lt hj)]
      have hb : (allL p i).length ≤ 343 := by rw [len_all]; exact pow_le (by omega) (by omega)
      have l2 : j * p.toNat ≤ 343 * 7 := Nat.mul_le_mul (by omega) (by omega)
      refine run_one (rs_asg (i := 4) scAll.nd rfl (Or.inl rfl) (ev_new (en_cat (ev_v 4 rfl (ev_new ?_)))))
      refine en_lc1 (M := nAll) (sc := defScope sAll) 6 scAll.nd rfl rfl (by decide +kernel) (lch_map (fun z => match z with | .int k => pT (row ++ [k]) | d => d) ?_) rfl fun _ _ _ _ _ => pg_name (i := 6) scAll.nd rfl (Or.inl rfl)
      refine ei_range1 rfl B.range (ev_v 0 rfl ⟨_, rfl, by omega, by omega, ?_, fun k x hx => ?_, ?_⟩)
      · rw [rangeD_len]
        exact sz (by omega)
      · have := rangeD_get hx
        subst this
        refine ⟨_, rfl, fun s H C cl fp => ev_catT (ev_v 5 rfl (ev_tup (ea_cons (ev_v 6 rfl (ea_nil ⟨[_], rfl, (by show 1 ≤ sizeLine; decide), _, _, rfl, rfl, ?_, ?_, rfl⟩)))))⟩
        · rw [len_pI, (mem_all (List.mem_of_getElem? hrow)).1]
          exact sz (by show i + 1 ≤ _; omega)
        · simp [pT, pI]
      · have e : ((((allL p i).take j).flatMap fun row => (rangeI p).map fun k => row ++ [k]).map pT) ++ (rangeD 0 p.toNat).map (fun z => match z with | .int k => pT (row ++ [k]) | d => d) = (((allL p i).take (j + 1)).flatMap fun row => (rangeI p).map fun k => row ++ [k]).map pT := by
          rw [take_succ hrow, List.flatMap_append, List.map_append, rangeD_pI]
          simp only [List.flatMap_cons, List.flatMap_nil, List.append_nil, pI, List.map_map]
          rfl
        refine ⟨_, _, rfl, rfl, ?_, ?_⟩
        · rw [List.length_map, List.length_map, l1, rangeD_len]
          exact sz (by omega)
        · rw [e]
          exact ⟨_, _, rfl⟩
    · subst er
      rw [List.length_map, List.take_length]
      exact run_one (rs_asg (i := 2) scAll.nd rfl (Or.inl rfl) (ev_v 4 rfl ⟨_, _, _, _, rfl⟩))
  · subst er
    rw [rangeD_len, Int.toNat_natCast]
    exact run_one (rs_ret (ev_v 2 rfl q))
end
end K87
end
section
set_option Elab.async false
set_option linter.all false
set_option maxRecDepth 100000
set_option maxHeartbeats 4000000
namespace K87
open PySem PySem.Spec PyProof.Rows L2 DL
section
variable {P : Program} {w : World} {K : PySem.W.Frag} {mg : Str → Option Value} {base : Heap} {f : Addr} {fd : FuncData}
/-! ### _law_value -/
abbrev sLV : Stmt := top 56
abbrev nLV : List Str := ["prime", "row", "data", "total", "at"]
theorem scLV : FnScope nLV ["prime", "row", "data"] (defScope sLV) := ⟨rfl, rfl, rfl, by decide +kernel, rfl, by decide +kernel, by decide +kernel⟩
def tLV : Tr := fun ds Z => ∃ (p : Int) (row data : List Int), ds = [dI p, dT (pI row), dT (pI data)] ∧ 0 < p ∧ row.length ≤ data.length ∧ row.length ≤ 1000 ∧ (∀ x ∈ row, -(2 ^ 64) < x ∧ x < 2 ^ 64) ∧ Z (dI (valL p row data))
theorem own_lv (B : Bl mg) (h : At K mg "_law_value" sLV f fd) : Own P w K mg base 1 "_law_value" (spP K tLV) := by
  refine def_pure h.fn scLV h.mg (h.fn.binds fun _ _ _ _ _ _ us hl => match us, hl with | [_, _, _], _ => rfl) (fun ds Z ⟨_, _, _, e, _⟩ => by rw [e]; rfl) fun cdv A outer s H E hr ds Z ⟨p, row, data, ed, p0, hl, hl2, hb, q⟩ => ?_
  subst ed
  refine run_cons (rs_asg (i := 3) scLV.nd rfl (Or.inl rfl) (ev_int ?_))
  refine run_cons (rs_for (.one 4) PassesOwn.never rfl (pg_name (i := 4) scLV.nd rfl (Or.inl rfl)) (ei_range1 rfl B.range (ev_len rfl B.len (eq_tup (ev_v 1 rfl ⟨_, rfl, _, rfl, by rw [len_pI]; omega, by rw [len_pI]; omega,
    fun i ρ' => ∃ a, ρ' = [some (.im (dI p)), some (.im (dT (pI row))), some (.im (dT (pI data))), some (.im (dI ((List.zipWith (· * ·) row data).take i).sum)), a], ⟨none, rfl⟩, fun i y ρ' hy ⟨a, er⟩ => ⟨_, rfl, ?_⟩, fun ρ' ⟨a, er⟩ => ?_⟩)))))
  · subst er
    have ey := rangeD_get hy
    rw [Int.zero_add] at ey
    subst ey
    have hi : i < row.length := by
      have := (List.getElem?_eq_some_iff.mp hy).1
      rw [rangeD_len, Int.toNat_natCast, len_pI] at this
      exact this
    obtain ⟨x, hx⟩ := get_lt hi
    obtain ⟨z, hz⟩ := get_lt (xs := data) (i := i) (by omega)
    refine run_one (rs_asg (i := 3) scLV.nd rfl (Or.inl rfl) (ev_add (ev_v 3 rfl (ev_mul (ev_ix (fun _ _ => rfl) (ev_v 1 rfl (ev_v 4 rfl ?_)))))))
    refine ⟨_, _, _, .inr rfl, rfl, atI_pI hx, ev_ix (fun _ _ => rfl) (ev_v 2 rfl (ev_v 4 rfl ⟨_, _, _, .inr rfl, rfl, atI_pI hz, _, _, rfl, rfl, .inl (hb x (List.mem_of_getElem? hx)), _, _, rfl, rfl, ?_⟩))⟩
    have e : ((List.zipWith (· * ·) row data).take i).sum + x * z = ((List.zipWith (· * ·) row data).take (i + 1)).sum := by
      rw [take_succ (x := x * z) (by rw [List.getElem?_zipWith, hx, hz]), List.sum_append]
      simp
    rw [e]
    exact ⟨_, rfl⟩
  · subst er
    rw [rangeD_len, Int.toNat_natCast, len_pI]
    refine run_one (rs_ret (ev_mod (ev_v 3 rfl (ev_v 0 rfl ⟨_, _, rfl, rfl, p0, ?_⟩))))
    rw [List.take_of_length_le (by rw [List.length_zipWith]; omega)]
    exact q
/-! ### _law_is_zero -/
abbrev sLZ : Stmt := top 57
abbrev nLZ : List Str := ["prime", "lines", "data", "row"]
theorem scLZ : FnScope nLZ ["prime", "lines", "data"] (defScope sLZ) := ⟨rfl, rfl, rfl, by decide +kernel, rfl, by decide +kernel, by decide +kernel⟩
/-- a piece of rows of length n below p, at most two -/
def WfPc (p : Int) (n : Nat) (pc : List (List Int)) : Prop := pc.length ≤ 3 ∧ ∀ r ∈ pc, Wf p n r
def tLZ : Tr := fun ds Z => ∃ (p : Int) (n : Nat) (pc : List (List Int)) (data : List Int), ds = [dI p, .d (pPc pc), dT (pI data)] ∧ 0 < p ∧ p ≤ 7 ∧ n ≤ 6 ∧ WfPc p n pc ∧ n ≤ data.length ∧ Z (dB (zeroPc p pc data))
theorem wf_small {p : Int} {n : Nat} {a : List Int} (h : Wf p n a) (p7 : p ≤ 7) : ∀ x ∈ a, -(2 ^ 64) < x ∧ x < 2 ^ 64 := fun x hx => by
  obtain ⟨h1, h2⟩ := h.2 x hx
  constructor <;> omega
theorem own_lz (h : At K mg "_law_is_zero" sLZ f fd) (oV : Own P w K mg base 1 "_law_value" (spP K tLV)) : Own P w K mg base 2 "_law_is_zero" (spP K tLZ) := by
  refine def_pure h.fn scLZ h.mg (h.fn.binds fun _ _ _ _ _ _ us hl => match us, hl with | [_, _, _], _ => rfl) (fun ds Z ⟨_, _, _, _, e, _⟩ => by rw [e]; rfl) fun cdv A outer s H E hr ds Z ⟨p, n, pc, data, ed, p0, p7, n6, wf, hd, q⟩ => ?_
  subst ed
  refine run_cons (rs_for (.one 3) PassesOwn.never rfl (pg_name (i := 3) scLZ.nd rfl (Or.inl rfl)) (ei_tup (ev_v 1 rfl ⟨_, rfl, fun i ρ' => zeroPc p (pc.take i) data = true ∧ ∃ a, ρ' = [some (.im (dI p)), some (.im (.d (pPc pc))), some (.im (dT (pI data))), a], ⟨rfl, _, rfl⟩, fun i y ρ' hy ⟨hz, a, er⟩ => ⟨_, rfl, ?_⟩, fun ρ' ⟨hz, a, er⟩ => ?_⟩)))
  · subst er
    rw [List.getElem?_map] at hy
    obtain ⟨r, hr2, ey⟩ := Option.map_eq_some_iff.mp hy
    subst ey
    have wr := wf.2 r (List.mem_of_getElem? hr2)
    refine run_one (rs_if (et_ne hr.units (ev_call oV hr rfl (ea_cons (ev_v 0 rfl (ea_cons (ev_v 3 rfl ?_)))))))
    refine ea_cons (ev_v 2 rfl (ea_nil ⟨p, r, data, rfl, p0, by rw [wr.1]; exact hd, by rw [wr.1]; omega, wf_small wr p7, ev_int ⟨_, _, rfl, rfl, rfl, rfl, fun hc => ?_, fun hc => ?_⟩⟩))
    · have e : zeroPc p pc data = false := by
        refine Bool.eq_false_iff.mpr fun z => ?_
        have := List.all_eq_true.mp z r (List.mem_of_getElem? hr2)
        have e0 : valL p r data = 0 := by simpa using this
        rw [e0] at hc
        exact absurd hc (by decide)
      rw [e] at q
      exact run_one (rs_ret (ev_bl q))
    · have e0 : valL p r data = 0 := by simpa [PyData.eqv] using hc
      refine run_nil ⟨?_, _, rfl⟩
      unfold zeroPc at hz ⊢
      rw [take_succ hr2, List.all_append, hz]
      simp [e0]
  · subst er
    rw [List.length_map, List.take_length] at hz
    rw [hz] at q
    exact run_one (rs_ret (ev_bl q))
/-! ### _law_unit -/
abbrev sLU : Stmt := top 59
abbrev nLU : List Str := ["size", "index", "at"]
theorem scLU : FnScope nLU ["size", "index"] (defScope sLU) := ⟨rfl, rfl, rfl, by decide +kernel, rfl, by decide +kernel, by decide +kernel⟩
def tLU : Tr := fun ds Z => ∃ (n : Nat) (i : Int), ds = [dI n, dI i] ∧ n ≤ 1000 ∧ Z (dT (pI (unitL n i)))
theorem own_lu (B : Bl mg) (h : At K mg "_law_unit" sLU f fd) : Own P w K mg base 1 "_law_unit" (spP K tLU) := by
  refine def_pure h.fn scLU h.mg (h.fn.binds fun _ _ _ _ _ _ us hl => match us, hl with | [_, _], _ => rfl) (fun ds Z ⟨_, _, e, _⟩ => by rw [e]; rfl) fun cdv A outer s H E hr ds Z ⟨n, i, ed, hn, q⟩ => ?_
  subst ed
  refine run_one (rs_ret (ev_tuple rfl B.tuple (by decide +kernel) (eq_list (ev_new (en_lc1 (M := nLU) (sc := defScope sLU) 2 scLU.nd rfl rfl (by decide +kernel) (lch_map (fun z => match z with | .int a => .int (if a = i then 1 else 0) | d => d) ?_) rfl fun _ _ _ _ _ => pg_name (i := 2) scLU.nd rfl (Or.inl rfl))))))
  refine ei_range1 rfl B.range (ev_v 0 rfl ⟨_, rfl, by omega, by omega, by rw [rangeD_len]; exact sz (by omega), fun k y hy => ?_, ?_⟩)
  · have := rangeD_get hy
    subst this
    refine ⟨_, rfl, fun s H C cl fp => ev_int1 rfl B.int (by decide +kernel) (ev_eq hr.units (ev_v 2 rfl (ev_v 1 rfl ⟨_, _, rfl, rfl, rfl, rfl, .inr ⟨_, rfl, ?_, rfl⟩⟩)))⟩
    simp [PyData.eqv]
  · refine ⟨_, rfl, ?_⟩
    have e : (rangeD 0 ((n : Int)).toNat).map (fun z => match z with | .int a => PyData.int (if a = i then 1 else 0) | d => d) = pI (unitL n i) := by
      rw [rangeD_pI]
      simp only [unitL, pI, List.map_map]
      rfl
    rw [e]
    exact q
/-! ### _law_row -/
abbrev sLR : Stmt := top 58
abbrev nLR : List Str := ["source", "prime", "size", "turn"]
theorem scLR : FnScope nLR ["source", "prime", "size"] (defScope sLR) := ⟨rfl, rfl, rfl, by decide +kernel, rfl, by decide +kernel, by decide +kernel⟩
def tLR : TrS := fun n s ds Z => ∃ (p : Int) (k : Nat), ds = [dI p, dI k] ∧ 0 < p ∧ p ≤ 1000 ∧ k ≤ 1000 ∧ SrcOk n s ∧ ∀ row n' s', Wf p k row → SrcOk n' s' → Z (dT (pI row)) n' s'
theorem own_lr (B : Bl mg) (h : At K mg "_law_row" sLR f fd) (oD : Own P w K mg base 1 "_law_draw" (spS K tDraw)) : Own P w K mg base 2 "_law_row" (spS K tLR) := by
  refine def_src h.fn scLR h.mg (h.fn.binds fun _ _ _ _ _ _ us hl => match us, hl with | [_, _, _], _ => rfl) (fun n s ds Z ⟨_, _, e, _⟩ => by rw [e]; rfl) fun cdv A outer s0 H E hr n s ds Z ⟨p, k, ed, p0, p1, hk, so, q⟩ => ?_
  subst ed
  refine run_one (rs_ret (ev_tuple rfl B.tuple (by decide +kernel) (eq_list (ev_new (en_lc1 (M := nLR) (sc := defScope sLR) 3 scLR.nd rfl rfl (by decide +kernel) ?_ rfl fun _ _ _ _ _ => pg_name (i := 3) scLR.nd rfl (Or.inl rfl))))))
  refine ei_range1 rfl B.range (ev_v 2 rfl ⟨_, rfl, by omega, by omega, by rw [rangeD_len]; exact sz (by omega), fun i acc ρ' => ∃ n' s' row, SrcOk n' s' ∧ Wf p i row ∧ acc = pI row ∧ ρ' = [some (.src n' s'), some (.im (dI p)), some (.im (dI k)), none], ⟨n, s, [], so, ⟨rfl, fun x hx => nomatch hx⟩, rfl, rfl⟩, fun i acc y ρ' hy ⟨n', s', row, so', wf, ea, er⟩ => ?_, fun acc ρ' ⟨n', s', row, so', wf, ea, er⟩ => ?_⟩)
  · subst ea er
    refine ⟨_, rfl, fun s H C cl fp => ets_nil ⟨fun _ s H C cl fp => ?_, fun z => nomatch z⟩⟩
    refine ev_callS 0 oD (hr.mono (by decide)) rfl rfl (by first | exact Or.inl rfl | exact Or.inr (Or.inl rfl) | exact Or.inr (Or.inr rfl)) (ea_cons (ev_v 1 rfl (ea_nil ⟨n', s', rfl, rfl, p, rfl, p0, by omega, so', fun d n2 s2 d0 d1 so2 => ⟨_, rfl, n2, s2, row ++ [d], so2, ?_, ?_, rfl⟩⟩)))
    · refine ⟨by rw [List.length_append, wf.1]; rfl, fun x hx => ?_⟩
      rcases List.mem_append.mp hx with z | z
      · exact wf.2 x z
      · rw [List.mem_singleton.mp z]
        exact ⟨d0, d1⟩
    · simp [pI]
  · subst ea er
    rw [rangeD_len, Int.toNat_natCast] at wf
    exact ⟨_, rfl, n', s', rfl, q row n' s' wf so'⟩
end
end K87
end
section
set_option Elab.async false
set_option linter.all false
set_option maxRecDepth 100000
set_option maxHeartbeats 4000000
namespace K87
open PySem PySem.Spec PyProof.Rows L2 DL
def unI : PyData → Int
  | .int i => i
  | _ => 0
def unT : PyData → List Int
  | .tuple xs => xs.map unI
  | _ => []
def unPc : PyData → List (List Int)
  | .tuple rs => rs.map unT
  | _ => []
theorem unT_pT (a : List Int) : unT (pT a) = a := by
  show (pI a).map unI = a
  unfold pI
  rw [List.map_map]
  exact List.map_id'' (fun _ => rfl) a
theorem unPc_pPc (pc : List (List Int)) : unPc (pPc pc) = pc := by
  show (pc.map pT).map unT = pc
  rw [List.map_map]
  exact List.map_id'' (fun a => unT_pT a) pc
theorem atI_get {α : Type} {xs : List α} {i : Nat} {x : α} (h : xs[i]? = some x) : atI xs (i : Int) = some x := by
  have hl := (List.getElem?_eq_some_iff.mp h).1
  unfold atI ixN
  rw [if_pos (by omega), if_pos (by omega)]
  show xs[(i : Int).toNat]? = _
  rw [Int.toNat_natCast]
  exact h
theorem filter_len {α β : Type} (g : α → β) (f : β → Bool) (xs : List α) : ((xs.map g).filter f).length = (xs.filter fun x => f (g x)).length := by
  rw [List.filter_map, List.length_map]
  rfl
/-- sums of rows, led by factors -/
def madeL (p : Int) (n : Nat) (base : List (List Int)) (factors : List Int) : List Int := (factors.zip base).foldl (fun acc x => List.zipWith (fun a d => (a + x.1 * d) % p) acc x.2) (List.replicate n 0)
theorem range_zip (g : Int → Int → Int) {a b : List Int} {n : Nat} (ha : a.length = n) (hb : b.length = n) (h : PyData → PyData) (hh : ∀ (k : Nat) x y, a[k]? = some x → b[k]? = some y → h (.int (k : Int)) = .int (g x y)) : (rangeD 0 n).map h = pI (List.zipWith g a b) := by
  refine List.ext_getElem? fun k => ?_
  rw [List.getElem?_map]
  by_cases hk : k < n
  · obtain ⟨x, hx⟩ := get_lt (xs := a) (i := k) (by omega)
    obtain ⟨y, hy⟩ := get_lt (xs := b) (i := k) (by omega)
    obtain ⟨z, hz⟩ := get_lt (xs := rangeD 0 n) (i := k) (by rw [rangeD_len]; exact hk)
    have := rangeD_get hz
    rw [Int.zero_add] at this
    subst this
    rw [hz, Option.map_some, hh k x y hx hy, List.getElem?_map, List.getElem?_zipWith, hx, hy]
    rfl
  · rw [List.getElem?_eq_none (by rw [rangeD_len]; omega), List.getElem?_eq_none (by rw [len_pI, List.length_zipWith]; omega)]
    rfl
section
variable {P : Program} {w : World} {K : PySem.W.Frag} {mg : Str → Option Value} {base : Heap} {f : Addr} {fd : FuncData}
/-! ### _law_touches -/
abbrev sLT : Stmt := top 61
abbrev nLT : List Str := ["prime", "pieces", "data", "piece"]
theorem scLT : FnScope nLT ["prime", "pieces", "data"] (defScope sLT) := ⟨rfl, rfl, rfl, by decide +kernel, rfl, by decide +kernel, by decide +kernel⟩
/-- what a table of the law is made of -/
def WfPs (p : Int) (n : Nat) (ps : List (List (List Int))) : Prop := ps.length ≤ 6 ∧ ∀ pc ∈ ps, WfPc p n pc
def tLT : Tr := fun ds Z => ∃ (p : Int) (n : Nat) (ps : List (List (List Int))) (data : List Int), ds = [dI p, dT (ps.map pPc), dT (pI data)] ∧ 0 < p ∧ p ≤ 7 ∧ n ≤ 6 ∧ WfPs p n ps ∧ n ≤ data.length ∧ Z (dI (touL p ps data))
theorem own_lt (B : Bl mg) (h : At K mg "_law_touches" sLT f fd) (oZ : Own P w K mg base 2 "_law_is_zero" (spP K tLZ)) : Own P w K mg base 3 "_law_touches" (spP K tLT) := by
  refine def_pure h.fn scLT h.mg (h.fn.binds fun _ _ _ _ _ _ us hl => match us, hl with | [_, _, _], _ => rfl) (fun ds Z ⟨_, _, _, _, e, _⟩ => by rw [e]; rfl) fun cdv A outer s H E hr ds Z ⟨p, n, ps, data, ed, p0, p7, n6, wf, hd, q⟩ => ?_
  subst ed
  refine run_one (rs_ret (ev_len rfl B.len (eq_list (ev_new (en_lc1 (M := nLT) (sc := defScope sLT) 3 scLT.nd rfl rfl (by decide +kernel) (lch_mf (fun z => !zeroPc p (unPc z) data) (fun z => z) ?_) rfl fun _ _ _ _ _ => pg_name (i := 3) scLT.nd rfl (Or.inl rfl))))))
  refine ei_tup (ev_v 1 rfl ⟨_, rfl, ?_, fun i y hy => ?_, ?_⟩)
  · rw [List.length_map]
    exact sz (by have := wf.1; omega)
  · rw [List.getElem?_map] at hy
    obtain ⟨pc, hpc, ey⟩ := Option.map_eq_some_iff.mp hy
    subst ey
    have wp := wf.2 pc (List.mem_of_getElem? hpc)
    refine ⟨_, rfl, fun s H C cl fp => ets_one (et_not (et_val ?_))⟩
    refine ev_call oZ hr rfl (ea_cons (ev_v 0 rfl (ea_cons (ev_v 3 rfl ?_))))
    refine ea_cons (ev_v 2 rfl (ea_nil ⟨p, n, pc, data, rfl, p0, p7, n6, wp, hd, _, rfl, ?_, rfl, fun _ s H C cl fp => ev_v 3 rfl ⟨rfl, rfl⟩⟩))
    rw [unPc_pPc]
  · refine ⟨_, rfl, ?_⟩
    rw [List.map_id', filter_len]
    simp only [unPc_pPc]
    exact q
/-! ### _law_made -/
abbrev sLM : Stmt := top 62
abbrev nLM : List Str := ["prime", "base", "factors", "found", "at", "data", "to"]
theorem scLM : FnScope nLM ["prime", "base", "factors"] (defScope sLM) := ⟨rfl, rfl, rfl, by decide +kernel, rfl, by decide +kernel, by decide +kernel⟩
def tLM : Tr := fun ds Z => ∃ (p : Int) (n : Nat) (bs : List (List Int)) (fs : List Int), ds = [dI p, dT (bs.map pT), dT (pI fs)] ∧ 0 < p ∧ p ≤ 7 ∧ 1 ≤ bs.length ∧ n ≤ 1000 ∧ bs.length ≤ fs.length ∧ (∀ b ∈ bs, b.length = n) ∧ (∀ x ∈ fs, -(2 ^ 64) < x ∧ x < 2 ^ 64) ∧ Z (dT (pI (madeL p n bs fs)))
theorem made_len {p : Int} {n : Nat} : ∀ {zs : List (Int × List Int)} {acc : List Int}, acc.length = n → (∀ z ∈ zs, z.2.length = n) → (zs.foldl (fun acc x => List.zipWith (fun a d => (a + x.1 * d) % p) acc x.2) acc).length = n
  | [], _, h, _ => h
  | z :: zs, acc, h, hz => made_len (zs := zs) (by rw [List.length_zipWith, h, hz z List.mem_cons_self, Nat.min_self]) fun y hy => hz y (List.mem_cons_of_mem _ hy)
theorem flat_one {α : Type} (x : α) : ∀ n, (List.replicate n [x]).flatten = List.replicate n x
  | 0 => rfl
  | n + 1 => by rw [List.replicate_succ, List.flatten_cons, flat_one x n, List.replicate_succ]; rfl
theorem own_lm (B : Bl mg) (h : At K mg "_law_made" sLM f fd) : Own P w K mg base 1 "_law_made" (spP K tLM) := by
  refine def_pure h.fn scLM h.mg (h.fn.binds fun _ _ _ _ _ _ us hl => match us, hl with | [_, _, _], _ => rfl) (fun ds Z ⟨_, _, _, _, e, _⟩ => by rw [e]; rfl) fun cdv A outer s H E hr ds Z ⟨p, n, bs, fs, ed, p0, p7, b1, hn, hbf, hb, hf, q⟩ => ?_
  subst ed
  obtain ⟨b0, hb0⟩ := get_lt (xs := bs) (i := 0) b1
  have l0 : b0.length = n := hb b0 (List.mem_of_getElem? hb0)
  refine run_cons (rs_asg (i := 3) scLM.nd rfl (Or.inr rfl) (ev_new (en_rep (en_lst (ea_cons (ev_int (ea_nil ⟨[_], rfl, (by show 1 ≤ sizeLine; decide), ?_⟩)))))))
  refine ev_len rfl B.len (eq_tup (ev_ix (fun _ _ => rfl) (ev_v 1 rfl (ev_int ⟨bs.map pT, 0, pT b0, .inr rfl, rfl, ?_, _, rfl, _, rfl, ?_⟩))))
  · exact atI_get (i := 0) (by rw [List.getElem?_map, hb0]; rfl)
  rw [len_pI, l0]
  refine ⟨by omega, by omega, by show 1 * ((n : Int)).toNat ≤ _; exact sz (by omega), ?_⟩
  rw [Int.toNat_natCast, flat_one]
  have e0 : List.replicate n (PyData.int 0) = pI (List.replicate n 0) := by
    unfold pI
    rw [List.map_replicate]
  rw [e0]
  have hz : ∀ m, ∀ z ∈ (fs.zip bs).take m, z.2.length = n := fun m z hz => hb z.2 (List.of_mem_zip (List.mem_of_mem_take hz)).2
  refine run_cons (rs_for (.tup [4, 5]) PassesOwn.never rfl (pg_tup rfl (pgs_cons (pg_name (i := 4) scLM.nd rfl (Or.inr rfl)) (pgs_cons (pg_name (i := 5) scLM.nd rfl (Or.inr rfl)) pgs_nil))) (ei_enum rfl B.enumerate (ev_v 1 rfl ⟨_, .inl rfl,
    fun i ρ' => ∃ a b c, ρ' = [some (.im (dI p)), some (.im (dT (bs.map pT))), some (.im (dT (pI fs))), some (.im (dL (pI (((fs.zip bs).take i).foldl (fun acc x => List.zipWith (fun a d => (a + x.1 * d) % p) acc x.2) (List.replicate n 0))))), a, b, c], ⟨_, _, _, rfl⟩, fun i y ρ' hy ⟨a, b, c, er⟩ => ?_, fun ρ' ⟨a, b, c, er⟩ => ?_⟩)))
  · subst er
    have hi : i < bs.length := by
      have := (List.getElem?_eq_some_iff.mp hy).1
      unfold enumD at this
      simpa using this
    obtain ⟨data, hd⟩ := get_lt hi
    obtain ⟨fa, hfa⟩ := get_lt (xs := fs) (i := i) (by omega)
    have ld : data.length = n := hb data (List.mem_of_getElem? hd)
    have := enumD_get hy (show (bs.map pT)[i]? = some (pT data) by rw [List.getElem?_map, hd]; rfl)
    subst this
    refine ⟨_, rfl, ?_⟩
    generalize hacc : ((fs.zip bs).take i).foldl (fun acc x => List.zipWith (fun a d => (a + x.1 * d) % p) acc x.2) (List.replicate n 0) = acc
    have la : acc.length = n := by
      rw [← hacc]
      exact made_len (by simp) (hz i)
    refine run_one (rs_asg (i := 3) scLM.nd rfl (Or.inr rfl) (ev_new (en_lc1 (M := nLM) (sc := defScope sLM) 6 scLM.nd rfl rfl (by decide +kernel) (lch_map (fun z => match z with | .int k => .int ((acc.getD k.toNat 0 + fa * data.getD k.toNat 0) % p) | d => d) ?_) rfl fun _ _ _ _ _ => pg_name (i := 6) scLM.nd rfl (Or.inl rfl))))
    refine ei_range1 rfl B.range (ev_len rfl B.len (eq_tup (ev_v 5 rfl ⟨_, rfl, _, rfl, by rw [len_pI]; omega, by rw [len_pI]; omega, by rw [rangeD_len, len_pI]; exact sz (by omega), fun k x hx => ?_, ?_⟩)))
    · have hk : k < n := by
        have := (List.getElem?_eq_some_iff.mp hx).1
        rw [rangeD_len, len_pI] at this
        omega
      have := rangeD_get hx
      rw [Int.zero_add] at this
      subst this
      obtain ⟨u, hu⟩ := get_lt (xs := acc) (i := k) (by omega)
      obtain ⟨v, hv⟩ := get_lt (xs := data) (i := k) (by omega)
      refine ⟨_, rfl, fun s H C cl fp => ev_mod (ev_add (ev_ix (fun _ _ => rfl) (ev_v 3 rfl (ev_v 6 rfl ⟨_, _, _, .inl rfl, rfl, atI_pI hu, ?_⟩))))⟩
      refine ev_mul (ev_ix (fun _ _ => rfl) (ev_v 2 rfl (ev_v 4 rfl ⟨_, _, _, .inr rfl, rfl, atI_pI hfa, ?_⟩)))
      refine ev_ix (fun _ _ => rfl) (ev_v 5 rfl (ev_v 6 rfl ⟨_, _, _, .inr rfl, rfl, atI_pI hv, _, _, rfl, rfl, .inl (hf fa (List.mem_of_getElem? hfa)), _, _, rfl, rfl, ?_⟩))
      refine ev_v 0 rfl ⟨_, _, rfl, rfl, p0, ?_, rfl⟩
      show dI _ = Dt.d (.int ((acc.getD ((k : Int)).toNat 0 + fa * data.getD ((k : Int)).toNat 0) % p))
      rw [Int.toNat_natCast, List.getD_eq_getElem?_getD, List.getD_eq_getElem?_getD, hu, hv]
      rfl
    · have e : (rangeD 0 (((pI data).length : Int)).toNat).map (fun z => match z with | .int k => .int ((acc.getD k.toNat 0 + fa * data.getD k.toNat 0) % p) | d => d) = pI (List.zipWith (fun a d => (a + fa * d) % p) acc data) := by
        rw [len_pI, ld, Int.toNat_natCast]
        refine range_zip (fun a d => (a + fa * d) % p) la ld _ fun k x y hx hy => ?_
        show PyData.int ((acc.getD ((k : Int)).toNat 0 + fa * data.getD ((k : Int)).toNat 0) % p) = _
        rw [Int.toNat_natCast, List.getD_eq_getElem?_getD, List.getD_eq_getElem?_getD, hx, hy]
        rfl
      rw [e]
      refine ⟨some (.im (dI i)), some (.im (dT (pI data))), none, ?_⟩
      rw [take_succ ((List.getElem?_zip_eq_some (z := (fa, data))).mpr ⟨hfa, hd⟩), List.foldl_append, hacc]
      rfl
  · subst er
    refine run_one (rs_ret (ev_tuple rfl B.tuple (by decide +kernel) (eq_list (ev_v 3 rfl ⟨_, rfl, ?_⟩))))
    have el : (enumD (bs.map pT)).length = bs.length := by unfold enumD; simp
    rw [el, List.take_of_length_le (by rw [List.length_zip]; omega)]
    exact q
end
end K87
end
section
set_option Elab.async false
set_option linter.all false
set_option maxRecDepth 100000
set_option maxHeartbeats 4000000
/-! THE GENS FRAME. All generators that sleep may be put to sleep for good (their continuations stuck) while other code runs:
whatever that code then does, it never wakes one of them (else it would not come through), so it does the same with the true sleepers there, and leaves them. -/
namespace GF
open PySem
open Sem (wp)

/-- the same sleeper, which can't be woken -/
def stuckGen : GenState → GenState
  | .suspended _ l c p fs cl => .suspended (fun _ => .unsupported "asleep") l c p fs cl
  | x => x
def Sleeps : GenState → Prop
  | .suspended .. => True
  | _ => False
instance : DecidablePred Sleeps := fun x => by cases x <;> unfold Sleeps <;> infer_instance
theorem stuck_seen (x : GenState) : (stuckGen x).seen = x.seen := by cases x <;> rfl
theorem stuck_bare (x : GenState) : (stuckGen x).bare = x.bare := by cases x <;> rfl
/-- no generator's frame among the frames of a sleeper -/
def okGen : GenState → Prop
  | .suspended _ _ _ _ fs _ => splitAtGen fs = none
  | _ => True
def okEnd : End → Prop
  | .ret _ => True
  | .susp _ _ _ _ _ _ fs => splitAtGen fs = none
theorem okEnd_gen {e : End} (h : okEnd e) : okGen e.genState := by
  cases e with
  | ret _ => exact trivial
  | susp _ _ _ _ _ _ fs => exact h

section
variable {M : Model}
theorem no_unsupported {Γ : Ctx} {p : Pos} {t : Sem Fin} {fs : List Frame} {s s' : Shared} {e : End} (h : Runs M Γ p t fs s e s') : ∀ w, t ≠ .unsupported w := by
  induction h <;> intro w hw <;> first | (cases hw; done) | skip
  all_goals first | (rename_i ih _; exact ih w hw) | (rename_i ih; exact ih w hw) | (rename_i ih _ _; exact ih w hw) | skip
  all_goals (subst hw; rename_i ih1 ih2; exact ih1 w rfl)

abbrev Tab := Nat → Option GenState
def resG (T : Tab) (a : Array GenState) : Array GenState := a.mapIdx fun i x => (T i).getD x
def res (T : Tab) (s : Shared) : Shared := { s with gens := resG T s.gens }
structure Ok (T : Tab) (a : Array GenState) : Prop where
  sl : ∀ i X, T i = some X → Sleeps X ∧ a[i]? = some (stuckGen X)
  ok : ∀ i x, a[i]? = some x → T i = none → okGen x
theorem resG_get (T : Tab) (a : Array GenState) (i : Nat) : (resG T a)[i]? = a[i]?.map fun x => (T i).getD x := by
  unfold resG
  rw [Array.getElem?_mapIdx]
theorem resG_size (T : Tab) (a : Array GenState) : (resG T a).size = a.size := by
  unfold resG
  rw [Array.size_mapIdx]
theorem resG_set {T : Tab} {a : Array GenState} {g : Nat} {x : GenState} (h : T g = none) : resG T (a.setIfInBounds g x) = (resG T a).setIfInBounds g x := by
  apply Array.ext_getElem?
  intro i
  rw [resG_get, Array.getElem?_setIfInBounds, Array.getElem?_setIfInBounds, resG_size, resG_get]
  by_cases e : g = i
  · subst e
    rw [if_pos rfl, if_pos rfl]
    split
    · simp [h]
    · rfl
  · rw [if_neg e, if_neg e]
theorem Ok.lt {T : Tab} {a : Array GenState} (k : Ok T a) {i : Nat} {X : GenState} (h : T i = some X) : i < a.size := (Array.getElem?_eq_some_iff.mp (k.sl i X h).2).1
theorem resG_push {T : Tab} {a : Array GenState} {x : GenState} (k : Ok T a) : resG T (a.push x) = (resG T a).push x := by
  apply Array.ext_getElem?
  intro i
  rw [resG_get, Array.getElem?_push, Array.getElem?_push, resG_size, resG_get]
  by_cases e : i = a.size
  · subst e
    rw [if_pos rfl, if_pos rfl]
    cases h : T a.size with
    | none => simp
    | some X => exact absurd (k.lt h) (Nat.lt_irrefl _)
  · rw [if_neg e, if_neg e]
theorem Ok.push {T : Tab} {a : Array GenState} (k : Ok T a) {x : GenState} (hx : okGen x) : Ok T (a.push x) where
  sl := fun i X h => ⟨(k.sl i X h).1, by
    rw [Array.getElem?_push, if_neg (Nat.ne_of_lt (k.lt h))]
    exact (k.sl i X h).2⟩
  ok := fun i y hy hT => by
    rw [Array.getElem?_push] at hy
    by_cases e : i = a.size
    · rw [if_pos e] at hy
      cases hy
      exact hx
    · rw [if_neg e] at hy
      exact k.ok i y hy hT
theorem Ok.set {T : Tab} {a : Array GenState} (k : Ok T a) {g : Nat} {x : GenState} (hT : T g = none) (hx : okGen x) : Ok T (a.setIfInBounds g x) where
  sl := fun i X h => ⟨(k.sl i X h).1, by
    have n : g ≠ i := fun e => by
      rw [e, h] at hT
      cases hT
    rw [Array.getElem?_setIfInBounds_ne n]
    exact (k.sl i X h).2⟩
  ok := fun i y hy hTi => by
    rw [Array.getElem?_setIfInBounds] at hy
    by_cases e : g = i
    · rw [if_pos e] at hy
      split at hy
      · cases hy
        exact hx
      · cases hy
    · rw [if_neg e] at hy
      exact k.ok i y hy hTi
theorem Ok.free {T : Tab} {a : Array GenState} (k : Ok T a) {g : Nat} {x : GenState} (h : a[g]? = some x) (hx : ¬ Sleeps x) : T g = none := by
  cases e : T g with
  | none => rfl
  | some X =>
    obtain ⟨h1, h2⟩ := k.sl g X e
    rw [h] at h2
    cases h2
    exact absurd (by cases X <;> first | exact trivial | exact h1) hx
theorem res_get {T : Tab} {s : Shared} {g : Nat} {x : GenState} (hT : T g = none) (h : s.gens[g]? = some x) : (res T s).gens[g]? = some x := by
  show (resG T s.gens)[g]? = some x
  rw [resG_get, h, hT]
  rfl
theorem res_set {T : Tab} {s : Shared} {g : Nat} {x : GenState} (hT : T g = none) : res T (s.setGen g x) = (res T s).setGen g x := by
  show ({ s with gens := resG T (s.gens.setIfInBounds g x) } : Shared) = { s with gens := (resG T s.gens).setIfInBounds g x }
  rw [resG_set hT]
theorem res_push {T : Tab} {s : Shared} {x : GenState} (k : Ok T s.gens) : res T { s with gens := s.gens.push x } = { res T s with gens := (res T s).gens.push x } := by
  show ({ s with gens := resG T (s.gens.push x) } : Shared) = { s with gens := (resG T s.gens).push x }
  rw [resG_push k]
theorem split_cons {F : Frame} {fs : List Frame} (h : splitAtGen (F :: fs) = none) : splitAtGen fs = none := by
  cases F with
  | gen g k l c p => cases h
  | ret k hh g l c p kp =>
    rw [splitAtGen_ret] at h
    cases hs : splitAtGen fs with
    | none => rfl
    | some x =>
      rw [hs] at h
      cases h
theorem split_append {a b : List Frame} (h1 : splitAtGen a = none) (h2 : splitAtGen b = none) : splitAtGen (a ++ b) = none := by
  rw [splitAtGen_append_none b h1, h2]
  rfl

theorem res_gsize (T : Tab) {s : Shared} : (res T s).gens.size = s.gens.size := resG_size T s.gens
theorem seen_case {T : Tab} {s : Shared} {g : Nat} {st : GenState} (k : Ok T s.gens) (hs : s.gens[g]? = some st) : ∃ st', (res T s).gens[g]? = some st' ∧ st'.seen = st.seen := by
  cases hT : T g with
  | none => exact ⟨st, res_get hT hs, rfl⟩
  | some X =>
    obtain ⟨_, h2⟩ := k.sl g X hT
    rw [h2] at hs
    cases hs
    refine ⟨X, ?_, (stuck_seen X).symm⟩
    show (resG T s.gens)[g]? = some X
    rw [resG_get, h2, hT]
    rfl

/-- THE FRAME for a run -/
theorem runs_frame {T : Tab} {Γ : Ctx} {p : Pos} {t : Sem Fin} {fs : List Frame} {s s' : Shared} {e : End} (h : Runs M Γ p t fs s e s') :
    Ok T s.gens → splitAtGen fs = none → Runs M Γ p t fs (res T s) e (res T s') ∧ Ok T s'.gens ∧ okEnd e := by
  induction h with
  | done => intro k _; exact ⟨.done, k, trivial⟩
  | raise => intro k _; exact ⟨.raise, k, trivial⟩
  | again hq _ ih => intro k hf; obtain ⟨a, b, c⟩ := ih k hf; exact ⟨.again hq a, b, c⟩
  | rule _ ih => intro k hf; obtain ⟨a, b, c⟩ := ih k hf; exact ⟨.rule a, b, c⟩
  | «at» _ ih => intro k hf; obtain ⟨a, b, c⟩ := ih k hf; exact ⟨.at a, b, c⟩
  | load ho _ ih => intro k hf; obtain ⟨a, b, c⟩ := ih k hf; exact ⟨.load ho a, b, c⟩
  | update ha _ ih => intro k hf; obtain ⟨a, b, c⟩ := ih k hf; exact ⟨.update ha a, b, c⟩
  | loadIfAlive _ ih => intro k hf; obtain ⟨a, b, c⟩ := ih k hf; exact ⟨.loadIfAlive a, b, c⟩
  | point _ ih => intro k hf; obtain ⟨a, b, c⟩ := ih k hf; exact ⟨.point a, b, c⟩
  | alloc _ ih => intro k hf; obtain ⟨a, b, c⟩ := ih k hf; exact ⟨.alloc a, b, c⟩
  | fresh _ ih => intro k hf; obtain ⟨a, b, c⟩ := ih k hf; exact ⟨.fresh a, b, c⟩
  | ask _ ih => intro k hf; obtain ⟨a, b, c⟩ := ih k hf; exact ⟨.ask a, b, c⟩
  | choose hn _ ih => intro k hf; obtain ⟨a, b, c⟩ := ih k hf; exact ⟨.choose hn a, b, c⟩
  | os _ ih => intro k hf; obtain ⟨a, b, c⟩ := ih k hf; exact ⟨.os a, b, c⟩
  | handled _ ih => intro k hf; obtain ⟨a, b, c⟩ := ih k hf; exact ⟨.handled a, b, c⟩
  | genState hs _ ih =>
    intro k hf
    obtain ⟨a, b, c⟩ := ih k hf
    obtain ⟨st', e2, e3⟩ := seen_case k hs
    rw [← e3] at a
    exact ⟨.genState e2 a, b, c⟩
  | stack _ ih => intro k hf; obtain ⟨a, b, c⟩ := ih k hf; exact ⟨.stack a, b, c⟩
  | thread _ ih => intro k hf; obtain ⟨a, b, c⟩ := ih k hf; exact ⟨.thread a, b, c⟩
  | newGen _ ih =>
    intro k hf
    obtain ⟨a, b, c⟩ := ih (k.push trivial) hf
    rw [res_push k] at a
    rw [← res_gsize T] at a
    exact ⟨.newGen a, b, c⟩
  | call _ _ ih1 ih2 =>
    intro k hf
    obtain ⟨a, b, _⟩ := ih1 k hf
    obtain ⟨a2, b2, c2⟩ := ih2 b hf
    exact ⟨.call a a2, b2, c2⟩
  | callSusp _ ih =>
    intro k hf
    obtain ⟨a, b, c⟩ := ih k hf
    exact ⟨.callSusp a, b, split_append c rfl⟩
  | yield => intro k _; exact ⟨.yield, k, rfl⟩
  | resumeFresh hs _ hq _ ih1 ih2 =>
    intro k hf
    have hT := k.free hs (fun z => z)
    obtain ⟨a, b, c⟩ := ih1 (k.set hT trivial) hf
    obtain ⟨a2, b2, c2⟩ := ih2 (b.set hT (okEnd_gen c)) hf
    rw [res_set hT] at a a2
    exact ⟨.resumeFresh (res_get hT hs) a hq a2, b2, c2⟩
  | resumeSuspended hs hr hq _ ih1 ih2 =>
    rename_i Γ0 p0 g0 r0 l0 k0 s0 kk ll cc pp ff cl e1 s1 e2 s2 _
    intro k hf
    cases hT : T g0 with
    | none =>
      obtain ⟨a, b, c⟩ := ih1 (k.set hT trivial) (k.ok g0 _ hs hT)
      obtain ⟨a2, b2, c2⟩ := ih2 (b.set hT (okEnd_gen c)) hf
      rw [res_set hT] at a a2
      exact ⟨.resumeSuspended (res_get hT hs) a hq a2, b2, c2⟩
    | some X =>
      obtain ⟨h1, h2⟩ := k.sl g0 X hT
      rw [h2] at hs
      cases X with
      | suspended k' l' c' p' fs' cl' =>
        injection hs with hs
        injection hs with q1 q2 q3 q4 q5 q6
        exact absurd (congrFun q1 r0).symm (no_unsupported hr _)
      | _ => exact h1.elim
  | resumeJustStarted hs hv _ ih =>
    intro k hf
    obtain ⟨a, b, c⟩ := ih k hf
    exact ⟨.resumeJustStarted (res_get (k.free hs (fun z => z)) hs) hv a, b, c⟩
  | resumeThrowFresh hs _ ih =>
    intro k hf
    have hT := k.free hs (fun z => z)
    obtain ⟨a, b, c⟩ := ih (k.set hT trivial) hf
    rw [res_set hT] at a
    exact ⟨.resumeThrowFresh (res_get hT hs) a, b, c⟩
  | resumeRunning hs _ ih =>
    intro k hf
    obtain ⟨a, b, c⟩ := ih k hf
    exact ⟨.resumeRunning (res_get (k.free hs (fun z => z)) hs) a, b, c⟩
  | resumeFinished hs _ ih =>
    intro k hf
    obtain ⟨a, b, c⟩ := ih k hf
    exact ⟨.resumeFinished (res_get (k.free hs (fun z => z)) hs) a, b, c⟩
  | segRet _ _ ih1 ih2 =>
    intro k hf
    obtain ⟨a, b, _⟩ := ih1 k rfl
    obtain ⟨a2, b2, c2⟩ := ih2 b (split_cons hf)
    exact ⟨.segRet a a2, b2, c2⟩
  | segGen _ _ ih1 ih2 => intro k hf; cases hf
  | segSuspOut hs _ ih =>
    intro k hf
    obtain ⟨a, b, c⟩ := ih k rfl
    exact ⟨.segSuspOut hs a, b, split_append c hf⟩
  | segSuspGen hs _ hq _ ih1 ih2 =>
    intro k hf
    rw [hf] at hs
    cases hs

theorem wakes_frame {T : Tab} {Γ : Ctx} {p : Pos} {g : Nat} {r : Resume} {s s' : Shared} {rs : GenResult} (h : Wakes M Γ p g r s rs s') (k : Ok T s.gens) :
    Wakes M Γ p g r (res T s) rs (res T s') ∧ Ok T s'.gens := by
  unfold Wakes at h ⊢
  cases hs : s.gens[g]? with
  | none =>
    rw [hs] at h
    exact h.elim
  | some x =>
    rw [hs] at h
    cases x with
    | fresh c =>
      have hT := k.free hs (fun z => z)
      rw [res_get hT hs]
      dsimp only at h ⊢
      cases r with
      | send v =>
        by_cases hv : v = .none
        · subst hv
          obtain ⟨e₁, s₁, hr, hq, h1, h2⟩ := h
          obtain ⟨a, b, cc⟩ := runs_frame hr (k.set hT trivial) rfl
          rw [res_set hT] at a
          subst h2
          exact ⟨⟨e₁, res T s₁, a, hq, h1, res_set hT⟩, b.set hT (okEnd_gen cc)⟩
        · have h' : rs = .justStarted ∧ s' = s := by
            cases v <;> first | exact absurd rfl hv | exact h
          obtain ⟨h1, h2⟩ := h'
          subst h2
          refine ⟨?_, k⟩
          cases v <;> first | exact absurd rfl hv | exact ⟨h1, rfl⟩
      | throw x =>
        obtain ⟨h1, h2⟩ := h
        subst h2
        exact ⟨⟨h1, res_set hT⟩, k.set hT trivial⟩
    | suspended kk ll cc pp ff cl =>
      dsimp only at h
      obtain ⟨e₁, s₁, hr, hq, h1, h2⟩ := h
      cases hT : T g with
      | none =>
        obtain ⟨a, b, c⟩ := runs_frame hr (k.set hT trivial) (k.ok g _ hs hT)
        rw [res_set hT] at a
        rw [res_get hT hs]
        dsimp only
        subst h2
        exact ⟨⟨e₁, res T s₁, a, hq, h1, res_set hT⟩, b.set hT (okEnd_gen c)⟩
      | some X =>
        obtain ⟨q1, q2⟩ := k.sl g X hT
        rw [q2] at hs
        cases X with
        | suspended k' l' c' p' fs' cl' =>
          injection hs with hs
          injection hs with z1 z2 z3 z4 z5 z6
          exact absurd (congrFun z1 r).symm (no_unsupported hr _)
        | _ => exact q1.elim
    | running =>
      have hT := k.free hs (fun z => z)
      rw [res_get hT hs]
      dsimp only at h ⊢
      obtain ⟨h1, h2⟩ := h
      subst h2
      exact ⟨⟨h1, rfl⟩, k⟩
    | finished =>
      have hT := k.free hs (fun z => z)
      rw [res_get hT hs]
      dsimp only at h ⊢
      obtain ⟨h1, h2⟩ := h
      subst h2
      exact ⟨⟨h1, rfl⟩, k⟩

/-- THE FRAME for a tree -/
theorem wp_frame {α : Type} {T : Tab} {Γ : Ctx} (t : Sem α) : ∀ (Q : α → Pos → Shared → Prop) (E : Value → Pos → Shared → Prop) (p : Pos) (s : Shared), Ok T s.gens → wp M Γ t Q E p s →
    wp M Γ t (fun a p' s' => ∃ s1, Ok T s1.gens ∧ s' = res T s1 ∧ Q a p' s1) (fun e p' s' => ∃ s1, Ok T s1.gens ∧ s' = res T s1 ∧ E e p' s1) p (res T s) := by
  induction t with
  | pure a => intro Q E p s k h; exact ⟨s, k, rfl, h⟩
  | raise e => intro Q E p s k h; exact ⟨s, k, rfl, h⟩
  | unsupported _ => intro Q E p s _ h; exact h
  | finish _ => intro Q E p s _ h; exact h
  | rule _ f ih => intro Q E p s k h; exact ih () Q E p s k h
  | «at» p' f ih => intro Q E p s k h; exact ih () Q E p' s k h
  | load a _ f ih => intro Q E p s k h; obtain ⟨o, ho, h⟩ := h; exact ⟨o, ho, ih o Q E p s k h⟩
  | update a _ u f ih => intro Q E p s k h; exact ⟨h.1, ih () Q E p { s with heap := s.heap.update a u } k h.2⟩
  | loadIfAlive a f ih => intro Q E p s k h; exact ih _ Q E p s k h
  | point _ f ih => intro Q E p s k h; exact ih () Q E p s k h
  | register _ _ => intro Q E p s _ h; exact h
  | alloc o f ih => intro Q E p s k h; exact ih _ Q E p { s with heap := s.heap.push o } k h
  | fresh f ih => intro Q E p s k h; exact ih _ Q E p { s with toks := s.toks + 1 } k h
  | ask f ih => intro Q E p s k h; exact ih _ Q E p s k h
  | choose src m f ih => intro Q E p s k h; exact ⟨h.1, ih _ Q E p { s with drawn := s.drawn.bump src } k h.2⟩
  | os q _ f ih => intro Q E p s k h; exact ih _ Q E p { s with os := (Os.step s.os q).1 } k h
  | call c hd _ _ f ih =>
    intro Q E p s k h
    obtain ⟨r, s', hr, h⟩ := h
    obtain ⟨a, b, _⟩ := runs_frame hr k rfl
    exact ⟨r, res T s', a, ih r Q E p s' b h⟩
  | handled own f ih => intro Q E p s k h; exact ih _ Q E p s k h
  | genState g f ih =>
    intro Q E p s k h
    obtain ⟨st, hs, h⟩ := h
    cases hT : T g with
    | none => exact ⟨st, res_get hT hs, ih _ Q E p s k h⟩
    | some X =>
      obtain ⟨_, h2⟩ := k.sl g X hT
      rw [h2] at hs
      cases hs
      rw [stuck_seen] at h
      refine ⟨X, ?_, ih _ Q E p s k h⟩
      show (resG T s.gens)[g]? = some X
      rw [resG_get, h2, hT]
      rfl
  | newGen c f ih =>
    intro Q E p s k h
    have q := ih _ Q E p { s with gens := s.gens.push (.fresh c) } (k.push trivial) h
    rw [res_push k] at q
    show wp M Γ (f (res T s).gens.size) _ _ p _
    have e1 : (res T s).gens.size = s.gens.size := resG_size T _
    rw [e1]
    exact q
  | resume g r _ f ih =>
    intro Q E p s k h
    obtain ⟨rs, s', hw, h⟩ := h
    obtain ⟨a, b⟩ := wakes_frame hw k
    exact ⟨rs, res T s', a, ih rs Q E p s' b h⟩
  | yield _ _ _ _ => intro Q E p s _ h; exact h
  | stack f ih => intro Q E p s k h; exact ih _ Q E p s k h
  | fork _ _ => intro Q E p s _ h; exact h
  | thread f ih => intro Q E p s k h; exact ih _ Q E p s k h
  | await _ _ _ _ _ => intro Q E p s _ h; exact h

/-- all sleepers put to sleep for good -/
def lull (s : Shared) : Shared := { s with gens := s.gens.map stuckGen }
def tabOf (s : Shared) : Tab := fun i => match s.gens[i]? with
  | some (.suspended k l c p fs cl) => some (.suspended k l c p fs cl)
  | _ => none
theorem lull_ok (s : Shared) : Ok (tabOf s) (lull s).gens where
  sl := fun i X h => by
    unfold tabOf at h
    split at h
    · rename_i q
      cases h
      refine ⟨trivial, ?_⟩
      show (s.gens.map stuckGen)[i]? = _
      rw [Array.getElem?_map, q]
      rfl
    · cases h
  ok := fun i x hx hT => by
    have hx : (s.gens.map stuckGen)[i]? = some x := hx
    rw [Array.getElem?_map] at hx
    unfold tabOf at hT
    cases q : s.gens[i]? with
    | none =>
      rw [q] at hx
      cases hx
    | some y =>
      rw [q] at hx hT
      cases y with
      | suspended k l c p fs cl => cases hT
      | _ =>
        cases hx
        exact trivial
theorem res_lull (s : Shared) : res (tabOf s) (lull s) = s := by
  obtain ⟨hp, gs, d, t, o⟩ := s
  show ({ heap := hp, gens := resG (tabOf ⟨hp, gs, d, t, o⟩) (gs.map stuckGen), drawn := d, toks := t, os := o } : Shared) = ⟨hp, gs, d, t, o⟩
  congr 1
  apply Array.ext_getElem?
  intro i
  rw [resG_get, Array.getElem?_map]
  cases q : gs[i]? with
  | none => rfl
  | some y =>
    have e : tabOf ⟨hp, gs, d, t, o⟩ i = (match (some y : Option GenState) with
      | some (GenState.suspended k l c p fs cl) => some (GenState.suspended k l c p fs cl)
      | _ => none) := by
      unfold tabOf
      show (match gs[i]? with | some (GenState.suspended k l c p fs cl) => some (GenState.suspended k l c p fs cl) | _ => none) = _
      rw [q]
    rw [e]
    cases y <;> rfl
/-- what is left of the sleepers of s in s' -/
def Kept (s s' : Shared) : Prop := ∀ (i : Nat) (X : GenState), s.gens[i]? = some X → Sleeps X → s'.gens[i]? = some X
theorem any_frame {α : Type} {A : Around} {t : Sem α} {Q : α → Shared → Prop} {E : Value → Shared → Prop} {s : Shared} (h : wpAny M A t Q E (lull s)) :
    wpAny M A t (fun a s' => ∃ s1, Q a s1 ∧ s' = { s1 with gens := s'.gens } ∧ Kept s s' ∧ s'.gens.size = s1.gens.size ∧ ∀ (i : Nat) (x : GenState), s'.gens[i]? = some x → s.gens[i]? = some x ∨ s1.gens[i]? = some x)
      (fun e s' => ∃ s1, E e s1 ∧ s' = { s1 with gens := s'.gens } ∧ Kept s s' ∧ s'.gens.size = s1.gens.size ∧ ∀ (i : Nat) (x : GenState), s'.gens[i]? = some x → s.gens[i]? = some x ∨ s1.gens[i]? = some x) s := by
  have key : ∀ s1 : Shared, Ok (tabOf s) s1.gens → ∀ s', s' = res (tabOf s) s1 → s' = { s1 with gens := s'.gens } ∧ Kept s s' ∧ s'.gens.size = s1.gens.size ∧ ∀ (i : Nat) (x : GenState), s'.gens[i]? = some x → s.gens[i]? = some x ∨ s1.gens[i]? = some x := by
    intro s1 k s' e
    subst e
    refine ⟨rfl, fun i X h1 h2 => ?_, resG_size _ _, fun i x hx => ?_⟩
    · have hT : tabOf s i = some X := by
        unfold tabOf
        rw [h1]
        cases X <;> first | rfl | exact h2.elim
      show (resG (tabOf s) s1.gens)[i]? = some X
      rw [resG_get, (k.sl i X hT).2, hT]
      rfl
    · have hx : (resG (tabOf s) s1.gens)[i]? = some x := hx
      rw [resG_get] at hx
      cases hT : tabOf s i with
      | none =>
        rw [hT] at hx
        right
        cases q : s1.gens[i]? with
        | none =>
          rw [q] at hx
          cases hx
        | some y =>
          rw [q] at hx
          exact hx
      | some X =>
        left
        rw [hT, (k.sl i X hT).2] at hx
        cases hx
        unfold tabOf at hT
        split at hT
        · rename_i q
          cases hT
          exact q
        · cases hT
  intro Γ p hΓ
  have q := wp_frame (T := tabOf s) t _ _ p (lull s) (lull_ok s) (h Γ p hΓ)
  rw [res_lull] at q
  refine Sem.wp_mono M Γ t (fun a p' s' z => ?_) (fun e p' s' z => ?_) p s q
  · obtain ⟨s1, k, e, hQ⟩ := z
    exact ⟨s1, hQ, key s1 k s' e⟩
  · obtain ⟨s1, k, e', hE⟩ := z
    exact ⟨s1, hE, key s1 k s' e'⟩
end
end GF
end
section
set_option Elab.async false
set_option linter.all false
set_option maxRecDepth 100000
set_option maxHeartbeats 4000000
/-! Generators that are walked by own code: the context of a body that wakes again (rebase), the for loop of a generator's body (seg_For, seg_forLoop). -/
namespace GU
open PySem PySem.Spec PyProof.Rows L2 GenW

/-- the first n objects -/
def cut (h : Heap) (n : Nat) : Heap := { h with objs := h.objs.extract 0 n }
theorem cut_get {h : Heap} {n b : Nat} : (cut h n).get? b = if b < n then h.get? b else none := by
  unfold cut Heap.get?
  dsimp only
  rw [Array.getElem?_extract]
  by_cases e : b < n
  · rw [if_pos e]
    by_cases q : b < h.objs.size
    · rw [if_pos (by omega)]
      simp
    · rw [if_neg (by omega)]
      rw [Array.getElem?_eq_none (by omega)]
  · rw [if_neg e, if_neg (by omega)]
theorem cut_size {h : Heap} {n : Nat} (q : n ≤ h.objs.size) : (cut h n).objs.size = n := by
  unfold cut
  dsimp only
  rw [Array.size_extract]
  omega
theorem cut_le {h : Heap} {n : Nat} : (cut h n).objs.size ≤ n := by
  unfold cut
  dsimp only
  rw [Array.size_extract]
  omega
theorem cut_lt {h : Heap} {n b : Nat} {o : Obj} (e : h.get? b = some o) (q : b < n) : (cut h n).get? b = some o := by
  rw [cut_get, if_pos q]
  exact e
theorem of_cut {h : Heap} {n b : Nat} {o : Obj} (e : (cut h n).get? b = some o) : b < n ∧ h.get? b = some o := by
  rw [cut_get] at e
  by_cases q : b < n
  · rw [if_pos q] at e
    exact ⟨q, e⟩
  · rw [if_neg q] at e
    cases e

/-- no cell -/
def NoCell (o : Obj) : Prop := ∀ v, o.data ≠ .cell v

/-- the context behind a sleep: the heap as it is now, up to the generator's own frame, stands for the one at the call -/
abbrev reX (X : Cx) (s : Shared) (H : Hp) : Cx :=
  { X with s_0 := { s with heap := cut s.heap X.env.locals }, H_0 := fun b => if b < X.env.locals then H b else none, ex := [], pn := [], xe := fun _ _ => False }
/-- what the code around must leave as it is while a generator sleeps -/
structure Left (X : Cx) (s s2 : Shared) : Prop where
  bare : AllBare s2.gens
  loc : ∀ o, s.heap.get? X.env.locals = some o → s2.heap.get? X.env.locals = some o
  cell : ∀ x c, X.env.cells.lookup x = some c → ∀ o, s.heap.get? c = some o → s2.heap.get? c = some o
  base : ∀ b o, X.base.get? b = some o → s2.heap.get? b = some o
  funs : s2.heap.FunFrames X.base X.outer

theorem rebase {X : Cx} {pins pins2 : List (Addr × Obj)} {σ : L2.St} {H H2 : Hp} {s s2 : Shared} (I : Inv X pins σ H s) (hs : X.stack = X.env :: X.outer) (hl : ∀ x c, X.env.cells.lookup x = some c → X.env.locals ≤ c)
    (f : Left X s s2)
    (hfr : ∀ b ∈ frs X.outer, b < X.env.locals ∧ H2 b = none) (hok : HOk X.prog X.w H2 s2.heap) (h2l : H2 X.env.locals = none) (h2c : ∀ x c, X.env.cells.lookup x = some c → H2 c = none)
    (h2b : ∀ b o, X.base.get? b = some o → H2 b = none)
    (hp : ∀ p ∈ pins2, s2.heap.get? p.1 = some p.2 ∧ H2 p.1 = none ∧ p.1 ≠ X.env.locals ∧ p.1 ∉ frs X.outer ∧ NoCell p.2) : Inv (reX X s2 H2) pins2 σ H2 s2 := by
  obtain ⟨m, hn, hv⟩ := I.loc
  have hn2 : s2.heap.Ns X.env.locals m := hn.at' f.loc
  have lt2 : X.env.locals < s2.heap.objs.size := hn2.lt
  have bl : ∀ b o, X.base.get? b = some o → b < X.env.locals := fun b o e => by
    have h1 := Heap.lt_size e
    have h2 := I.ok.bsz
    have h3 := I.ok.above
    exact Nat.lt_of_lt_of_le h1 (Nat.le_trans h2 h3)
  have fl : X.env.frame = some X.env.locals := by
    rcases I.ok.stk with z | z
    · rw [hs] at z
      have := congrArg List.length z
      simp at this
    · exact z.2
  have funs2 : (cut s2.heap X.env.locals).FunFrames X.base X.outer := by
    have : ∀ (l : List Env), (∀ b ∈ frs l, b ∈ frs X.outer) → s2.heap.FunFrames X.base l → (cut s2.heap X.env.locals).FunFrames X.base l := by
      intro l
      induction l with
      | nil => intro _ _; trivial
      | cons e r ih =>
        intro hsub hf
        obtain ⟨hk, ⟨L, o, hfr', hnb, ho, hd⟩, hr⟩ := hf
        have hm : L ∈ frs (e :: r) := by
          unfold frs
          rw [List.filterMap_cons, hfr']
          exact List.mem_cons_self
        refine ⟨hk, ⟨L, o, hfr', hnb, cut_lt ho (hfr L (hsub L hm)).1, hd⟩, ih (fun b hb => hsub b ?_) hr⟩
        unfold frs at hb ⊢
        rw [List.filterMap_cons, hfr']
        exact List.mem_cons_of_mem _ hb
    exact this X.outer (fun _ z => z) f.funs
  refine ⟨⟨I.ok.mod, I.ok.kind, I.ok.glob, I.ok.blt, ?_, I.ok.inj, I.ok.has, fun x c _ h => ?_, I.ok.hd, I.ok.frames, I.ok.stk, fun b hb => absurd (show b ∈ ([] : List Addr) from hb) (by simp), fun b o e => ?_, ?_, fun b o _ hb => absurd (show b ∈ ([] : List Addr) from hb) (by simp),
    fun b hb => absurd (show b ∈ ([] : List Addr) from hb) (by simp), funs2, fun b hb => ?_⟩, rfl, f.bare, ?_, ⟨m, hn2, fun i x v h1 h2 h3 => ?_⟩, fun x c h => ?_, h2l, h2c, fun p hpp => ?_, hok, I.len⟩
  · show (cut s2.heap X.env.locals).objs.size ≤ X.env.locals
    rw [cut_size (Nat.le_of_lt lt2)]
    exact Nat.le_refl _
  · show (cut s2.heap X.env.locals).objs.size ≤ c
    rw [cut_size (Nat.le_of_lt lt2)]
    exact hl x c h
  · exact ⟨cut_lt (f.base b o e) (bl b o e), by
      show (if b < X.env.locals then H2 b else none) = none
      rw [if_pos (bl b o e)]
      exact h2b b o e⟩
  · show X.base.objs.size ≤ (cut s2.heap X.env.locals).objs.size
    rw [cut_size (Nat.le_of_lt lt2)]
    exact Nat.le_trans I.ok.bsz I.ok.above
  · show (if b < X.env.locals then H2 b else none) = none
    obtain ⟨h1, h2⟩ := hfr b hb
    rw [if_pos h1]
    exact h2
  · show Un (frs X.outer) [] (fun b => if b < X.env.locals then H2 b else none) H2 (cut s2.heap X.env.locals) s2.heap
    refine ⟨fun b o e _ _ _ => (of_cut e).2, fun b o e _ _ _ => ⟨o.slots, (of_cut e).2⟩, fun b o e n _ => ?_, fun b o e _ => ⟨o, (of_cut e).2⟩, fun b xs q => ?_, fun b o u q => ?_, fun b ps q => ?_⟩
    · have h1 := (of_cut e).1
      have n : (if b < X.env.locals then H2 b else none) = none := n
      rw [if_pos h1] at n
      exact n
    · have q : (if b < X.env.locals then H2 b else none) = some (.tup xs) := q
      split at q
      · exact q
      · cases q
    · have q : (if b < X.env.locals then H2 b else none) = some (.frz o u) := q
      split at q
      · exact q
      · cases q
    · have q : (if b < X.env.locals then H2 b else none) = some (.tbl ps) := q
      split at q
      · exact ⟨#[], by rw [q]; simp⟩
      · cases q
  · obtain ⟨u, ru, lk⟩ := hv i x v h1 h2 h3
    refine ⟨u, ru, ?_⟩
    rcases lk with lk | ⟨h4, c, h5, o, ho, hd⟩
    · exact .inl lk
    · exact .inr ⟨h4, c, h5, o, f.cell x c h5 o ho, hd⟩
  · obtain ⟨v, o, ho, hd⟩ := I.cell x c h
    exact ⟨v, o, f.cell x c h o ho, hd⟩
  · obtain ⟨a, b, c, d, e⟩ := hp p hpp
    exact ⟨a, b, c, d, e⟩

/-! ### the for loop in a generator's body -/
section
variable {M : Model} {A : Around} {R : GenEnd} {Y : Protocol} {n : Nat} {s₀ : Shared} {c : Code} {fs : List Frame} {s : Shared} {env : Env}
  {K : Flow → Sem PySem.Fin} {J : Value → Sem PySem.Fin} {gd : Bool → Bool} {lv : List Value → List Value}
/-- what stands above a loop's code -/
abbrev loopK (env : Env) (K : Flow → Sem PySem.Fin) (J : Value → Sem PySem.Fin) (gd : Bool → Bool) (lv : List Value → List Value) : Result → Sem PySem.Fin :=
  fun r => ((match r with | .ok f => (.pure f : Sem Flow) | .error e => .raise e).onRaise fun (x : Value) => do
    if (← field x 1) == Value.none then unsupported "frame.own-activation:exception-without-traceback"
    setFlight x env.frame).wrap K J gd lv
theorem seg_For {target iter : Expr} {body orelse : List Stmt} {pos : Pos} (hs : ∀ x, foldedSetIterable iter env x = pure x)
    (h : wpAny M (A.over c fs) (eval iter env) (fun x s1 => wpAny M (A.over c fs) (pyIter x) (fun it s2 =>
      ∀ p, Seg M A R Y n s₀ (.forLoop target it body orelse env) (M.den (.forLoop target it body orelse env)) (.ret (loopK env K J gd lv) none (gd false) (lv []) c p [] :: fs) s2)
      (fun e s' => Seg M A R Y n s₀ c (J e) fs s') s1) (fun e s' => Seg M A R Y n s₀ c (J e) fs s') s) :
    Seg M A R Y n s₀ c ((exec (.For target iter body orelse pos) env).wrap K J gd lv) fs s := by
  rw [exec_For]
  refine seg_bind_wrap (wpAny_standAt ?_)
  refine seg_bind_wrap (wpAny_mono h (fun x s1 h1 => ?_) fun _ _ z => z)
  refine seg_bind_wrap (wpAny_of_eq (hs x) ?_)
  refine seg_bind_wrap (wpAny_standAt ?_)
  refine seg_bind_wrap (wpAny_holding (wpAny_mono h1 (fun it s2 h2 => ?_) fun _ _ z => z))
  exact seg_call h2
end
section
variable {prog : Program} {w : World} {A : Around} {R : GenEnd} {Y : Protocol} {n : Nat} {s₀ : Shared} {fs : List Frame} {s : Shared} {env : Env}
/-- an exception in the loop's code -/
abbrev loopJ (env : Env) : Value → Sem PySem.Fin := fun e => (do noteFrame e env; theTreesLotGoes e : Sem Unit).wrap (fun _ => .raise e) .raise id id
/-- behind a turn's body -/
abbrev loopN (target : Expr) (it : Value) (body orelse : List Stmt) (env : Env) : Flow → Sem PySem.Fin := fun f => match f with
  | .next | .cont => .pure (.again (.forLoop target it body orelse env))
  | .brk => .pure (.done .next)
  | .ret v => .pure (.done (.ret v))
theorem seg_forLoop {target : Expr} {it : Value} {body orelse : List Stmt}
    (h : wpAny (model prog w) (A.over (.forLoop target it body orelse env) fs) (pyNext it) (fun r s1 => match r with
        | none => Seg (model prog w) A R Y n s₀ (.forLoop target it body orelse env) (.pure (.again (.block orelse env))) fs s1
        | some v => wpAny (model prog w) (A.over (.forLoop target it body orelse env) fs) (letOwnedTupleGo target it v) (fun _ s2 =>
            wpAny (model prog w) (A.over (.forLoop target it body orelse env) fs) (assign target env v) (fun _ s3 =>
              Seg (model prog w) A R Y n s₀ (.forLoop target it body orelse env) ((execs body env).wrap (loopN target it body orelse env) (loopJ env) id id) fs s3)
              (fun x s' => Seg (model prog w) A R Y n s₀ (.forLoop target it body orelse env) (loopJ env x) fs s') s2) (fun x s' => Seg (model prog w) A R Y n s₀ (.forLoop target it body orelse env) (loopJ env x) fs s') s1)
      (fun _ _ => False) s) :
    Seg (model prog w) A R Y n s₀ (.forLoop target it body orelse env) ((model prog w).den (.forLoop target it body orelse env)) fs s := by
  show Seg _ A R Y n s₀ _ ((forTurn target it body orelse env).onRaise (fun x => do noteFrame x env; theTreesLotGoes x)) fs s
  rw [Sem.onRaise_eq_wrap]
  have ej : ∀ e : Value, ((do noteFrame e env; theTreesLotGoes e : Sem Unit).bind fun _ => (.raise e : Sem PySem.Fin)) = loopJ env e := fun e => Sem.bind_eq_wrap _ _
  rw [Sem.wrap_congr (forTurn target it body orelse env) id id (fun _ => rfl) ej]
  unfold forTurn
  refine seg_bind_wrap (wpAny_standAt ?_)
  refine seg_bind_wrap (wpAny_onRaise (wpAny_mono h (fun r s1 h1 => ?_) fun _ _ z => z.elim))
  cases r with
  | none => exact h1
  | some v =>
    refine seg_bind_wrap (wpAny_mono h1 (fun _ s2 h2 => ?_) fun _ _ z => z)
    refine seg_bind_wrap (wpAny_mono h2 (fun _ s3 h3 => ?_) fun _ _ z => z)
    rw [Sem.bind_eq_wrap', Sem.wrap_wrap]
    refine Eq.mp (congrArg (fun t => Seg (model prog w) A R Y n s₀ (.forLoop target it body orelse env) t fs s3) ?_) h3
    exact Sem.wrap_congr (execs body env) id id (fun f => by cases f <;> rfl) (fun _ => rfl)
end
end GU
end
section
set_option Elab.async false
set_option linter.all false
set_option maxRecDepth 100000
set_option maxHeartbeats 4000000
/-! A generator def whose body is one for over range(..) that ends each turn by a yield of a tuple: what each waking does (gen_born, wake_next). -/
namespace GU
open PySem PySem.Spec PyProof.Rows L2 GenW

/-- what a generator's code leaves as it is, where it stands beside it: neither a cell nor an iterator over a range -/
def tame (o : Obj) : Bool := match o.data with
  | .cell _ => false
  | .fields _ => (match o.cls with | .type T => T != "range_iterator" | _ => true)
  | _ => true
theorem tame_nocell {o : Obj} (h : tame o = true) : NoCell o := fun v e => by
  unfold tame at h
  rw [e] at h
  cases h
theorem tame_norange {o : Obj} {vs : Array Value} (hd : o.data = .fields vs) (h : tame o = true) : o.cls ≠ .type "range_iterator" := fun e => by
  unfold tame at h
  rw [hd, e] at h
  have h2 : ("range_iterator" != "range_iterator") = true := h
  exact absurd h2 (by decide)
theorem tame_seq {o : Obj} {its : Array Value} {n : Nat} (hd : o.data = .seq its n) : tame o = true := by
  unfold tame
  rw [hd]
theorem tame_dict {o : Obj} {es : Array DictEntry} {n : Nat} (hd : o.data = .dict es n) : tame o = true := by
  unfold tame
  rw [hd]
def tames (L : Addr) (h : Heap) : List (Addr × Obj) := (List.range h.objs.size).filterMap fun b => if b ≤ L then none else (h.get? b).bind fun o => if tame o = true then some (b, o) else none
theorem mem_tames {L : Addr} {h : Heap} {p : Addr × Obj} : p ∈ tames L h ↔ L < p.1 ∧ h.get? p.1 = some p.2 ∧ tame p.2 = true := by
  unfold tames
  rw [List.mem_filterMap]
  constructor
  · rintro ⟨b, hb, e⟩
    by_cases q : b ≤ L
    · rw [if_pos q] at e
      cases e
    · rw [if_neg q] at e
      cases ho : h.get? b with
      | none =>
        rw [ho] at e
        cases e
      | some o =>
        rw [ho] at e
        have e : (if tame o = true then some (b, o) else none) = some p := e
        by_cases t : tame o = true
        · rw [if_pos t] at e
          cases e
          exact ⟨Nat.lt_of_not_le q, ho, t⟩
        · rw [if_neg t] at e
          cases e
  · rintro ⟨h1, h2, h3⟩
    refine ⟨p.1, List.mem_range.mpr (Heap.lt_size h2), ?_⟩
    rw [if_neg (Nat.not_le_of_lt h1), h2]
    show (if tame p.2 = true then some (p.1, p.2) else none) = some p
    rw [if_pos h3]

/-- from one waking to the next sleep -/
structure Tr (X0 : Cx) (s₀ s1 : Shared) : Prop where
  os : s1.os = s₀.os
  bare : AllBare s1.gens
  keep : ∀ b o, s₀.heap.get? b = some o → b ∉ frs X0.outer → (b < X0.env.locals ∨ (X0.env.locals < b ∧ tame o = true)) → s1.heap.get? b = some o
  slot : ∀ b o, s₀.heap.get? b = some o → b ∈ frs X0.outer → ∃ sl, s1.heap.get? b = some { o with slots := sl }
/-- what it must find when it wakes -/
structure Wake (X0 : Cx) (own : List (Addr × Obj)) (s' : Shared) : Prop where
  bare : AllBare s'.gens
  base : ∀ b o, X0.base.get? b = some o → s'.heap.get? b = some o
  funs : s'.heap.FunFrames X0.base X0.outer
  own : ∀ p ∈ own, s'.heap.get? p.1 = some p.2
/-- what it leaves at a sleep: its own objects (its frame, its iterator), none of them a cell -/
structure Own (X0 : Cx) (s1 : Shared) (own : List (Addr × Obj)) : Prop where
  at_ : ∀ p ∈ own, s1.heap.get? p.1 = some p.2 ∧ NoCell p.2 ∧ (p.1 = X0.env.locals ∨ (X0.env.locals < p.1 ∧ p.2.cls = .type "range_iterator" ∧ ∃ vs, p.2.data = .fields vs))
  has : ∃ o, (X0.env.locals, o) ∈ own
/-- an item: a new tuple -/
def IsItem (X0 : Cx) (s₀ s1 : Shared) (vs : List V) (v : Value) : Prop :=
  ∃ t, v = .ref t ∧ (∀ o, s₀.heap.get? t = some o → X0.env.locals < t ∧ tame o = false) ∧ vs.length ≤ sizeLine ∧ ∃ its, Vals vs its ∧ IsTup s1.heap t its.toArray
def GYr (X0 : Cx) (items : List (List V)) : Protocol := fun m s₀ v s1 kap =>
  Tr X0 s₀ s1 ∧ ∃ vs own, items[items.length - 1 - m]? = some vs ∧ IsItem X0 s₀ s1 vs v ∧ Own X0 s1 own ∧ ∀ s', Wake X0 own s' → kap (.send .none) s' ∧ kap (.send (.bool true)) s'
def GRr (X0 : Cx) : GenEnd := fun n s₀ r s1 => ((r = .ok (.ret .none) ∨ r = .ok .next) ∧ (n = 0 ∧ Tr X0 s₀ s1)) ∨ ∃ e, r = .error e ∧ False

/-- no object told -/
abbrev noH : Hp := fun _ => none
theorem noH_ok {P : Program} {w : World} {h : Heap} : HOk P w noH h := fun _ _ e => by cases e
/-- a generator's context, at a waking -/
abbrev atX (X0 : Cx) (s : Shared) : Cx := reX X0 s noH

structure Gx (X0 : Cx) : Prop where
  stk : X0.stack = X0.env :: X0.outer
  cel : ∀ x, X0.env.cells.lookup x = none
  calm : X0.calm = true
  fr : ∀ b ∈ frs X0.outer, b < X0.env.locals
  co : X0.env.scope.isCoroutine = false
  qu : interactive X0.env = false

theorem tr_of {X0 : Cx} (gx : Gx X0) {pins : List (Addr × Obj)} {σ : L2.St} {H : Hp} {s₀ s₀' s1 : Shared} (e1 : s₀'.heap = s₀.heap) (e2 : s₀'.os = s₀.os) (I : Inv (atX X0 s₀) pins σ H s1) (hp : ∀ p ∈ tames X0.env.locals s₀.heap, p ∈ pins) : Tr X0 s₀' s1 where
  os := by rw [e2]; exact I.os
  bare := I.bare
  keep := fun b o e hb hh => by
    rw [e1] at e
    rcases hh with h | ⟨h1, h2⟩
    · exact I.base.keep b o (cut_lt e h) (by show (if _ then noH b else none) = none; split <;> rfl) hb (by show b ∉ ([] : List Addr); simp)
    · exact (I.pin (b, o) (List.mem_append_right _ (hp _ (mem_tames.mpr ⟨h1, e, h2⟩)))).1
  slot := fun b o e hb => by
    rw [e1] at e
    exact I.base.slot b o (cut_lt e (gx.fr b hb)) (by show (if _ then noH b else none) = none; split <;> rfl) hb (by show b ∉ ([] : List Addr); simp)

theorem seg_execs_append {M : Model} {A : Around} {R : GenEnd} {Y : Protocol} {n : Nat} {s₀ : Shared} {c : Code} {fs : List Frame} {env : Env} {J : Value → Sem PySem.Fin} {gd : Bool → Bool} {lv : List Value → List Value} {rest : List Stmt} :
    ∀ {pre : List Stmt} {K : Flow → Sem PySem.Fin} {s : Shared}, Seg M A R Y n s₀ c ((execs pre env).wrap (fun f => match f with | .next => (execs rest env).wrap K J gd lv | f => K f) J gd lv) fs s →
      Seg M A R Y n s₀ c ((execs (pre ++ rest) env).wrap K J gd lv) fs s := by
  have key : ∀ (pre : List Stmt) (K : Flow → Sem PySem.Fin), (execs (pre ++ rest) env).wrap K J gd lv = (execs pre env).wrap (fun f => match f with | .next => (execs rest env).wrap K J gd lv | f => K f) J gd lv := by
    intro pre
    induction pre with
    | nil => intro K; rfl
    | cons a r ih =>
      intro K
      rw [List.cons_append, execs_cons_wrap, execs_cons_wrap]
      refine Sem.wrap_congr _ _ _ (fun f => ?_) fun _ => rfl
      cases f with
      | next => exact ih K
      | _ => rfl
  intro pre K s h
  rw [key]
  exact h

section
variable {X0 : Cx} {items : List (List V)} {A : Around} {fs : List Frame} {c : Code}
/-- THE LOOP of the generator, from a turn on -/
theorem gen_loop {x : Str} {xi : Nat} {px : Pos} {e : Expr} {pre : List Stmt} {yp pos : Pos} {tp : TS} {te : TE} {good : L2.St → Prop} (gx : Gx X0) (hN : X0.N.Nodup)
    (hg : ∀ s, PG (atX X0 s) (.Name x px) (gName xi)) (hp : ∀ s, PSs (atX X0 s) pre tp) (he : ∀ s, PE (atX X0 s) e te)
    (turn : ∀ (i : Nat) (vs : List V) (σ : L2.St) (H : Hp), items[i]? = some vs → good σ →
      tp { nx := fun σ2 H2 => te σ2 H2 fun v H3 => good σ2 ∧ ∃ t, v = .ref t ∧ H3 t = some (.tup vs), rt := fun _ _ => False } (σ.set xi (some (.int (i : Nat)))) H)
    (it : Addr)
    (hov : A.over (.forLoop (.Name x px) (.ref it) (pre ++ [.Expr (.Yield (some e) yp) pos]) [] X0.env) fs = X0.A) (hsp : splitAtGen fs = none) (hgu : fs.any Frame.guarded = false)
    (hend : ∀ (s₀ s : Shared), Tr X0 s₀ s → Seg (model X0.prog X0.w) A (GRr X0) (GYr X0 items) 0 s₀ (.block [] X0.env) (.pure (.done .next)) fs s) :
    ∀ (r i : Nat), i + r = items.length → ∀ (s₀ s₀' s : Shared) (pins : List (Addr × Obj)) (σ : L2.St) (H : Hp), s₀'.heap = s₀.heap → s₀'.os = s₀.os → Inv (atX X0 s₀) pins σ H s → (∀ p ∈ tames X0.env.locals s₀.heap, p ∈ pins) → good σ →
      IsRangeIter s.heap it ((0 : Int) + (i : Nat) * 1) ((items.length : Int) - (i : Nat)) 1 → FpOk (atX X0 s₀) pins H it → X0.env.locals < it →
      Seg (model X0.prog X0.w) A (GRr X0) (GYr X0 items) r s₀' (.forLoop (.Name x px) (.ref it) (pre ++ [.Expr (.Yield (some e) yp) pos]) [] X0.env)
        ((model X0.prog X0.w).den (.forLoop (.Name x px) (.ref it) (pre ++ [.Expr (.Yield (some e) yp) pos]) [] X0.env)) fs s := by
  intro r
  induction r with
  | zero =>
    intro i hi s₀ s₀' s pins σ H e1 e2 I hpt hgood hit hfp hlt
    have T : Turn X0.prog X0.w X0.K (.Name x px) (Itr 0 items.length) [it] it (fun i h => IsRangeIter h it ((0 : Int) + (i : Nat) * 1) ((items.length : Int) - (i : Nat)) 1) := turn_range it 0 items.length
    refine seg_forLoop ?_
    rw [hov]
    refine thn (T.done (atX X0 s₀) rfl rfl rfl gx.calm i pins s σ H _ I (fun b hb => by rw [List.mem_singleton.mp hb]; exact hfp) hit (show items.length ≤ i by omega)) fun r s1 ⟨hr, I1⟩ => ?_
    subst hr
    refine seg_again rfl ?_
    show Seg _ _ _ _ _ _ (.block [] X0.env) (((execs [] X0.env).onRaise (fun x => do noteFrame x X0.env; theTreesLotGoes x)) >>= fun f => pure (Fin.done f)) fs s1
    exact hend s₀' s1 (tr_of gx e1 e2 I1 hpt)
  | succ r ih =>
    intro i hi s₀ s₀' s pins σ H e1 e2 I hpt hgood hit hfp hlt
    have T : Turn X0.prog X0.w X0.K (.Name x px) (Itr 0 items.length) [it] it (fun i h => IsRangeIter h it ((0 : Int) + (i : Nat) * 1) ((items.length : Int) - (i : Nat)) 1) := turn_range it 0 items.length
    have hil : i < items.length := by omega
    obtain ⟨vs, hvs⟩ : ∃ vs, items[i]? = some vs := ⟨items[i], List.getElem?_eq_getElem hil⟩
    have hfp' : ∀ {H' : Hp}, (∀ b ∈ [it], H' b = none) → ∀ b ∈ [it], FpOk (atX X0 s₀) pins H' b := fun {H'} q b hb => by
      have eb := List.mem_singleton.mp hb
      subst eb
      exact ⟨q b hb, hfp.2⟩
    refine seg_forLoop ?_
    rw [hov]
    refine thn (T.item (atX X0 s₀) rfl rfl rfl gx.calm i pins s σ H _ I (fun b hb => by rw [List.mem_singleton.mp hb]; exact hfp) hit (show i < items.length from hil)) fun r' s1 ⟨u, hr, h1⟩ => ?_
    subst hr
    refine wpAny_mono h1 (fun _ s2 ⟨y, H2, I2, ry, ⟨eH, ey⟩, st2, n2⟩ => ?_) fun _ _ z => z.elim
    subst eH ey
    have I2' := I2.pinned (hfp' n2) (T.obj _ _ st2)
    have e0 : ((0 : Int) + (i : Nat)) = (i : Nat) := Int.zero_add _
    rw [e0] at ry
    refine wpAny_mono ((hg s₀).run _ s2 σ H2 (.int (i : Nat)) u (fun σ' H' => σ' = σ.set xi (some (.int (i : Nat))) ∧ H' = H2) I2' ry ⟨rfl, rfl⟩) (fun _ s3 h3 => ?_) fun _ _ z => z.elim
    obtain ⟨σ3, H3, I3, es, eh⟩ := h3
    subst es eh
    refine seg_execs_append ?_
    refine seg_wrap ?_
    rw [hov]
    refine wpAny_mono ((hp s₀).run _ s3 _ H3 _ I3 (turn i vs σ H3 hvs hgood)) (fun f s4 h4 => ?_) fun _ _ z => z.elim
    cases f with
    | brk => obtain ⟨_, _, _, z⟩ := h4; exact z.elim
    | cont => obtain ⟨_, _, _, z⟩ := h4; exact z.elim
    | ret u => obtain ⟨_, _, _, _, _, z⟩ := h4; exact z.elim
    | next =>
      obtain ⟨σ4, H4, I4, q4⟩ := h4
      refine seg_execs_cons ?_
      refine seg_Expr_Yield hsp rfl hgu ?_ gx.co gx.qu
      rw [hov]
      refine wpAny_mono ((he s₀).run _ s4 σ4 H4 _ I4 q4) (fun v s5 h5 => ?_) fun _ _ z => z.elim
      obtain ⟨y, H5, I5, ry5, hg5, t, et, ht⟩ := h5
      subst et
      obtain rfl : v = Value.ref t := ry5
      intro kap hk
      have pit : s5.heap.get? it = s2.heap.get? it ∧ H5 it = none := by
        obtain ⟨o, eo, _⟩ := T.obj _ _ st2 it (List.mem_singleton.mpr rfl)
        have z := I5.pin (it, o) (List.mem_append_right _ (List.mem_append_right _ (mem_pinsAt (List.mem_singleton.mpr rfl) eo)))
        exact ⟨by rw [eo]; exact z.1, z.2.1⟩
      have st5 : IsRangeIter s5.heap it ((0 : Int) + ((i + 1 : Nat) : Nat) * 1) ((items.length : Int) - ((i + 1 : Nat) : Nat)) 1 := by
        show s5.heap.get? it = _
        rw [pit.1]
        exact st2
      obtain ⟨m5, ⟨oL, esL, epL, eL, dL, kL⟩, _⟩ := I5.loc
      obtain ⟨htl, its, rits, htup⟩ := I5.hok t _ ht
      have I5u : Inv (atX X0 s₀) pins σ4 H5 s5 := I5.unpinned
      have tF : ∀ o, s₀'.heap.get? t = some o → X0.env.locals < t ∧ tame o = false := fun o eo => by
        rw [e1] at eo
        rcases Nat.lt_or_ge t X0.env.locals with h | h
        · have z := I5.base.free t o (cut_lt eo h) (by show (if _ then noH t else none) = none; split <;> rfl) (by show t ∉ ([] : List Addr); simp)
          rw [ht] at z
          cases z
        · have hne : t ≠ X0.env.locals := fun q => by
            have z : H5 X0.env.locals = none := I5.free
            rw [← q, ht] at z
            cases z
          refine ⟨Nat.lt_of_le_of_ne h (Ne.symm hne), ?_⟩
          cases q : tame o with
          | false => rfl
          | true =>
            have z := (I5u.pin (t, o) (List.mem_append_right _ (hpt _ (mem_tames.mpr ⟨Nat.lt_of_le_of_ne h (Ne.symm hne), eo, q⟩)))).2.1
            have z : H5 t = none := z
            rw [ht] at z
            cases z
      refine ⟨tr_of gx e1 e2 I5u hpt, vs, [(X0.env.locals, oL), (it, { cls := .type "range_iterator", dict := none, data := .fields #[rawInt ((0 : Int) + ((i + 1 : Nat) : Nat) * 1), rawInt ((items.length : Int) - ((i + 1 : Nat) : Nat)), rawInt 1], slots := #[] })], ?_, ⟨t, rfl, tF, htl, its, rits, htup⟩, ⟨fun p hp => ?_, oL, List.mem_cons_self⟩, fun s' hw => ?_⟩
      · have : items.length - 1 - r = i := by omega
        rw [this]
        exact hvs
      · rcases List.mem_cons.mp hp with z | z
        · subst z
          have nc : NoCell oL := fun v q => by
            rw [dL] at q
            cases q
          exact ⟨eL, nc, .inl rfl⟩
        · have z := List.mem_singleton.mp z
          subst z
          refine ⟨st5, ?_, .inr ⟨hlt, rfl, _, rfl⟩⟩
          intro v q
          cases q
      · have main : Seg (model X0.prog X0.w) A (GRr X0) (GYr X0 items) r s' (.forLoop (.Name x px) (.ref it) (pre ++ [.Expr (.Yield (some e) yp) pos]) [] X0.env) (.pure (.again (.forLoop (.Name x px) (.ref it) (pre ++ [.Expr (.Yield (some e) yp) pos]) [] X0.env))) fs s' := ?_
        exact ⟨hk .none s' main, hk (.bool true) s' main⟩
        refine seg_again rfl ?_
        have hL' := hw.own (X0.env.locals, oL) List.mem_cons_self
        have hI' := hw.own _ (List.mem_cons_of_mem _ (List.mem_singleton.mpr rfl))
        have I6 : Inv (atX X0 s') (tames X0.env.locals s'.heap) σ4 noH s' := by
          have eq : ∀ o, s5.heap.get? X0.env.locals = some o → s'.heap.get? X0.env.locals = some o := fun o eo => by
            rw [eL] at eo
            cases eo
            exact hL'
          refine rebase (X := atX X0 s₀) (H2 := noH) (pins2 := tames X0.env.locals s'.heap) I5u gx.stk (fun x c q => (by rw [show (atX X0 s₀).env.cells.lookup x = none from gx.cel x] at q; cases q)) ⟨hw.bare, eq, fun x c q => (by rw [show (atX X0 s₀).env.cells.lookup x = none from gx.cel x] at q; cases q), hw.base, hw.funs⟩
            (fun b hb => ⟨gx.fr b hb, rfl⟩) noH_ok rfl (fun _ _ _ => rfl) (fun _ _ _ => rfl) fun p hp => ?_
          obtain ⟨p1, p2, p3⟩ := mem_tames.mp hp
          exact ⟨p2, rfl, Nat.ne_of_gt p1, fun q => Nat.lt_irrefl _ (Nat.lt_trans p1 (gx.fr _ q)), tame_nocell p3⟩
        refine ih (i + 1) (by omega) s' s' s' _ σ4 noH rfl rfl I6 (fun _ z => z) hg5 hI' ⟨rfl, Nat.ne_of_gt hlt, fun q => Nat.lt_irrefl _ (Nat.lt_trans hlt (gx.fr _ q)), .inr (Nat.le_trans cut_le (Nat.le_of_lt hlt)), fun x c q => (by rw [show (atX X0 s').env.cells.lookup x = none from gx.cel x] at q; cases q), fun p hp q => ?_⟩ hlt
        have hp : p ∈ tames X0.env.locals s'.heap := hp
        obtain ⟨p1, p2, p3⟩ := mem_tames.mp hp
        rw [q, hI'] at p2
        exact tame_norange (by rw [← Option.some.inj p2]) p3 (by rw [← Option.some.inj p2])
end
end GU
end
section
set_option Elab.async false
set_option linter.all false
set_option maxRecDepth 100000
set_option maxHeartbeats 4000000
/-! The generator's first waking (gen_start), its making by a call (gen_call), and what pyNext of it does (gen_next). -/
namespace GU
open PySem PySem.Spec PyProof.Rows L2 GenW

/-- range(n), about to be walked -/
theorem rng_begin {X : Cx} {a : Expr} {ta : TA} {p pos : Pos} {pins : List (Addr × Obj)} {s : Shared} {σ : L2.St} {H : Hp} {R : Int → Hp → Prop} (hg : Gl X "range") (hm : X.mg "range" = none) (ha : PA X [a] ta)
    (hs : starEach [a] X.env = [(false, eval a X.env)]) (I : Inv X pins σ H s) (h : ta σ H fun vs H1 => ∃ j : Int, vs = [.int j] ∧ 0 ≤ j ∧ j < 2 ^ 62 ∧ R j H1) :
    wpAny (model X.prog X.w) X.A (eval (.Call (.Name "range" p) [a] [] pos) X.env) (fun v s1 => wpAny (model X.prog X.w) X.A (pyIter v) (fun u s2 =>
      ∃ (it : Addr) (j : Int) (H1 : Hp), u = .ref it ∧ Inv X pins σ H1 s2 ∧ IsRangeIter s2.heap it 0 j 1 ∧ FpOk X pins H1 it ∧ X.env.locals < it ∧ 0 ≤ j ∧ R j H1) X.xe s1) X.xe s := by
  refine Call_ (ld_blt I hg hm boot_range (PyProof.Rows.callWith_type1 (thn (ha.run pos pins s σ H _ I h) fun us s1 h1 => ?_) hs rfl))
  obtain ⟨vs, H1, I1, r1, j, e, q1, q2, q⟩ := h1
  subst e
  cases r1 with
  | cons r rr =>
    cases rr
    obtain ⟨t, rfl⟩ := r
    refine call_range_1 ?_
    refine wpAny_pyIter_range (IsRange.new ..) (small_one (by decide) (by decide) (by omega) q2) ?_
    have I2 : Inv X pins σ H1 { s1 with heap := s1.heap.push { cls := .type "range", data := .fields #[.int 0 s1.toks, .int j t, .int 1 (s1.toks + 1)] }, toks := s1.toks + 1 + 1 } := I1.kept fun b o e => Heap.get?_push_of_some _ e
    refine ⟨_, j, H1, rfl, I2.kept (t' := s1.toks + 1 + 1) fun b o e => Heap.get?_push_of_some _ e, ?_, I2.fpOk (Nat.le_refl _) (I2.hok.fresh (Nat.le_refl _)), I2.lt, q1, q⟩
    have e2 : Builtin.Range.rangeSize 0 j 1 = j := by
      rw [rangeSize_one]
      split <;> omega
    show ((s1.heap.push _).push _).get? _ = _
    rw [e2]
    exact Heap.get?_push_size _ rfl

section
variable {X0 : Cx} {items : List (List V)} {A : Around}
theorem gen_start {x : Str} {xi : Nat} {px p1 p2 p3 : Pos} {a e : Expr} {pre : List Stmt} {yp pos : Pos} {tp : TS} {te : TE} {ta : TA} {good : L2.St → Prop} (gx : Gx X0) (hN : X0.N.Nodup)
    (hg : ∀ s, PG (atX X0 s) (.Name x px) (gName xi)) (hp : ∀ s, PSs (atX X0 s) pre tp) (he : ∀ s, PE (atX X0 s) e te) (ha : ∀ s, PA (atX X0 s) [a] ta)
    (hgl : ∀ s, Gl (atX X0 s) "range") (hmg : X0.mg "range" = none) (hst : starEach [a] X0.env = [(false, eval a X0.env)])
    (turn : ∀ (i : Nat) (vs : List V) (σ : L2.St) (H : Hp), items[i]? = some vs → good σ →
      tp { nx := fun σ2 H2 => te σ2 H2 fun v H3 => good σ2 ∧ ∃ t, v = .ref t ∧ H3 t = some (.tup vs), rt := fun _ _ => False } (σ.set xi (some (.int (i : Nat)))) H)
    {σ0 : L2.St} (g0 : good σ0) (hcount : ∀ (H : Hp) (Q : List V → Hp → Prop), (∀ H', Q [.int (items.length : Int)] H') → ta σ0 H Q) (hlen : (items.length : Int) < 2 ^ 62)
    (hA : A.deeper X0.env = X0.A)
    {pins : List (Addr × Obj)} {H : Hp} {s s' : Shared} (I : Inv X0 pins σ0 H s) {oL : Obj} (eL : s.heap.get? X0.env.locals = some oL) (hw : Wake X0 [(X0.env.locals, oL)] s') (s₀ : Shared) (e1 : s₀.heap = s'.heap) (e2 : s₀.os = s'.os) (e3 : AllBare s₀.gens) :
    Seg (model X0.prog X0.w) A (GRr X0) (GYr X0 items) items.length s₀ (.func [.For (.Name x px) (.Call (.Name "range" p1) [a] [] p2) (pre ++ [.Expr (.Yield (some e) yp) pos]) [] p3] X0.env)
      ((model X0.prog X0.w).den (.func [.For (.Name x px) (.Call (.Name "range" p1) [a] [] p2) (pre ++ [.Expr (.Yield (some e) yp) pos]) [] p3] X0.env)) [] s₀ := by
  have hL' := hw.own (X0.env.locals, oL) List.mem_cons_self
  have J0 : Inv (atX X0 s') (tames X0.env.locals s'.heap) σ0 noH s' := by
    have eq : ∀ o, s.heap.get? X0.env.locals = some o → s'.heap.get? X0.env.locals = some o := fun o eo => by
      rw [eL] at eo
      cases eo
      exact hL'
    refine rebase (X := X0) (H2 := noH) (pins2 := tames X0.env.locals s'.heap) I gx.stk (fun x c q => (by rw [gx.cel x] at q; cases q)) ⟨hw.bare, eq, fun x c q => (by rw [gx.cel x] at q; cases q), hw.base, hw.funs⟩
      (fun b hb => ⟨gx.fr b hb, rfl⟩) noH_ok rfl (fun _ _ _ => rfl) (fun _ _ _ => rfl) fun p hp => ?_
    obtain ⟨p1, p2, p3⟩ := mem_tames.mp hp
    exact ⟨p2, rfl, Nat.ne_of_gt p1, fun q => Nat.lt_irrefl _ (Nat.lt_trans p1 (gx.fr _ q)), tame_nocell p3⟩
  have J : Inv (atX X0 s') (tames X0.env.locals s'.heap) σ0 noH s₀ := by
    have q := J0.call' (s' := s₀) (ch := []) (H' := noH) e2 (by rw [e1]; exact Un.refl) (by rw [e1]; exact J0.hok) e3 (fun b hb => absurd hb (by simp))
    exact q
  have over0 : A.over (.func [.For (.Name x px) (.Call (.Name "range" p1) [a] [] p2) (pre ++ [.Expr (.Yield (some e) yp) pos]) [] p3] X0.env) [] = X0.A := over_func.trans hA
  refine seg_func ?_
  refine seg_execs_cons ?_
  refine seg_For (fun _ => rfl) ?_
  rw [over0]
  refine wpAny_mono (rng_begin (X := atX X0 s') (R := fun j _ => j = (items.length : Int)) (hgl s') hmg (ha s') hst J ?_) (fun v s1 h1 => ?_) fun _ _ z => z.elim
  · exact hcount noH _ fun H' => ⟨_, rfl, by omega, hlen, rfl⟩
  · refine wpAny_mono h1 (fun u s2 h2 => ?_) fun _ _ z => z.elim
    obtain ⟨it, j, H2, eu, I2, st2, f2, l2, j0, ej⟩ := h2
    subst eu ej
    intro p
    refine gen_loop gx hN hg hp he turn it ?_ ?_ ?_ (fun s₀ s hT => ?_) items.length 0 (Nat.zero_add _) s' s₀ s2 _ σ0 H2 e1 e2 I2 (fun _ z => z) g0 ?_ f2 l2
    · exact (over_loop rfl rfl).trans over0
    · rfl
    · rfl
    · refine seg_leaf (.ok .next) ?_
      exact seg_end (.ok (.ret .none)) (.inl ⟨.inl rfl, rfl, hT⟩)
    · show s2.heap.get? it = _
      simpa using st2
end

/-! ### a frame without cells -/
theorem pushCells_none : ∀ {names : List (Str × NameKind)} {h : Heap}, (∀ y ∈ names, y.2 ≠ .cell) → pushCells h names = h
  | [], _, _ => rfl
  | (n, k) :: r, h, q => by
    unfold pushCells
    have hk : ¬ (k == NameKind.cell) = true := fun z => q (n, k) List.mem_cons_self (by simpa using z)
    rw [if_neg hk]
    exact pushCells_none fun y hy => q y (List.mem_cons_of_mem _ hy)
section
variable {M : Model} {A : Around} {E : Value → Shared → Prop} {s₀ : Shared} {env : Env}
theorem binds_sized (f : Str × Value → PUnit → Sem (ForInStep PUnit)) (hf : ∀ n v u, f (n, v) u = (do storeName env n v; pure (.yield ⟨⟩))) (hk : env.scope.kind = .function) :
    ∀ (binds : List (Str × Value)) (m cm : Str → Option Value) (s : Shared) (Q : PUnit → Shared → Prop), InCallC s₀ env.locals m env.cells cm s →
      (∀ x ∈ binds, env.kindOf x.1 = some .local) →
      (∀ s', InCallC s₀ env.locals (bindL env.kindOf binds m) env.cells (bindC env.kindOf binds cm) s' → s'.heap.objs.size = s.heap.objs.size → Q ⟨⟩ s') → wpAny M A (forIn binds ⟨⟩ f) Q E s
  | [], m, cm, s, Q, x, _, h => by
    rw [List.forIn_nil]
    exact wpAny_pure (h s x rfl)
  | (n, v) :: r, m, cm, s, Q, x, hl, h => by
    rw [List.forIn_cons, hf]
    have h0 := hl (n, v) List.mem_cons_self
    have h0 : env.kindOf n = some .local := h0
    refine wpAny_bind (wpAny_bind (wpAny_storeName_local h0 x.toInCall.ns (fun h' hn' hs' => ?_) (by rw [hk]; rfl)))
    refine wpAny_pure (binds_sized f hf hk r (fun y => if y = n then some v else m y) cm _ Q ⟨⟨?_, hn', fun b o e => ?_, x.toInCall.fresh⟩, fun k c hc => ?_, x.apart, x.above⟩ (fun y hy => hl y (List.mem_cons_of_mem _ hy)) fun s'' x'' z => h s'' ?_ (z.trans hs'.1))
    · obtain ⟨h₁, tk, rfl⟩ := x.toInCall.same
      exact ⟨h', _, rfl⟩
    · exact hs'.extBut b o (Nat.ne_of_lt (Nat.lt_of_lt_of_le (Heap.lt_size e) x.toInCall.fresh)) (x.toInCall.keep b o e)
    · exact (x.cell k c hc).sameBut hs' (Nat.ne_of_gt (x.above k c (mem_of_lookup hc)))
    · unfold bindL bindC
      rw [if_pos h0, if_pos h0]
      exact x''
theorem newEnv_sized {s : Shared} {scope : Scope} {globals : Addr} {binds : List (Str × Value)} {qual : Str} {func : Option Addr} {code : Value} {builtins : Addr} {Q : Env → Shared → Prop}
    (hk : scope.kind = .function) (hc : ∀ y ∈ scope.names, y.2 ≠ .cell) (hkind : ∀ x ∈ binds, scope.names.lookup x.1 = some .local)
    (hQ : ∀ env, env = newEnv scope s.heap.objs.size globals (cellsFrom (s.heap.objs.size + 1) scope.names []) qual func code none builtins →
      ∀ s', InCallC s env.locals (bindL env.kindOf binds fun _ => none) env.cells (bindC env.kindOf binds fun _ => none) s' → s'.heap.objs.size = s.heap.objs.size + 1 → Q env s') :
    wpAny M A (newFunctionEnv scope globals [] binds qual func code none builtins) Q E s := by
  simp only [newFunctionEnv, Option.isSome_none, Bool.false_eq_true, if_false]
  refine wpAny_bind (wpAny_alloc ?_)
  refine wpAny_bind (wpAny_layCells _ (fun name kind cells => by cases hkc : kind == NameKind.cell <;> simp [hkc]) _ _ _ _ ?_)
  rw [show ({ s with heap := s.heap.push { cls := .type "frame", data := .dict #[] } } : Shared).heap.objs.size = s.heap.objs.size + 1 from Heap.size_push ..]
  rw [pushCells_none hc]
  have ok := cellsFrom_ok scope.names (s.heap.push { cls := .type "frame", data := .dict #[] }) (s.heap.objs.size + 1) [] ⟨fun _ _ hm => (nomatch hm), List.Pairwise.nil⟩ (by rw [Heap.size_push]; exact Nat.le_refl _)
  rw [Heap.size_push, pushCells_none hc] at ok
  refine wpAny_bind (binds_sized (s₀ := s) (env := newEnv scope s.heap.objs.size globals (cellsFrom (s.heap.objs.size + 1) scope.names []) qual func code none builtins)
    _ (fun _ _ _ => rfl) hk binds (fun _ => none) (fun _ => none) _ _
    ⟨⟨⟨_, _, rfl⟩, Heap.Ns.new s.heap (.type "frame"), fun b o e => Heap.get?_push_of_some _ e, Nat.le_refl _⟩,
      fun n c hc => (ok.empty n c (mem_of_lookup hc)).1, ok.apart, fun n c hm => (ok.empty n c hm).2⟩
    hkind fun s' x z => wpAny_pure (hQ _ rfl s' x (z.trans (Heap.size_push ..))))
end

/-! ### a generator that waits -/
/-- m items are left; own: its objects as they stand; g: its number, a: its object -/
structure Waits (X0 : Cx) (A : Around) (items : List (List V)) (a : Addr) (g m : Nat) (own : List (Addr × Obj)) (gs : GenState) (s : Shared) : Prop where
  isg : s.heap.IsGen a g
  at_ : s.gens[g]? = some gs
  owns : Own X0 s own
  go : ∀ s', Wake X0 own s' → gs.Goes (model X0.prog X0.w) A (GRr X0) (GYr X0 items) m (.send .none) s'

/-- the whole first part as one fact: for a body's generator at A -/
def Starts (X0 : Cx) (A : Around) (items : List (List V)) (σ0 : L2.St) (body : List Stmt) : Prop :=
  ∀ (pins : List (Addr × Obj)) (H : Hp) (s s' : Shared) (oL : Obj) (s₀ : Shared), Inv X0 pins σ0 H s → s.heap.get? X0.env.locals = some oL → Wake X0 [(X0.env.locals, oL)] s' → s₀.heap = s'.heap → s₀.os = s'.os → AllBare s₀.gens →
    Seg (model X0.prog X0.w) A (GRr X0) (GYr X0 items) items.length s₀ (.func body X0.env) ((model X0.prog X0.w).den (.func body X0.env)) [] s₀

/-- what a call of such a generator def makes; s: the state at the call -/
structure Made (P : Program) (w : World) (base : Heap) (Ac : Around) (outer : List Env) (items : List (List V)) (s s' : Shared) (u : Value) : Prop where
  ex : ∃ (X0 : Cx) (a : Addr) (g : Nat) (own : List (Addr × Obj)) (gs : GenState), u = .ref a ∧ a = s.heap.objs.size + 1 ∧ X0.prog = P ∧ X0.w = w ∧ X0.base = base ∧ X0.outer = outer ∧ X0.env.locals = s.heap.objs.size ∧ Gx X0 ∧ X0.env.locals < a ∧
    Waits X0 Ac items a g items.length own gs s'
  os : s'.os = s.os
  bare : AllBare s'.gens
  keep : ∀ b o, s.heap.get? b = some o → s'.heap.get? b = some o
  size : s'.heap.objs.size = s.heap.objs.size + 2

/-- a generator def's promise: the arguments, the items -/
abbrev SpI := List V → List (List V) → Prop
structure GFnP (P : Program) (w : World) (K : PySem.W.Frag) (mg : Str → Option Value) (base : Heap) (k : Nat) (f : Addr) (fd : FuncData) (ps : List Str) (sp : SpI) : Prop where
  len : ∀ vs items, sp vs items → vs.length = ps.length
  run : ∀ (A Ac : Around) (outer : List Env) (s : Shared) (H : Hp) (args : Args) (us : List Value) (vs : List V) (items : List (List V)), Room k A → Room k Ac → Ac.frames = some outer → Env0 P w K mg base A outer s H → BindsTo s fd args (ps.zip us) → Vals vs us → sp vs items →
    codeAny (model P w) A (.call (.ref f) args) (fun r s' => match r with | .ok (.ret u) => Made P w base Ac outer items s s' u | _ => False) s

theorem gfnP_of {P : Program} {w : World} {K : PySem.W.Frag} {mg : Str → Option Value} {base : Heap} {k : Nat} {f : Addr} {name qual : Str} {params : Arguments} {body : List Stmt} {scope : Scope} {dV kV doc pm cdv ct oc : Value} {an od : Option Addr}
    {osl : Array (Option Value)} {N ps : List Str} {sp : SpI} (lk : K.lookup f = some ⟨oc, od, .func (PySem.W.fnOf name qual params body scope dV kV doc pm an cdv ct), osl⟩) (hcd : PySem.W.codeIn K cdv qual = true) (S : GScope N ps scope)
    (nocell : ∀ y ∈ scope.names, y.2 ≠ .cell)
    (len : ∀ vs items, sp vs items → vs.length = ps.length)
    (hbody : ∀ (A : Around) (outer : List Env) (s : Shared) (H : Hp) (vs : List V) (items : List (List V)), Room k (A.deeper (envOfC qual scope s.heap.objs.size f cdv)) → sp vs items →
      Gx (gcxOf P w K mg base N qual scope f cdv A outer s H (fun _ _ _ => False) []) → Starts (gcxOf P w K mg base N qual scope f cdv A outer s H (fun _ _ _ => False) []) A items (start N vs) body) :
    GFnP P w K mg base (k + 1) f (PySem.W.fnOf name qual params body scope dV kV doc pm an cdv ct) ps sp := by
  refine ⟨len, fun A Ac outer s H args us vs items hr hrc hfc e0 hb r hsp => ?_⟩
  have hl := len _ _ hsp
  have KX : K.In s.heap := e0.mod.kin.keeps fun b o e => (e0.bs b o e).1
  have lim : s.heap.NoLimit := e0.mod.nolimit.keeps fun b o e => (e0.bs b o e).1
  have hkind : ∀ y ∈ ps.zip us, scope.names.lookup y.1 = some .local := fun ⟨n, v⟩ hy => by
    rcases S.par n (List.of_mem_zip hy).1 with q | q
    · exact q
    · exact absurd rfl (nocell _ (PySem.mem_of_lookup q))
  refine codeAny_call_generator hr.depth (KX _ _ lk) rfl S.co S.gen rfl (PySem.W.codeRec_of KX hcd) (hb _ _ _ _ ?_)
  refine newEnv_sized S.kind nocell hkind fun env he s1 x sz1 => ?_
  subst he
  refine ⟨lim.keeps x.toInCall.keep, ?_⟩
  obtain ⟨h1, tk, es1, hk1⟩ := id x.done
  have os1 : s1.os = s.os := by rw [es1]
  have gen1 : s1.gens = s.gens := by rw [es1]
  have e0w : Env0 P w K mg base Ac outer s H := ⟨hfc, e0.mod, e0.bs, e0.bsz, e0.funs, e0.frf, e0.hok, e0.bare⟩
  have I1 : Inv (gcxOf P w K mg base N qual scope f cdv Ac outer s H (fun _ _ _ => False) []) [] (start N vs) H s1 := inv_startG S hrc.hd e0w hl r x
  have cel : ∀ y, (cellsFrom (s.heap.objs.size + 1) scope.names []).lookup y = none := fun y => by
    cases q : (cellsFrom (s.heap.objs.size + 1) scope.names []).lookup y with
    | none => rfl
    | some c =>
      have hm := PySem.mem_of_lookup q
      rw [← Heap.size_push s.heap { cls := .type "dict", data := .dict #[] }] at hm
      rcases cells_mem hm with z | ⟨z, _⟩
      · cases z
      · exact absurd rfl (nocell _ z)
  have gx : Gx (gcxOf P w K mg base N qual scope f cdv Ac outer s H (fun _ _ _ => False) []) := by
    refine ⟨rfl, fun y => cel y, rfl, fun b hb => ?_, S.co, ?_⟩
    · obtain ⟨_, o, ho, _⟩ := e0.funs.mem hb
      exact Heap.lt_size ho
    · show interactive (envOfC qual scope s.heap.objs.size f cdv) = false
      simp [interactive, envOfC, S.kind]
  have hst := hbody Ac outer s H vs items (hrc.deeper _) hsp gx
  obtain ⟨m1, ⟨oL, esL, epL, eL, dL, kL⟩, _⟩ := id I1.loc
  have eL : s1.heap.get? s.heap.objs.size = some oL := eL
  have lt1 : s.heap.objs.size < s1.heap.objs.size := Heap.lt_size eL
  refine ⟨⟨gcxOf P w K mg base N qual scope f cdv Ac outer s H (fun _ _ _ => False) [], s1.heap.objs.size, s1.gens.size, [(s.heap.objs.size, oL)], .fresh (.func body (envOfC qual scope s.heap.objs.size f cdv)), rfl, sz1, rfl, rfl, rfl, rfl, rfl, gx, lt1,
    ⟨⟨_, _, _, Heap.get?_push_size _ rfl, rfl, rfl, rfl⟩, Array.getElem?_push_size .., ⟨fun p hp => ?_, oL, List.mem_singleton.mpr rfl⟩, fun s' hw => ⟨rfl, hst [] H s1 s' oL s' I1 eL hw rfl rfl hw.bare⟩⟩⟩, os1, ?_, fun b o e => Heap.get?_push_of_some _ (x.toInCall.keep b o e), (Heap.size_push ..).trans (by rw [sz1])⟩
  · have z := List.mem_singleton.mp hp
    subst z
    refine ⟨Heap.get?_push_of_some _ eL, ?_, .inl rfl⟩
    intro v q
    rw [dL] at q
    cases q
  · exact AllBare.push (by rw [gen1]; exact e0.bare) rfl
end GU
end
section
set_option Elab.async false
set_option linter.all false
set_option maxRecDepth 100000
set_option maxHeartbeats 4000000
/-! A generator that waits is woken by the code that walks it (gen_wake). -/
namespace GU
open PySem PySem.Spec PyProof.Rows L2 GenW GF

theorem isTup_data {h : Heap} {t : Addr} {its : Array Value} (x : IsTup h t its) : ∃ o n, h.get? t = some o ∧ o.data = .seq its n := by
  obtain ⟨o, e, _, n, d⟩ := x
  exact ⟨o, n, e, d⟩

theorem gen_wake {B X0 : Cx} {items : List (List V)} {a : Addr} {g m : Nat} {own : List (Addr × Obj)} {gs : GenState} {pins : List (Addr × Obj)} {σ : L2.St} {H : Hp} {s : Shared} {E : Value → Shared → Prop} {k : Nat}
    (I : Inv B pins σ H s) (W : Waits X0 B.A.in1 items a g m own gs s) (e1 : X0.prog = B.prog) (e2 : X0.w = B.w) (e3 : X0.base = B.base) (e4 : X0.outer = B.stack) (gx : Gx X0) (hc : B.calm = true) (hr : Room k B.A)
    (hL : H X0.env.locals = none) (ha : X0.env.locals < a) (hHa : H a = none)
    (ch0 : ∀ b o, s.heap.get? b = some o → H b = none → (b = X0.env.locals ∨ (X0.env.locals < b ∧ tame o = false)) → (b ∈ B.ex ∨ B.s_0.heap.objs.size ≤ b) ∧ b ≠ B.env.locals ∧ (∀ x c, B.env.cells.lookup x = some c → c ≠ b) ∧ ∀ p ∈ B.pn ++ pins, p.1 ≠ b)
    (tr : ∀ b u, H b = some u → ∃ o, s.heap.get? b = some o ∧ (b < X0.env.locals ∨ (X0.env.locals < b ∧ tame o = true))) :
    wpAny (model B.prog B.w) B.A (pyNext (.ref a)) (fun r s' =>
      (m = 0 ∧ r = none ∧ Inv B pins σ H s' ∧ (∀ o, s.heap.get? a = some o → s'.heap.get? a = some o)) ∨
      ∃ (m' : Nat) (vs : List V) (t : Addr) (own' : List (Addr × Obj)) (gs' : GenState), m = m' + 1 ∧ r = some (.ref t) ∧ items[items.length - 1 - m']? = some vs ∧ H t = none ∧ Inv B pins σ (upd H t (.tup vs)) s' ∧
        Waits X0 B.A.in1 items a g m' own' gs' s' ∧ Sleeps gs' ∧ (∀ p ∈ own', upd H t (.tup vs) p.1 = none) ∧ (∀ o, s.heap.get? a = some o → s'.heap.get? a = some o) ∧ a ≠ t) E s := by
  have hgl : g < s.gens.size := (Array.getElem?_eq_some_iff.mp W.at_).1
  obtain ⟨oa, nm, qn, hoa, hca, hda, hsa⟩ := id W.isg
  have ta : tame oa = true := by
    unfold tame
    rw [hda, hca]
    show ("generator" != "range_iterator") = true
    decide
  have stk : ∀ b ∈ frs B.stack, H b = none := I.stkFree
  have w0 : Wake X0 own (s.setGen g .running) := ⟨allBare_setGen I.bare rfl, fun b o e => I.bk b o (e3 ▸ e), by rw [e3, e4]; exact I.stack, fun p hp => (W.owns.at_ p hp).1⟩
  have go := W.go _ w0
  rw [e1, e2] at go
  -- the objects behind a resume
  have keepG : ∀ s1, Tr X0 (s.setGen g .running) s1 → ∀ b o, s.heap.get? b = some o → b ∉ frs B.stack → (b < X0.env.locals ∨ (X0.env.locals < b ∧ tame o = true)) → s1.heap.get? b = some o := fun s1 T b o e hb hh => T.keep b o e (by rw [e4]; exact hb) hh
  have keepH : ∀ s1, Tr X0 (s.setGen g .running) s1 → ∀ b u, H b = some u → ∀ o, s.heap.get? b = some o → s1.heap.get? b = some o := fun s1 T b u hb o e => by
    obtain ⟨o', e', hh⟩ := tr b u hb
    rw [e] at e'
    cases e'
    exact keepG s1 T b o e (fun z => by rw [stk b z] at hb; cases hb) hh
  let ch : List Addr := (List.range s.heap.objs.size).filter fun b => decide (H b = none) && (decide (b = X0.env.locals) || (decide (X0.env.locals < b) && match s.heap.get? b with | some o => !tame o | none => false))
  have mch : ∀ b o, s.heap.get? b = some o → (b ∈ ch ↔ H b = none ∧ (b = X0.env.locals ∨ (X0.env.locals < b ∧ tame o = false))) := fun b o e => by
    show b ∈ List.filter _ _ ↔ _
    rw [List.mem_filter, List.mem_range]
    rw [e]
    simp only [Bool.and_eq_true, Bool.or_eq_true, decide_eq_true_eq, Bool.not_eq_true']
    constructor
    · intro z
      exact z.2
    · intro z
      exact ⟨Heap.lt_size e, z⟩
  have lch : ∀ b ∈ ch, ∃ o, s.heap.get? b = some o := fun b hb => by
    have hb : b ∈ List.filter _ _ := hb
    have z := (List.mem_filter.mp hb).2
    cases q : s.heap.get? b with
    | some o => exact ⟨o, rfl⟩
    | none =>
      rw [q] at z
      simp only [Bool.and_false, Bool.or_false, Bool.and_eq_true, decide_eq_true_eq] at z
      obtain ⟨oL, hoL⟩ := W.owns.has
      have := (W.owns.at_ _ hoL).1
      rw [z.2] at q
      rw [show s.heap.get? X0.env.locals = _ from this] at q
      cases q
  have hch : ∀ b ∈ ch, (b ∈ B.ex ∨ B.s_0.heap.objs.size ≤ b) ∧ b ≠ B.env.locals ∧ (∀ x c, B.env.cells.lookup x = some c → c ≠ b) ∧ ∀ p ∈ B.pn ++ pins, p.1 ≠ b := fun b hb => by
    obtain ⟨o, e⟩ := lch b hb
    obtain ⟨z1, z2⟩ := (mch b o e).mp hb
    exact ch0 b o e z1 z2
  have nch : ∀ b o, s.heap.get? b = some o → H b = none → b ∉ ch → (b < X0.env.locals ∨ (X0.env.locals < b ∧ tame o = true)) := fun b o e n hb => by
    rcases Nat.lt_or_ge b X0.env.locals with q | q
    · exact .inl q
    · have hne : b ≠ X0.env.locals := fun z => hb ((mch b o e).mpr ⟨n, .inl z⟩)
      refine .inr ⟨Nat.lt_of_le_of_ne q (Ne.symm hne), ?_⟩
      cases z : tame o with
      | true => rfl
      | false => exact absurd ((mch b o e).mpr ⟨n, .inr ⟨Nat.lt_of_le_of_ne q (Ne.symm hne), z⟩⟩) hb
  have slotG : ∀ s1, Tr X0 (s.setGen g .running) s1 → ∀ b o, s.heap.get? b = some o → b ∈ frs B.stack → ∃ sl, s1.heap.get? b = some { o with slots := sl } := fun s1 T b o e hb => T.slot b o e (by rw [e4]; exact hb)
  have akeep : ∀ s1, Tr X0 (s.setGen g .running) s1 → s1.heap.get? a = some oa := fun s1 T => keepG s1 T a oa hoa (fun z => by
    have := gx.fr a (by rw [e4]; exact z)
    exact Nat.lt_irrefl _ (Nat.lt_trans this ha)) (.inr ⟨ha, ta⟩)
  -- Inv behind a resume, H' = H or with one new tuple
  have after : ∀ s1 H', Tr X0 (s.setGen g .running) s1 → (∀ b u, H b = some u → H' b = some u) → (∀ b o, s.heap.get? b = some o → b ∉ ch → H b = none → H' b = none) → HOk B.prog B.w H' s1.heap → ∀ s2, s2.os = s1.os → s2.heap = s1.heap → AllBare s2.gens → Inv B pins σ H' s2 := fun s1 H' T hm hn hok s2 q1 q2 q3 => by
    refine I.call' (ch := ch) (q1.trans T.os) ?_ (by rw [q2]; exact hok) q3 hch
    rw [q2]
    refine ⟨fun b o e n hb hx => keepG s1 T b o e hb (nch b o e n hx), fun b o e n hb _ => slotG s1 T b o e hb, fun b o e n hx => hn b o e hx n, fun b o e hx => ?_, fun b xs q => hm b _ q, fun b o u q => hm b _ q, fun b ps q => ⟨#[], by rw [hm b _ q]; simp⟩⟩
    cases q : H b with
    | some u => exact ⟨o, keepH s1 T b u q o e⟩
    | none =>
      by_cases hb : b ∈ frs B.stack
      · obtain ⟨sl, z⟩ := slotG s1 T b o e hb
        exact ⟨_, z⟩
      · exact ⟨o, keepG s1 T b o e hb (nch b o e q hx)⟩
  have stayH : ∀ s1, Tr X0 (s.setGen g .running) s1 → ∀ H', (∀ b u, H b = some u → H' b = some u) → ∀ b u, H b = some u → ObjOk B.prog B.w H' s1.heap b u := fun s1 T H' hm b u q => by
    refine (I.hok b u q).stay (fun c v hc e => ?_) (fun c z => hm c _ z) fun c xs z => hm c _ z
    rcases hc with rfl | hc
    · exact keepH s1 T c u q v e
    · exact keepH s1 T c _ hc v e
  refine wpAny_gsz (n := g + 1) hgl (next_genG (F := fun n s₀ s1 => n = 0 ∧ Tr X0 s₀ s1) (Er := fun _ _ => False) (I.ok.hd hc) I.nolimit hr.depth W.isg W.at_ go (fun v s1 gs' hbare hv => ?_) (fun s1 hp h' hk => ?_) fun e s1 he => he.elim)
  · intro hsz
    obtain ⟨T, vs, own', hvs, ⟨t, ev, tf, htl, its, rits, htup⟩, ow, hk⟩ := hv
    have hHt : H t = none := by
      cases q : H t with
      | none => rfl
      | some u =>
        obtain ⟨o, e, hh⟩ := tr t u q
        obtain ⟨z1, z2⟩ := tf o e
        rcases hh with z | ⟨_, z⟩
        · exact absurd (Nat.lt_trans z z1) (Nat.lt_irrefl _)
        · rw [z2] at z
          cases z
    have hm : ∀ b u, H b = some u → upd H t (.tup vs) b = some u := fun b u q => by
      rw [upd_ne (ne_of_none q hHt)]
      exact q
    have hn : ∀ b o, s.heap.get? b = some o → b ∉ ch → H b = none → upd H t (.tup vs) b = none := fun b o e hx n => by
      have : b ≠ t := fun z => by
        obtain ⟨z1, z2⟩ := tf o (z ▸ e)
        exact hx ((mch b o e).mpr ⟨n, .inr ⟨z ▸ z1, z2⟩⟩)
      rw [upd_ne this]
      exact n
    have hok : HOk B.prog B.w (upd H t (.tup vs)) s1.heap := fun b u q => by
      by_cases hb : b = t
      · subst hb
        rw [upd_same] at q
        cases q
        exact ⟨htl, its, rits, htup⟩
      · rw [upd_ne hb] at q
        exact stayH s1 T _ hm b u q
    have I2 : Inv B pins σ (upd H t (.tup vs)) (s1.setGen g gs') := after s1 _ T hm hn hok (s1.setGen g gs') rfl rfl (allBare_setGen T.bare hbare)
    have atn : ∀ p ∈ own', upd H t (.tup vs) p.1 = none := fun p hp => by
      obtain ⟨q1, q2, q3⟩ := ow.at_ p hp
      obtain ⟨ot, nt, et, dt⟩ := isTup_data htup
      rcases q3 with q3 | ⟨q3, q4, vs', q5⟩
      · have : p.1 ≠ t := fun z => by
          cases q : s.heap.get? t with
          | some o =>
            obtain ⟨z1, _⟩ := tf o q
            rw [← z, q3] at z1
            exact Nat.lt_irrefl _ z1
          | none =>
            obtain ⟨oL, hoL⟩ := W.owns.has
            have := (W.owns.at_ _ hoL).1
            rw [← z, q3] at q
            rw [show s.heap.get? X0.env.locals = _ from this] at q
            cases q
        rw [upd_ne this, q3]
        exact hL
      · have : p.1 ≠ t := fun z => by
          rw [z, et] at q1
          cases q1
          rw [dt] at q5
          cases q5
        rw [upd_ne this]
        cases q : H p.1 with
        | none => rfl
        | some u =>
          obtain ⟨o, e, hh⟩ := tr p.1 u q
          have e' := keepH s1 T p.1 u q o e
          rw [q1] at e'
          cases e'
          rcases hh with z | ⟨_, z⟩
          · exact absurd (Nat.lt_trans z q3) (Nat.lt_irrefl _)
          · exact absurd q4 (tame_norange q5 z)
    have w2 : Wake X0 own' (s1.setGen g gs') := ⟨I2.bare, fun b o e => I2.bk b o (e3 ▸ e), by rw [e3, e4]; exact I2.stack, fun p hp => (ow.at_ p hp).1⟩
    cases m with
    | zero => exact (hk _ w2).1.elim
    | succ m' =>
      have hat : a ≠ t := fun z => by
        obtain ⟨z1, z2⟩ := tf oa (z ▸ hoa)
        rw [ta] at z2
        cases z2
      refine .inr ⟨m', vs, t, own', gs', rfl, by rw [ev], hvs, hHt, I2, ⟨⟨oa, nm, qn, akeep s1 T, hca, hda, hsa⟩, setGen_at ?_, ⟨fun p hp => ow.at_ p hp, ow.has⟩, fun s' hw => ?_⟩, ?_, atn, fun o e => ?_, hat⟩
      · have q : (s1.setGen g gs').gens.size = s1.gens.size := setGen_size _ _ _
        have q2 : g + 1 ≤ (s1.setGen g gs').gens.size := hsz
        omega
      · have := (hk s' hw).1
        rw [e1, e2]
        exact this
      · have := (hk _ w2).2
        cases gs' with
        | suspended _ _ _ _ _ _ => exact trivial
        | fresh c => exact absurd this.1 (by intro z; cases z)
        | running => exact this.elim
        | finished => exact this.elim
      · rw [hoa] at e
        cases e
        exact akeep s1 T
  · intro _
    obtain ⟨hm0, T⟩ := hp
    refine .inl ⟨hm0, rfl, ?_, fun o e => ?_⟩
    · have I2 : Inv B pins σ H (s1.setGen g .finished) := after s1 H T (fun _ _ q => q) (fun _ _ _ _ n => n) (fun b u q => stayH s1 T H (fun _ _ q => q) b u q) _ rfl rfl (allBare_setGen T.bare rfl)
      have I3 := I2.kept (h' := h') (t' := s1.toks) (fun b o e => hk b o e)
      exact I3
    · rw [hoa] at e
      cases e
      exact hk a oa (akeep s1 T)
end GU
end
section
set_option Elab.async false
set_option linter.all false
set_option maxRecDepth 100000
set_option maxHeartbeats 4000000
/-! [elt for target in f(..) if ..], f a generator def of one's own: the comprehension walks it (pe_lcG). -/
namespace GU
open PySem PySem.Spec PyProof.Rows L2 GenW GF

/-! ### a step of the walking code, while a generator sleeps -/
theorem lull_bare {s : Shared} (h : AllBare s.gens) : AllBare (lull s).gens := fun x hx => by
  have hx : x ∈ s.gens.map stuckGen := hx
  obtain ⟨y, hy, e⟩ := Array.mem_map.mp hx
  rw [← e, stuck_bare]
  exact h y hy
theorem Inv.gensTo {X : Cx} {pins : List (Addr × Obj)} {σ : L2.St} {H : Hp} {s s' : Shared} (I : Inv X pins σ H s) (eo : s'.os = s.os) (eh : s'.heap = s.heap) (hb : AllBare s'.gens) : Inv X pins σ H s' :=
  I.call' (ch := []) eo (by rw [eh]; exact Un.refl) (by rw [eh]; exact I.hok) hb (fun b hb => absurd hb (by simp))
theorem framed {α : Type} {X : Cx} {pins : List (Addr × Obj)} {σ : L2.St} {H : Hp} {s : Shared} {A : Around} {t : Sem α} {P Q : α → Shared → Prop} {E : Value → Shared → Prop} {g : Nat} {gs : GenState} (I : Inv X pins σ H s) (hg : s.gens[g]? = some gs) (hs : Sleeps gs)
    (h : ∀ s0, Inv X pins σ H s0 → s0.heap = s.heap → wpAny (model X.prog X.w) A t P (fun _ _ => False) s0) (hb : ∀ a s1, P a s1 → AllBare s1.gens)
    (q : ∀ a s1 s', P a s1 → s'.os = s1.os → s'.heap = s1.heap → AllBare s'.gens → s'.gens[g]? = some gs → Q a s') : wpAny (model X.prog X.w) A t Q E s := by
  have h0 := h (lull s) (Inv.gensTo I rfl rfl (lull_bare I.bare)) rfl
  refine wpAny_mono (any_frame h0) (fun a s' ⟨s1, p, e, k, sz, from_⟩ => ?_) fun _ _ ⟨_, z, _⟩ => z.elim
  refine q a s1 s' p (by rw [e]) (by rw [e]) (fun x hx => ?_) (k g gs hg hs)
  obtain ⟨i, hi, ex⟩ := Array.mem_iff_getElem.mp hx
  have e2 : s'.gens[i]? = some x := by rw [Array.getElem?_eq_getElem hi, ex]
  rcases from_ i x e2 with z | z
  · exact I.bare x (Array.mem_of_getElem? z)
  · exact hb a s1 p x (Array.mem_of_getElem? z)

/-- an expression that makes a generator: what that will hand out -/
abbrev TGn := L2.St → Hp → (List (List V) → Hp → Prop) → Prop
structure PGn (X : Cx) (e : Expr) (tg : TGn) : Prop where
  run : ∀ (pins : List (Addr × Obj)) (s : Shared) (σ : L2.St) (H : Hp) (R : List (List V) → Hp → Prop), Inv X pins σ H s → tg σ H R →
    wpAny (model X.prog X.w) X.A (eval e X.env) (fun u s' => ∃ H1 items s1, Inv X pins σ H1 s1 ∧ Made X.prog X.w X.base X.A.in1 X.stack items s1 s' u ∧ R items H1) X.xe s
def tGn (sp : SpI) (t : TA) : TGn := fun σ H R => t σ H fun vs H1 => ∃ items, sp vs items ∧ R items H1
theorem pgn_call {X : Cx} {k : Nat} {f : Addr} {fd : FuncData} {ps : List Str} {sp : SpI} {x : Str} {p pos' : Pos} {e : Expr} {es : List Expr} {t : TA} (F : GFnP X.prog X.w X.K X.mg X.base k f fd ps sp) (hr : Room (k + 1) X.A) (hg : Gl X x) (hm : X.mg x = some (.ref f)) (hk : PySem.W.keepIn X.K (.ref f) = true) (hb : Binds X.K fd ps [])
    (ha : PA X (e :: es) t) (hdb : (x == ("__debug__" : Str)) = false := by decide) (he : starEach (e :: es) X.env = (false, eval e X.env) :: starEach es X.env := by rfl) (hpl : (backTo pos' (starEach es X.env)).any (·.1) = false := by rfl) :
    PGn X (.Call (.Name x p) (e :: es) [] pos') (tGn sp t) := by
  refine ⟨fun pins s σ H R I h => ?_⟩
  refine wpAny_Call_Name_kw (ld_glob I hg hm ?_ hdb)
  refine PySem.W.callWith_K (h₀ := X.base) I.ok.mod.kin hk (thn (ha.run pos' pins s σ H _ I h) fun us s1 ⟨vs, H1, I1, r, items, hsp, q⟩ => ⟨I1.kIn, ?_⟩) he hpl
  have hl : us.length = ps.length := by rw [← r.length]; exact F.len _ _ hsp
  have hb' := hb s1 us I1.kIn (by rw [List.append_nil]; exact hl)
  rw [List.append_nil] at hb'
  refine wpAny_call (codeAny_mono (F.run X.A X.A.in1 X.stack s1 H1 ⟨us, []⟩ us vs items (hr.mono (Nat.le_succ k)) hr.in1 I1.ok.frames I1.env0 hb' r hsp) fun r s' hq => ?_)
  cases r with
  | error e => exact False.elim hq
  | ok fl =>
    cases fl with
    | ret u => exact ⟨H1, items, s1, I1, hq, q⟩
    | next => exact False.elim hq
    | brk => exact False.elim hq
    | cont => exact False.elim hq

/-- what was told since H1: lists and tuples -/
def Told (H1 H : Hp) : Prop := ∀ b u, H1 b = none → H b = some u → (∃ xs, u = .lst xs) ∨ ∃ xs, u = .tup xs
def tLcG (tg : TGn) (g : TG) (tt : TT) (te : TE) (vs : List Nat) : TE := fun σ H Q => tg σ H fun items H1 => ∀ D, H1 D = none → ∃ Pv : Nat → Hp → Prop, Pv 0 (upd H1 D (.lst [])) ∧
  (∀ i H, Pv i H → Told H1 H ∧ ∃ acc, H D = some (.lst acc)) ∧ (∀ H, Pv items.length H → Q (.ref D) H) ∧
  ∀ i ws t H, items[i]? = some ws → Pv i H → H t = none → g (.ref t) (wipe σ vs) (upd H t (.tup ws)) fun σ2 H2 => wipe σ2 vs = wipe σ vs ∧ tt σ2 H2 fun b H3 =>
    if b = true then te σ2 H3 fun y H4 => ∃ acc, H4 D = some (.lst acc) ∧ acc.length < sizeLine ∧ Pv (i + 1) (upd H4 D (.lst (acc ++ [y]))) else Pv (i + 1) H3

theorem Waits.keeps {X0 : Cx} {A : Around} {items : List (List V)} {a : Addr} {g m : Nat} {own : List (Addr × Obj)} {gs : GenState} {s s' : Shared} (W : Waits X0 A items a g m own gs s) (eg : s'.gens[g]? = some gs) (ha : ∀ o, s.heap.get? a = some o → s'.heap.get? a = some o)
    (ho : ∀ p ∈ own, s'.heap.get? p.1 = some p.2) : Waits X0 A items a g m own gs s' := by
  obtain ⟨o, nm, qn, e, r⟩ := W.isg
  exact ⟨⟨o, nm, qn, ha o e, r⟩, eg, ⟨fun p hp => ⟨ho p hp, (W.owns.at_ p hp).2⟩, W.owns.has⟩, W.go⟩

theorem objThere {P : Program} {w : World} {H : Hp} {h : Heap} {a : Addr} {o : HO} (x : ObjOk P w H h a o) : ∃ ob, h.get? a = some ob := by
  cases o with
  | lst xs => obtain ⟨_, _, _, _, e⟩ := x; exact ⟨_, e⟩
  | tup xs => obtain ⟨_, _, _, o, e, _⟩ := x; exact ⟨_, e⟩
  | dK kvs => obtain ⟨_, _, _, _, o, _, _, e, _⟩ := x; exact ⟨_, e⟩
  | dT kvs => obtain ⟨_, _, _, _, o, _, _, e, _⟩ := x; exact ⟨_, e⟩
  | set S n => obtain ⟨o, _, _, _, e, _⟩ := x; exact ⟨_, e⟩
  | ins C dx fs => obtain ⟨_, _, _, e, _⟩ := x; exact ⟨_, e⟩
  | own y => obtain ⟨_, e⟩ := x; exact ⟨_, e⟩
  | xd fs => obtain ⟨_, ⟨_, _, _, e, _⟩, _⟩ := x; exact ⟨_, e⟩
  | rng lo hi => obtain ⟨_, _, _, e⟩ := x; exact ⟨_, e⟩
  | frz ob u => obtain ⟨e, _⟩ := x; exact ⟨_, e⟩
  | tbl ps => exact ⟨_, (show h.get? a = some _ from x)⟩
  | met f y => exact ⟨_, (show h.get? a = some _ from x)⟩
  | ext φ => obtain ⟨_, ⟨_, e⟩, _⟩ := x; exact ⟨_, e⟩

section
variable {X : Cx}
theorem pe_lcG {elt tg iter : Expr} {ifs : List Expr} {scope : Scope} {bown : List (Str × Nat)} {pos : Pos} {tgn : TGn} {g : TG} {tt : TT} {te : TE} {k : Nat} (hc : X.calm = true) (hN : X.N.Nodup) (hr : Room k X.A) (hi : PGn X iter tgn) (ok : BlkOk X.N X.env.scope scope bown)
    (nocell : ∀ y ∈ scope.names, y.2 ≠ .cell)
    (hg : ∀ (s : Shared) (H : Hp) (C : Addr) (cl : List (Str × Addr)) (fp : List Addr), PG (X.blk s H scope (compEnvC scope cl C X.env) fp) tg g) (ht : ∀ (s : Shared) (H : Hp) (C : Addr) (cl : List (Str × Addr)) (fp : List Addr), PTs (X.blk s H scope (compEnvC scope cl C X.env) fp) ifs tt)
    (he : ∀ (s : Shared) (H : Hp) (C : Addr) (cl : List (Str × Addr)) (fp : List Addr), PE (X.blk s H scope (compEnvC scope cl C X.env) fp) elt te) (hgo : ∀ it v, letOwnedTupleGo tg it v = pure () := by intro _ _; rfl) (hs : ∀ x, foldedSetIterable iter X.env x = pure x := by intro _; rfl) :
    PE X (.ListComp elt [⟨tg, iter, ifs, 0⟩] scope pos) (tLcG tgn g tt te (bown.map (·.2))) := by
  refine ⟨fun pins s σ H Q I h => ?_⟩
  rw [eval_ListComp]
  have hfree : ∀ y ∈ scope.names, y.2 = .free → ∃ c, X.env.cells.lookup y.1 = some c := fun y hy e => by
    rcases ok.free y hy e with k | k
    · exact I.ok.has _ (.inl k)
    · exact I.ok.has _ (.inr k)
  refine wpAny_comprehension_free (use := none) rfl hs (closure_ok hfree) ok.kind (fun y hy e => by rw [ok.uniq y hy, e])
    (thn (hi.run pins s σ H _ I h) fun xv s1 hx => ?_)
  obtain ⟨H1, items, sA, IA, M, q⟩ := hx
  obtain ⟨⟨X0, a, gn, own0, gs0, eu, ea, ep, ew, eb, eo, eL, gx, la, W0⟩, Mos, Mbare, Mkeep, Msize⟩ := M
  subst eu
  have I1 : Inv X pins σ H1 s1 := IA.call' (ch := []) Mos (Un.kept Mkeep) (IA.hok.kept Mkeep) Mbare (fun b hb => absurd hb (by simp))
  refine wpAny_pyIter_gen W0.isg ?_
  refine wpAny_newObj_type (newEnv_comp ?_) (by show 0 ≤ sizeLine; decide)
  generalize hD : s1.heap.objs.size = D
  have hDn : H1 D = none := I1.hok.fresh (Nat.le_of_eq hD)
  obtain ⟨Pv, p0, told, pend, turn⟩ := q D hDn
  generalize hs3 : ({ s1 with heap := s1.heap.push { cls := .type "list", data := .seq ([] : List Value).toArray } } : Shared) = s3
  have I3 : Inv X pins σ (upd H1 D (.lst [])) s3 := by
    rw [← hs3]
    refine I1.laid (t' := s1.toks) (fun b o e => Heap.get?_push_of_some _ e) (Nat.le_of_eq hD) ⟨Nat.zero_le _, [], 0, .nil, ?_⟩
    rw [← hD]
    exact Heap.get?_push_size _ rfl
  have h3 : s3.heap = s1.heap.push { cls := .type "list", data := .seq ([] : List Value).toArray } := by rw [← hs3]
  have g3 : s3.gens = s1.gens := by rw [← hs3]
  have sz3 : s3.heap.objs.size = X0.env.locals + 3 := by rw [h3, Heap.size_push, Msize, eL]
  have eD : D = X0.env.locals + 2 := by rw [← hD, Msize, eL]
  have nLD : X0.env.locals ≠ D := by rw [eD]; exact Nat.ne_of_lt (Nat.lt_add_of_pos_right (by decide))
  have ea : a = X0.env.locals + 1 := by rw [ea, eL]
  have lt3 : X0.env.locals < s3.heap.objs.size := by rw [sz3]; exact Nat.lt_add_of_pos_right (by decide)
  have HL : ∀ b, X0.env.locals ≤ b → H1 b = none := fun b hb => IA.hok.fresh (by rw [← eL]; exact hb)
  have f3 : FpOk X pins (upd H1 D (.lst [])) X0.env.locals := IA.fpOk (Nat.le_of_eq eL.symm) (by rw [upd_ne nLD]; exact HL _ (Nat.le_refl _))
  have W3 : Waits X0 X.A.in1 items a gn items.length own0 gs0 s3 := W0.keeps (by rw [g3]; exact W0.at_) (fun o e => by rw [h3]; exact Heap.get?_push_of_some _ e) fun p hp => by rw [h3]; exact Heap.get?_push_of_some _ (W0.owns.at_ p hp).1
  have I4 := block_start (fp := [X0.env.locals]) I3 ok hN (fun b hb => by
    rw [List.mem_singleton.mp hb]
    exact ⟨f3, lt3⟩)
  have pg := hg s3 (upd H1 D (.lst [])) s3.heap.objs.size (cellsFrom (s3.heap.objs.size + 1) scope.names (cloFrom X.env.cells scope.names [])) [X0.env.locals]
  have pt := ht s3 (upd H1 D (.lst [])) s3.heap.objs.size (cellsFrom (s3.heap.objs.size + 1) scope.names (cloFrom X.env.cells scope.names [])) [X0.env.locals]
  have pe := he s3 (upd H1 D (.lst [])) s3.heap.objs.size (cellsFrom (s3.heap.objs.size + 1) scope.names (cloFrom X.env.cells scope.names [])) [X0.env.locals]
  show codeAny _ _ (.compStart (.ListComp elt [⟨tg, iter, ifs, 0⟩] scope pos) 0 (.ref a) (.ref D) (compEnvC scope (cellsFrom (s3.heap.objs.size + 1) scope.names (cloFrom X.env.cells scope.names [])) s3.heap.objs.size X.env)) (compPost (model X.prog X.w) X.A X.xe none _ (.ref D) s3.heap.objs.size) { s3 with heap := pushCells (s3.heap.push { cls := .type "dict", data := .dict #[] }) scope.names }
  have ncell : ∀ x c, (compEnvC scope (cellsFrom (s3.heap.objs.size + 1) scope.names (cloFrom X.env.cells scope.names [])) s3.heap.objs.size X.env).cells.lookup x = some c → c < X0.env.locals := fun x c e => by
    have e : (cellsFrom (s3.heap.objs.size + 1) scope.names (cloFrom X.env.cells scope.names [])).lookup x = some c := e
    rw [← Heap.size_push s3.heap { cls := .type "dict", data := .dict #[] }] at e
    rcases cells_mem (PySem.mem_of_lookup e) with hm | ⟨z, _⟩
    · rcases cloFrom_mem hm with hm | ⟨z1, z2⟩
      · cases hm
      · obtain ⟨c', hc'⟩ := hfree _ z1 rfl
        rw [hc'] at z2
        have z2 : c = c' := z2
        subst z2
        obtain ⟨v, z⟩ := IA.cell _ _ hc'
        rw [eL]
        exact z.lt
    · exact absurd rfl (nocell _ z)
  generalize hce : compEnvC scope (cellsFrom (s3.heap.objs.size + 1) scope.names (cloFrom X.env.cells scope.names [])) s3.heap.objs.size X.env = ce at I4 pg pt pe ncell ⊢
  have cL : ce.locals = s3.heap.objs.size := by subst hce; rfl
  generalize hH3 : upd H1 D (.lst []) = H3 at I3 I4 pg pt pe p0 f3
  generalize hs4 : ({ s3 with heap := pushCells (s3.heap.push { cls := .type "dict", data := .dict #[] }) scope.names } : Shared) = s4 at I4 ⊢
  have k4 : ∀ b o, s3.heap.get? b = some o → s4.heap.get? b = some o := fun b o e => by rw [← hs4]; exact pushCells_keeps _ _ _ _ (Heap.get?_push_of_some _ e)
  have W4 : Waits X0 X.A.in1 items a gn items.length own0 gs0 s4 := W3.keeps (by rw [← hs4]; exact W3.at_) (fun o e => k4 a o e) fun p hp => k4 _ _ (W3.owns.at_ p hp).1
  obtain ⟨oa, nm, qn, hoa, hca, hda, hsa⟩ := id W4.isg
  have ta : tame oa = true := by
    unfold tame
    rw [hda, hca]
    show ("generator" != "range_iterator") = true
    decide
  -- what stands in each turn
  have trk : ∀ {σ' : L2.St} {H' : Hp} {s' : Shared} {pn : List (Addr × Obj)}, Inv (X.blk s3 H3 scope ce [X0.env.locals]) pn σ' H' s' → Told H1 H' → H' X0.env.locals = none → ∀ b u, H' b = some u → ∃ o, s'.heap.get? b = some o ∧ (b < X0.env.locals ∨ (X0.env.locals < b ∧ tame o = true)) := fun {σ' H' s' pn} I' tl nL b u hb => by
    rcases Nat.lt_or_ge b X0.env.locals with z | z
    · obtain ⟨o, e⟩ := objThere (I'.hok b u hb)
      exact ⟨o, e, .inl z⟩
    · have hne : X0.env.locals ≠ b := fun e => by
        rw [← e, nL] at hb
        cases hb
      have zl : X0.env.locals < b := Nat.lt_of_le_of_ne z hne
      rcases tl b u (HL b z) hb with ⟨xs, e⟩ | ⟨xs, e⟩
      · subst e
        obtain ⟨_, its, n, _, e⟩ := I'.hok b _ hb
        exact ⟨_, e, .inr ⟨zl, tame_seq rfl⟩⟩
      · subst e
        obtain ⟨_, its, _, tp⟩ := I'.hok b _ hb
        obtain ⟨o, n, e, d⟩ := isTup_data tp
        exact ⟨o, e, .inr ⟨zl, tame_seq d⟩⟩
  have aB : ∀ {σ' : L2.St} {H' : Hp} {s' : Shared} {pn : List (Addr × Obj)}, Inv (X.blk s3 H3 scope ce [X0.env.locals]) pn σ' H' s' → s'.heap.get? a = some oa ∧ H' a = none := fun {σ' H' s' pn} I' => by
    have h3a : s3.heap.get? a = some oa := by
      obtain ⟨o', _, _, e', _⟩ := W3.isg
      rw [e', ← hoa, k4 a o' e']
    have n3 : H3 a = none := by
      rw [← hH3, upd_ne (by rw [ea, eD]; exact Nat.ne_of_lt (Nat.lt_succ_self _))]
      exact HL a (by rw [ea]; exact Nat.le_succ _)
    have na : a ∉ [X0.env.locals] := fun z => by
      have := List.mem_singleton.mp z
      rw [ea] at this
      exact absurd this (Nat.succ_ne_self _)
    have nf : a ∉ frs X.stack := fun z => by
      have := gx.fr a (by rw [eo]; exact z)
      exact Nat.lt_irrefl _ (Nat.lt_trans this la)
    exact ⟨I'.base.keep a oa h3a n3 nf na, I'.base.free a oa h3a n3 na⟩
  have un0 : ∀ p ∈ own0, H3 p.1 = none := fun p hp => by
    obtain ⟨q1, _, q3⟩ := W0.owns.at_ p hp
    have hlt := Heap.lt_size q1
    have : p.1 ≠ D := fun z => by
      rw [z, ← hD] at hlt
      exact Nat.lt_irrefl _ hlt
    rw [← hH3, upd_ne this]
    refine HL _ ?_
    rcases q3 with q3 | ⟨q3, _⟩
    · rw [q3]
      exact Nat.le_refl _
    · exact Nat.le_of_lt q3
  have nL3 : H3 X0.env.locals = none := f3.1
  have loop : codeAny (model X.prog X.w) X.A (.compLoop (.ListComp elt [⟨tg, iter, ifs, 0⟩] scope pos) 0 (.ref a) (.ref D) ce) (compPost (model X.prog X.w) X.A X.xe none (EP X pins σ Q) (.ref D) s3.heap.objs.size) s4 := by
    refine compLoop_any (fun n s' => ∃ i H' own gs, Inv (X.blk s3 H3 scope ce [X0.env.locals]) [] (wipe σ (bown.map (·.2))) H' s' ∧ Waits X0 X.A.in1 items a gn n own gs s' ∧ i + n = items.length ∧ H' X0.env.locals = none ∧ Pv i H') ?_ items.length
      ⟨0, H3, own0, gs0, I4, W4, Nat.zero_add _, nL3, p0⟩
    rintro n s5 ⟨i, H5, own5, gs5, I5, W5, hin, n5, p5⟩
    obtain ⟨tl, acc5, hD5⟩ := told i H5 p5
    have ch0 : ∀ b o, s5.heap.get? b = some o → H5 b = none → (b = X0.env.locals ∨ (X0.env.locals < b ∧ tame o = false)) → (b ∈ (X.blk s3 H3 scope ce [X0.env.locals]).ex ∨ (X.blk s3 H3 scope ce [X0.env.locals]).s_0.heap.objs.size ≤ b) ∧ b ≠ (X.blk s3 H3 scope ce [X0.env.locals]).env.locals ∧
        (∀ x c, (X.blk s3 H3 scope ce [X0.env.locals]).env.cells.lookup x = some c → c ≠ b) ∧ ∀ p ∈ (X.blk s3 H3 scope ce [X0.env.locals]).pn ++ [], p.1 ≠ b := fun b o e hn hh => by
      refine ⟨?_, ?_, fun x c e2 z => ?_, fun p hp => absurd (show p ∈ ([] : List (Addr × Obj)) ++ [] from hp) (by simp)⟩
      · rcases hh with hh | ⟨hh, ht⟩
        · exact .inl (by rw [hh]; exact List.mem_singleton.mpr rfl)
        · refine .inr ?_
          show s3.heap.objs.size ≤ b
          rw [sz3]
          have n1 : b ≠ X0.env.locals + 1 := fun z => by
            rw [← ea] at z
            rw [z, (aB I5).1] at e
            cases e
            rw [ta] at ht
            cases ht
          have n2 : b ≠ X0.env.locals + 2 := fun z => by
            rw [← eD] at z
            rw [z, hD5] at hn
            cases hn
          have h1 : X0.env.locals + 1 ≤ b := hh
          have h2 : X0.env.locals + 2 ≤ b := Nat.lt_of_le_of_ne h1 (Ne.symm n1)
          exact Nat.lt_of_le_of_ne h2 (Ne.symm n2)
      · show b ≠ ce.locals
        rcases hh with hh | ⟨hh, ht⟩
        · rw [cL, hh]
          exact Nat.ne_of_lt lt3
        · intro z
          obtain ⟨m, ⟨o', es, ep', e', d', _⟩, _⟩ := I5.loc
          have e' : s5.heap.get? ce.locals = some o' := e'
          rw [← z, e] at e'
          cases e'
          rw [tame_dict d'] at ht
          cases ht
      · have := ncell x c e2
        rw [z] at this
        rcases hh with hh | ⟨hh, _⟩
        · rw [hh] at this
          exact Nat.lt_irrefl _ this
        · exact Nat.lt_irrefl _ (Nat.lt_trans this hh)
    have gw := gen_wake (B := X.blk s3 H3 scope ce [X0.env.locals]) (E := fun _ _ => False) I5 W5 ep ew eb eo gx hc hr n5 la (aB I5).2 ch0 (trk I5 tl n5)
    refine wpAny_mono gw (fun r s6 h6 => ?_) fun _ _ z => z.elim
    rcases h6 with ⟨hm0, hr, I6, ka⟩ | ⟨m', ws, t, own6, gs6, hm, hr, hvs, hHt, I6, W6, sl6, un6, ka, hat⟩
    · subst hr
      have I7 : Inv X pins σ H5 s6 := I3.call' (ch := [X0.env.locals]) I6.os I6.base I6.hok I6.bare fun b hb => by
        rw [List.mem_singleton.mp hb]
        exact ⟨f3.2.2.2.1, f3.2.1, f3.2.2.2.2.1, f3.2.2.2.2.2⟩
      have nC : H5 s3.heap.objs.size = none := by
        have z : H5 ce.locals = none := I6.free
        rw [cL] at z
        exact z
      obtain ⟨m, hn, _⟩ := I6.loc
      have hn : s6.heap.Ns ce.locals m := hn
      rw [cL] at hn
      have ei : i = items.length := by omega
      subst ei
      refine ⟨m, hn, fun h'' sb => ?_⟩
      obtain ⟨f0, f1, f2, f3', f4, f5⟩ : FpOk X pins H5 s3.heap.objs.size := I3.fpOk (Nat.le_refl _) nC
      exact ⟨.ref D, H5, I7.turned (t' := s6.toks) (fun b o hb e => (sb.2 b hb).trans e) f0 f1 f3' f4 f5, rfl, pend H5 p5⟩
    · subst hr
      have ei : items.length - 1 - m' = i := by omega
      rw [ei] at hvs
      have step := turn i ws t H5 hvs p5 hHt
      have own_ok : ∀ p ∈ own6, s6.heap.get? p.1 = some p.2 ∧ (upd H5 t (.tup ws)) p.1 = none ∧ p.1 ≠ (X.blk s3 H3 scope ce [X0.env.locals]).env.locals ∧ p.1 ∉ (X.blk s3 H3 scope ce [X0.env.locals]).fs ∧ ∀ v, p.2.data ≠ .cell v := fun p hp => by
        obtain ⟨q1, q2, q3⟩ := W6.owns.at_ p hp
        refine ⟨q1, un6 p hp, ?_, ?_, q2⟩
        · show p.1 ≠ ce.locals
          rcases q3 with q3 | ⟨q3, q4, vs', q5⟩
          · rw [q3, cL]
            exact Nat.ne_of_lt lt3
          · intro z
            obtain ⟨m, ⟨o', es, ep', e', d', _⟩, _⟩ := I6.loc
            have e' : s6.heap.get? ce.locals = some o' := e'
            rw [← z, q1] at e'
            cases e'
            rw [q5] at d'
            cases d'
        · show p.1 ∉ frs X.stack
          intro z
          have := gx.fr p.1 (by rw [eo]; exact z)
          rcases q3 with q3 | ⟨q3, _⟩
          · rw [q3] at this
            exact Nat.lt_irrefl _ this
          · exact Nat.lt_irrefl _ (Nat.lt_trans this q3)
      have I6p : Inv (X.blk s3 H3 scope ce [X0.env.locals]) own6 (wipe σ (bown.map (·.2))) (upd H5 t (.tup ws)) s6 := I6.pins_of own_ok
      refine wpAny_of_eq (hgo (.ref a) (.ref t)) ?_
      -- behind the turn
      have fin : ∀ {σ8 : L2.St} {s' : Shared} {H' : Hp}, Inv (X.blk s3 H3 scope ce [X0.env.locals]) own6 σ8 H' s' → s'.gens[gn]? = some gs6 → wipe σ8 (bown.map (·.2)) = wipe σ (bown.map (·.2)) → Pv (i + 1) H' →
          ∃ m, m < n ∧ ∃ i H' own gs, Inv (X.blk s3 H3 scope ce [X0.env.locals]) [] (wipe σ (bown.map (·.2))) H' s' ∧ Waits X0 X.A.in1 items a gn m own gs s' ∧ i + m = items.length ∧ H' X0.env.locals = none ∧ Pv i H' := fun {σ8 s' H'} I' eg hw8 pv => by
        have pin' : ∀ p ∈ own6, s'.heap.get? p.1 = some p.2 ∧ H' p.1 = none := fun p hp =>
          let z := I'.pin p (List.mem_append_right _ hp)
          ⟨z.1, z.2.1⟩
        have hl : (wipe σ (bown.map (·.2))).length = σ8.length := by rw [← hw8, wipe_length]
        have I'' : Inv (X.blk s3 H3 scope ce [X0.env.locals]) [] σ8 H' s' := I'.pins_of fun p hp => absurd hp (by simp)
        refine ⟨m', by omega, i + 1, H', own6, gs6, I''.weak hl (fun j v e => ?_), W6.keeps eg (fun o e => ?_) (fun p hp => (pin' p hp).1), by omega, ?_, pv⟩
        · rw [← hw8] at e
          exact (wipe_some e).1
        · rw [(aB I6).1] at e
          cases e
          exact (aB I').1
        · obtain ⟨oL, hoL⟩ := W6.owns.has
          exact (pin' _ hoL).2
      refine framed (X := X.blk s3 H3 scope ce [X0.env.locals]) (P := fun _ s8 => ∃ σ8 H8, Inv (X.blk s3 H3 scope ce [X0.env.locals]) own6 σ8 H8 s8 ∧ _) I6p W6.at_ sl6 (fun s0 I0 eh => pg.run _ s0 _ _ (.ref t) (.ref t) _ I0 rfl step) (fun _ s1 ⟨_, _, z, _⟩ => z.bare) fun _ s8 s8' ⟨σ8, H8, I8, hw8, q8⟩ eo8 eh8 eb8 eg8 => ?_
      have I8' := Inv.gensTo I8 eo8 eh8 eb8
      refine framed (X := X.blk s3 H3 scope ce [X0.env.locals]) (P := fun b s9 => ∃ H9, Inv (X.blk s3 H3 scope ce [X0.env.locals]) own6 σ8 H9 s9 ∧ _) I8' eg8 sl6 (fun s0 I0 eh => pt.run _ s0 σ8 H8 _ I0 q8) (fun _ s1 ⟨_, z, _⟩ => z.bare) fun b s9 s9' ⟨H9, I9, q9⟩ eo9 eh9 eb9 eg9 => ?_
      have I9' := Inv.gensTo I9 eo9 eh9 eb9
      cases b with
      | false =>
        simp only [Bool.false_eq_true, if_false] at q9 ⊢
        exact fin I9' eg9 hw8 q9
      | true =>
        simp only [if_true] at q9 ⊢
        refine framed (X := X.blk s3 H3 scope ce [X0.env.locals]) (P := fun u s10 => ∃ y H10, Inv (X.blk s3 H3 scope ce [X0.env.locals]) own6 σ8 H10 s10 ∧ RelV y u ∧ _) I9' eg9 sl6 (fun s0 I0 eh => pe.run _ s0 σ8 H9 _ I0 q9) (fun _ s1 ⟨_, _, z, _⟩ => z.bare) fun u s10 s10' ⟨yv, H10, I10, r10, acc, hD10, hz10, nx⟩ eo10 eh10 eb10 eg10 => ?_
        have I10' := Inv.gensTo I10 eo10 eh10 eb10
        exact framed (X := X.blk s3 H3 scope ce [X0.env.locals]) (P := fun _ s11 => Inv (X.blk s3 H3 scope ce [X0.env.locals]) own6 σ8 (upd H10 D (.lst (acc ++ [yv]))) s11) I10' eg10 sl6 (fun s0 I0 eh => app_ok (X := X.blk s3 H3 scope ce [X0.env.locals]) I0 hD10 hz10 r10 fun s11 I11 => I11) (fun _ s1 z => z.bare)
          fun _ s11 s11' I11 eo11 eh11 eb11 eg11 => fin (Inv.gensTo I11 eo11 eh11 eb11) eg11 hw8 nx
  refine codeAny_compStart_list loop ?_
  exact wpAny_pyIter_gen W4.isg loop
end
end GU
end
section
set_option Elab.async false
set_option linter.all false
set_option maxRecDepth 100000
set_option maxHeartbeats 4000000
/-! The data logic: a comprehension over a generator def of one's own. -/
namespace DL
open PySem PySem.Spec PyProof.Rows L2 Evl

/-! ### to forget what was told, but for lists and tuples -/
def seqO : HO → Bool
  | .lst _ => true
  | .tup _ => true
  | _ => false
def loose : HO → Bool
  | .ins _ _ _ => false
  | .frz _ _ => false
  | _ => true
/-- what is kept of a list or tuple -/
def soft : HO → Option HO
  | .lst xs => some (.lst xs)
  | .tup xs => some (.tup xs)
  | .frz _ u => soft u
  | _ => none
theorem soft_seq {o : HO} (h : seqO o = true) : soft o = some o := by
  cases o with
  | lst xs => rfl
  | tup xs => rfl
  | _ => cases h
theorem soft_is {o u : HO} (h : soft o = some u) : seqO u = true := by
  induction o with
  | frz ob v ih => exact ih h
  | lst xs => cases h; rfl
  | tup xs => cases h; rfl
  | _ => cases h
open Classical in
noncomputable def cutH (H H' : Hp) : Hp := fun b => (H' b).bind fun o => if H b = some o then some o else (soft o).elim (if H b = none then none else if loose o = true then some o else some (.own b)) some
section
variable {H H' : Hp} {b : Addr} {o : HO}
theorem cut_none (h : H' b = none) : cutH H H' b = none := by unfold cutH; rw [h]; rfl
theorem cut_same (h : H b = some o) (h' : H' b = some o) : cutH H H' b = some o := by
  unfold cutH
  rw [h', Option.bind_some, if_pos h]
theorem cut_seq (h : H' b = some o) (s : seqO o = true) : cutH H H' b = some o := by
  unfold cutH
  rw [h, Option.bind_some, soft_seq s]
  split <;> rfl
theorem cut_at (h : H b ≠ none) (h' : H' b = some o) (e : H b ≠ some o) : cutH H H' b = (soft o).elim (if loose o = true then some o else some (.own b)) some := by
  unfold cutH
  rw [h', Option.bind_some, if_neg e, if_neg h]
theorem cut_there (h : H b ≠ none) (h' : H' b ≠ none) : cutH H H' b ≠ none := by
  cases q : H' b with
  | none => exact absurd q h'
  | some o =>
    by_cases e : H b = some o
    · rw [cut_same e q]
      exact fun z => nomatch z
    · rw [cut_at h q e]
      cases soft o with
      | some u => exact fun z => nomatch z
      | none =>
        show (if loose o = true then some o else some (HO.own b)) ≠ none
        split <;> exact fun z => nomatch z
theorem cut_loose (h : H b ≠ none) (h' : H' b = some o) (l : loose o = true) : cutH H H' b = some o := by
  by_cases s : seqO o = true
  · exact cut_seq h' s
  · by_cases e : H b = some o
    · exact cut_same e h'
    · rw [cut_at h h' e, if_pos l]
      cases q : soft o with
      | none => rfl
      | some u =>
        cases o with
        | lst xs => exact absurd rfl s
        | tup xs => exact absurd rfl s
        | frz ob v => cases l
        | _ => cases q
theorem cut_of {u : HO} (h : cutH H H' b = some u) : ∃ o, H' b = some o ∧ ((u = o ∧ H b = some o) ∨ soft o = some u ∨ (H b ≠ none ∧ ((u = o ∧ loose o = true) ∨ u = .own b))) := by
  unfold cutH at h
  cases q : H' b with
  | none => rw [q] at h; cases h
  | some o =>
    rw [q, Option.bind_some] at h
    refine ⟨o, rfl, ?_⟩
    split at h
    · rename_i s
      cases h
      exact .inl ⟨rfl, s⟩
    · cases r : soft o with
      | some x =>
        rw [r] at h
        cases h
        exact .inr (.inl rfl)
      | none =>
        rw [r] at h
        have h : (if H b = none then none else if loose o = true then some o else some (HO.own b)) = some u := h
        split at h
        · cases h
        · rename_i n
          split at h
          · rename_i l
            cases h
            exact .inr (.inr ⟨n, .inl ⟨rfl, l⟩⟩)
          · cases h
            exact .inr (.inr ⟨n, .inr rfl⟩)
theorem ok_soft {P : Program} {w : World} {H H' : Hp} {h : Heap} {b : Addr} {o u : HO} (s : soft o = some u) (x : ObjOk P w H h b o) : ObjOk P w H' h b u := by
  induction o with
  | frz ob v ih => exact ih s x.2
  | lst xs => cases s; exact x
  | tup xs => cases s; exact x
  | _ => cases s
theorem cut_dT {P : Program} {w : World} {h' : Heap} {kvs : List (List Key × V)} (x : ObjOk P w H' h' b (.dT kvs)) : ObjOk P w (cutH H H') h' b (.dT kvs) := by
  obtain ⟨x1, x2, xs, x3, x4⟩ := x
  exact ⟨x1, x2, xs, Paired.mapP x3 fun p q ⟨y1, y2, y3⟩ => ⟨y1, cut_seq y2 rfl, y3⟩, x4⟩
theorem cut_okL {P : Program} {w : World} {h' : Heap} {o : HO} (l : loose o = true) (x : ObjOk P w H' h' b o) : ObjOk P w (cutH H H') h' b o := by
  cases o with
  | lst xs => exact x
  | tup xs => exact x
  | dK kvs => exact x
  | dT kvs => exact cut_dT x
  | set S n => exact x
  | ins C dx fs => cases l
  | own y => exact x
  | xd fs => exact x
  | rng lo hi => exact x
  | frz ob u => cases l
  | tbl ps => exact x
  | met f y => exact x
  | ext φ => exact x
theorem cut_ok {P : Program} {w : World} {h h' : Heap} {o : HO} (y : ObjOk P w H h b o) (x : ObjOk P w H' h' b o) : ObjOk P w (cutH H H') h' b o := by
  induction o with
  | ins C dx fs =>
    obtain ⟨y1, _⟩ := y
    obtain ⟨x1, x2⟩ := x
    exact ⟨cut_same y1 x1, x2⟩
  | frz ob u ih =>
    obtain ⟨_, y2⟩ := y
    obtain ⟨x1, x2⟩ := x
    exact ⟨x1, ih y2 x2⟩
  | lst xs => exact x
  | tup xs => exact x
  | dK kvs => exact x
  | dT kvs => exact cut_dT x
  | set S n => exact x
  | own y => exact x
  | xd fs => exact x
  | rng lo hi => exact x
  | tbl ps => exact x
  | met f y => exact x
  | ext φ => exact x
theorem inv_cut {X : Cx} {pins : List (Addr × Obj)} {σ σ' : L2.St} {s s' : Shared} (I : Inv X pins σ H s) (J : Inv X pins σ' H' s') : Inv X pins σ' (cutH H H') s' where
  ok := J.ok
  os := J.os
  bare := J.bare
  base := ⟨J.base.keep, J.base.slot, fun b o e n x => cut_none (J.base.free b o e n x), J.base.there, fun b xs e => cut_seq (J.base.tups b xs e) rfl, fun b o u e => cut_same (I.base.frzs b o u e) (J.base.frzs b o u e), fun b ps e => by
    obtain ⟨m1, e1⟩ := I.base.tbls b ps e
    obtain ⟨m2, e2⟩ := J.base.tbls b ps e
    exact ⟨m2, cut_loose (by rw [e1]; exact fun z => nomatch z) e2 rfl⟩⟩
  loc := J.loc
  cell := J.cell
  free := cut_none J.free
  freeC := fun x c h => cut_none (J.freeC x c h)
  pin := fun p hp => let ⟨q1, q2, q3⟩ := J.pin p hp; ⟨q1, cut_none q2, q3⟩
  hok := fun b u hb => by
    obtain ⟨o, h1, ⟨e, h2⟩ | s | ⟨n, ⟨e, l⟩ | e⟩⟩ := cut_of hb
    · rw [e]
      exact cut_ok (I.hok b o h2) (J.hok b o h1)
    · exact ok_soft s (J.hok b o h1)
    · rw [e]
      exact cut_okL l (J.hok b o h1)
    · rw [e]
      exact GU.objThere (J.hok b o h1)
  len := J.len
end
section
variable {X : Cx}
theorem pe_cut {e : Expr} {t : TE} (h : PE X e t) : PE X e (fun σ H Q => t σ H fun v H' => Q v (cutH H H')) :=
  ⟨fun pins s σ H Q I q => thn (h.run pins s σ H _ I q) fun u s' ⟨v, H', J, r, z⟩ => ⟨v, _, inv_cut I J, r, z⟩⟩
theorem pts_cut {ifs : List Expr} {t : TT} (h : PTs X ifs t) : PTs X ifs (fun σ H Q => t σ H fun v H' => Q v (cutH H H')) :=
  ⟨fun pins s σ H Q I q => thn (h.run pins s σ H _ I q) fun u s' ⟨H', J, z⟩ => ⟨_, inv_cut I J, z⟩⟩
end
/-- what stays a value -/
theorem rd_cut {L : List Addr} {H H' : Hp} {b : Addr} {o : HO} (h : Rd (off L H') b o) (s : seqO o = true) : Rd (off L (cutH H H')) b o := by
  rcases h with h | ⟨ob, h⟩
  · obtain ⟨h1, h2⟩ := of_off h
    refine .inl ?_
    rw [off_out h1]
    exact cut_seq h2 s
  · obtain ⟨h1, h2⟩ := of_off h
    unfold Rd
    rw [off_out h1]
    unfold cutH
    rw [h2, Option.bind_some]
    split
    · exact .inr ⟨ob, rfl⟩
    · rw [show soft (HO.frz ob o) = some o from soft_seq s]
      exact .inl rfl
theorem sqL_cut {K : PySem.W.Frag} {L : List Addr} {H H' : Hp} {a : Addr} {xs : List V} (h : SqL K (off L H') a xs) : SqL K (off L (cutH H H')) a xs := h.imp (fun z => rd_cut z rfl) fun z => z
theorem sqT_cut {K : PySem.W.Frag} {L : List Addr} {H H' : Hp} {a : Addr} {xs : List V} (h : SqT K (off L H') a xs) : SqT K (off L (cutH H H')) a xs := h.imp (fun z => rd_cut z rfl) fun z => z
mutual
theorem dp_cut {K : PySem.W.Frag} {L : List Addr} {H H' : Hp} : ∀ {v : V} {d : PyData}, Dp K (off L H') v d → Dp K (off L (cutH H H')) v d
  | _, _, .non => .non
  | _, _, .bl b => .bl b
  | _, _, .int i => .int i
  | _, _, .str x => .str x
  | _, _, .lst h q => .lst (sqL_cut h) (dpa_cutH q)
  | _, _, .tup h q => .tup (sqT_cut h) (dpa_cutH q)
theorem dpa_cutH {K : PySem.W.Frag} {L : List Addr} {H H' : Hp} : ∀ {vs : List V} {ds : List PyData}, DpAll K (off L H') vs ds → DpAll K (off L (cutH H H')) vs ds
  | _, _, .nil => .nil
  | _, _, .cons h q => .cons (dp_cut h) (dpa_cutH q)
end
end DL
end
section
set_option Elab.async false
set_option linter.all false
set_option maxRecDepth 100000
set_option maxHeartbeats 4000000
/-! The data logic: a comprehension over a generator def of one's own (en_lcG). -/
namespace DL
open PySem PySem.Spec PyProof.Rows L2 Evl
def noSlf (ρ : DEnv) : Bool := ρ.all fun e => match e with
  | some (.slf _ _) => false
  | _ => true
theorem noSlf_at {ρ : DEnv} (h : noSlf ρ = true) {i : Nat} {C : Addr} {fs : List (Option PyData)} : ρ[i]? ≠ some (some (.slf C fs)) := fun e => by
  have := List.all_eq_true.mp h _ (List.mem_of_getElem? e)
  cases this
theorem noSlf_set {ρ : DEnv} {i : Nat} {v : Option Ent} (h : noSlf ρ = true) (hv : (match v with | some (.slf _ _) => false | _ => true) = true) : noSlf (ρ.set i v) = true := by
  refine List.all_eq_true.mpr fun e he => ?_
  rcases List.mem_or_eq_of_mem_set he with z | z
  · exact List.all_eq_true.mp h e z
  · rw [z]
    exact hv
section
variable {K : PySem.W.Frag} {H0 H1 H2 H3 : Hp} {M O S : List Addr} {ρ : DEnv} {σ : L2.St}
theorem EnvOk.cutE (E : EnvOk K H0 M O S ρ σ H2) (F : EnvOk K (off (S ++ O) H2) M O S ρ σ H3) (ns : noSlf ρ = true) : EnvOk K (off (S ++ O) H2) M O S ρ σ (cutH H2 H3) := by
  have key : Ex (off (O ++ M) H2) (off (O ++ M) (cutH H2 H3)) := fun a o h => by
    obtain ⟨h1, h2⟩ := of_off h
    rw [off_out h1]
    refine cut_same h2 (F.ex a o ?_)
    rw [off_out fun z => ?_]
    · exact h2
    · rcases List.mem_append.mp z with z | z
      · exact h1 (List.mem_append_right _ (F.sub a z))
      · exact h1 (List.mem_append_left _ z)
  refine ⟨fun a o h => cut_same (of_off h).2 (F.ex a o h), F.h0, fun a ha => cut_there (E.dom a ha) (F.dom a ha), F.sub, F.apart, F.len, fun i e h => ?_, F.dist⟩
  obtain ⟨v, h1, h2⟩ := E.ent i e h
  obtain ⟨v', h1', h3⟩ := F.ent i e h
  rw [h1] at h1'
  cases h1'
  refine ⟨v, h1, ?_⟩
  cases e with
  | im d => exact dt_mono key h2
  | ow ds => obtain ⟨a, vs, q1, q2, q3, q4⟩ := h3; exact ⟨a, vs, q1, q2, cut_seq q3 rfl, dpa_cutH q4⟩
  | src n s => obtain ⟨a, q1, q2, q3⟩ := h3; exact ⟨a, q1, q2, cut_seq q3 rfl⟩
  | slf C fs => exact absurd h (noSlf_at ns)
theorem seqO_is {u : HO} (h : seqO u = true) : (∃ xs, u = .lst xs) ∨ ∃ xs, u = .tup xs := by
  cases u with
  | lst xs => exact .inl ⟨xs, rfl⟩
  | tup xs => exact .inr ⟨xs, rfl⟩
  | _ => cases h
theorem is_seqO {u : HO} (h : (∃ xs, u = .lst xs) ∨ ∃ xs, u = .tup xs) : seqO u = true := by
  rcases h with ⟨xs, e⟩ | ⟨xs, e⟩ <;> subst e <;> rfl
theorem told_cut (T : GU.Told H1 H2) (hk : ∀ b, H1 b = none → b ∉ S ++ O) (F : Ex (off (S ++ O) H2) H3) : GU.Told H1 (cutH H2 H3) := fun b u h0 hu => by
  obtain ⟨o, h1, ⟨e, h2⟩ | s | ⟨n, _⟩⟩ := cut_of hu
  · rw [e]
    exact T b o h0 h2
  · exact seqO_is (soft_is s)
  · cases q : H2 b with
    | none => exact absurd q n
    | some o2 =>
      have h3 := F b o2 (by rw [off_out (hk b h0)]; exact q)
      rw [cut_same q h3] at hu
      cases hu
      exact T b _ h0 q
end
/-- a generator def of ints that hands out tuples of ints -/
abbrev TrG := List Int → List (List Int) → Prop
def spG (T : TrG) : GU.SpI := fun vs items => ∃ ns rows, vs = ns.map V.int ∧ items = rows.map (fun r : List Int => r.map V.int) ∧ T ns rows
structure OwnG (X : Cx) (k : Nat) (x : Str) (T : TrG) : Prop where
  ex : ∃ f fd ps, GU.GFnP X.prog X.w X.K X.mg X.base k f fd ps (spG T) ∧ X.mg x = some (.ref f) ∧ PySem.W.keepIn X.K (.ref f) = true ∧ Binds X.K fd ps []
theorem dta_ints {K : PySem.W.Frag} {H : Hp} : ∀ {vs : List V} {ns : List Int}, DtAll K H vs (ns.map dI) → vs = ns.map V.int
  | _, [], .nil => rfl
  | _, n :: ns, .cons h q => by
    cases h
    rw [dta_ints q]
    rfl
section
variable {X : Cx} {ρ : DEnv} {elt e : Expr} {es ifs : List Expr} {scope : Scope} {pos p px pos' : Pos} {N : List PyData → DEnv → Prop} {k : Nat} {x y : Str}
theorem en_lcG {T : TrG} (i : Nat) (G : OwnG X k x T) (hr : Room (k + 1) X.A) (hc : X.calm = true) (hN : X.N.Nodup) (hg : Gl X x) (ok : BlkOk X.N X.env.scope scope [(y, i)]) (nocell : ∀ z ∈ scope.names, z.2 ≠ .cell)
    (hpg : ∀ s H C cl fp, PG (blkX X scope s H C cl fp) (.Name y px) (gName i))
    (h : EvA X (e :: es) ρ fun ds ρ1 => ∃ ns rows f g, ds = ns.map dI ∧ T ns rows ∧ rows.length ≤ sizeLine ∧ noSlf ρ1 = true ∧
      (∀ row ∈ rows, ∀ ρ2, ρ2 = (wipeE ρ1 [i]).set i (some (.im (dT (row.map PyData.int)))) → ∀ s H C cl fp, EvTs (blkX X scope s H C cl fp) ifs ρ2 fun b ρ3 => b = f row ∧ ρ3 = ρ2 ∧ (f row = true → ∀ s H C cl fp, EvP (blkX X scope s H C cl fp) elt ρ2 fun d ρ4 => d = .d (g row) ∧ ρ4 = ρ2)) ∧
      N ((rows.filter f).map g) (wipeE ρ1 [i]))
    (hdb : (x == ("__debug__" : Str)) = false := by decide) (he : starEach (e :: es) X.env = (false, eval e X.env) :: starEach es X.env := by rfl) (hpl : (backTo pos' (starEach es X.env)).any (·.1) = false := by rfl)
    (hgo : ∀ it v, letOwnedTupleGo (.Name y px) it v = pure () := by intro _ _; rfl) (hs : ∀ v, foldedSetIterable (.Call (.Name x p) (e :: es) [] pos') X.env v = pure v := by intro _; rfl) :
    EvN X (.ListComp elt [⟨.Name y px, .Call (.Name x p) (e :: es) [] pos', ifs, 0⟩] scope pos) ρ N := by
  obtain ⟨fa, fd, ps, F, hm, hkp, hb⟩ := G.ex
  intro H0 M O S σ H E R k
  refine ⟨_, GU.pe_lcG hc hN hr (GU.pgn_call F hr hg hm hkp hb pa_w hdb he hpl) ok nocell hpg (fun s H C cl fp => pts_cut (pts_b s H C cl fp)) (fun s H C cl fp => pe_cut (pe_b s H C cl fp)) hgo hs, ?_⟩
  refine h H0 M O S σ H E _ fun vs H1 ds ρ1 ⟨ns, rows, f, g, ed, ht, hsz, hns, turn, fin⟩ E1 r => ?_
  subst ed
  refine ⟨_, ⟨ns, rows, dta_ints r, rfl, ht⟩, fun D hD => ?_⟩
  obtain ⟨n1, n2, n3⟩ := E1.outS hD
  have nM : D ∉ M := fun z => n1 (List.mem_append_right _ z)
  have nS : D ∉ S := fun z => n2 (List.mem_append_left _ z)
  have nO : D ∉ O := fun z => n1 (List.mem_append_left _ z)
  have hb0 : off (S ++ O) H1 D = none := by rw [off_out n2]; exact hD
  have mcons : ∀ (a : Addr), a ∈ O ++ D :: M ↔ a ∈ D :: O ++ M := fun a => by simp [or_left_comm]
  have hkS : ∀ b, H1 b = none → b ∉ S ++ O := fun b hb => (E1.outS hb).2.1
  refine ⟨fun j H' => GU.Told H1 H' ∧ ∃ acc ws, acc = ((rows.take j).filter f).map g ∧ acc.length ≤ j ∧ EnvOk X.K (off (S ++ O) H1) (D :: M) O S (wipeE ρ1 [i]) (wipe σ [i]) H' ∧ H' D = some (.lst ws) ∧ DpAll X.K (off (O ++ D :: M) H') ws acc, ?_, ?_, ?_, ?_⟩
  · refine ⟨fun b u h0 hu => ?_, [], [], rfl, Nat.le_refl _, (E1.re.wiped (vs := [i])).maskM hD _, upd_same, .nil⟩
    by_cases e : b = D
    · rw [e, upd_same] at hu
      cases hu
      exact .inl ⟨_, rfl⟩
    · rw [upd_ne e, h0] at hu
      cases hu
  · exact fun j H' ⟨t, acc, ws, _, _, _, hl, _⟩ => ⟨t, ws, hl⟩
  · rintro H' ⟨_, acc, ws, ea, _, F, hDl, rr⟩
    rw [List.length_map, List.take_length] at ea
    subst ea
    have F5 : EnvOk X.K (off (S ++ O) H1) (D :: M) O S (wipeE ρ1 [i]) σ H' := by
      have := F.unwiped
      rw [wipeE_wipe fun z hz => hz] at this
      exact this
    exact k D ws H' _ _ fin n1 (E1.back (F5.unM E1.sub)) (E1.back' (F5.toOwn E1.sub hb0 nM)) hDl (dpAll_mono (off_less fun a ha => (mcons a).mpr ha) rr)
  · rintro j us t H' hit ⟨tl, acc, ws, ea, hacc, F, hDl, rr⟩ htn
    rw [List.getElem?_map] at hit
    obtain ⟨row, hrow, erow⟩ := Option.map_eq_some_iff.mp hit
    subst erow
    have ht0 : ∀ o, Ex H' (upd H' t o) := fun o => Ex.new htn
    have F2 := F.grow (ht0 (.tup (row.map V.int)))
    have nt := (F.outS htn).1
    have rt : Dp X.K (off (O ++ D :: M) (upd H' t (.tup (row.map V.int)))) (.ref t) (.tuple (row.map PyData.int)) := .tup (SqT.of (by rw [off_out nt, upd_same])) (dpa_of_ints row)
    have F3 := F2.set_im (i := i) (d := dT (row.map PyData.int)) rt
    have tl2 : GU.Told H1 (upd H' t (.tup (row.map V.int))) := fun b u h0 hu => by
      by_cases eb : b = t
      · rw [eb, upd_same] at hu
        cases hu
        exact .inr ⟨_, rfl⟩
      · rw [upd_ne eb] at hu
        exact tl b u h0 hu
    have rr2 : DpAll X.K (off (O ++ D :: M) (upd H' t (.tup (row.map V.int)))) ws acc := dpAll_mono (off_mono (ht0 _)) rr
    have hD2 : upd H' t (.tup (row.map V.int)) D = some (.lst ws) := ht0 _ D _ hDl
    generalize upd H' t (.tup (row.map V.int)) = H2 at F2 F3 rt tl2 rr2 hD2 ⊢
    show wipe ((wipe σ [i]).set i (some (.ref t))) [i] = wipe σ [i] ∧ _
    have hw : wipe ((wipe σ [i]).set i (some (.ref t))) [i] = wipe σ [i] := by
      rw [wipe_set (by simp), wipe_wipe fun z hz => hz]
    refine ⟨hw, fun s Hs C cl fp => ?_⟩
    generalize hρ : (wipeE ρ1 [i]).set i (some (.im (dT (row.map PyData.int)))) = ρ2 at F3
    have hns2 : noSlf ρ2 = true := by
      rw [← hρ]
      exact noSlf_set (noSlf_set hns rfl) rfl
    have hwρ : wipeE ρ2 [i] = wipeE ρ1 [i] := by
      rw [← hρ, wipeE_set (by simp), wipeE_wipe fun z hz => hz]
    have hj : j < rows.length := (List.getElem?_eq_some_iff.mp hrow).1
    refine turn row (List.mem_of_getElem? hrow) ρ2 hρ.symm s Hs C cl fp _ (D :: M) O S _ H2 F3.re _ fun H3 b ρ3 ⟨eb, eρ, he⟩ F4 => ?_
    subst eρ
    have F4c : EnvOk X.K (off (S ++ O) H2) (D :: M) O S ρ3 _ (cutH H2 H3) := EnvOk.cutE F3 F4 hns2
    have tl3 : GU.Told H1 (cutH H2 H3) := told_cut tl2 hkS F4.ex
    have hD3 : cutH H2 H3 D = some (.lst ws) := F4c.ex D _ (by rw [off_out n2]; exact hD2)
    have rr3 : DpAll X.K (off (O ++ D :: M) (cutH H2 H3)) ws acc := dpAll_mono F4c.stay rr2
    generalize cutH H2 H3 = H3' at F4c tl3 hD3 rr3 ⊢
    have F4b : EnvOk X.K (off (S ++ O) H1) (D :: M) O S ρ3 _ H3' := F3.back F4c
    have htake : rows.take (j + 1) = rows.take j ++ [row] := by
      rw [List.take_add_one, hrow]
      rfl
    cases b with
    | false =>
      refine iteF ⟨tl3, acc, ws, ?_, Nat.le_succ_of_le hacc, ?_, hD3, rr3⟩
      · rw [htake, List.filter_append, List.filter_cons_of_neg (by rw [← eb]; exact Bool.false_ne_true), List.filter_nil, List.append_nil]
        exact ea
      · have F5 := F4b.wiped (vs := [i])
        rw [hw, hwρ] at F5
        exact F5
    | true =>
      refine iteT fun s' Hs' C' cl' fp' => ?_
      refine he eb.symm s' Hs' C' cl' fp' _ (D :: M) O S _ H3' F4b.re _ fun w H4 d ρ4 ⟨ed, eρ⟩ F5 r5 => ?_
      subst ed eρ
      have F5c : EnvOk X.K (off (S ++ O) H3') (D :: M) O S ρ4 _ (cutH H3' H4) := EnvOk.cutE F4b F5 hns2
      have tl4 : GU.Told H1 (cutH H3' H4) := told_cut tl3 hkS F5.ex
      have hD4 : cutH H3' H4 D = some (.lst ws) := F5c.ex D _ (by rw [off_out n2]; exact hD3)
      have rr4 : DpAll X.K (off (O ++ D :: M) (cutH H3' H4)) ws acc := dpAll_mono F5c.stay rr3
      have r6 : Dp X.K (off (O ++ D :: M) (cutH H3' H4)) w (g row) := dp_cut r5
      generalize cutH H3' H4 = H4' at F5c tl4 hD4 rr4 r6 ⊢
      have F6 : EnvOk X.K (off (S ++ O) H1) (D :: M) O S ρ4 _ H4' := F4b.back F5c
      have F7 := F6.mutM List.mem_cons_self nS hb0 (.lst (ws ++ [w]))
      have F8 := F7.wiped (vs := [i])
      rw [hw, hwρ] at F8
      have key : Ex (off (O ++ D :: M) H4') (off (O ++ D :: M) (upd H4' D (.lst (ws ++ [w])))) := fun a u h => by
        obtain ⟨h1, h2⟩ := of_off h
        have : a ≠ D := fun z => h1 (List.mem_append_right _ (z ▸ List.mem_cons_self))
        rw [off_out h1, upd_ne this]
        exact h2
      have lv : ws.length = acc.length := dpa_length rr
      refine ⟨ws, hD4, by omega, fun b u h0 hu => ?_, acc ++ [g row], ws ++ [w], ?_, by rw [List.length_append]; exact Nat.succ_le_succ hacc, F8, upd_same, dpAll_mono key (dpa_append rr4 (.cons r6 .nil))⟩
      · by_cases eb2 : b = D
        · rw [eb2, upd_same] at hu
          cases hu
          exact .inl ⟨_, rfl⟩
        · rw [upd_ne eb2] at hu
          exact tl4 b u h0 hu
      · rw [htake, List.filter_append, List.filter_cons_of_pos (by rw [← eb]), List.filter_nil, List.map_append, ea]
        rfl
end
end DL
end
section
set_option Elab.async false
set_option linter.all false
set_option maxRecDepth 100000
set_option maxHeartbeats 4000000
namespace DL
open PySem PySem.Spec PyProof.Rows L2 Evl
/-- .. a new tuple -/
def EvU (X : Cx) (e : Expr) (ρ : DEnv) (Q : List PyData → DEnv → Prop) : Prop := ∀ (H0 : Hp) (M O S : List Addr) (σ : L2.St) (H : Hp), EnvOk X.K H0 M O S ρ σ H → ∀ R : VK,
  (∀ t vs H' ds ρ', Q ds ρ' → EnvOk X.K H0 M O S ρ' σ H' → H' t = some (.tup vs) → DpAll X.K (off (O ++ M) H') vs ds → R (.ref t) H') → WE X e σ H R
theorem eu_tuple {X : Cx} {ρ : DEnv} {e : Expr} {p pos : Pos} {Q : List PyData → DEnv → Prop} (hg : Gl X "tuple") (hm : X.mg "tuple" = none) (hv : bootBuiltins "tuple" = some (.type "tuple")) (h : EvQ X e ρ fun b ds ρ' => b = false ∧ Q ds ρ') (he : starEach [e] X.env = (false, eval e X.env) :: starEach [] X.env := by rfl) : EvU X (.Call (.Name "tuple" p) [e] [] pos) ρ Q := by
  intro H0 M O S σ H E R k
  refine ⟨_, pe_callTy call_tuple_of hg hm hv (pa_cons pe_w pa_nil he) (by decide) (by decide) he, h H0 M O S σ H E _ fun a vs H1 b ds ρ1 ⟨eb, q⟩ E1 sq rr => ?_⟩
  subst eb
  refine ⟨a, vs, rfl, .inl ⟨by simpa using sq, fun p hp => ?_⟩⟩
  obtain ⟨E2, _, np⟩ := E1.fresh hp (.tup vs)
  exact k p vs _ ds ρ1 q E2 upd_same (dpAll_mono (off_mono (Ex.new hp)) rr)
end DL
namespace K87
open PySem PySem.Spec PyProof.Rows L2 DL
/-! ### all_rows -/
/-- the digits of a number, the highest first -/
def digR (p : Int) : Nat → Int → List Int
  | 0, _ => []
  | n + 1, m => m % p :: digR p n (m / p)
def quoR (p : Int) : Nat → Int → Int
  | 0, m => m
  | n + 1, m => quoR p n (m / p)
theorem quo_succ (p : Int) : ∀ (j : Nat) (m : Int), quoR p (j + 1) m = quoR p j m / p
  | 0, _ => rfl
  | j + 1, m => quo_succ p j (m / p)
theorem dig_succ (p : Int) : ∀ (j : Nat) (m : Int), digR p (j + 1) m = digR p j m ++ [quoR p j m % p]
  | 0, _ => rfl
  | j + 1, m => by
    show m % p :: digR p (j + 1) (m / p) = (m % p :: digR p j (m / p)) ++ [quoR p j (m / p) % p]
    rw [dig_succ p j (m / p)]
    rfl
theorem dig_len (p : Int) : ∀ (j : Nat) (m : Int), (digR p j m).length = j
  | 0, _ => rfl
  | j + 1, m => congrArg (· + 1) (dig_len p j (m / p))
def rowsG (p : Int) (n : Nat) : List (List Int) := (rangeI (p ^ n)).map fun m => (digR p n m).reverse
abbrev sRows : Stmt := top 20
abbrev nRows : List Str := ["size", "prime", "number", "row", "place"]
theorem scRows : GScope nRows ["size", "prime"] (defScope sRows) := ⟨rfl, rfl, rfl, by decide +kernel, rfl, by decide +kernel, by decide +kernel⟩
def tRows : TrG := fun ns rows => ∃ (n : Nat) (p : Int), ns = [(n : Int), p] ∧ 0 < p ∧ p ≤ 7 ∧ n ≤ 3 ∧ rows = rowsG p n
def OwnGd (P : Program) (w : World) (K : PySem.W.Frag) (mg : Str → Option Value) (base : Heap) (k : Nat) (x : Str) (T : TrG) : Prop :=
  ∃ f fd ps, GU.GFnP P w K mg base k f fd ps (spG T) ∧ mg x = some (.ref f) ∧ PySem.W.keepIn K (.ref f) = true ∧ Binds K fd ps []
def forB : Stmt → List Stmt
  | .For _ _ b _ _ => b
  | _ => []
def fbR : List Stmt := forB ((defBody sRows).getD 0 (.Pass ⟨0, 0, 0, 0⟩))
def preR : List Stmt := fbR.take 2
def yR : Stmt → Expr
  | .Expr (.Yield (some e) _) _ => e
  | _ => .Constant .none 0 ⟨0, 0, 0, 0⟩
def aRg : Stmt → Expr
  | .For _ (.Call _ (a :: _) _ _) _ _ _ => a
  | _ => .Constant .none 0 ⟨0, 0, 0, 0⟩
def eRow : Expr := yR (fbR.getD 2 (.Pass ⟨0, 0, 0, 0⟩))
def aRow : Expr := aRg ((defBody sRows).getD 0 (.Pass ⟨0, 0, 0, 0⟩))
abbrev gX (P : Program) (w : World) (K : PySem.W.Frag) (mg : Str → Option Value) (base : Heap) (f : Addr) (cdv : Value) (A : Around) (outer : List Env) (s : Shared) (H : Hp) : Cx :=
  gcxOf P w K mg base nRows "all_rows" (defScope sRows) f cdv A outer s H (fun _ _ _ => False) []
def goodR (n : Nat) (p : Int) (σ : L2.St) : Prop := σ.length = 5 ∧ σ[0]? = some (some (.int n)) ∧ σ[1]? = some (some (.int p))
section
variable {P : Program} {w : World} {K : PySem.W.Frag} {mg : Str → Option Value} {base : Heap} {f : Addr} {fd : FuncData}
theorem bodyR : ∃ px p1 p2 p3 yp pos : Pos, defBody sRows = [.For (.Name "number" px) (.Call (.Name "range" p1) [aRow] [] p2) (preR ++ [.Expr (.Yield (some eRow) yp) pos]) [] p3] := ⟨_, _, _, _, _, _, rfl⟩
theorem pow_343 {p : Int} {n : Nat} (p0 : 0 < p) (p7 : p ≤ 7) (n3 : n ≤ 3) : (p ^ n).toNat ≤ 343 := by
  obtain ⟨q, rfl⟩ := Int.eq_ofNat_of_zero_le (Int.le_of_lt p0)
  have : ((q : Int) ^ n) = ((q ^ n : Nat) : Int) := by simp
  rw [this, Int.toNat_natCast]
  exact pow_le (by omega) n3
theorem good_env {H : Hp} {n : Nat} {p : Int} {σ : L2.St} (g : goodR n p σ) : EnvOk K H [] [] [] [some (.im (dI n)), some (.im (dI p)), none, none, none] σ H := by
  obtain ⟨g1, g2, g3⟩ := g
  refine ⟨Evl.Ex.refl H, fun a ha => absurd ha (by simp), fun a ha => absurd ha (by simp), fun a ha => absurd ha (by simp), fun a ha => absurd ha (by simp), g1, fun i e h => ?_, fun i j ds es h1 => ?_⟩
  · match i, h with
    | 0, h => cases h; exact ⟨_, g2, .int _⟩
    | 1, h => cases h; exact ⟨_, g3, .int _⟩
    | 2, h => cases h
    | 3, h => cases h
    | 4, h => cases h
    | i + 5, h => cases h
  · match i, h1 with
    | 0, h => cases h
    | 1, h => cases h
    | 2, h => cases h
    | 3, h => cases h
    | 4, h => cases h
    | i + 5, h => cases h
theorem own_rows (B : Bl mg) (h : At K mg "all_rows" sRows f fd) (oP : Own P w K mg base 1 "power" (spP K tPow)) : OwnGd P w K mg base 2 "all_rows" tRows := by
  refine ⟨f, fd, ["size", "prime"], ?_, h.mg, h.fn.kp, h.fn.binds fun _ _ _ _ _ _ us hl => match us, hl with | [_, _], _ => rfl⟩
  obtain ⟨oc, od, kV, doc, pm, an, cdv, ct, osl, efd, lk, hcd⟩ := h.fn.ex
  subst efd
  refine GU.gfnP_of lk hcd scRows (by decide +kernel) (fun vs items ⟨ns, rows, e1, _, n, p, e2, _⟩ => by rw [e1, e2]; rfl) fun A outer s H vs items hr ⟨ns, rows, ev, ei, n, p, en, p0, p7, n3, er⟩ gx => ?_
  subst ev ei en er
  intro pins H' s1 s2 oL s₀ I eL hw e1 e2 e3
  obtain ⟨px, p1, p2, p3, yp, pos, hbd⟩ := bodyR
  have hlen : (rowsG p n).length = (p ^ n).toNat := by
    unfold rowsG
    rw [List.length_map, len_range]
  have h343 := pow_343 p0 p7 n3
  rw [hbd]
  refine GU.gen_start (X0 := gX P w K mg base f cdv A outer s H) (items := (rowsG p n).map fun r : List Int => r.map V.int) (A := A) (x := "number") (xi := 2) (px := px) (p1 := p1) (p2 := p2) (p3 := p3) (a := aRow) (e := eRow) (pre := preR) (yp := yp) (pos := pos)
    (tp := fun D σ H1 => ∀ s3, WSs (GU.atX (gX P w K mg base f cdv A outer s H) s3) preR D σ H1) (te := fun σ H1 Q => ∀ s3, WE (GU.atX (gX P w K mg base f cdv A outer s H) s3) eRow σ H1 Q)
    (ta := fun σ H1 Q => ∀ s3, WA (GU.atX (gX P w K mg base f cdv A outer s H) s3) [aRow] σ H1 Q) (good := goodR n p) gx scRows.nd (fun s3 => pg_name (i := 2) scRows.nd rfl (Or.inl rfl))
    (fun s3 => ⟨fun pins s' σ H Q I h => pss_w.run pins s' σ H Q I (h s3)⟩) (fun s3 => ⟨fun pins s' σ H Q I h => pe_w.run pins s' σ H Q I (h s3)⟩) (fun s3 => ⟨fun pos pins s' σ H Q I h => pa_w.run pos pins s' σ H Q I (h s3)⟩)
    (fun s3 => rfl) B.range rfl ?_ (σ0 := L2.start nRows ([(n : Int), p].map V.int)) ⟨rfl, rfl, rfl⟩ (fun H1 Q kq s3 => ?_) (by rw [List.length_map, hlen]; omega) rfl I eL hw s₀ e1 e2 e3
  · intro i vs σ H1 hit g s3
    rw [List.getElem?_map] at hit
    obtain ⟨row, hrow, erow⟩ := Option.map_eq_some_iff.mp hit
    unfold rowsG at hrow
    rw [List.getElem?_map] at hrow
    obtain ⟨m, hm, em⟩ := Option.map_eq_some_iff.mp hrow
    obtain ⟨e0, _⟩ := range_get hm
    subst erow em e0
    have E := (good_env (K := K) (H := H1) g).set_im (i := 2) (d := dI (i : Int)) (v := .int (i : Int)) (.int _)
    refine (show RunP (GU.atX (gX P w K mg base f cdv A outer s H) s3) preR [some (.im (dI n)), some (.im (dI p)), some (.im (dI (i : Int))), none, none] { nx := fun ρ' => ∃ a b, ρ' = [some (.im (dI n)), some (.im (dI p)), some (.im (dI a)), some (.ow (pI (digR p n (i : Int)))), b], rt := fun _ _ => False } from ?_) H1 [] [] [] _ H1 E _ (fun O' σ' H' ρ' ⟨a, b, er⟩ E' s4 => ?_) (fun _ _ _ _ _ _ z => z.elim) (fun _ _ _ _ z => z.elim) (fun _ _ _ _ z => z.elim)
    · refine run_cons (rs_asgO (i := 3) scRows.nd rfl (Or.inl rfl) (en_lst (ea_nil ⟨[], rfl, Nat.zero_le _, ?_⟩)))
      refine run_one (rs_for (.one 4) PassesOwn.never rfl (pg_name (i := 4) scRows.nd rfl (Or.inl rfl)) (ei_range1 rfl B.range (ev_v 0 rfl ⟨_, rfl, by omega, by omega, fun j ρ' => ∃ b, ρ' = [some (.im (dI n)), some (.im (dI p)), some (.im (dI (quoR p j (i : Int)))), some (.ow (pI (digR p j (i : Int)))), b], ⟨_, rfl⟩, fun j y ρ' hy ⟨b, er⟩ => ⟨_, rfl, ?_⟩, fun ρ' ⟨b, er⟩ => ?_⟩)))
      · subst er
        have hj := (List.getElem?_eq_some_iff.mp hy).1
        rw [rangeD_len, Int.toNat_natCast] at hj
        refine run_cons (rs_append 3 rfl (Or.inl rfl) (ev_mod (ev_v 2 rfl (ev_v 1 rfl ⟨_, _, rfl, rfl, p0, _, _, rfl, rfl, by rw [len_pI, dig_len]; exact Nat.lt_of_lt_of_le (by omega : j < 4) (sz (by decide)), ?_⟩))) (ho := ⟨_, rfl⟩))
        refine run_one (rs_asg (i := 2) scRows.nd rfl (Or.inl rfl) (ev_fdiv (ev_v 2 rfl (ev_v 1 rfl ⟨_, _, rfl, rfl, ⟨p0, by omega⟩, ?_⟩))))
        have ea : pI (digR p (j + 1) (i : Int)) = pI (digR p j (i : Int)) ++ [PyData.int (quoR p j (i : Int) % p)] := by
          rw [dig_succ]
          unfold pI
          rw [List.map_append]
          rfl
        refine ⟨some (.im (.d y)), ?_⟩
        show _ = ([some (.im (dI n)), some (.im (dI p)), some (.im (dI (quoR p (j + 1) (i : Int)))), some (.ow (pI (digR p (j + 1) (i : Int)))), some (.im (.d y))] : DEnv)
        rw [ea, quo_succ]
        rfl
      · subst er
        rw [rangeD_len, Int.toNat_natCast]
        exact ⟨_, _, rfl⟩
    · subst er
      refine (show EvU (GU.atX (gX P w K mg base f cdv A outer s H) s4) eRow [some (.im (dI n)), some (.im (dI p)), some (.im (dI a)), some (.ow (pI (digR p n (i : Int)))), b] (fun ds _ => ds = pI (digR p n (i : Int)).reverse) from ?_) H1 [] O' [] _ H' E' _ fun t vs H'' ds ρ' e E'' ht hr => ?_
      · refine eu_tuple rfl B.tuple (by decide +kernel) (eq_list (ev_new (en_rev (eq_o 3 rfl ⟨rfl, _, rfl, rfl, ?_⟩))))
        exact (List.map_reverse).symm
      · subst e
        refine ⟨?_, t, rfl, ?_⟩
        · obtain ⟨v0, z1, z2⟩ := E'.ent 0 _ rfl
          obtain ⟨v1, z3, z4⟩ := E'.ent 1 _ rfl
          cases z2
          cases z4
          exact ⟨E'.len, z1, z3⟩
        · rw [ht, dpa_ints hr]
  · refine (show EvA (GU.atX (gX P w K mg base f cdv A outer s H) s3) [aRow] [some (.im (dI n)), some (.im (dI p)), none, none, none] (fun ds _ => ds = [dI (p ^ n)]) from ?_) H1 [] [] [] _ H1 (good_env ⟨rfl, rfl, rfl⟩) _ fun vs H' ds ρ' e E' r => ?_
    · refine ea_cons (ev_call oP hr rfl (ea_cons (ev_v 1 rfl (ea_cons (ev_v 0 rfl (ea_nil ⟨p, n, rfl, ⟨by omega, by omega⟩, by omega, ea_nil rfl⟩))))))
    · subst e
      cases r with
      | cons r1 r2 =>
        cases r2
        cases r1
        have e : (((rowsG p n).map fun r : List Int => r.map V.int).length : Int) = p ^ n := by
          rw [List.length_map, hlen, Int.toNat_of_nonneg (Int.le_of_lt (Int.pow_pos p0))]
        have kq := kq H'
        rw [e] at kq
        exact kq
end
end K87
end
section
set_option Elab.async false
set_option linter.all false
set_option maxRecDepth 100000
set_option maxHeartbeats 4000000
namespace K87
open PySem PySem.Spec PyProof.Rows L2 DL
section
variable {P : Program} {w : World} {K : PySem.W.Frag} {mg : Str → Option Value} {base : Heap} {f : Addr} {fd : FuncData}
/-! ### is_number -/
abbrev sNum : Stmt := top 33
abbrev nNum : List Str := ["value", "most"]
theorem scNum : FnScope nNum ["value", "most"] (defScope sNum) := ⟨rfl, rfl, rfl, by decide +kernel, rfl, by decide +kernel, by decide +kernel⟩
def tNum : Tr := fun ds Z => ∃ (x : PyData) (h : Int), ds = [.d x, dI h] ∧ Z (dB (betw x 0 h))
theorem own_num (B : Bl mg) (h : At K mg "is_number" sNum f fd) : Own P w K mg base 1 "is_number" (spP K tNum) := by
  refine def_pure h.fn scNum h.mg (h.fn.binds fun _ _ _ _ _ _ us hl => match us, hl with | [_, _], _ => rfl) (fun ds Z ⟨_, _, e, _⟩ => by rw [e]; rfl) fun cdv A outer s H E hr ds Z ⟨x, u, ed, q⟩ => ?_
  subst ed
  refine run_one (rs_ret (ev_and (ev_isi (T := "int") (.inl rfl) rfl B.isinstance (by decide +kernel) rfl B.int (by decide +kernel) (ev_v 0 rfl ⟨x, rfl, _, rfl, fun h1 => ?_, fun h1 => ?_⟩))))
  · refine ev_and (ev_not (ev_isi (T := "bool") (.inr (.inl rfl)) rfl B.isinstance (by decide +kernel) rfl B.bool (by decide +kernel) (ev_v 0 rfl ⟨x, rfl, _, rfl, _, rfl, fun h2 => ?_, fun h2 => ?_⟩)))
    · obtain ⟨i, ex⟩ := isD_int h1 (by simpa using h2)
      subst ex
      refine ev_one (ev_chainI rfl rfl (ev_int (ev_v 0 rfl ⟨_, _, rfl, rfl, fun hc => ev_v 1 rfl ⟨_, rfl, ?_⟩, fun hc => ?_⟩)))
      · have : betw (.int i) 0 u = decide (i ≤ u) := by
          show (decide (0 ≤ i) && decide (i ≤ u)) = _
          rw [hc, Bool.true_and]
        rw [this] at q
        exact q
      · have : betw (.int i) 0 u = false := by
          show (decide (0 ≤ i) && decide (i ≤ u)) = _
          rw [hc, Bool.false_and]
        rw [this] at q
        exact q
    · rw [(not_isD (.inr (by simpa using h2)) 0 u).1] at q
      exact q
  · rw [(not_isD (.inl h1) 0 u).1] at q
    exact q
/-! ### is_row -/
abbrev sIsRow : Stmt := top 40
abbrev nIsRow : List Str := ["value"]
theorem scIsRow : FnScope nIsRow ["value"] (defScope sIsRow) := ⟨rfl, rfl, rfl, by decide +kernel, rfl, by decide +kernel, by decide +kernel⟩
def tIsRow : Tr := fun ds Z => ∃ (x : PyData), ds = [.d x] ∧ Z (dB (isD x "list" || isD x "tuple"))
theorem own_isrow (B : Bl mg) (h : At K mg "is_row" sIsRow f fd) : Own P w K mg base 1 "is_row" (spP K tIsRow) := by
  refine def_pure h.fn scIsRow h.mg (h.fn.binds fun _ _ _ _ _ _ us hl => match us, hl with | [_], _ => rfl) (fun ds Z ⟨_, e, _⟩ => by rw [e]; rfl) fun cdv A outer s H E hr ds Z ⟨x, ed, q⟩ => ?_
  subst ed
  exact run_one (rs_ret (ev_isiLT rfl B.isinstance (by decide +kernel) rfl B.list rfl B.tuple (by decide +kernel) (by decide +kernel) (ev_v 0 rfl ⟨x, rfl, q⟩)))
end
end K87
end
section
set_option Elab.async false
set_option linter.all false
set_option maxRecDepth 100000
set_option maxHeartbeats 4000000
/-! Plain mathematics of k87: reduced rows, by a finite look. -/
namespace K87
def combos : List (Int × Nat) := [(2, 1), (2, 2), (2, 3), (3, 1), (3, 2), (5, 1), (5, 2)]
/-- the least k from 1 on with k * x % p = 1 -/
def invL (p x : Int) : Nat := ((List.range 5).find? fun (k : Nat) => ((k : Int) * x) % p == 1).getD 1
def scaleL (p f : Int) (a : List Int) : List Int := a.map fun n => n * f % p
def stepL (p : Int) (found : List (List Int)) (row : List Int) : List (List Int) :=
  let r := restL p row found
  if leadL r < r.length then
    let r' := scaleL p (invL p (r.getD (leadL r) 0)) r
    (found.map fun o => addL p o r' (-(o.getD (leadL r) 0))) ++ [r']
  else found
def rawL (p : Int) (rows : List (List Int)) : List (List Int) := rows.foldl (stepL p) []

/-! ### a stable sort that computes -/
section
variable {α : Type} (le : α → α → Bool)
def insB (x : α) : List α → List α
  | [] => [x]
  | y :: ys => if le y x then y :: insB x ys else x :: y :: ys
def isortB (l : List α) : List α := l.foldl (fun acc x => insB le x acc) []
variable {le}
theorem ins_mem {x : α} : ∀ {l : List α} {z : α}, z ∈ insB le x l ↔ z = x ∨ z ∈ l
  | [], z => by simp [insB]
  | y :: ys, z => by
    unfold insB
    split
    · rw [List.mem_cons, ins_mem (l := ys), List.mem_cons]
      constructor
      · rintro (h | h | h)
        · exact .inr (.inl h)
        · exact .inl h
        · exact .inr (.inr h)
      · rintro (h | h | h)
        · exact .inr (.inl h)
        · exact .inl h
        · exact .inr (.inr h)
    · rw [List.mem_cons]
theorem ins_sorted (T : PySem.W.TotalLe le) {x : α} : ∀ {l : List α}, l.Pairwise (fun a b => le a b = true) → (insB le x l).Pairwise (fun a b => le a b = true)
  | [], _ => List.pairwise_singleton _ _
  | y :: ys, h => by
    have h1 := List.pairwise_cons.mp h
    unfold insB
    split
    · rename_i q
      refine List.pairwise_cons.mpr ⟨fun z hz => ?_, ins_sorted T h1.2⟩
      rcases ins_mem.mp hz with e | e
      · rw [e]; exact q
      · exact h1.1 z e
    · rename_i q
      have xy : le x y = true := by
        rcases T.total x y with e | e
        · exact e
        · exact absurd e q
      refine List.pairwise_cons.mpr ⟨fun z hz => ?_, h⟩
      rcases List.mem_cons.mp hz with e | e
      · rw [e]; exact xy
      · exact T.trans _ _ _ xy (h1.1 z e)
theorem ins_filter (T : PySem.W.TotalLe le) {x c : α} : ∀ {l : List α}, l.Pairwise (fun a b => le a b = true) → (insB le x l).filter (PySem.W.sameRank le c) = l.filter (PySem.W.sameRank le c) ++ [x].filter (PySem.W.sameRank le c)
  | [], _ => by simp [insB]
  | y :: ys, h => by
    have h1 := List.pairwise_cons.mp h
    unfold insB
    split
    · rw [List.filter_cons, ins_filter T h1.2, List.filter_cons (x := y)]
      split <;> simp
    · rename_i q
      by_cases hx : PySem.W.sameRank le c x = true
      · have none : (y :: ys).filter (PySem.W.sameRank le c) = [] := List.filter_eq_nil_iff.mpr fun z hz hz2 => by
          have a1 := Bool.and_eq_true_iff.mp (show (le c z && le z c) = true from hz2)
          have a2 := Bool.and_eq_true_iff.mp (show (le c x && le x c) = true from hx)
          have zx : le z x = true := T.trans _ _ _ a1.2 a2.1
          rcases List.mem_cons.mp hz with e | e
          · rw [e] at zx; exact q zx
          · exact q (T.trans _ _ _ (h1.1 z e) zx)
        rw [List.filter_cons, if_pos hx, none]
        simp [hx]
      · rw [List.filter_cons, if_neg hx]
        simp [hx]
theorem isort_ok (T : PySem.W.TotalLe le) : ∀ (l acc : List α), acc.Pairwise (fun a b => le a b = true) → (l.foldl (fun acc x => insB le x acc) acc).Pairwise (fun a b => le a b = true) ∧ ∀ c, (l.foldl (fun acc x => insB le x acc) acc).filter (PySem.W.sameRank le c) = acc.filter (PySem.W.sameRank le c) ++ l.filter (PySem.W.sameRank le c)
  | [], acc, h => ⟨h, fun c => by simp⟩
  | x :: l, acc, h => by
    obtain ⟨h1, h2⟩ := isort_ok T l (insB le x acc) (ins_sorted T h)
    refine ⟨h1, fun c => ?_⟩
    rw [List.foldl_cons, h2 c, ins_filter T h, List.append_assoc, ← List.filter_append]
    rfl
theorem merge_isort (T : PySem.W.TotalLe le) (l : List α) : l.mergeSort le = isortB le l := by
  obtain ⟨h1, h2⟩ := isort_ok T l [] List.Pairwise.nil
  exact (PySem.W.sort_unique T h1 fun c => by have := h2 c; simpa using this).symm
end
def leadLe (a b : List Int) : Bool := decide (leadL a ≤ leadL b)
theorem leadLe_total : PySem.W.TotalLe leadLe where
  total a b := by unfold leadLe; simp only [decide_eq_true_eq]; omega
  trans a b c h1 h2 := by unfold leadLe at *; simp only [decide_eq_true_eq] at *; omega
def redL (p : Int) (rows : List (List Int)) : List (List Int) := isortB leadLe (rawL p rows)
end K87
end
section
set_option Elab.async false
set_option linter.all false
set_option maxRecDepth 100000
set_option maxHeartbeats 4000000
/-! Plain mathematics of k87: what a finite look says. -/
namespace K87
def dedup (l : List (List (List Int))) : List (List (List Int)) := l.foldl (fun acc x => if acc.contains x then acc else x :: acc) []
def rawLv (p : Int) (n : Nat) : Nat → List (List (List Int))
  | 0 => [[]]
  | k + 1 => dedup (rawLv p n k ++ (rawLv p n k).flatMap fun s => (allL p n).map fun v => stepL p s v)
/-- all the rows that may be found while one reduces -/
def rawS (p : Int) (n : Nat) : List (List (List Int)) := rawLv p n n
def wfB (p : Int) (n : Nat) (a : List Int) : Bool := a.length == n && a.all fun x => decide (0 ≤ x) && decide (x < p)
def rowsB (p : Int) (n : Nat) (s : List (List Int)) : Bool := s.all fun o => wfB p n o && decide (leadL o < n)
def invOk (p x : Int) : Bool := decide (1 ≤ invL p x) && decide (((invL p x : Nat) * x) % p = 1) && (List.range (invL p x)).all fun (j : Nat) => j == 0 || decide ((j * x) % p ≠ 1)
def chkRaw (c : Int × Nat) : Bool := (rawS c.1 c.2).contains [] && (rawS c.1 c.2).all fun s => rowsB c.1 c.2 s && decide (s.length ≤ c.2) && (allL c.1 c.2).all fun v => (rawS c.1 c.2).contains (stepL c.1 s v) &&
  (let r := restL c.1 v s; decide (r.length ≤ leadL r) || invOk c.1 (r.getD (leadL r) 0))
theorem raw_all : combos.all chkRaw = true := by decide +kernel
end K87
end
section
set_option Elab.async false
set_option linter.all false
set_option maxRecDepth 100000
set_option maxHeartbeats 4000000
/-! The data logic: classes with slots: instances made, their slots, properties, methods, calls. -/
namespace DL
open PySem PySem.Spec PyProof.Rows L2 Evl

/-! ### a class with slots -/
/-- the class at C: its slots by name, the first at place 0 -/
structure SlC (K : PySem.W.Frag) (C : Addr) (sl : List Str) : Prop where
  c : SlX.SCls K C
  at_ : ∀ (i : Nat) (f : Str), sl[i]? = some f → ∃ p, SlX.Slot1 K C f p i
section
variable {X : Cx} {ρ : DEnv} {Q : Dt → DEnv → Prop} {e o : Expr} {pos : Pos} {C : Addr} {sl : List Str} {P : Post}
theorem dtr_ins {K : PySem.W.Frag} {H : Hp} {L : List Addr} {v : V} {fs : List PyData} (r : DtR K (off L H) v (.ins C fs)) : ∃ a dx ws, v = .ref a ∧ SlX.Slt H a C dx ws ∧ ∀ (i : Nat) (x : PyData), fs[i]? = some x → ∃ w, ws[i]? = some (some w) ∧ Dp K (off L H) w x := by
  obtain ⟨a, dx, ws, h1, h2, h3, h4⟩ := r
  exact ⟨a, dx, ws, h1, .inr ⟨(of_off h2).2, (of_off h3).2⟩, h4⟩
/-- e.f, e an instance -/
theorem ev_slot (S : SlC X.K C sl) {f : Str} {i : Nat} (hi : sl[i]? = some f) (h : EvP X e ρ fun d ρ' => ∃ fs x, d = .ins C fs ∧ fs[i]? = some x ∧ Q (.d x) ρ') (hb : attributeBase e f X.env (eval e X.env) = eval e X.env := by rfl) : EvP X (.Attribute e f pos) ρ Q := by
  obtain ⟨p, t⟩ := S.at_ i f hi
  exact fun H0 M O S' σ H E R k => ⟨_, SlX.pe_sl pe_w hb, h H0 M O S' σ H E _ fun v H1 d ρ1 ⟨fs, x, ed, hx, q⟩ E1 r => by
    subst ed
    obtain ⟨a, dx, ws, ev, hs, hw⟩ := dtr_ins r
    obtain ⟨w, h1, h2⟩ := hw i x hx
    exact ⟨a, C, dx, p, ws, i, w, ev, hs, S.c, t, h1, k w H1 (.d x) ρ1 q E1 h2⟩⟩
/-- self.f, self the instance that is being made -/
theorem ev_slf (S : SlC X.K C sl) {f y : Str} {px : Pos} {i j : Nat} (hi : sl[i]? = some f) {fs : List (Option PyData)} {x : PyData} (hr : ρ[j]? = some (some (.slf C fs))) (hx : fs[i]? = some (some x)) (q : Q (.d x) ρ)
    (hN : X.N[j]? = some y := by rfl) (hv : Vis X.env.scope y := by first | exact Or.inl rfl | exact Or.inr (Or.inl rfl) | exact Or.inr (Or.inr rfl)) (hd : (y == ("__debug__" : Str)) = false := by decide) (hcd : (y == ("__classdict__" : Str)) = false := by decide)
    (hb : attributeBase (.Name y px) f X.env (eval (.Name y px) X.env) = eval (.Name y px) X.env := by rfl) : EvP X (.Attribute (.Name y px) f pos) ρ Q := by
  obtain ⟨p, t⟩ := S.at_ i f hi
  exact fun H0 M O S' σ H E R k => ⟨_, SlX.pe_sl (pe_var hN hv hd hcd) hb, by
    obtain ⟨v, h1, a, dx, ws, h2, h3, h4, h5⟩ := E.ent j _ hr
    obtain ⟨w, h6, h7⟩ := h5 i x hx
    exact ⟨v, h1, a, C, dx, p, ws, i, w, h2, h4, S.c, t, h6, k w H (.d x) ρ q E h7⟩⟩
def putP (i : Nat) (x : PyData) (fs : List (Option PyData)) : List (Option PyData) := (fs ++ List.replicate (i + 1 - fs.length) none).set i (some x)
theorem putP_get {i j : Nat} {x y : PyData} {fs : List (Option PyData)} (h : (putP i x fs)[j]? = some (some y)) : (j = i ∧ y = x) ∨ (j ≠ i ∧ fs[j]? = some (some y)) := by
  unfold putP at h
  rcases set_get h with ⟨h1, h2⟩ | ⟨h1, h2⟩
  · exact .inl ⟨h1.symm, Option.some.inj h2⟩
  · refine .inr ⟨Ne.symm h1, ?_⟩
    by_cases hj : j < fs.length
    · rw [List.getElem?_append_left hj] at h2
      exact h2
    · rw [List.getElem?_append_right (by omega), List.getElem?_replicate] at h2
      split at h2
      · cases h2
      · cases h2
/-- no slot but j holds an instance that is being made -/
def slfAt (j : Nat) (ρ : DEnv) : Bool := (List.range ρ.length).all fun i => match ρ[i]? with
  | some (some (.slf _ _)) => decide (i = j)
  | some (some (.src _ _)) => false
  | _ => true
theorem slfAt_one {j : Nat} {ρ : DEnv} (h : slfAt j ρ = true) : (∀ (i : Nat) C fs, ρ[i]? = some (some (.slf C fs)) → i = j) ∧ ∀ (i : Nat) n s, ρ[i]? ≠ some (some (Ent.src n s)) := by
  refine ⟨fun i C fs hi => ?_, fun i n s hi => ?_⟩
  · have hl := (List.getElem?_eq_some_iff.mp hi).1
    have := List.all_eq_true.mp h i (List.mem_range.mpr hl)
    rw [hi] at this
    exact of_decide_eq_true this
  · have hl := (List.getElem?_eq_some_iff.mp hi).1
    have := List.all_eq_true.mp h i (List.mem_range.mpr hl)
    rw [hi] at this
    cases this
theorem EnvOk.slot_set {K : PySem.W.Frag} {H0 H : Hp} {M O S : List Addr} {σ : L2.St} {j i : Nat} {a dx : Addr} {ws : List (Option V)} {w : V} {x : PyData} {fs : List (Option PyData)} (E : EnvOk K H0 M O S ρ σ H) (one : slfAt j ρ = true) (hr : ρ[j]? = some (some (.slf C fs))) (hσ : σ[j]? = some (some (.ref a)))
    (hS : S = [a, dx]) (hs : SlX.Slt H a C dx ws) (hd : dx ≠ a) (hws : ∀ (i : Nat) (x : PyData), fs[i]? = some (some x) → ∃ w, ws[i]? = some (some w) ∧ Dp K (off (O ++ M) H) w x) (r : Dp K (off (O ++ M) H) w x) :
    EnvOk K H0 M O S (ρ.set j (some (.slf C (putP i x fs)))) σ (SlX.slH H a C dx (SlX.putS i w ws)) := by
  have aM : a ∈ M := E.sub a (by rw [hS]; simp)
  have dM : dx ∈ M := E.sub dx (by rw [hS]; simp)
  have h0a : H0 a = none := E.h0 a (by rw [hS]; simp)
  have h0d : H0 dx = none := E.h0 dx (by rw [hS]; simp)
  obtain ⟨o1, o2⟩ := slfAt_one one
  have key : Ex (off (O ++ M) H) (off (O ++ M) (SlX.slH H a C dx (SlX.putS i w ws))) := fun b u h => by
    obtain ⟨h1, h2⟩ := of_off h
    have n1 : b ≠ a := fun z => h1 (List.mem_append_right _ (by rw [z]; exact aM))
    have n2 : b ≠ dx := fun z => h1 (List.mem_append_right _ (by rw [z]; exact dM))
    rw [off_out h1, SlX.slH_ne n1 n2]
    exact h2
  refine ⟨fun b u h => ?_, E.h0, fun b hb => ?_, E.sub, E.apart, by rw [List.length_set]; exact E.len, fun k en h => ?_, fun k l ds es h1 h2 h3 => ?_⟩
  · rw [SlX.slH_ne (fun z => by rw [z, h0a] at h; cases h) (fun z => by rw [z, h0d] at h; cases h)]
    exact E.ex b u h
  · unfold SlX.slH
    by_cases z : b = a
    · rw [z, upd_same]; exact fun q => nomatch q
    · rw [upd_ne z]
      by_cases z2 : b = dx
      · rw [z2, upd_same]; exact fun q => nomatch q
      · rw [upd_ne z2]; exact E.dom b hb
  · rcases set_get h with ⟨h1, h2⟩ | ⟨h1, h2⟩
    · subst h1
      cases h2
      refine ⟨_, hσ, a, dx, _, rfl, hS, SlX.slH_slt hd, fun k y hy => ?_⟩
      rcases putP_get hy with ⟨e1, e2⟩ | ⟨e1, e2⟩
      · subst e1 e2
        exact ⟨w, SlX.putS_get .., dp_mono key r⟩
      · obtain ⟨w', q1, q2⟩ := hws k y e2
        exact ⟨w', (SlX.putS_ne e1).mpr q1, dp_mono key q2⟩
    · obtain ⟨v, q1, q2⟩ := E.ent k en h2
      refine ⟨v, q1, ?_⟩
      cases en with
      | im d => exact dt_mono key q2
      | ow ds =>
        obtain ⟨b, vs, z1, z2, z3, z4⟩ := q2
        refine ⟨b, vs, z1, z2, ?_, dpAll_mono key z4⟩
        have n1 : b ≠ a := fun z => E.apart b z2 (by rw [z]; exact aM)
        have n2 : b ≠ dx := fun z => E.apart b z2 (by rw [z]; exact dM)
        rw [SlX.slH_ne n1 n2]
        exact z3
      | src n s => exact absurd h2 (o2 k n s)
      | slf C' fs' => exact absurd (o1 k C' fs' h2) (Ne.symm h1)
  · rcases set_get h1 with ⟨_, q⟩ | ⟨q1, q2⟩
    · cases q
    · rcases set_get h2 with ⟨_, q⟩ | ⟨q3, q4⟩
      · cases q
      · exact E.dist k l ds es q2 q4 h3
end

/-! ### self.f = e, while self is being made -/
section
variable {X : Cx} {ρ : DEnv} {e : Expr} {pos tpos px : Pos} {C : Addr} {sl : List Str} {P : Post} {y f : Str}
def sSlN (K : PySem.W.Frag) (ta tv : TE) (f : Str) : TS := fun D σ H => tv σ H fun y H1 => ta σ H1 fun x H2 => ∃ a C dx p vs i, x = .ref a ∧ SlX.Slt H2 a C dx vs ∧ SlX.SCls K C ∧ SlX.Slot1 K C f p i ∧ (dx ≠ a → D.nx σ (SlX.slH H2 a C dx (SlX.putS i y vs)))
theorem ps_slN {o value : Expr} {pos' : Pos} {ta tv : TE} (ha : PE X o ta) (hv : PE X value tv) (hs : swapsWith value (some (.Attribute o f pos')) pos.line X.env = pure false := by rfl) : PS X (.Assign [.Attribute o f pos'] value pos) (sSlN X.K ta tv f) := by
  refine ⟨fun pins s σ H D I h => ?_⟩
  refine plainObj_wpAny_Assign_Attribute (thn (hv.run pins s σ H _ I h) fun u s1 ⟨y, H1, I1, ry, q⟩ => thn (ha.run pins s1 σ H1 _ I1 q) fun ov s2 ⟨x, H2, I2, rx, a, C, dx, p, vs, i, ex, hsl, c, t, q2⟩ => ?_) hs
  subst ex
  obtain rfl : ov = Value.ref a := rx
  exact SlX.setslot_ok I2 hsl c t ry fun s3 I3 => ⟨σ, _, I3, q2 (SlX.slt_at I2 hsl).1⟩
theorem rs_slot (S : SlC X.K C sl) (j : Nat) {i : Nat} (hi : sl[i]? = some f) (h : EvP X e ρ fun d ρ1 => ∃ fs x, d = .d x ∧ ρ1[j]? = some (some (.slf C fs)) ∧ slfAt j ρ1 = true ∧ P.nx (ρ1.set j (some (.slf C (putP i x fs)))))
    (hN : X.N[j]? = some y := by rfl) (hv : Vis X.env.scope y := by first | exact Or.inl rfl | exact Or.inr (Or.inl rfl) | exact Or.inr (Or.inr rfl)) (hd : (y == ("__debug__" : Str)) = false := by decide) (hcd : (y == ("__classdict__" : Str)) = false := by decide)
    (hs : swapsWith e (some (.Attribute (.Name y px) f tpos)) pos.line X.env = pure false := by rfl) : RunS X (.Assign [.Attribute (.Name y px) f tpos] e pos) ρ P := by
  obtain ⟨p, t⟩ := S.at_ i f hi
  intro H0 M O S' σ H E D k1 k2 k3 k4
  refine ⟨_, ps_slN (pe_var hN hv hd hcd) pe_w hs, h H0 M O S' σ H E _ fun v H1 d ρ1 ⟨fs, x, ed, hr, one, q⟩ E1 r => ?_⟩
  subst ed
  obtain ⟨v2, h1, a, dx, ws, h2, h3, h4, h5⟩ := E1.ent j _ hr
  subst h2
  exact ⟨_, h1, a, C, dx, p, ws, i, rfl, h4, S.c, t, fun ne => k1 O σ _ _ q (E1.slot_set one hr h1 h3 h4 ne h5 r)⟩
end

/-! ### instances made -/
abbrev TrI := List Dt → (List PyData → Prop) → Prop
/-- the promise of an __init__ of the class at C -/
def spI (K : PySem.W.Frag) (C : Addr) (T : TrI) : Sp := fun vs H Q _ => ∃ (M : List Addr) (x dx : Addr) (ws : List V) (ds : List Dt) (Z : List PyData → Prop), vs = .ref x :: ws ∧ x ∈ M ∧ dx ∈ M ∧ (∀ a ∈ M, H a ≠ none) ∧ SlX.Slt H x C dx [] ∧ DtAll K (off M H) ws ds ∧ T ds Z ∧
  ∀ H' fs wv, Z fs → Ex (off [x, dx] H) H' → H' x = some (SlX.SlO x C dx wv) → H' dx = some (.xd []) → (∀ (i : Nat) (y : PyData), fs[i]? = some y → ∃ w, wv[i]? = some (some w) ∧ Dp K (off M H') w y) → Q .non H'
/-- a class whose instances C(..) are made by an __init__ that keeps a promise -/
structure OwnI (P : Program) (w : World) (K : PySem.W.Frag) (mg : Str → Option Value) (base : Heap) (k : Nat) (x : Str) (C : Addr) (T : TrI) : Prop where
  ex : ∃ (f : Addr) (fd : FuncData) (ps : List Str), FnOk P w K mg base CX0 k f fd ps (spI K C T) ∧ Mk K C f ∧ mg x = some (.ref C) ∧ Binds K fd ps []
section
variable {X : Cx} {ρ : DEnv} {Q : Dt → DEnv → Prop} {e : Expr} {es : List Expr} {pos p : Pos} {C : Addr} {k : Nat} {x : Str}
theorem ev_make {T : TrI} (F : OwnI X.prog X.w X.K X.mg X.base k x C T) (hr : Room (k + 1) X.A) (hg : Gl X x) (h : EvA X (e :: es) ρ fun ds ρ' => T ds fun fs => Q (.ins C fs) ρ')
    (hdb : (x == ("__debug__" : Str)) = false := by decide) (he : starEach (e :: es) X.env = (false, eval e X.env) :: starEach es X.env := by rfl) (hpl : (backTo pos (starEach es X.env)).any (·.1) = false := by rfl) : EvP X (.Call (.Name x p) (e :: es) [] pos) ρ Q := by
  obtain ⟨f, fd, ps, F, mk, hm, hb⟩ := F.ex
  refine fun H0 M O S σ H E R kk => ⟨_, pe_make (dvs := []) mk F hr hg hm hb .nil pass0 pa_w hdb he hpl, h H0 M O S σ H E _ fun vs H1 ds ρ1 t E1 r a dx ha hdx ne => ?_⟩
  rw [List.append_nil]
  obtain ⟨na, _, _⟩ := E1.outS ha
  obtain ⟨nd, _, _⟩ := E1.outS hdx
  have x1 : Ex H1 (upd (upd H1 dx (.own a)) a (.ins C dx [])) := fun b u z => by
    have n1 : b ≠ a := fun q => by rw [q, ha] at z; cases z
    have n2 : b ≠ dx := fun q => by rw [q, hdx] at z; cases z
    rw [upd_ne n1, upd_ne n2]
    exact z
  refine ⟨a :: dx :: (O ++ M), a, dx, vs, ds, _, rfl, by simp, by simp, fun b hb' => ?_, .inl ⟨upd_same, rfl⟩, ?_, t, fun H' fs wv z y h1 h2 h3 => ⟨rfl, ?_⟩⟩
  · by_cases z : b = a
    · rw [z, upd_same]; exact fun q => nomatch q
    · rw [upd_ne z]
      by_cases z2 : b = dx
      · rw [z2, upd_same]; exact fun q => nomatch q
      · rw [upd_ne z2]
        rcases List.mem_cons.mp hb' with q | q
        · exact absurd q z
        · rcases List.mem_cons.mp q with q | q
          · exact absurd q z2
          · exact E1.dom b q
  · refine dtAll_mono (fun b u z => ?_) r
    obtain ⟨z1, z2⟩ := of_off z
    have n1 : b ≠ a := fun q => by rw [q, ha] at z2; cases z2
    have n2 : b ≠ dx := fun q => by rw [q, hdx] at z2; cases z2
    rw [off_out fun q => ?_]
    · exact x1 b u z2
    · rcases List.mem_cons.mp q with q | q
      · exact n1 q
      · rcases List.mem_cons.mp q with q | q
        · exact n2 q
        · exact z1 q
  · have x2 : Ex H1 H' := fun b u z => by
      have n1 : b ≠ a := fun q => by rw [q, ha] at z; cases z
      have n2 : b ≠ dx := fun q => by rw [q, hdx] at z; cases z
      refine y b u ?_
      rw [off_out (by simp [n1, n2])]
      exact x1 b u z
    refine kk _ H' _ ρ1 z (E1.grow x2) ⟨a, dx, wv, rfl, by rw [off_out na]; exact h1, by rw [off_out nd]; exact h2, fun i y hy => ?_⟩
    obtain ⟨w, q1, q2⟩ := h3 i y hy
    exact ⟨w, q1, dp_mono (off_less fun b hb' => List.mem_cons_of_mem _ (List.mem_cons_of_mem _ hb')) q2⟩
end
end DL
end
section
set_option Elab.async false
set_option linter.all false
set_option maxRecDepth 100000
set_option maxHeartbeats 4000000
/-! The data logic: defs of classes: __init__, methods, properties, __call__, !=. -/
namespace DL
open PySem PySem.Spec PyProof.Rows L2 Evl

section
variable {P : Program} {w : World} {K : PySem.W.Frag} {mg : Str → Option Value} {base : Heap} {x qual cls : Str} {st : Stmt} {f C : Addr} {fd : FuncData} {N ps : List Str} {k : Nat}
/-- a def of values, wherever it stands -/
theorem fn_pure {T : Tr} (F : Fun K x qual st f fd) (Sc : FnScope N ps (defScope st)) (hb : Binds K fd ps []) (hl : ∀ ds Z, T ds Z → ds.length = ps.length)
    (body : ∀ (cdv : Value) (A : Around) (outer : List Env) (s : Shared) (H : Hp) (E : XK), Room k (A.deeper (envOfC qual (defScope st) s.heap.objs.size f cdv)) → ∀ ds Z, T ds Z → RunP (fX P w K mg base N qual st f cdv A outer s H E) (defBody st) (entry N ds) { nx := fun _ => Z dN, rt := fun d _ => Z d }) :
    FnR P w K mg base CX0 (k + 1) f (spP K T) := by
  have F1 : FnOk P w K mg base CX0 (k + 1) f fd ps (spP K T) := F.ok Sc (fun vs H Q E ⟨M, ds, Z, _, r, t, _⟩ => by rw [r.length]; exact hl ds Z t) fun cdv A outer s H vs Q E hr ⟨M, ds, Z, dom, r, t, kk⟩ =>
    body cdv A outer s H E hr ds Z t H M [] [] (L2.start N vs) H (entry_ok dom r) _ (fun O' σ' H' ρ' z E' => kk .non H' dN z E'.ex (show Dp _ _ _ _ from .non)) (fun v O' σ' H' d ρ' z E' rd => kk v H' d z E'.ex rd) (fun _ _ _ _ z => z.elim) (fun _ _ _ _ z => z.elim)
  exact (F1.raw hb .nil).imp fun vs H Q E q => by rw [List.append_nil]; exact q
/-- an __init__ -/
theorem def_init {T : TrI} (F : Fun K x qual st f fd) (Sc : FnScope N ps (defScope st)) (mk : Mk K C f) (hm : mg cls = some (.ref C)) (hb : Binds K fd ps []) (hl : ∀ ds Z, T ds Z → ds.length + 1 = ps.length) (hdx : ∀ a, a ≠ a + 1 := by intro a; omega)
    (body : ∀ (cdv : Value) (A : Around) (outer : List Env) (s : Shared) (H : Hp) (E : XK), Room k (A.deeper (envOfC qual (defScope st) s.heap.objs.size f cdv)) → ∀ ds Z, T ds Z →
      RunP (fX P w K mg base N qual st f cdv A outer s H E) (defBody st) (some (.slf C []) :: (entry N ds).take (N.length - 1)) { nx := fun ρ' => ∃ fs, fs ≠ [] ∧ ρ'[0]? = some (some (.slf C (fs.map some))) ∧ Z fs, rt := fun _ _ => False }) :
    OwnI P w K mg base (k + 1) cls C T := by
  refine ⟨f, fd, ps, F.ok Sc (fun vs H Q E ⟨M, a, dx, ws, ds, Z, ev, _, _, _, _, r, t, _⟩ => by rw [ev, List.length_cons, r.length]; exact hl ds Z t) fun cdv A outer s H vs Q E hr ⟨M, a, dx, ws, ds, Z, ev, aM, dM, dom, hs, r, ht, kk⟩ => ?_, mk, hm, hb⟩
  subst ev
  have hpl : ps.length ≤ N.length := by have := congrArg List.length Sc.pre; rw [List.length_take] at this; omega
  have hlen := hl ds Z ht
  have E0 : EnvOk K (off [a, dx] H) M [] [a, dx] (some (.slf C []) :: (entry N ds).take (N.length - 1)) (L2.start N (.ref a :: ws)) H := by
    refine ⟨off_ex, fun b hb => off_in (by simpa using hb), fun b hb => dom b (by simpa using hb), fun b hb => ?_, fun b hb => absurd hb (by simp), ?_, fun i e h => ?_, fun i j fs gs h1 => ?_⟩
    · rcases List.mem_cons.mp hb with q | q
      · rw [q]; exact aM
      · rw [List.mem_singleton.mp q]; exact dM
    · unfold entry L2.start
      have := r.length
      simp only [List.length_append, List.length_map, List.length_replicate, List.length_cons, List.length_take]
      omega
    · cases i with
      | zero =>
        have h : some (some (Ent.slf C [])) = some (some e) := h
        cases h
        exact ⟨.ref a, start_get rfl, a, dx, [], rfl, rfl, hs, fun i x h => by simp at h⟩
      | succ i =>
        rw [List.getElem?_cons_succ, List.getElem?_take] at h
        split at h
        · obtain ⟨d, h1, h2⟩ := entry_get h
          subst h2
          obtain ⟨v, q1, q2⟩ := dtAll_get r h1
          exact ⟨v, start_get (by rw [List.getElem?_cons_succ]; exact q1), q2⟩
        · cases h
    · cases i with
      | zero => cases h1
      | succ i =>
        rw [List.getElem?_cons_succ, List.getElem?_take] at h1
        split at h1
        · obtain ⟨d, _, h2⟩ := entry_get h1
          cases h2
        · cases h1
  refine body cdv A outer s H E hr ds Z ht _ M [] [a, dx] _ H E0 _ (fun O' σ' H' ρ' ⟨fs, nfs, hr', z⟩ E' => ?_) (fun _ _ _ _ _ _ z => z.elim) (fun _ _ _ _ z => z.elim) (fun _ _ _ _ z => z.elim)
  obtain ⟨v0, _, a', dx', wv, _, e2, e3, e4⟩ := E'.ent 0 _ hr'
  cases e2
  have hf : ∀ (i : Nat) (y : PyData), fs[i]? = some y → ∃ w, wv[i]? = some (some w) ∧ Dp K (off M H') w y := fun i y hy => by
    obtain ⟨w, q1, q2⟩ := e4 i y (by rw [List.getElem?_map, hy]; rfl)
    exact ⟨w, q1, dp_mono (off_less fun b hb => List.mem_append_right _ hb) q2⟩
  rcases e3 with ⟨h1, h2⟩ | ⟨h1, h2⟩
  · exfalso
    cases fs with
    | nil => exact nfs rfl
    | cons y ys =>
      obtain ⟨w, q1, _⟩ := hf 0 y rfl
      rw [h2] at q1
      cases q1
  · exact kk H' fs wv z E'.ex h1 h2 hf
end

section
variable {X : Cx} {ρ : DEnv} {Q : Dt → DEnv → Prop} {a b e o fe : Expr} {es : List Expr} {pos p apos : Pos} {C p' g : Addr} {f m : Str} {k : Nat} {T : Tr}
/-- a property's facts: at p, its getter at g -/
structure PropAt (K : PySem.W.Frag) (C p g : Addr) (f : Str) : Prop where
  c : SlX.SCls K C
  at_ : PySem.W.findIn K (.ref C) f = some (some (.ref p))
  get : PySem.W.specialIn K (.ref p) "__get__" = some (some (.builtin "property.__get__"))
  tk : PySem.W.takesIn K (.ref p) = some true
  rc : ∃ rest, PySem.W.recIn K p "property" = some (.ref g :: rest)
/-- what e.f gives, f a property of the class at C -/
structure OwnPr (X : Cx) (k : Nat) (C : Addr) (f : Str) (T : Tr) : Prop where
  ex : ∃ p g, PropAt X.K C p g f ∧ FnR X.prog X.w X.K X.mg X.base CX0 k g (spP X.K T)
theorem ev_prop (F : OwnPr X k C f T) (hr : Room (k + 1) X.A) (h : EvP X e ρ fun d ρ' => ∃ fs, d = .ins C fs ∧ T [.ins C fs] fun d' => Q d' ρ') (hb : attributeBase e f X.env (eval e X.env) = eval e X.env := by rfl) : EvP X (.Attribute e f pos) ρ Q := by
  obtain ⟨p, g, A, F⟩ := F.ex
  exact fun H0 M O S σ H E R kk => ⟨_, SlX.pe_propSl pe_w A.c A.at_ A.get A.tk A.rc F hr (E := fun _ _ _ => False) (fun _ _ _ _ h => h.elim) hb, h H0 M O S σ H E _ fun v H1 d ρ1 ⟨fs, ed, t⟩ E1 r => by
    subst ed
    obtain ⟨a, dx, ws, ev, hs, hw⟩ := dtr_ins r
    exact ⟨a, dx, ws, ev, hs, O ++ M, [.ins C fs], _, E1.dom, .cons (ev ▸ r) .nil, t, fun v H' d q y z => kk v H' d ρ1 q (E1.grow y) z⟩⟩
/-- what o.m(..) gives, m a method of the class at C -/
structure OwnM (X : Cx) (k : Nat) (C : Addr) (m : Str) (T : Tr) : Prop where
  ex : ∃ g, SlX.SCls X.K C ∧ Meth X.K C m g ∧ FnR X.prog X.w X.K X.mg X.base CX0 k g (spP X.K T)
theorem ev_meth {pl : Sem Bool} (F : OwnM X k C m T) (hr : Room k X.A) (h : EvP X o ρ fun d ρ1 => ∃ fs, d = .ins C fs ∧ EvA X (e :: es) ρ1 fun ds ρ' => T (.ins C fs :: ds) fun d => Q d ρ')
    (hst : starEach (e :: es) X.env = (false, eval e X.env) :: starEach es X.env := by rfl) (hpl : (backTo pos (starEach es X.env)).any (·.1) = false := by rfl)
    (ht : eval (.Call (.Attribute o m apos) (e :: es) [] pos) X.env = (do
      let ov ← eval o X.env
      standAt apos.atName
      let (f, first) ← holding [ov] (getMethod ov m pl)
      callWith pos f first (backTo pos (starEach (e :: es) X.env)) (backToKw pos (keywordEach [] X.env))) := by rfl) : EvP X (.Call (.Attribute o m apos) (e :: es) [] pos) ρ Q := by
  obtain ⟨g, c, hm, F⟩ := F.ex
  exact fun H0 M O S σ H E R kk => ⟨_, SlX.pe_methSl pe_w c hm F hr pass0 pa_w hst hpl ht, h H0 M O S σ H E _ fun v H1 d ρ1 ⟨fs, ed, hb⟩ E1 r => by
    subst ed
    obtain ⟨a, dx, ws, ev, hs, hw⟩ := dtr_ins r
    subst ev
    refine ⟨a, dx, ws, rfl, hs, hb _ M O S σ H1 E1.re _ fun vs H2 ds ρ2 t E2 r2 => ?_⟩
    exact ⟨O ++ M, .ins C fs :: ds, _, E2.dom, .cons (dt_mono E2.stay r) r2, t, fun v H' d q y z => kk v H' d ρ2 q (E1.back (E2.grow y)) z⟩⟩
/-- what o(..) gives, o an instance of the class at C -/
structure OwnC (X : Cx) (k : Nat) (C : Addr) (T : Tr) : Prop where
  ex : ∃ g, StX.CallO X.K C g ∧ FnR X.prog X.w X.K X.mg X.base CX0 k g (spP X.K T)
theorem ev_callO (F : OwnC X k C T) (hr : Room k X.A) (h : EvP X fe ρ fun d ρ1 => ∃ fs, d = .ins C fs ∧ EvA X (e :: es) ρ1 fun ds ρ' => T (.ins C fs :: ds) fun d => Q d ρ')
    (ht : eval (.Call fe (e :: es) [] pos) X.env = (do callWith pos (← eval fe X.env) [] (backTo pos (starEach (e :: es) X.env)) (backToKw pos (keywordEach [] X.env))) := by rfl)
    (hst : starEach (e :: es) X.env = (false, eval e X.env) :: starEach es X.env := by rfl) (hpl : (backTo pos (starEach es X.env)).any (·.1) = false := by rfl) : EvP X (.Call fe (e :: es) [] pos) ρ Q := by
  obtain ⟨g, c, F⟩ := F.ex
  exact fun H0 M O S σ H E R kk => ⟨_, StX.pe_callO pe_w c F hr pass0 pa_w ht hst hpl, h H0 M O S σ H E _ fun v H1 d ρ1 ⟨fs, ed, hb⟩ E1 r => by
    subst ed
    obtain ⟨a, dx, ws, ev, hs, hw⟩ := dtr_ins r
    subst ev
    refine ⟨a, rfl, hb _ M O S σ H1 E1.re _ fun vs H2 ds ρ2 t E2 r2 => ?_⟩
    have r' := dt_mono E2.stay r
    obtain ⟨a', dx', ws', ev', hs', _⟩ := dtr_ins r'
    cases ev'
    exact ⟨.inl ⟨_, _, hs'⟩, O ++ M, .ins C fs :: ds, _, E2.dom, .cons r' r2, t, fun v H' d q y z => kk v H' d ρ2 q (E1.back (E2.grow y)) z⟩⟩
/-- isinstance(x, C), x an instance of the class at C -/
theorem ev_isiI {y : Str} {py : Pos} {D : Addr} {r0 : Bool} (S : SlX.SCls X.K C) (I : SlX.SIsi X.K C) (hk : PySem.W.kitOne X.K (.ref C) (.ref D) = some r0) (hg : Gl X "isinstance") (hm : X.mg "isinstance" = none) (hv : bootBuiltins "isinstance" = some (.builtin "isinstance")) (hgT : Gl X y) (hmT : X.mg y = some (.ref D))
    (h : EvP X a ρ fun d ρ1 => (∃ fs, d = .ins C fs) ∧ Q (dB r0) ρ1) (hdT : (y == ("__debug__" : Str)) = false := by decide)
    (he : starEach [a, .Name y py] X.env = (false, eval a X.env) :: starEach [.Name y py] X.env := by rfl) (he2 : starEach [.Name y py] X.env = (false, eval (.Name y py) X.env) :: starEach [] X.env := by rfl)
    (hpl : (backTo pos (starEach [.Name y py] X.env)).any (·.1) = false := by rfl) : EvP X (.Call (.Name "isinstance" p) [a, .Name y py] [] pos) ρ Q := fun H0 M O S' σ H E R k =>
  ⟨_, pe_callB (SlX.call_isiSl (.ref D)) hg hm hv (pa_cons pe_w (pa_cons (pe_glob (v := .ref D) hgT hmT rfl hdT) pa_nil he2) he) (by decide) (by decide) he hpl, h H0 M O S' σ H E _ fun v H1 d ρ1 ⟨⟨fs, ed⟩, q⟩ E1 r => by
    subst ed
    obtain ⟨a, dx, ws, ev, hs, _⟩ := dtr_ins r
    subst ev
    exact ⟨a, C, dx, ws, .ref D, r0, rfl, rfl, fun w hw => hw, hs, S, I, hk, k _ H1 _ ρ1 q E1 dt_bl⟩⟩

/-! ### a == b, a != b of instances -/
/-- == of the class at C -/
structure OwnE (X : Cx) (k : Nat) (C : Addr) (T : Tr) : Prop where
  ex : ∃ g, PySem.W.findIn X.K (.ref C) (cmpInfo .Eq).2.1 = some (some (.ref g)) ∧ PySem.W.isFn X.K (.ref g) = true ∧ PySem.W.notFirst X.K C (.ref C) = true ∧ FnR X.prog X.w X.K X.mg X.base CX0 k g (spP X.K T) ∧
    ∃ (nm q : Str) (N : Addr) (bs : List Value) (hdct : Bool) (sn : List Str) (sub : List Value) (ab : Bool) (col : Option Bool) (dd : Option Addr) (k0 k1 k2 k3 k5 : Option Value) (newId : String) (of : Obj),
      X.K.lookup C = some (excClassObj nm q C N bs [.type "object"] hdct sn sub ab col dd k0 k1 k2 k3 k5 newId) ∧ PySem.W.nsIn X.K N "__eq__" = some (some (.ref g)) ∧ PySem.W.nsIn X.K N "__ne__" = some none ∧ X.K.lookup g = some of ∧ of.cls = .type "function"
end
end DL
end
section
set_option Elab.async false
set_option linter.all false
set_option maxRecDepth 100000
set_option maxHeartbeats 4000000
/-! The data logic: == and != of instances with an own ==. -/
namespace DL
open PySem PySem.Spec PyProof.Rows L2 Evl

theorem ns_some_of {K : PySem.W.Frag} {h : Heap} {N : Addr} {mg : Str → Option Value} {n : Str} {v : Value} (X : K.In h) (G : h.Ns N mg) (e : PySem.W.nsIn K N n = some (some v)) : mg n = some v := by
  obtain ⟨o, es, ep, ho, hd, _, hf⟩ := G
  unfold PySem.W.nsIn at e
  split at e
  · rename_i c d es' n' sl q
    have := X _ _ q
    rw [ho] at this
    cases this
    cases hd
    split at e
    · rename_i ev he
      rw [← hf]
      unfold nsFind findBy
      rw [← Array.find?_toList, he]
      exact Option.some.inj e
    · split at e
      · cases e
      · cases e
  · cases e
/-- == of the class at C is the def at g, != none -/
structure EqF (K : PySem.W.Frag) (C g : Addr) : Prop where
  at_ : PySem.W.findIn K (.ref C) (cmpInfo .Eq).2.1 = some (some (.ref g))
  fn : PySem.W.isFn K (.ref g) = true
  nf : PySem.W.notFirst K C (.ref C) = true
  cls : ∃ (nm q : Str) (N : Addr) (bs : List Value) (hdct : Bool) (sn : List Str) (sub : List Value) (ab : Bool) (col : Option Bool) (dd : Option Addr) (k0 k1 k2 k3 k5 : Option Value) (newId : String) (of : Obj),
      K.lookup C = some (excClassObj nm q C N bs [.type "object"] hdct sn sub ab col dd k0 k1 k2 k3 k5 newId) ∧ PySem.W.nsOkIn K N = true ∧ PySem.W.nsIn K N "__eq__" = some (some (.ref g)) ∧ PySem.W.nsIn K N "__ne__" = some none ∧ K.lookup g = some of ∧ of.cls = .type "function"
structure OwnQ (X : Cx) (k : Nat) (C : Addr) (T : Tr) : Prop where
  ex : ∃ g, EqF X.K C g ∧ FnR X.prog X.w X.K X.mg X.base CX0 k g (spP X.K T)
section
variable {X : Cx} {C g : Addr} {k : Nat} {sp : Sp} {E : XK}
def rNeO (C : Addr) (sp : Sp) (E : XK) : R2 := fun x y H Q => ∃ a dx vs b dy ws, x = .ref a ∧ y = .ref b ∧ SlX.Slt H a C dx vs ∧ SlX.Slt H b C dy ws ∧ sp [x, y] H (fun z H' => ∃ c, z = .bl c ∧ Q (.bl (!c)) H') E
theorem op_neO (Fq : EqF X.K C g) (G : FnR X.prog X.w X.K X.mg X.base CX0 k g sp) (hr : Room (k + 1) X.A) : OpR X (compareOp .NotEq) (rNeO C sp (fun _ _ _ => False)) := by
  intro pins s σ H x y v u Q I rx ry h
  obtain ⟨a, dx, vs, b, dy, ws, rfl, rfl, ha, hb, q⟩ := h
  cases (show v = Value.ref a from rx)
  cases (show u = Value.ref b from ry)
  obtain ⟨sl, od, _, J, _⟩ := SlX.slt_inst I ha
  obtain ⟨sl', od', _, J', _⟩ := SlX.slt_inst I hb
  obtain ⟨nm, q1, N, bs, hdct, sn, sub, ab, col, dd, k0, k1, k2, k3, k5, newId, of, lC, nok, neq, nne, lg, hof⟩ := Fq.cls
  have KX := I.kIn
  have G0 : s.heap.Ns N (s.heap.nsMap N) := .of_isNs (PySem.W.isNs_of_in KX nok)
  have XX : s.heap.OwnEqNoNe a C g "object" [.type "object"] := ⟨_, of, nm, q1, N, bs, hdct, sn, sub, ab, col, dd, k0, k1, k2, k3, k5, newId, _, _, J.at_, J.cls, KX _ _ lC, G0, ns_some_of KX G0 neq, KX _ _ lg, hof, PySem.F.cmp_object.mro, PySem.F.cmp_object.eq.lookup, PySem.W.ns_none_of KX G0 nne⟩
  have run : wpAny (model X.prog X.w) X.A.in1 (call (.ref g) [.ref a, .ref b]) (EP X pins σ fun z H' => ∃ c, z = .bl c ∧ Q (.bl (!c)) H') X.xe s :=
    wpAny_call (SlX.run_at (us := [.ref a, .ref b]) (ws := [.ref a, .ref b]) G hr.in1 I.env0.in1 pass0 I (.cons rfl (.cons rfl .nil)) q)
  obtain ⟨hp, gg, dd', tt, os⟩ := s
  refine compareOp_ne_ownEq PySem.F.cmp_object XX J'.at_ J'.cls (hu_of hr) (wpAny_mono run (fun r s' z => ?_) fun _ _ z => z)
  obtain ⟨z', H', I', rz, c, ez, qz⟩ := z
  subst ez
  cases (show r = Value.bool c from rz)
  exact ⟨c, rfl, .bl (!c), H', I', rfl, qz⟩
end
section
variable {X : Cx} {ρ : DEnv} {a b : Expr} {pos : Pos} {C : Addr} {k : Nat} {T : Tr} {Q : Dt → DEnv → Prop}
/-- a != b -/
theorem et_neI {Z : Bool → DEnv → Prop} (Fq : OwnQ X k C T) (hr : Room (k + 1) X.A) (h : EvP X a ρ fun d1 ρ1 => EvP X b ρ1 fun d2 ρ2 => ∃ fs gs, d1 = .ins C fs ∧ d2 = .ins C gs ∧ T [d1, d2] fun d => ∃ c, d = dB c ∧ Z (!c) ρ2) : EvT X (.Compare a [.NotEq] [b] pos) ρ Z := by
  obtain ⟨g, F, G⟩ := Fq.ex
  refine et_cmp (op_neO F G hr) (nomark b) (h.imp fun d1 ρ1 h2 => h2.imp fun d2 ρ2 ⟨fs, gs, e1, e2, t⟩ => ?_)
  intro L v1 v2 H hL r1 r2 R kk
  subst e1 e2
  obtain ⟨a1, dx, ws, ev, hs, _⟩ := dtr_ins r1
  obtain ⟨a2, dy, ws2, ev2, hs2, _⟩ := dtr_ins r2
  refine ⟨a1, dx, ws, a2, dy, ws2, ev, ev2, hs, hs2, L, [.ins C fs, .ins C gs], _, hL, .cons r1 (.cons r2 .nil), t, fun v H' d ⟨c, ed, z⟩ x rd => ?_⟩
  subst ed
  cases rd
  exact ⟨c, rfl, kk _ H' _ ⟨!c, rfl, z⟩ x (.bl _)⟩
/-- a == b -/
theorem ev_eqI (Fq : OwnQ X k C T) (hr : Room k X.A) (h : EvP X a ρ fun d1 ρ1 => EvP X b ρ1 fun d2 ρ2 => ∃ fs gs, d1 = .ins C fs ∧ d2 = .ins C gs ∧ T [d1, d2] fun d => Q d ρ2) : EvP X (.Compare a [.Eq] [b] pos) ρ Q := by
  obtain ⟨g, F, G⟩ := Fq.ex
  refine ev_cmp (SlX.op_own (op := .Eq) (E := fun _ _ _ => False) (fun _ _ => rfl) F.at_ F.fn G hr pass0) (nomark b) (h.imp fun d1 ρ1 h2 => h2.imp fun d2 ρ2 ⟨fs, gs, e1, e2, t⟩ => ?_)
  intro L v1 v2 H hL r1 r2 R kk
  subst e1 e2
  obtain ⟨a1, dx, ws, ev, hs, _⟩ := dtr_ins r1
  obtain ⟨a2, dy, ws2, ev2, hs2, _⟩ := dtr_ins r2
  exact ⟨a1, dx, ws, a2, C, dy, ws2, ev, ev2, hs, hs2, F.nf, L, [.ins C fs, .ins C gs], _, hL, .cons r1 (.cons r2 .nil), t, fun v H' d z x rd => kk v H' d z x rd⟩
end
end DL
end
section
set_option Elab.async false
set_option linter.all false
set_option maxRecDepth 100000
set_option maxHeartbeats 4000000
/-! An exception class of the program over Exception (by any number of own classes), whose __init__ is: super().__init__(text); self.f = value. -/
namespace ExS
open PySem PySem.Spec PyProof.Rows L2 PySem.W PySem.Calls
abbrev eTail : List Value := [.type "Exception", .type "BaseException", .type "object"]
/-- own classes, then Exception's line -/
def refsE : List Value → Bool
  | .ref _ :: r => refsE r
  | l => decide (l = eTail)
theorem refsE_cases : ∀ l : List Value, refsE l = true → (∃ c r, l = .ref c :: r ∧ refsE r = true) ∨ l = eTail
  | [], h => .inr (of_decide_eq_true h)
  | v :: r, h => by
    cases v with
    | ref c => exact .inl ⟨c, r, rfl, h⟩
    | _ => exact .inr (of_decide_eq_true h)
theorem refsE_pass (self : Value) : ∀ l : List Value, refsE l = true → refuseLoop self "__setattr__" l = pure () := by
  intro l
  induction l with
  | nil => intro h; cases h
  | cons v r ih =>
    intro h
    rcases refsE_cases _ h with ⟨c, r', e, h'⟩ | e
    · cases e
      rw [refuseLoop_ref]
      exact ih h'
    · rw [e]
      exact F.store_Exception.passes _
theorem refsE_contains (Y : String) : ∀ l : List Value, refsE l = true → l.contains (.type Y) = eTail.contains (.type Y) := by
  intro l
  induction l with
  | nil => intro h; cases h
  | cons v r ih =>
    intro h
    rcases refsE_cases _ h with ⟨c, r', e, h'⟩ | e
    · cases e
      rw [List.contains_cons, ih h']
      rfl
    · rw [e]
theorem refsE_ne {l : List Value} (e : refsE l = true) : l.isEmpty = false := by
  cases l with
  | nil => cases e
  | cons _ _ => rfl
section
open Builtin Builtin.ObjectAttr
variable {prog : Program} {w : World} {A : Around} {E : Value → Shared → Prop} {R : Result → Shared → Prop} {hp : Heap} {g : Array GenState} {d : Drawn} {t : Nat} {os : OsState}
/-- self.name = v, the first time -/
theorem osa_first {K : Frag} {name : Str} {tk : Tok} {v : Value} {x C : Addr} {fv : Array Value} {cd : ClassData}
    (X : K.In hp) (hx : hp.get? x = some { cls := .ref C, data := .fields fv }) (hcd : clsIn K C = some cd) (hm : refsE cd.mro = true) (hh : cd.hasDict = true) (ha : findIn K (.ref C) name = some none)
    (hq : ∀ h' tk' dx, (∀ b o, b ≠ x → hp.get? b = some o → h'.get? b = some o) → hp.objs.size ≤ dx → dx ≠ x → h'.get? x = some { cls := .ref C, dict := some dx, data := .fields fv } →
      h'.Ns1 dx (fun y => if y = name then some v else none) → R (.ok (.ret .none)) ⟨h', g, d, tk', os⟩) :
    codeAny (model prog w) A (.call (.builtin "object.__setattr__") ⟨[.ref x, .str name tk, v], []⟩) R ⟨hp, g, d, t, os⟩ := by
  have I : InstAt hp x { cls := .ref C, data := .fields fv } C none := ⟨hx, rfl, rfl, trivial⟩
  have SF := F.store_object
  have ne := refsE_ne hm
  have hob : cd.mro.contains (.type "object") = true := (refsE_contains "object" _ hm).trans (by decide +kernel)
  have hxs : x ≠ hp.objs.size := Nat.ne_of_lt (Heap.lt_size hx)
  have sub : Looks (model prog w) hp (isInstance (.ref x) (.type "object")) true := I.type.andThen (looks_mroIn X (by unfold mroIn; rw [hcd, Option.bind_some, if_neg (by rw [ne]; decide), hob]))
  refine codeAny_call_builtin SF.slot.plain SF.entry (@check_slot (model prog w) _ _ ⟨hp, g, d, t, os⟩ "object.__setattr__" "object" "__setattr__" (.ref x) [.str name tk, v] [] _ SF.kind SF.split sub (SF.args (.ref x) (.str name tk) v) ?_)
  have hmr : Looks (model prog w) hp (mroOf (.ref C)) cd.mro := (looks_clsIn X hcd).andThen .now
  have L3 : Looks (model prog w) hp (storeTaker? none) none := .now
  have hcls : Looks (model prog w) hp (classData C) cd := looks_clsIn X hcd
  rw [osa_eq, refuse_eq]
  refine wpAny_bind (wpAny_bind (I.type.at (wpAny_bind (hmr.at ?_))))
  rw [refsE_pass _ _ hm]
  refine wpAny_pure (wpAny_bind (I.type.at (wpAny_bind ((looks_findIn X ha).at (wpAny_bind (L3.at ?_))))))
  show wpAny _ _ (storeInOwnDict (.ref x) (.ref C) (.str name tk) name v false) _ _ _
  obtain ⟨nm, bs, mro, ns, qn, hd, sn, sb, ab, col, del⟩ := cd
  dsimp only at hh
  subst hh
  unfold storeInOwnDict ownDictForStores
  repeat (first | with_reducible refine HandSPX.store_in_new ?_ ?_ | with_reducible refine wpAny_loadPart_at hx ?_ | with_reducible refine hcls.at ?_ | wp_step)
  · exact ⟨_, #[], _, (Heap.get?_update_ne _ _ _ _ hxs.symm).trans (Heap.get?_push_at rfl rfl), rfl, fun e he => absurd he (by simp), fun _ => rfl⟩
  · intro h' tk' hn' hs
    have hx₁ : (hp.push { cls := .type "dict", data := .dict #[] }).get? x = some { cls := .ref C, data := .fields fv } := Heap.get?_push_of_some _ hx
    refine hq h' tk' hp.objs.size (fun b o hb ho => ?_) (Nat.le_refl _) hxs.symm ?_ hn'
    · exact (hs.2 b (Nat.ne_of_lt (Heap.lt_size ho))).trans ((Heap.get?_update_ne _ _ _ _ hb).trans (Heap.get?_push_of_some _ ho))
    · exact (hs.2 x hxs).trans (Heap.get?_update_self _ hx₁ rfl)
end
/-- the body of such an __init__ -/
abbrev iBody (msg fld par : Str) (kk : Nat) (p1 p2 p3 p4 p5 p6 p7 p8 p9 p10 : Pos) : List Stmt :=
  [.Expr (.Call (.Attribute (.Call (.Name "super" p1) [] [] p2) "__init__" p3) [.Constant (.str msg) kk p4] [] p5) p6, .Assign [.Attribute (.Name "self" p7) fld p8] (.Name par p9) p10]
/-- what the written part says of the class at C with such an __init__ at f -/
structure ExF (prog : Program) (K : Frag) (C f : Addr) (fld : Str) : Prop where
  cls : ∃ nm q N bs bm sn sub ab col dd k0 k1 k2 k3 k5, K.lookup C = some (excClassObj nm q C N bs bm true sn sub ab col dd k0 k1 k2 k3 k5 "Exception.__new__") ∧ refsE bm = true ∧ alongIn K "__init__" bm = some (some (.builtin "Exception.__init__"))
  sa : findIn K (.ref C) "__setattr__" = some (some (.builtin "object.__setattr__"))
  exC : subIn K (.ref C) (.type "BaseException") = some true
  ex1 : subIn K (.ref C) (.type "Exception") = some true
  tyC : typeIn K (.ref C) = some (.type "type")
  kC : keepIn K (.ref C) = true
  noF : findIn K (.ref C) fld = some none
  ini : findIn K (.ref C) "__init__" = some (some (.ref f))
  tyF : typeIn K (.ref f) = some (.type "function")
  opq : nsIn K cStatics "thirdparty.any" = some none
  nos : nsIn K mainGlobals "super" = some none
  selfsub : mroIn K C (.ref C) = some true
  fn : ∃ (oc : Value) (od : Option Addr) (name qual : Str) (params : Arguments) (scope : Scope) (msg par : Str) (kk : Nat) (p1 p2 p3 p4 p5 p6 p7 p8 p9 p10 : Pos) (kV doc pm ct : Value) (an : Option Addr) (cda cc : Addr) (osl : Array (Option Value)) (ar : Arg)
      (ccl cl : Value) (cdd cld : Option Addr) (ccs csl : Array (Option Value)) (vs : Array Value) (file : Str) (tf : Tok),
    K.lookup f = some ⟨oc, od, .func (ksFn name qual params (iBody msg fld par kk p1 p2 p3 p4 p5 p6 p7 p8 p9 p10) scope .none kV doc pm an (.ref cda) ct cc), osl⟩ ∧ codeIn K (.ref cda) qual = true ∧
    (params.posonlyargs ++ params.args).head? = some ar ∧ ar.arg = "self" ∧ (∀ a b : Value, bindArgs (ksFn name qual params (iBody msg fld par kk p1 p2 p3 p4 p5 p6 p7 p8 p9 p10) scope .none kV doc pm an (.ref cda) ct cc) ⟨[a, b], []⟩ = pure [(("self" : Str), a), (par, b)]) ∧
    K.lookup cda = some ⟨ccl, cdd, .fields vs, ccs⟩ ∧ vs[2]? = some (.str file tf) ∧ ((prog.main.file : Str) == file) = true ∧ K.lookup cc = some ⟨cl, cld, .cell (some (.ref C)), csl⟩ ∧
    scope.names.lookup ("super" : Str) = some .globalImplicit ∧ scope.names.lookup ("__class__" : Str) = some .free ∧ scope.names.lookup ("self" : Str) = some .local ∧ scope.names.lookup par = some .local ∧ (∀ x ∈ scope.names, x.2 ≠ .cell) ∧
    scope.isCoroutine = false ∧ scope.isGenerator = false ∧ scope.kind = .function ∧ par ≠ "self" ∧ (par == ("__debug__" : Str)) = false ∧ (p3.endLine == p5.line) = true
  top : (prog.main.scope.names.lookup ("super" : Str)).isSome = false
/-- a method's call on one line -/
theorem call_line {o e : Expr} {name : Str} {p3 p5 : Pos} {env : Env} (hl : (p3.endLine == p5.line) = true) (h1 : starEach [e] env = [(false, eval e env)]) :
    eval (.Call (.Attribute o name p3) [e] [] p5) env = (do
      let ov ← attributeBase o name env (eval o env)
      standAt p3.atName
      let (f, first) ← holding [ov] (getMethod ov name (do return (← importBound o env).getD true))
      callWith p5 f first (backTo p5 (starEach [e] env)) []) := by
  have hp : methodCallPos true o env p3 p5 = pure p5 := by
    unfold methodCallPos
    rw [hl]
    rfl
  have hf : methodCallForm ([e].length + ([] : List Keyword).length) (backTo p5 (starEach [e] env)) (backToKw p5 (keywordEach [] env)) = true := by
    rw [h1]
    rfl
  rw [arm_eval_Call]
  unfold methodCall
  rw [hf, hp]
  rfl
section
variable {prog : Program} {w : World} {A : Around} {K : Frag} {mg : Str → Option Value} {base : Heap} {R : Result → Shared → Prop} {h : Heap} {g : Array GenState} {d : Drawn} {t : Nat} {os : OsState} {C f e t0 : Addr} {fld : Str} {v : Value}
theorem boot_super : bootBuiltins "super" = some (.type "super") := by first | rfl | decide +kernel
theorem init_run (T : ExF prog K C f fld) (M : L2.Mod K mg base) (kb : ∀ b o, base.get? b = some o → h.get? b = some o) (nb : base.get? e = none) (he : h.get? e = some (HandSPX.excO C t0)) (hroom : A.depth < recursionLimit)
    (hq : ∀ h' tk' dx t1, (∀ b o, b ≠ e → h.get? b = some o → h'.get? b = some o) → h.objs.size ≤ dx → dx ≠ e → h'.get? e = some { cls := .ref C, dict := some dx, data := .fields #[.ref t1, .none, .none, .none, .bool false, .none] } →
      h'.Ns1 dx (fun y => if y = fld then some v else none) → R (.ok (.ret .none)) ⟨h', g, d, tk', os⟩) :
    codeAny (model prog w) A (.call (.ref f) ⟨[.ref e, v], []⟩) R ⟨h, g, d, t, os⟩ := by
  obtain ⟨oc, od, name, qual, params, scope, msg, par, kk, p1, p2, p3, p4, p5, p6, p7, p8, p9, p10, kV, doc, pm, ct, an, cda, cc, osl, ar, ccl, cl, cdd, cld, ccs, csl, vs, file, tf, lk, hcd, har, hself, hbind, lkc, hvs, hfile, lkcell, n1, n2, n3, n4, ncell, nco, ngen, nk, hps, hpd, hline⟩ := T.fn
  have hint : ∀ L cd, interactive (ksEnv qual scope L f cd cc) = false := fun L cd => by
    unfold interactive
    rw [show (ksEnv qual scope L f cd cc).scope.kind = .function from nk]
    rfl
  have X : K.In h := fun a o q => kb a o (M.kin a o q)
  obtain ⟨mb, hb, hbb⟩ := M.blt
  have noL : h.NoLimit := M.nolimit.keeps kb
  refine ks_codeAny_call_defAt (fd := ksFn name qual params (iBody msg fld par kk p1 p2 p3 p4 p5 p6 p7 p8 p9 p10) scope .none kV doc pm an (.ref cda) ct cc) (body := iBody msg fld par kk p1 p2 p3 p4 p5 p6 p7 p8 p9 p10) (binds := [(("self" : Str), .ref e), (par, v)])
    hroom (X _ _ lk) rfl noL (codeRec_of X hcd) rfl (.of_eq (hbind (.ref e) v)) ncell ?hloc (fun h₁ hns hk₁ => ?_) nco ngen nk
  case hloc =>
    intro y hy
    rcases List.mem_cons.mp hy with q | q
    · rw [q]; exact n3
    · rw [List.mem_singleton.mp q]; exact n4
  have look1 : List.lookup ("self" : Str) ([(("self" : Str), Value.ref e), (par, v)].reverse) = some (.ref e) := by
    show (match (("self" : Str) == par) with | true => some v | false => List.lookup ("self" : Str) [(("self" : Str), Value.ref e)]) = _
    rw [beq_eq_false_iff_ne.mpr (Ne.symm hps)]
    rfl
  have look2 : List.lookup par ([(("self" : Str), Value.ref e), (par, v)].reverse) = some v := by
    show (match (par == par) with | true => some v | false => List.lookup par [(("self" : Str), Value.ref e)]) = _
    rw [beq_self_eq_true]
  have X1 : K.In h₁ := fun a o q => hk₁ a o (X a o q)
  obtain ⟨nm, q, N, bs, bm, sn, sub, ab, col, dd, k0, k1, k2, k3, k5, hC, hbm, hal⟩ := T.cls
  have hcl : clsIn K C = some { name := nm, bases := bs, mro := .ref C :: bm, ns := N, qualname := q, hasDict := true, slotNames := sn, subclasses := sub, abstract := ab, collection := col, hasDel := false } := by unfold clsIn; rw [hC] <;> rfl
  have he1 : h₁.get? e = some (HandSPX.excO C t0) := hk₁ _ _ he
  have k1b : ∀ b o, base.get? b = some o → h₁.get? b = some o := fun b o z => hk₁ b o (kb b o z)
  have eC : e ≠ C := fun z => by
    have := X _ _ hC
    rw [← z, he] at this
    cases this
  have inst : ∀ {hh : Heap} (_ : hh.get? e = some (HandSPX.excO C t0)), InstAt hh e (HandSPX.excO C t0) C none := fun z => ⟨z, rfl, rfl, trivial⟩
  refine ks_wpAt_execs_cons (ks_wpAt_Expr_any (ks_wpAt_MethodCall (ks_wpAt_super_base (env := ksEnv qual scope h.objs.size f (.ref cda) cc) n1 n2 (by decide) rfl (X1 _ _ lk) rfl har rfl (X1 _ _ lkc) rfl hvs hfile T.top ?_) (call_line hline rfl)) (hint _ _))
  refine ks_loadName_global nk n1 (loadGlobal_builtin (env := ksEnv qual scope h.objs.size f (.ref cda) cc) (M.glob.keeps k1b) (mg_none_of M.kin M.glob T.nos) (hb.keeps k1b) ((hbb _ (by decide +kernel)).trans boot_super) ⟨rfl, ?_⟩)
  refine wpAny_loadName_free nk n2 rfl ⟨_, X1 _ _ lkcell, rfl⟩ ?_
  rw [hself]
  refine wpAny_loadName_local nk n3 hns (v := .ref e) look1 ?_
  refine ks_wpAny_isType_cls (X1 _ _ hC) rfl ⟨rfl, ?_⟩
  refine ks_wpAny_call_super (X1 _ _ hC) rfl he1 rfl (fun c z => by cases z) (looks_mroIn X1 T.selfsub) (fun h2 so2 k2 => ?_)
  have X2 : K.In h2 := fun a o z => k2 a o (X1 a o z)
  refine kxs_getMethod kxs_Exception so2 (looks_opaque X2 T.opq) (l₀ := .ref C :: bm) (fun A Q E s k q => wpAny_bind ((looks_clsIn X2 hcl) A _ E s k (wpAny_pure q))) (ESX.drop_own C bm) X2 hal ((inst (k2 _ _ he1)).type.andThen (looks_subIn X2 T.ex1)) eC (by decide) ?_
  have hu : (h2.push (kxs_mw "Exception.__init__" e)).get? h2.objs.size = some (kxs_mw "Exception.__init__" e) := Heap.get?_push_at rfl rfl
  refine kxs_callWith (i := "Exception.__init__") (x := e) rfl ?_
  refine evalArgs_plain ?_
  refine Calls.spliced_cons (x := eval (.Constant (.str msg) kk p4) _) ?_
  refine Calls.Constant_str (k := kk) (pos := p4) ?_
  refine Calls.spliced_nil ⟨hu, ?_⟩
  have k3 : ∀ b o, h₁.get? b = some o → (h2.push (kxs_mw "Exception.__init__" e)).get? b = some o := fun b o z => Heap.get?_push_of_some _ (k2 b o z)
  refine ESX.call_bw (k3 _ _ (X1 _ _ hC)) (k3 _ _ he1) hu (by show 1 ≤ sizeLine; decide) (fun h4 t1 k4 he4 => ?_)
  have kbC : ∀ b o, b ≠ e → h₁.get? b = some o → h4.get? b = some o := fun b o hb z => k4 b o hb (k3 b o z)
  have Le : h.objs.size ≠ e := Nat.ne_of_gt (Heap.lt_size he)
  have hns4 : h4.Ns h.objs.size (fun x => List.lookup x ([(("self" : Str), Value.ref e), (par, v)].reverse)) := hns.at fun o z => kbC _ o Le z
  have X4 : K.In h4 := fun a o z => kbC a o (fun q => by
    have := M.kin a o z
    rw [q, nb] at this
    cases this) (X1 a o z)
  refine ks_wpAt_execs_cons (ks_wpAt_Assign_Attr ?_ ?_)
  · refine wpAt_of_wpAny (wpAny_Name (wpAny_loadName_local nk n4 hns4 look2 ?_) hpd)
    refine wpAny_Name (wpAny_loadName_local nk n3 hns4 look1 ?_)
    refine set_plain X4 (ox := { cls := .ref C, dict := none, data := .fields #[.ref t1, .none, .none, .none, .bool false, .none] }) (od := none) ⟨he4, rfl, rfl, trivial⟩ T.sa ?_
    refine osa_first X4 he4 hcl (show refsE (.ref C :: bm) = true from hbm) rfl T.noF (fun h5 tk5 dx k5 dn dne hx hn => ?_)
    refine wpAt_of_wpAny (wpAny_execs_nil ?_)
    obtain ⟨oL, _, _, eL, _⟩ := hns4
    have ld : h.objs.size ≤ dx := Nat.le_trans (Nat.le_of_lt (Heap.lt_size eL)) dn
    refine hq h5 tk5 dx t1 (fun b o hb z => k5 b o hb (kbC b o hb (hk₁ b o z))) ld dne hx ?_
    rw [show (fun y => if y = fld then some v else none) = (fun y => if y = fld then some v else none) from rfl]
    exact hn
  · rfl
end
/-- C(e) -/
theorem pmk_exs {X : Cx} {x : Str} {C f : Addr} {fld : Str} {e : Expr} {te : TE} {p pos : Pos} {k : Nat} (T : ExF X.prog X.K C f fld) (hr : Room (k + 2) X.A) (hg : Gl X x) (hm : X.mg x = some (.ref C)) (ha : PE X e te)
    (hdb : (x == ("__debug__" : Str)) = false := by decide) (he : starEach [e] X.env = (false, eval e X.env) :: starEach [] X.env := by rfl) (hpl : (backTo pos (starEach [] X.env)).any (·.1) = false := by rfl) :
    PMk X (.Call (.Name x p) [e] [] pos) (fun σ H Q => te σ H fun v H1 => ∀ d, H1 d = none → Q (.ref C) (some d) (upd H1 d (.xd [(fld, v)]))) := by
  intro pins s σ H Q I h
  obtain ⟨nm, q, N, bs, bm, sn, sub, ab, col, dd, k0, k1, k2, k3, k5, hC, hbm, hal⟩ := T.cls
  refine wpAny_Call_Name_kw (ld_glob I hg hm ?_ hdb)
  refine callWith_K (h₀ := X.base) I.ok.mod.kin T.kC (thn ((pa_cons ha pa_nil he).run pos pins s σ H (fun vs H1 => match vs with | [v] => ∀ d, H1 d = none → Q (.ref C) (some d) (upd H1 d (.xd [(fld, v)])) | _ => False) I h) fun us s1 ⟨vs, H1, I1, r1, q0⟩ => ⟨I1.kIn, ?_⟩) he hpl
  obtain ⟨v, ev, q1⟩ : ∃ v, vs = [v] ∧ ∀ d, H1 d = none → Q (.ref C) (some d) (upd H1 d (.xd [(fld, v)])) := by
    match vs, q0 with
    | [v], q0 => exact ⟨v, rfl, q0⟩
  subst ev
  obtain ⟨u, eu, ru⟩ := r1.one
  subst eu
  show wpAny _ _ (call (.ref C) [u]) _ _ _
  obtain ⟨hp, g, dr, tk, os⟩ := s1
  have kk : ∀ b o, hp.get? b = some o → ((hp.push (kdv_tup [u])).push (HandSPX.excO C hp.objs.size)).get? b = some o := fun b o e => Heap.get?_push_of_some _ (Heap.get?_push_of_some _ e)
  have hget : ((hp.push (kdv_tup [u])).push (HandSPX.excO C hp.objs.size)).get? (hp.objs.size + 1) = some (HandSPX.excO C hp.objs.size) := by heap_get
  have hb0 : X.base.get? (hp.objs.size + 1) = none := by
    cases z : X.base.get? (hp.objs.size + 1) with
    | none => rfl
    | some o => exact absurd (Heap.lt_size (I1.bk _ _ z)) (by show ¬ hp.objs.size + 1 < hp.objs.size; omega)
  refine wpAny_call (HandSPX.call_own F.excBase_Exception (fun Y => refsE_contains Y bm hbm) (I1.kIn _ _ hC) (looks_findIn I1.kIn T.ini) (fun self => bind_fn I1.kIn self T.tyF) (by show 1 ≤ sizeLine; decide)
    (init_run (prog := X.prog) (w := X.w) T I1.mod (fun b o z => kk b o (I1.bk b o z)) hb0 hget ?hroom fun h2 tk2 dx t1 k2 ld dne hx hn => ⟨rfl, ?_⟩))
  case hroom => exact (hr.make C [u] []).depth
  obtain ⟨G, g1', g2'⟩ := restrict h2 fun b => decide (b ≠ hp.objs.size + 1)
  have gk : ∀ b, b ≠ hp.objs.size + 1 → G.get? b = h2.get? b := fun b hb => g1' b (decide_eq_true hb)
  have ge : G.get? (hp.objs.size + 1) = none := g2' _ (by simp)
  have kG : ∀ b o, hp.get? b = some o → G.get? b = some o := fun b o z => by
    have nb : b ≠ hp.objs.size + 1 := Nat.ne_of_lt (Nat.lt_succ_of_lt (Heap.lt_size z))
    rw [gk b nb]
    exact k2 b o nb (kk b o z)
  have lh : hp.objs.size ≤ dx := by
    exact Nat.le_trans (Nat.le_of_lt (Nat.lt_of_succ_lt (Heap.lt_size hget))) ld
  have J : Inv X pins σ (upd H1 dx (.xd [(fld, v)])) ⟨G, g, dr, tk2, os⟩ := by
    refine I1.laid (t' := tk2) (a := dx) (o := .xd [(fld, v)]) (h' := G) kG lh ?_
    refine ⟨_, hn.at fun o z => (gk dx dne).trans z, fun y => ?_⟩
    by_cases hy : y = fld
    · subst hy
      simp [List.lookup]
      exact ru
    · have : (y == fld) = false := beq_eq_false_iff_ne.mpr hy
      simp [List.lookup, this, hy]
      exact True.intro
  have hd0 : H1 dx = none := I1.hok.fresh lh
  have ha0 : H1 (hp.objs.size + 1) = none := I1.hok.fresh (Nat.le_succ _)
  refine ⟨_, _, _, ⟨G, g, dr, tk2, os⟩, _, .ref C, some dx, rfl, J, fun b o z => ?_, ge, hx, ⟨rfl, rfl⟩, rfl, rfl, ?_, rfl, I1.bare, raises_own T.exC T.tyC, q1 dx hd0⟩
  · have nb : b ≠ hp.objs.size + 1 := fun q => by
      rw [q, ge] at z
      cases z
    rw [← gk b nb]
    exact z
  · rw [upd_ne (Ne.symm dne)]
    exact ha0
end ExS
end
section
set_option Elab.async false
set_option linter.all false
set_option maxRecDepth 100000
set_option maxHeartbeats 4000000
/-! The data logic: defs that raise, repr, try .. except. -/
namespace DL
open PySem PySem.Spec PyProof.Rows L2 Evl

/-! ### repr of data -/
section
variable {X : Cx}
def rReprD (K : PySem.W.Frag) (n : Nat) : List V → Hp → VK → Prop := fun vs H Q => ∃ v d, vs = [v] ∧ Dp K H v d ∧ d.showable = true ∧ d.hasDict = false ∧ n + (d.depth + 1) < cLine ∧ d.shown.length ≤ sizeLine ∧ Q (.str d.shown) H
theorem cr_reprD (hg : X.A.guards = some []) : CallR X (.builtin "repr") (rReprD X.K X.A.units) := by
  intro pins s σ H vs us Q I r h
  obtain ⟨v, d, rfl, hd, hs, hn, hu, hz, q⟩ := h
  obtain ⟨u, rfl, ru⟩ := r.one
  have big : ∀ a, u = .ref a → wpAny (model X.prog X.w) X.A (call (.builtin "repr") [.ref a]) (EP X pins σ Q) X.xe s := fun a e => by
    subst e
    obtain ⟨as, rd⟩ := Dp.reads I d v _ hd ru
    refine repr_of_reads' rd hs (fun e => by rw [hn] at e; cases e) hg hu (fun _ _ e => e) (fun h' u tk hk => ?_) hz
    have J : Inv X pins σ H { s with heap := h' } := I.kept fun b o eo => hk b o eo
    exact ⟨.str d.shown, H, J.tok tk, ⟨_, rfl⟩, q⟩
  cases hd with
  | non =>
    cases (show u = Value.none from ru)
    refine PySem.P.repr_of_none ?_
    exact ⟨.str _, H, I.tok _, ⟨_, rfl⟩, q⟩
  | bl b =>
    cases (show u = Value.bool b from ru)
    refine PySem.P.repr_of_bool ?_
    exact ⟨.str _, H, I.tok _, ⟨_, rfl⟩, q⟩
  | int i =>
    obtain ⟨t, e⟩ := (show ∃ t, u = Value.int i t from ru)
    subst e
    refine PySem.P.repr_of_int (by simpa [PyData.showable] using hs) ?_
    exact ⟨.str _, H, I.tok _, ⟨_, rfl⟩, q⟩
  | str x =>
    obtain ⟨t, e⟩ := (show ∃ t, u = Value.str x t from ru)
    subst e
    refine PySem.P.repr_of_str ?_ hz
    exact ⟨.str _, H, I.tok _, ⟨_, rfl⟩, q⟩
  | lst h1 h2 =>
    rename_i a _ _
    have e : u = Value.ref a := ru
    subst e
    exact big a rfl
  | tup h1 h2 =>
    rename_i a _ _
    have e : u = Value.ref a := ru
    subst e
    exact big a rfl
end
end DL
end
section
set_option Elab.async false
set_option linter.all false
set_option maxRecDepth 100000
set_option maxHeartbeats 4000000
/-! The data logic: defs that raise at their first line; their calls. -/
namespace DL
open PySem PySem.Spec PyProof.Rows L2 Evl
/-- from the arguments: what holds of every result, of every exception (its class, its field, what the field holds) -/
abbrev TrX := List Dt → (Dt → Prop) → (Addr → Str → PyData → Prop) → Prop
def spX (K : PySem.W.Frag) (T : TrX) : Sp := fun vs H Q E => ∃ (M : List Addr) (ds : List Dt) (Z : Dt → Prop) (Y : Addr → Str → PyData → Prop), (∀ a ∈ M, H a ≠ none) ∧ DtAll K (off M H) vs ds ∧ T ds Z Y ∧ (∀ v H' d, Z d → Ex H H' → DtR K (off M H') v d → Q v H') ∧
  ∀ C f y d v H', Y C f y → Ex H H' → H d = none → H' d = some (.xd [(f, v)]) → Dp K (off M H') v y → E (.ref C) (some d) H'
/-- a def that may raise -/
structure OwnXc (P : Program) (w : World) (K : PySem.W.Frag) (mg : Str → Option Value) (base : Heap) (k : Nat) (x : Str) (T : TrX) : Prop where
  ex : ∃ (f : Addr) (fd : FuncData) (ps : List Str), FnOk P w K mg base (L2.CX P w) k f fd ps (spX K T) ∧ mg x = some (.ref f) ∧ PySem.W.keepIn K (.ref f) = true ∧ Binds K fd ps []
section
variable {P : Program} {w : World} {K : PySem.W.Frag} {mg : Str → Option Value} {base : Heap} {x qual : Str} {st : Stmt} {f C fI : Addr} {fd : FuncData} {N ps : List Str} {k : Nat} {T : TrX} {cls fld : Str} {c eArg : Expr} {rest : List Stmt} {p rp rpos ip : Pos}
theorem def_exc (F : Fun K x qual st f fd) (Sc : FnScope N ps (defScope st)) (hm : mg x = some (.ref f)) (hb : Binds K fd ps []) (hl : ∀ ds Z Y, T ds Z Y → ds.length = ps.length)
    (X0 : ExS.ExF P K C fI fld) (hcls : mg cls = some (.ref C)) (hgl : ∀ L cdv, (envOfC qual (defScope st) L f cdv).kindOf cls = some .globalImplicit) (hdb : (cls == ("__debug__" : Str)) = false := by decide)
    (eb : defBody st = .If c [.Raise (some (.Call (.Name cls p) [eArg] [] rp)) none rpos] [] ip :: rest)
    (hst : ∀ L cdv, starEach [eArg] (envOfC qual (defScope st) L f cdv) = (false, eval eArg (envOfC qual (defScope st) L f cdv)) :: starEach [] (envOfC qual (defScope st) L f cdv))
    (body : ∀ (cdv : Value) (A : Around) (outer : List Env) (s : Shared) (H : Hp) (E : XK), Room (k + 2) (A.deeper (envOfC qual (defScope st) s.heap.objs.size f cdv)) → ∀ ds Z Y, T ds Z Y →
      EvT (fX P w K mg base N qual st f cdv A outer s H E) c (entry N ds) fun z ρ' => (z = true → EvP (fX P w K mg base N qual st f cdv A outer s H E) eArg ρ' fun d _ => ∃ y, d = .d y ∧ Y C fld y) ∧
        (z = false → RunP (fX P w K mg base N qual st f cdv A outer s H E) rest ρ' { nx := fun _ => Z dN, rt := fun d _ => Z d })) :
    OwnXc P w K mg base (k + 3) x T := by
  refine ⟨f, fd, ps, F.okX Sc (fun vs H Q E ⟨M, ds, Z, Y, _, r, t, _⟩ => by rw [r.length]; exact hl ds Z Y t) fun cdv A outer s H vs Q E hr ⟨M, ds, Z, Y, dom, r, t, kk, kx⟩ => ?_, hm, F.kp, hb⟩
  rw [eb]
  have B := body cdv A outer s H E hr ds Z Y t
  refine ⟨_, pss_cons (ps_if (PT.nox (X := cxOf (L2.CX P w) P w K mg base N qual (defScope st) f cdv A outer s H E) pt_w) (pss_one (ps_raise rfl (takes_of rfl rfl rfl rfl) (ExS.pmk_exs X0 hr (hgl _ _) hcls (PE.nox (X := cxOf (L2.CX P w) P w K mg base N qual (defScope st) f cdv A outer s H E) pe_w) hdb (hst _ _) rfl))) pss_nil) (PSs.nox (X := cxOf (L2.CX P w) P w K mg base N qual (defScope st) f cdv A outer s H E) pss_w), ?_⟩
  refine B H M [] [] _ H (entry_ok dom r) _ fun H1 z ρ' ⟨q1, q2⟩ E1 => ?_
  cases z with
  | true =>
    refine iteT (q1 rfl H M [] [] _ H1 E1 _ fun v H2 d ρ2 ⟨y, ed, yy⟩ E2 rv dd hdd => ?_)
    subst ed
    exact kx C fld y dd v _ yy (E2.ex.trans (Ex.new hdd)) (by
      cases z : H dd with
      | none => rfl
      | some o => rw [E2.ex dd o z] at hdd; cases hdd) upd_same (dp_mono (off_mono (Ex.new hdd)) rv)
  | false =>
    refine iteF (q2 rfl H M [] [] _ H1 E1 _ (fun O' σ' H' ρ' z E' => kk .non H' dN z E'.ex (show Dp _ _ _ _ from .non)) (fun v O' σ' H' d ρ' z E' rd => kk v H' d z E'.ex rd) (fun _ _ _ _ z => z.elim) (fun _ _ _ _ z => z.elim))
end
section
variable {X : Cx} {ρ : DEnv} {e : Expr} {es : List Expr} {pos p : Pos} {k : Nat} {x : Str}
/-- a call that doesn't raise -/
theorem ev_callX {T : TrX} {Q : Dt → DEnv → Prop} (F : OwnXc X.prog X.w X.K X.mg X.base k x T) (hr : Room k X.A) (hg : Gl X x) (h : EvA X (e :: es) ρ fun ds ρ' => T ds (fun d => Q d ρ') fun _ _ _ => False)
    (hdb : (x == ("__debug__" : Str)) = false := by decide) (he : starEach (e :: es) X.env = (false, eval e X.env) :: starEach es X.env := by rfl) (hpl : (backTo pos (starEach es X.env)).any (·.1) = false := by rfl) : EvP X (.Call (.Name x p) (e :: es) [] pos) ρ Q := by
  obtain ⟨f, fd, ps, F, hm, hk, hb⟩ := F.ex
  exact fun H0 M O S σ H E R kk => ⟨_, pe_call (dvs := []) F hr hg hm hk hb .nil passL pa_w hdb he hpl, h H0 M O S σ H E _ fun vs H1 ds ρ1 t E1 r => by
    rw [List.append_nil]
    exact ⟨O ++ M, ds, _, _, E1.dom, r, t, fun v H' d q y z => kk v H' d ρ1 q (E1.grow y) z, fun _ _ _ _ _ _ z => z.elim⟩⟩
end
end DL
end
section
set_option Elab.async false
set_option linter.all false
set_option maxRecDepth 100000
set_option maxHeartbeats 4000000
/-! The data logic: try: f(..) except C as n: if repr(n.field) != repr(y): .. *)-/
namespace DL
open PySem PySem.Spec PyProof.Rows L2 Evl
theorem pss_never {X : Cx} {st : List Stmt} : PSs X st (fun _ _ _ => False) := ⟨fun _ _ _ _ _ _ h => h.elim⟩
/-- arguments in a try's body, whatever is wished of exceptions -/
def bA (X : Cx) (es : List Expr) : TA := fun σ H Q => ∀ pn xe, WA (X.tr pn xe) es σ H Q
theorem pa_b {X : Cx} {es : List Expr} (pn : List (Addr × Obj)) (xe : Value → Shared → Prop) : PA (X.tr pn xe) es (bA X es) := ⟨fun pos pins s σ H Q I h => pa_w.run pos pins s σ H Q I (h pn xe)⟩
section
variable {X : Cx} {ρ : DEnv} {P : Post} {e : Expr} {es : List Expr} {k : Nat} {x cls n fld y0 : Str} {C : Addr} {rst : Stmt} {sb : List Stmt} {p cp xp np pos' pos a1 a2 r1 r2 r3 r4 o1 q1 q2 : Pos}
theorem rs_tryR {T : TrX} (i j : Nat) (hij : i ≠ j) (F : OwnXc X.prog X.w X.K X.mg X.base k x T) (hr : Room k X.A) (hgd : X.A.guards = some []) (hg : Gl X x) (hs : X.stack = X.env :: X.outer) (hf : X.env.frame = some X.env.locals) (hN : X.N.Nodup) (hi : X.N[i]? = some n) (hln : X.env.kindOf n = some .local)
    (hj : X.N[j]? = some y0) (hvj : Vis X.env.scope y0) (hc : Names X cls (.ref C)) (hex : PySem.W.exmOne X.K (.ref C) (.ref C) = some true) (XF : XfC X.K C) (hno : PySem.W.findIn X.K (.ref C) fld = some none) (hgr : Gl X "repr") (hmr : X.mg "repr" = none) (hvr : bootBuiltins "repr" = some (.builtin "repr"))
    (h : ∀ pn xe, EvA (X.tr pn xe) (e :: es) ρ fun ds ρ' => ∃ y : PyData, i < ρ'.length ∧ T ds (fun _ => False) (fun C' f' y' => C' = C ∧ f' = fld ∧ y' = y) ∧ ρ'[j]? = some (some (.im (.d y))) ∧ y.showable = true ∧ y.hasDict = false ∧ y.depth ≤ 60 ∧ y.shown.length ≤ sizeLine ∧ P.nx (ρ'.set i none))
    (hdb : (x == ("__debug__" : Str)) = false := by decide) (hdn : (n == ("__debug__" : Str)) = false := by decide) (hdn2 : (n == ("__classdict__" : Str)) = false := by decide) (hdy : (y0 == ("__debug__" : Str)) = false := by decide) (hdy2 : (y0 == ("__classdict__" : Str)) = false := by decide)
    (he : starEach (e :: es) X.env = (false, eval e X.env) :: starEach es X.env := by rfl) (hpl : (backTo cp (starEach es X.env)).any (·.1) = false := by rfl) (hsw : swapsWith (.Call (.Name x p) (e :: es) [] cp) none xp.line X.env = pure false := by rfl)
    (hb : attributeBase (.Name n a1) fld X.env (eval (.Name n a1) X.env) = eval (.Name n a1) X.env := by rfl) :
    RunS X (.Try [.Expr (.Call (.Name x p) (e :: es) [] cp) xp, rst] [.ExceptHandler (some (.Name cls np)) (some n)
      [.If (.Compare (.Call (.Name "repr" r1) [.Attribute (.Name n a1) fld a2] [] r2) [.NotEq] [.Call (.Name "repr" r3) [.Name y0 o1] [] r4] q1) sb [] q2] pos'] [] [] pos) ρ P := by
  obtain ⟨f, fd, ps, F, hm, hk, hb'⟩ := F.ex
  intro H0 M O S σ H E D k1 k2 k3 k4
  refine ⟨_, ps_try_as (i := i) hs hf hN hi hln hc takes0
    (fun W pn xe tk _ => pss_cons (ps_expr (pe_callS (X := X.tr pn xe) F hr hg hm hk hb' (fun σ => passAt tk σ) (pa_b pn xe) hdb he hpl) hsw) pss_never)
    (fun a oe cls' d pn hz hf' => pss_one (ps_if (pt_cmpR op_ne (pe_callB (X := X.suite a ((a, oe) :: pn)) (show CallR (X.suite a ((a, oe) :: pn)) (.builtin "repr") (rReprD X.K X.A.units) from cr_reprD (X := X.suite a ((a, oe) :: pn)) hgd) hgr hmr hvr (pa_cons (pe_xf XF hno hz hf' (pe_var hi (.inl hln) hdn hdn2) hb) pa_nil)) (pe_callB (X := X.suite a ((a, oe) :: pn)) (show CallR (X.suite a ((a, oe) :: pn)) (.builtin "repr") (rReprD X.K X.A.units) from cr_reprD (X := X.suite a ((a, oe) :: pn)) hgd) hgr hmr hvr (pa_cons (pe_var hj hvj hdy hdy2) pa_nil)) (nomark _)) pss_never pss_nil)), ?_⟩
  refine fun pn xe => h pn xe H0 M O S σ H E _ fun vs H1 ds ρ1 ⟨y, hil, t, hy, hs1, hs2, hs3, hs4, q⟩ E1 r => ?_
  refine ⟨O ++ M, ds, _, _, E1.dom, r, t, fun v H' d z => z.elim, fun C' f' y' dd v H' ⟨e1, e2, e3⟩ hx hd0 hd1 rv => ?_⟩
  subst e1 e2 e3
  refine ⟨true, hex, fun _ a ha => ?_, fun z => Bool.noConfusion z⟩
  have hu : X.A.units + (y'.depth + 1) < cLine := by have := hr.units; omega
  have hiσ : i < σ.length := by rw [E1.len]; exact hil
  obtain ⟨v2, g1, g2⟩ := E1.ent j _ hy
  refine ⟨.ref a, List.getElem?_set_self hiσ, rfl, rfl, dd, _, v, rfl, hd1, ?_, v, y', rfl, dp_mono off_ex rv, hs1, hs2, hu, hs4, v2, ?_, v2, y', rfl, dp_mono hx (dp_mono off_ex g2), hs1, hs2, hu, hs4, rfl, _, rfl, ?_⟩
  · simp [List.lookup]
  · rw [List.getElem?_set_ne hij]
    exact g1
  · rw [decide_eq_true rfl]
    refine iteF ?_
    show D.nx ((σ.set i (some (.ref a))).set i none) H'
    rw [List.set_set]
    exact k1 O _ H' _ q ((E1.grow hx).set_none i none)
end
end DL
end
section
set_option Elab.async false
set_option linter.all false
set_option maxRecDepth 100000
set_option maxHeartbeats 4000000
/-! The data logic: defs that are called where no repr is under way (so that they may call repr). -/
namespace DL
open PySem PySem.Spec PyProof.Rows L2 Evl
/-- a promise that holds where no repr is under way -/
def FnG (P : Program) (w : World) (K : PySem.W.Frag) (mg : Str → Option Value) (base : Heap) (k : Nat) (f : Addr) (sp : Sp) : Prop :=
  ∀ (A : Around) (outer : List Env) (s : Shared) (H : Hp) (us : List Value) (vs : List V) (Q : VK) (E : XK), A.guards = some [] → Room k A → Env0 P w K mg base A outer s H → Vals vs us → sp vs H Q E →
    codeAny (model P w) A (.call (.ref f) ⟨us, []⟩) (CR CX0 outer P w H s Q E) s
section
variable {P : Program} {w : World} {K : PySem.W.Frag} {mg : Str → Option Value} {base : Heap} {x qual : Str} {st : Stmt} {f : Addr} {fd : FuncData} {N ps : List Str} {k : Nat} {sp : Sp}
theorem fn_G (F : Fun K x qual st f fd) (Sc : FnScope N ps (defScope st)) (hb : Binds K fd ps []) (len : ∀ vs H Q E, sp vs H Q E → vs.length = ps.length)
    (body : ∀ (cdv : Value) (A : Around) (outer : List Env) (s : Shared) (H : Hp) (vs : List V) (Q : VK) (E : XK), A.guards = some [] → Room k (A.deeper (envOfC qual (defScope st) s.heap.objs.size f cdv)) → sp vs H Q E →
      ∃ t, PSs (fX P w K mg base N qual st f cdv A outer s H E) (defBody st) t ∧ t { nx := fun _ H' => Q .non H', rt := Q } (start N vs) H) : FnG P w K mg base (k + 1) f sp := by
  obtain ⟨oc, od, kV, doc, pm, an, cdv, ct, osl, rfl, lk, hcd⟩ := F.ex
  intro A outer s H us vs Q E hg hr e0 r hsp
  have e := len vs H Q E hsp
  have eu : (us ++ []).length = ps.length := by rw [List.append_nil, ← r.length]; exact e
  have KX : K.In s.heap := fun b o z => (e0.bs b o (e0.mod.kin b o z)).1
  have hz := hb s us KX eu
  rw [List.append_nil] at hz
  have kinds : ∀ y ∈ ps.zip us, (defScope st).names.lookup y.1 = some .local ∨ ((defScope st).names.lookup y.1 = some .cell ∧ ((cellsFrom (s.heap.objs.size + 1) (defScope st).names []).lookup y.1).isSome = true) := by
    rintro ⟨n, v⟩ hy
    cases Sc.par n (List.of_mem_zip hy).1 with
    | inl q => exact .inl q
    | inr q => exact .inr ⟨q, PySem.W.cellsFrom_some _ _ _ (.inl q)⟩
  refine codeAny_call_function hr.depth (KX _ _ lk) rfl Sc.co Sc.gen rfl (PySem.W.codeRec_of KX hcd) (hz _ _ _ _ (wpAny_newFunctionEnv_cells Sc.kind kinds fun env he s1 y => ?_))
  subst he
  refine ⟨(e0.mod.nolimit.keeps fun b o z => (e0.bs b o z).1).keeps y.toInCall.keep, codeAny_func ?_⟩
  obtain ⟨t, ht, hq⟩ := body cdv A outer s H vs Q E hg (hr.deeper _) hsp
  have I : Inv (cxOf CX0 P w K mg base N qual (defScope st) f cdv A outer s H E) [] (start N vs) H s1 := inv_start Sc hr.hd e0 e r y
  refine wpAny_mono (ht.nox.run [] s1 _ H _ I hq) (fun fl s' hs => ?_) fun _ _ z => z
  cases fl with
  | ret u =>
    obtain ⟨v, σ', H', J, rv, q⟩ := hs
    exact ⟨v, H', J.os, J.bare, J.base, J.hok, rv, q⟩
  | next =>
    obtain ⟨σ', H', J, q⟩ := hs
    exact ⟨V.non, H', J.os, J.bare, J.base, J.hok, rfl, q⟩
  | brk =>
    obtain ⟨σ', H', J, q⟩ := hs
    exact q.elim
  | cont =>
    obtain ⟨σ', H', J, q⟩ := hs
    exact q.elim
/-- a def of values that may call repr -/
theorem def_G {T : Tr} (F : Fun K x qual st f fd) (Sc : FnScope N ps (defScope st)) (hb : Binds K fd ps []) (hl : ∀ ds Z, T ds Z → ds.length = ps.length)
    (body : ∀ (cdv : Value) (A : Around) (outer : List Env) (s : Shared) (H : Hp) (E : XK), A.guards = some [] → Room k (A.deeper (envOfC qual (defScope st) s.heap.objs.size f cdv)) → ∀ ds Z, T ds Z → RunP (fX P w K mg base N qual st f cdv A outer s H E) (defBody st) (entry N ds) { nx := fun _ => Z dN, rt := fun d _ => Z d }) :
    FnG P w K mg base (k + 1) f (spP K T) :=
  fn_G F Sc hb (fun vs H Q E ⟨M, ds, Z, _, r, t, _⟩ => by rw [r.length]; exact hl ds Z t) fun cdv A outer s H vs Q E hg hr ⟨M, ds, Z, dom, r, t, kk⟩ =>
    body cdv A outer s H E hg hr ds Z t H M [] [] (L2.start N vs) H (entry_ok dom r) _ (fun O' σ' H' ρ' z E' => kk .non H' dN z E'.ex (show Dp _ _ _ _ from .non)) (fun v O' σ' H' d ρ' z E' rd => kk v H' d z E'.ex rd) (fun _ _ _ _ z => z.elim) (fun _ _ _ _ z => z.elim)
end
/-- a global def whose promise holds where no repr is under way -/
structure OwnG0 (P : Program) (w : World) (K : PySem.W.Frag) (mg : Str → Option Value) (base : Heap) (k : Nat) (x : Str) (sp : Sp) : Prop where
  ex : ∃ f, FnG P w K mg base k f sp ∧ mg x = some (.ref f) ∧ PySem.W.keepIn K (.ref f) = true
section
variable {X : Cx} {ρ : DEnv} {e : Expr} {es : List Expr} {pos p : Pos} {k : Nat} {x : Str}
theorem pe_callG {f : Addr} {sp : Sp} {t : TA} (F : FnG X.prog X.w X.K X.mg X.base k f sp) (hgd : X.A.guards = some []) (hr : Room k X.A) (hg : Gl X x) (hm : X.mg x = some (.ref f)) (hk : PySem.W.keepIn X.K (.ref f) = true) (ha : PA X (e :: es) t)
    (hdb : (x == ("__debug__" : Str)) = false := by decide) (he : starEach (e :: es) X.env = (false, eval e X.env) :: starEach es X.env := by rfl) (hpl : (backTo pos (starEach es X.env)).any (·.1) = false := by rfl) :
    PE X (.Call (.Name x p) (e :: es) [] pos) (fun σ H Q => t σ H fun vs H1 => sp vs H1 Q E0) := by
  refine ⟨fun pins s σ H Q I h => wpAny_Call_Name_kw (ld_glob I hg hm (PySem.W.callWith_K (h₀ := X.base) I.ok.mod.kin hk (thn (ha.run pos pins s σ H _ I h) fun us s1 ⟨vs, H1, I1, r, q⟩ => ⟨I1.kIn, ?_⟩) he hpl) hdb)⟩
  refine wpAny_call (codeAny_mono (F X.A X.stack s1 H1 us vs Q E0 hgd hr I1.env0 r q) fun r s' hq => ?_)
  cases r with
  | error e => exact hq.elim
  | ok fl =>
    cases fl with
    | ret u => exact I1.after hq
    | next => exact hq.elim
    | brk => exact hq.elim
    | cont => exact hq.elim
theorem ev_callG {T : Tr} {Q : Dt → DEnv → Prop} (F : OwnG0 X.prog X.w X.K X.mg X.base k x (spP X.K T)) (hgd : X.A.guards = some []) (hr : Room k X.A) (hg : Gl X x) (h : EvA X (e :: es) ρ fun ds ρ' => T ds fun d => Q d ρ')
    (hdb : (x == ("__debug__" : Str)) = false := by decide) (he : starEach (e :: es) X.env = (false, eval e X.env) :: starEach es X.env := by rfl) (hpl : (backTo pos (starEach es X.env)).any (·.1) = false := by rfl) : EvP X (.Call (.Name x p) (e :: es) [] pos) ρ Q := by
  obtain ⟨f, F, hm, hk⟩ := F.ex
  exact fun H0 M O S σ H E R kk => ⟨_, pe_callG F hgd hr hg hm hk pa_w hdb he hpl, h H0 M O S σ H E _ fun vs H1 ds ρ1 t E1 r =>
    ⟨O ++ M, ds, _, E1.dom, r, t, fun v H' d q y z => kk v H' d ρ1 q (E1.grow y) z⟩⟩
end
end DL
end
section
set_option Elab.async false
set_option linter.all false
set_option maxRecDepth 100000
set_option maxHeartbeats 4000000
/-! sorted(xs, key=f), f a def of one's own that gives ints; sorted(xs) of data. -/
namespace SoI
open PySem PySem.Spec PyProof.Rows L2 Evl PySem.W PySem.Calls

section
variable {X : Cx} {pins : List (Addr × Obj)} {σ : L2.St} {H : Hp}
/-- while keys are asked: a the list that is sorted (empty), kS the keys so far -/
def Gd (X : Cx) (pins : List (Addr × Obj)) (σ : L2.St) (H : Hp) (a kS : Addr) (e1 : Nat) (ks : List Int) (s' : Shared) : Prop :=
  ∃ (H' : Hp) (kA : Array Value) (e : Nat), L2.Inv X pins σ H' s' ∧ Ex H H' ∧ FpOk X pins H' a ∧ FpOk X pins H' kS ∧ s'.heap.get? kS = some (seqObj "list" kA e) ∧ s'.heap.get? a = some (seqObj "list" #[] e1) ∧ IntsAre kA.toList ks
theorem ints_reads {h : Heap} : ∀ {vs : List Value} {ns : List Int}, IntsAre vs ns → EachIs (fun v k => ∃ as, Reads h v k as) vs (ns.map PyData.int)
  | [], [], _ => .nil
  | _ :: _, _ :: _, .cons _ _ t => .cons ⟨[], .int _ _⟩ (ints_reads t)
theorem alike_int (l : List Int) : AllAlike (l.map PyData.int) := AllAlike.of fun _ _ => by simp [alike]
theorem sortable_int (l : List Int) : Sortable (l.map PyData.int) := Sortable.others fun _ => ⟨fun z => (nomatch z), fun _ z => (nomatch z)⟩
theorem FpOk.at {H' : Hp} {b : Addr} (f : FpOk X pins H b) (h : H' b = none) : FpOk X pins H' b := ⟨h, f.2⟩
theorem notcell (xs : Array Value) (n : Nat) : ∀ v, (seqObj "list" xs n).data ≠ .cell v := fun _ z => by cases z
variable {a kS : Addr} {e1 : Nat} {b : Bool} {vs : List Value} {kz : List Int} {f : Value} {P : PySem.Fin → Shared → Prop} {s : Shared} {A : Around} {E : Value → Shared → Prop}
theorem key_rest_I (g0 : Gd X pins σ H a kS e1 [] s) (hka : kS ≠ a) (hlen : kz.length = vs.length) (hZ : vs.length ≤ sizeLine) (hu : A.units + 1 < cLine)
    (turn : ∀ (i : Nat) (v : Value) (k : Int), vs[i]? = some v → kz[i]? = some k → ∀ (pins' : List (Addr × Obj)) (H' : Hp) (s' : Shared), L2.Inv X pins' σ H' s' → Ex H H' →
      wpAny (model X.prog X.w) A (call f [v]) (fun r s'' => ∃ t H'', r = .int k t ∧ L2.Inv X pins' σ H'' s'' ∧ Ex H' H'') (fun _ _ => False) s')
    (h : ∀ (H' : Hp) (s' : Shared) (out : List Value) (c : Nat), L2.Inv X pins σ H' s' → Ex H H' → FpOk X pins H' a → s'.heap.get? a = some (seqObj "list" (List.toArray out) c) → KeyedOut b (kz.map PyData.int) vs out → P (.done (.ret .none)) s') :
    wpAny (model X.prog X.w) A (ksk_rest a f b vs.toArray e1 (.ref kS)) P E s := by
  unfold ksk_rest
  refine wpAny_bind (wpAny_rule ?_)
  first
    | rw [List.forIn_toArray]
    | (rw [← Array.forIn_toList]; simp only [List.toList_toArray])
    | rw [← Array.forIn_toList]
  refine wpAny_bind (ksk_fold (fun i s' => Gd X pins σ H a kS e1 (kz.take i) s') vs 0 s (by rw [List.take_zero]; exact g0) ?step ?done)
  case step =>
    rintro j x s' hx ⟨H', kA, e, I', x1, fa, fk, nk, na, hk⟩
    rw [Nat.zero_add] at hk ⊢
    have hj : j < vs.length := (List.getElem?_eq_some_iff.mp hx).1
    obtain ⟨k, hkj⟩ : ∃ k, kz[j]? = some k := ⟨_, List.getElem?_eq_getElem (by omega)⟩
    have hz : kA.size ≤ vs.length := by
      have h1 := hk.length
      rw [Array.length_toList, List.length_take] at h1
      omega
    have Ip : L2.Inv X ((a, seqObj "list" #[] e1) :: (kS, seqObj "list" kA e) :: (X.pn ++ pins)) σ H' s' := I'.pins_of fun p hp => by
      rcases List.mem_cons.mp hp with q | hp
      · subst q; exact ⟨na, fa.1, fa.2.1, fa.2.2.1, notcell _ _⟩
      · rcases List.mem_cons.mp hp with q | hp
        · subst q; exact ⟨nk, fk.1, fk.2.1, fk.2.2.1, notcell _ _⟩
        · exact I'.pin p hp
    refine wpAny_bind (wpAny_attempt (wpAny_mono (turn j x k hx hkj _ H' s' Ip x1) (fun v s'' he => ?_) fun _ _ hF => hF.elim))
    obtain ⟨t, H2, rfl, I2, x2⟩ := he
    have pa := I2.pin (a, seqObj "list" #[] e1) (List.mem_append_right _ List.mem_cons_self)
    have pk := I2.pin (kS, seqObj "list" kA e) (List.mem_append_right _ (List.mem_cons_of_mem _ List.mem_cons_self))
    have I3 : L2.Inv X pins σ H2 s'' := I2.pins_of fun p hp => I2.pin p (List.mem_append_right _ (List.mem_cons_of_mem _ (List.mem_cons_of_mem _ (List.mem_append_right _ hp))))
    try dsimp only
    have s1 := Heap.SameBut.update s''.heap kS (Obj.mapSeq (·.push (Value.int k t)))
    obtain ⟨c2, hc2⟩ : ∃ c2, (s''.heap.update kS (Obj.mapSeq (·.push (Value.int k t)))).get? kS = some (seqObj "list" (kA.push (.int k t)) c2) := ⟨_, get?_update_seq pk.1 (·.push (Value.int k t))⟩
    refine wpAny_bind (listUpdate_at pk.1 rfl ?_ (Nat.le_trans hz hZ) (Nat.le_trans (Nat.le_of_eq (Array.size_push ..)) (Nat.succ_le_succ (Nat.le_trans hz hZ))))
    refine wpAny_pure ⟨rfl, H2, _, c2, I3.turned (it := kS) (t' := s''.toks) (fun b o hb z => (s1.2 b hb).trans z) pk.2.1 fk.2.1 fk.2.2.2.1 fk.2.2.2.2.1 fk.2.2.2.2.2, x1.trans x2, FpOk.at fa pa.2.1, FpOk.at fk pk.2.1, hc2, (s1.2 a hka.symm).trans pa.1, ?_⟩
    rw [show kz.take (j + 1) = kz.take j ++ [k] by rw [List.take_add_one, hkj]; rfl, show (kA.push (Value.int k t)).toList = kA.toList ++ [.int k t] by simp]
    exact ksk_snoc hk
  case done =>
    rintro s' ⟨H', kA, e, I', x1, fa, fk, nk, na, hk⟩
    rw [show kz.take (0 + vs.length) = kz from List.take_of_length_le (by omega)] at hk
    have hsz : kA.size = vs.length := by
      have h1 := hk.length
      rw [Array.length_toList] at h1
      omega
    obtain ⟨G, g1, g2⟩ := restrict s'.heap fun b => decide (b ≠ kS)
    have gk : ∀ b, b ≠ kS → G.get? b = s'.heap.get? b := fun b hb => g1 b (decide_eq_true hb)
    have ge : G.get? kS = none := g2 kS (by simp)
    have kp : KeepsBut a G s'.heap := fun b o hb z => by
      have : b ≠ kS := fun q => by rw [q, ge] at z; cases z
      rw [← gk b this]; exact z
    have hr := ints_reads (h := s'.heap) hk
    refine wpAny_bind (listItems_at nk rfl ?_)
    refine keyH_end (κ := dataKind s'.heap (kz.map PyData.int)) (h₁ := G) kp ge nk na hka (SortsAt.data (s := s') hr (alike_int _) (sortable_int _) (fun d hd => ?_)) hsz hZ fun h3 tk3 c k3 n3 => ?_
    · obtain ⟨n, _, rfl⟩ := List.mem_map.mp hd
      show A.units + 0 < cLine
      omega
    · have kept : ∀ b o, b ≠ a → b ≠ kS → s'.heap.get? b = some o → h3.get? b = some o := fun b o n1 n2 z => k3 b o n1 ((gk b n2).trans z)
      have nn : ∀ b, H' b ≠ none → b ≠ a ∧ b ≠ kS := fun b z => ⟨fun q => z (q ▸ fa.1), fun q => z (q ▸ fk.1)⟩
      have hok : HOk X.prog X.w H' h3 := fun b o q => by
        obtain ⟨n1, n2⟩ := nn b (by rw [q]; simp)
        refine (I'.hok b o q).stay (fun c v hc z => ?_) (fun c z => z) (fun c xs z => z)
        have nc : c ≠ a ∧ c ≠ kS := by
          rcases hc with e | e
          · rw [e]; exact ⟨n1, n2⟩
          · exact nn c (by rw [e]; simp)
        exact kept c v nc.1 nc.2 z
      have I4 : L2.Inv X pins σ H' { s' with heap := h3, gens := s'.gens, drawn := s'.drawn, toks := tk3 } := by
        refine I'.step (ch := [a, kS]) (fun b hb => ?_) (fun b o _ _ hb z _ => ?_) (fun b o _ _ hb z _ => ⟨o.slots, ?_⟩) (fun b o _ _ n => n) (fun b o hb z => ⟨o, ?_⟩) (fun _ _ z => z) (fun _ _ _ z => z) (fun b ps z => ⟨#[], by rw [z]; simp⟩) (fun m hm => hm.at fun o z => ?_) hok I'.bare
        · rcases List.mem_cons.mp hb with q | q
          · subst q; exact ⟨fa.2.2.2.1, fa.2.1, fa.2.2.2.2.1, fa.2.2.2.2.2⟩
          · rw [List.mem_singleton.mp q]; exact ⟨fk.2.2.2.1, fk.2.1, fk.2.2.2.2.1, fk.2.2.2.2.2⟩
        · simp at hb; exact kept b o hb.1 hb.2 z
        · simp at hb; exact kept b o hb.1 hb.2 z
        · simp at hb; exact kept b o hb.1 hb.2 z
        · exact kept _ o (Ne.symm fa.2.1) (Ne.symm fk.2.1) z
      exact h H' _ _ c I4 x1 fa n3 ⟨s'.heap, kA.toList, alike_int _, rfl, hr⟩
end
end SoI
end
section
set_option Elab.async false
set_option linter.all false
set_option maxRecDepth 100000
set_option maxHeartbeats 4000000
/-! sorted(xs, key=f) and sorted(xs) of data, as rules. -/
namespace SoI
open PySem PySem.Spec PyProof.Rows L2 Evl PySem.W PySem.Calls
open DL (Tr spP Dt DtR dI off DtAll dpAll_mono off_mono off_ex)
theorem each_of_mem {α β : Type} {R : α → β → Prop} : ∀ {as : List α} {bs : List β}, as.length = bs.length → (∀ (i : Nat) a b, as[i]? = some a → bs[i]? = some b → R a b) → EachIs R as bs
  | [], [], _, _ => .nil
  | a :: as, b :: bs, hl, h => .cons (h 0 a b rfl rfl) (each_of_mem (by simpa using hl) fun i x y hx hy => h (i + 1) x y (by simpa using hx) (by simpa using hy))
  | [], _ :: _, hl, _ => by simp at hl
  | _ :: _, [], hl, _ => by simp at hl
/-- the values behind what is sorted -/
theorem back_each {K : PySem.W.Frag} {H : Hp} {β : Type} (enc : β → PyData) : ∀ {out : List Value} {bs : List β}, EachIs (fun v b => ∃ x : V, RelV x v ∧ Dp K H x (enc b)) out bs → ∃ ws : List V, Vals ws out ∧ DpAll K H ws (bs.map enc)
  | [], [], .nil => ⟨[], .nil, .nil⟩
  | _ :: _, _ :: _, .cons ⟨x, r, d⟩ t => by
    obtain ⟨ws, h1, h2⟩ := back_each enc t
    exact ⟨x :: ws, .cons r h1, .cons d h2⟩
theorem vals_get {ws : List V} {us : List Value} (r : Vals ws us) {i : Nat} {u : Value} (h : us[i]? = some u) : ∃ x, ws[i]? = some x ∧ RelV x u := by
  have hl := r.length
  have hi := (List.getElem?_eq_some_iff.mp h).1
  have hw : i < ws.length := by omega
  obtain ⟨u', h1, h2⟩ := r.get (i := i) (List.getElem?_eq_getElem hw)
  rw [h] at h1
  cases h1
  exact ⟨_, List.getElem?_eq_getElem hw, h2⟩
section
variable {X : Cx}
def sortK (bs : List (PyData × Int)) : List (PyData × Int) := bs.mergeSort fun a b => decide (a.2 ≤ b.2)
def rSortKeyI (K : PySem.W.Frag) (f : Addr) (T : Tr) : List V → List V → Hp → VK → Prop := fun vs zs H Q => ∃ (L : List Addr) (a : Addr) (xs : List V) (bs : List (PyData × Int)), vs = [.ref a] ∧ zs = [.ref f] ∧ (∀ b ∈ L, H b ≠ none) ∧ SqL K H a xs ∧ DpAll K (off L H) xs (bs.map (·.1)) ∧
  (∀ b ∈ bs, T [.d b.1] fun z => z = dI b.2) ∧ ∀ p ws H', Ex H H' → H' p = none → DpAll K (off L H') ws ((sortK bs).map (·.1)) → Q (.ref p) (upd H' p (.lst ws))
theorem cr_sortKeyI {f : Addr} {k : Nat} {T : Tr} (F : FnR X.prog X.w X.K X.mg X.base CX0 k f (spP X.K T)) (hr : Room (k + 2) X.A) : CallRK X (.builtin "sorted") [Str.ofString "key"] (rSortKeyI X.K f T) := by
  intro pins s σ H vs zs us ws0 Q I r rz h
  obtain ⟨L, a, xs, bs, rfl, rfl, hL, hs, hd, hT, q⟩ := h
  obtain ⟨u, rfl, ru⟩ := vals1 r
  obtain rfl : u = Value.ref a := ru
  obtain ⟨u2, rfl, ru2⟩ := vals1 rz
  obtain rfl : u2 = Value.ref f := ru2
  obtain ⟨its, rv, hl, hz⟩ := I.list hs
  have lx : xs.length = bs.length := by rw [DL.dpa_length hd, List.length_map]
  have li : its.length = bs.length := by rw [← rv.length, lx]
  have hzi : its.length ≤ sizeLine := by rw [← rv.length]; exact hz
  show wpAny _ _ (call (.builtin "sorted") [.ref a] [(Str.ofString "key", .ref f)]) _ _ _
  refine sorted_of_sort hl.isList hzi (ksk_s1 _ _) (fun _ => ksk_l1 _ _) fun E' => ?_
  rw [ksk_t1]
  have ho := copyHeap_at s.heap its
  have ha : s.heap.objs.size + 1 < (copyHeap s.heap its).objs.size := Heap.lt_size ho
  obtain ⟨e1, ho1⟩ : ∃ e1, ((copyHeap s.heap its).update (s.heap.objs.size + 1) (Obj.mapSeq fun _ => (#[] : Array Value))).get? (s.heap.objs.size + 1) = some (seqObj "list" #[] e1) := ⟨_, get?_update_seq ho fun _ => #[]⟩
  have hkS : (((copyHeap s.heap its).update (s.heap.objs.size + 1) (Obj.mapSeq fun _ => (#[] : Array Value))).push (seqObj "tuple" its.toArray 0)).objs.size = (copyHeap s.heap its).objs.size + 1 := by rw [size_push', Heap.size_update]
  unfold ksk_tree
  refine wpAny_bind (listItems_at ho rfl ?_)
  refine wpAny_bind (listUpdate_at ho rfl ?_ (by rw [List.size_toArray]; exact hzi) (Nat.zero_le _))
  refine wpAny_bind (seqEpoch_at ho1 rfl ?_)
  refine wpAny_bind (wpAny_newTuple ?_ (by show its.length ≤ _; exact hzi))
  refine wpAny_bind (wpAny_newList ?_ (Nat.zero_le _))
  refine wpAny_holding ?_
  have up : ∀ b o, s.heap.get? b = some o → (sortingHeap (copyHeap s.heap its) (s.heap.objs.size + 1) its).get? b = some o := fun b o z => sorting_copy_old z
  have I1 : L2.Inv X pins σ H { s with heap := sortingHeap (copyHeap s.heap its) (s.heap.objs.size + 1) its } := I.kept (t' := s.toks) up
  have big : s.heap.objs.size + 1 ≤ (copyHeap s.heap its).objs.size + 1 := by omega
  have fa : FpOk X pins H (s.heap.objs.size + 1) := I.fpOk (Nat.le_succ _) (I.hok.fresh (Nat.le_succ _))
  have fk : FpOk X pins H ((copyHeap s.heap its).objs.size + 1) := I.fpOk (by omega) (I.hok.fresh (by omega))
  have hR : EachIs (fun v (b : PyData × Int) => ∃ x : V, RelV x v ∧ Dp X.K (off L H) x b.1) its bs := each_of_mem li fun i v b hv hb => by
    obtain ⟨x, hx, rx⟩ := vals_get rv hv
    obtain ⟨d, hd1, hd2⟩ := DL.dpa_getV hd hx
    rw [List.getElem?_map, hb] at hd1
    cases hd1
    exact ⟨x, rx, hd2⟩
  refine key_rest_I (kz := bs.map (·.2)) (pins := pins) (σ := σ) (H := H) (s := { s with heap := sortingHeap (copyHeap s.heap its) (s.heap.objs.size + 1) its }) (a := s.heap.objs.size + 1) (kS := (((copyHeap s.heap its).update (s.heap.objs.size + 1) (Obj.mapSeq fun _ => (#[] : Array Value))).push (seqObj "tuple" its.toArray 0)).objs.size)
    ⟨H, #[], 0, I1, Ex.refl H, fa, by rw [hkS]; exact fk, Heap.get?_push_size _ rfl, Heap.get?_push_of_some _ (Heap.get?_push_of_some _ ho1), .nil⟩ (by rw [hkS]; exact Nat.ne_of_gt (Nat.lt_succ_of_lt ha)) (by rw [List.length_map, li]) hzi (by have := hr.units; show X.A.units + 1 + 1 + 1 < cLine; omega) (fun i v n hv hn pins' H' s' I' x1 => ?_) fun H' s' out c I' x1 fa' nk ko => ⟨rfl, ?_⟩
  · rw [List.getElem?_map] at hn
    obtain ⟨b, hb, en⟩ := Option.map_eq_some_iff.mp hn
    subst en
    obtain ⟨x, hx, rx⟩ := vals_get rv hv
    obtain ⟨d, hd1, hd2⟩ := DL.dpa_getV hd hx
    rw [List.getElem?_map, hb] at hd1
    cases hd1
    have dom' : ∀ b ∈ L, H' b ≠ none := fun b hb => by
      cases z : H b with
      | none => exact absurd z (hL b hb)
      | some o => rw [x1 b o z]; exact fun q => nomatch q
    refine wpAny_call (codeAny_mono (F X.A.in1.in1 X.stack s' H' [v] [x] (fun z H2 => Ex H' H2 ∧ z = .int b.2) E0 (show Room (k + 1) X.A.in1 from hr.in1).in1 I'.env0.in1.in1 (.cons rx .nil) ⟨L, [.d b.1], _, dom', .cons (DL.dp_mono (off_mono x1) hd2) .nil, hT b (List.mem_of_getElem? hb), fun z H2 dd ez y rd => ⟨y, by subst ez; cases rd; rfl⟩⟩) fun r s2 hq => ?_)
    cases r with
    | error e => exact hq.elim
    | ok fl =>
      cases fl with
      | ret u =>
        obtain ⟨z, H2, I2, rz, x2, ez⟩ := I'.after hq
        subst ez
        obtain ⟨t, et⟩ := (show ∃ t, u = Value.int b.2 t from rz)
        exact ⟨t, H2, et, I2, x2⟩
      | next => exact hq.elim
      | brk => exact hq.elim
      | cont => exact hq.elim
  · have ho' : EachIs (fun v (b : PyData × Int) => ∃ x : V, RelV x v ∧ Dp X.K (off L H) x b.1) out (bs.mergeSort (dataLe false fun b : PyData × Int => .int b.2)) :=
      keyedOut_each (fun b : PyData × Int => .int b.2) (by rw [show bs.map (fun b : PyData × Int => PyData.int b.2) = (bs.map (·.2)).map PyData.int by rw [List.map_map]; rfl]; exact ko) hR
    rw [dataLe_int (fun b : PyData × Int => b.2)] at ho'
    obtain ⟨ws, r1, r2⟩ := back_each (fun b : PyData × Int => b.1) ho'
    have hlen : ws.length ≤ sizeLine := by
      rw [r1.length, ho'.length, List.length_mergeSort, ← lx]
      exact hz
    have nn : ∀ b, H' b ≠ none → b ≠ s.heap.objs.size + 1 := fun b z e => z (e ▸ fa'.1)
    have hok : HOk X.prog X.w (upd H' (s.heap.objs.size + 1) (.lst ws)) s'.heap := fun b o q => by
      by_cases hb : b = s.heap.objs.size + 1
      · subst hb
        rw [upd_same] at q
        cases q
        exact ⟨hlen, out, c, r1, nk⟩
      · rw [upd_ne hb] at q
        exact (I'.hok b o q).stay (fun c v hc z => z) (fun c z => by rw [upd_ne (nn c (by rw [z]; simp))]; exact z) (fun c xs z => by rw [upd_ne (nn c (by rw [z]; simp))]; exact z)
    have I4 : L2.Inv X pins σ (upd H' (s.heap.objs.size + 1) (.lst ws)) { s' with heap := s'.heap, gens := s'.gens, drawn := s'.drawn, toks := s'.toks } := by
      refine I'.step (ch := [s.heap.objs.size + 1]) (fun b hb => ?_) (fun b o _ _ _ z _ => z) (fun b o _ _ _ z _ => ⟨o.slots, z⟩) (fun b o hb _ n => ?_) (fun b o _ z => ⟨o, z⟩) (fun b xs z => ?_) (fun b o u z => ?_) (fun b ps z => ⟨#[], ?_⟩) (fun m hm => hm) hok I'.bare
      · rw [List.mem_singleton.mp hb]; exact ⟨fa'.2.2.2.1, fa'.2.1, fa'.2.2.2.2.1, fa'.2.2.2.2.2⟩
      · rw [upd_ne (by simpa using hb)]; exact n
      · rw [upd_ne (nn b (by rw [z]; simp))]; exact z
      · rw [upd_ne (nn b (by rw [z]; simp))]; exact z
      · rw [upd_ne (nn b (by rw [z]; simp)), z]; simp
    exact ⟨.ref _, _, I4, rfl, q _ ws H' x1 fa'.1 (dpAll_mono (off_mono x1) r2)⟩
end
end SoI
end
section
set_option Elab.async false
set_option linter.all false
set_option maxRecDepth 100000
set_option maxHeartbeats 4000000
/-! The data logic: sorted. -/
namespace SoI
open PySem PySem.Spec PyProof.Rows L2 Evl PySem.W PySem.Calls
open DL (Tr spP Dt DtR dI off DtAll dpAll_mono off_mono off_ex)
section
variable {X : Cx}
/-- sorted(xs), xs data that are alike -/
def rSortD (K : PySem.W.Frag) (n : Nat) : List V → Hp → VK → Prop := fun vs H Q => ∃ (L : List Addr) (a : Addr) (xs : List V) (ds : List PyData), vs = [.ref a] ∧ SqL K H a xs ∧ DpAll K (off L H) xs ds ∧ AllAlike ds ∧ Sortable ds ∧ (∀ d ∈ ds, n + 2 + d.depth < cLine) ∧
  ∀ p ws H', Ex H H' → H' p = none → DpAll K (off L H') ws (ds.mergeSort (dataLe false id)) → Q (.ref p) (upd H' p (.lst ws))
theorem cr_sortD : CallR X (.builtin "sorted") (rSortD X.K X.A.units) := by
  intro pins s σ H vs us Q I r h
  obtain ⟨L, a, xs, ds, rfl, hs, hd, hal, hso, hu, q⟩ := h
  obtain ⟨u, rfl, ru⟩ := vals1 r
  obtain rfl : u = Value.ref a := ru
  obtain ⟨its, rv, hl, hz⟩ := I.list hs
  have li : its.length = ds.length := by rw [← rv.length, DL.dpa_length hd]
  have hR : EachIs (fun v (b : PyData) => ∃ x : V, RelV x v ∧ Dp X.K (off L H) x b) its ds := each_of_mem li fun i v b hv hb => by
    obtain ⟨x, hx, rx⟩ := vals_get rv hv
    obtain ⟨d, hd1, hd2⟩ := DL.dpa_getV hd hx
    rw [hb] at hd1
    cases hd1
    exact ⟨x, rx, hd2⟩
  have hr : EachIs (fun v (b : PyData) => ∃ as, Reads s.heap v (id b) as) its ds := hR.mono fun v b ⟨x, rx, dx⟩ => Dp.reads I b x v (DL.dp_mono off_ex dx) rx
  refine sorted_data (enc := id) hl.isList hR hr (by rw [List.map_id]; exact hal) (by rw [List.map_id]; exact hso) (by rw [← li, ← rv.length]; exact hz) (fun b hb => hu b hb) fun out hol ho' => ?_
  obtain ⟨ws, r1, r2⟩ := back_each id ho'
  rw [List.map_id] at r2
  obtain ⟨ep, he'⟩ := PyProof.Rows.sortedAll_at s.heap its out.toArray
  have hlen : ws.length ≤ sizeLine := by
    rw [r1.length, hol, ← li, ← rv.length]
    exact hz
  exact ⟨.ref _, upd H (s.heap.objs.size + 1) (.lst ws), I.laid (t' := s.toks) (fun _ _ => PyProof.Rows.sortedAll_old) (Nat.le_succ _) ⟨hlen, out, ep, r1, he'⟩, rfl, q _ ws H (Ex.refl H) (I.hok.fresh (Nat.le_succ _)) r2⟩
end
end SoI
namespace DL
open PySem PySem.Spec PyProof.Rows L2 Evl
section
variable {X : Cx} {ρ : DEnv} {N : List PyData → DEnv → Prop} {e : Expr} {pos p kp kpos : Pos} {k : Nat} {x : Str} {T : Tr}
theorem EnvOk.laid {K : PySem.W.Frag} {H0 H H' : Hp} {M O S : List Addr} {σ : L2.St} {p : Addr} (E : EnvOk K H0 M O S ρ σ H) (y : Ex H H') (hp : H' p = none) (o : HO) : p ∉ O ++ M ∧ EnvOk K H0 M O S ρ σ (upd H' p o) ∧ EnvOk K H0 M (p :: O) S ρ σ (upd H' p o) := by
  obtain ⟨h1, h2, h3⟩ := (E.grow y).fresh hp o
  exact ⟨h3, h1, h2⟩
/-- sorted(e, key=f) -/
theorem en_sortK (F : OwnX X k x (spP X.K T)) (hr : Room (k + 2) X.A) (hgs : Gl X "sorted") (hms : X.mg "sorted" = none) (hvs : bootBuiltins "sorted" = some (.builtin "sorted")) (hg : Gl X x)
    (h : EvQ X e ρ fun b ds ρ' => b = false ∧ ∃ bs : List (PyData × Int), ds = bs.map (·.1) ∧ (∀ b ∈ bs, T [.d b.1] fun z => z = dI b.2) ∧ N ((SoI.sortK bs).map (·.1)) ρ') (hdb : (x == ("__debug__" : Str)) = false := by decide)
    (he : backTo pos (starEach [e] X.env) = (false, eval e X.env) :: backTo pos (starEach [] X.env) := by rfl) (hs1 : starEach [e] X.env = (false, eval e X.env) :: starEach [] X.env := by rfl) (hpl : (backTo pos (starEach [e] X.env)).any (·.1) = false := by rfl)
    (hall : (backToKw pos (keywordEach [⟨some "key", .Name x kp, kpos⟩] X.env)).all (·.1.isSome) = true := by rfl) (hnone : (backToKw pos (keywordEach [⟨some "key", .Name x kp, kpos⟩] X.env)).any (·.1.isNone) = false := by rfl) (hks : (backToKw pos (keywordEach [⟨some "key", .Name x kp, kpos⟩] X.env)).filterMap (·.1) = [Str.ofString "key"] := by rfl) :
    EvN X (.Call (.Name "sorted" p) [e] [⟨some "key", .Name x kp, kpos⟩] pos) ρ N := by
  obtain ⟨f, fd, ps, F, hm, hk, hb⟩ := F.ex
  have F1 : FnR X.prog X.w X.K X.mg X.base CX0 k f (spP X.K T) := (F.raw hb .nil).imp fun vs H Q E q => by rw [List.append_nil]; exact q
  refine fun H0 M O S σ H E R kk => ⟨_, pe_callBK (SoI.cr_sortKeyI F1 hr) hgs hms hvs (pa_cons pe_w pa_nil hs1) (pk_cons (pe_glob (v := .ref f) hg hm rfl hdb) pk_nil) (by decide) (by decide) he hpl hall hnone hks, h H0 M O S σ H E _ fun a vs H1 b ds ρ1 ⟨eb, bs, ed, hT, q⟩ E1 sq r => ?_⟩
  subst eb ed
  refine ⟨O ++ M, a, vs, bs, rfl, rfl, E1.dom, by simpa using sq, r, hT, fun p ws H' y hp rw' => ?_⟩
  obtain ⟨n1, E2, E3⟩ := E1.laid y hp (.lst ws)
  exact kk p ws _ _ ρ1 q n1 E2 E3 upd_same (dpAll_mono (off_new hp) rw')
/-- sorted(e) -/
theorem en_sort (hgs : Gl X "sorted") (hms : X.mg "sorted" = none) (hvs : bootBuiltins "sorted" = some (.builtin "sorted"))
    (h : EvQ X e ρ fun b ds ρ' => b = false ∧ PySem.W.AllAlike ds ∧ PySem.W.Sortable ds ∧ (∀ d ∈ ds, X.A.units + 2 + d.depth < cLine) ∧ N (ds.mergeSort (PySem.W.dataLe false id)) ρ') (he : starEach [e] X.env = (false, eval e X.env) :: starEach [] X.env := by rfl) :
    EvN X (.Call (.Name "sorted" p) [e] [] pos) ρ N := by
  refine fun H0 M O S σ H E R kk => ⟨_, pe_callB SoI.cr_sortD hgs hms hvs (pa_cons pe_w pa_nil he) (by decide) (by decide) he, h H0 M O S σ H E _ fun a vs H1 b ds ρ1 ⟨eb, h1, h2, h3, q⟩ E1 sq r => ?_⟩
  subst eb
  refine ⟨O ++ M, a, vs, ds, rfl, by simpa using sq, r, h1, h2, h3, fun p ws H' y hp rw' => ?_⟩
  obtain ⟨n1, E2, E3⟩ := E1.laid y hp (.lst ws)
  exact kk p ws _ _ ρ1 q n1 E2 E3 upd_same (dpAll_mono (off_new hp) rw')
end
end DL
end
section
set_option Elab.async false
set_option linter.all false
set_option maxRecDepth 100000
set_option maxHeartbeats 4000000
namespace K87
open PySem PySem.Spec PyProof.Rows L2 DL
theorem wfB_iff {p : Int} {n : Nat} {a : List Int} : wfB p n a = true ↔ Wf p n a := by
  unfold wfB Wf
  rw [Bool.and_eq_true, beq_iff_eq, List.all_eq_true]
  refine and_congr Iff.rfl ⟨fun h x hx => ?_, fun h x hx => ?_⟩
  · have := Bool.and_eq_true_iff.mp (h x hx)
    exact ⟨of_decide_eq_true this.1, of_decide_eq_true this.2⟩
  · rw [Bool.and_eq_true]
    exact ⟨decide_eq_true (h x hx).1, decide_eq_true (h x hx).2⟩
theorem all_mem {p : Int} (p0 : 0 < p) : ∀ {n : Nat} {row : List Int}, Wf p n row → row ∈ allL p n
  | 0, row, h => by
    have : row = [] := List.length_eq_zero_iff.mp h.1
    rw [this]
    simp [allL]
  | n + 1, row, h => by
    obtain ⟨init, x, rfl⟩ : ∃ init x, row = init ++ [x] := by
      rcases List.eq_nil_or_concat row with e | ⟨i, x, e⟩
      · rw [e] at h; exact absurd h.1 (by simp)
      · exact ⟨i, x, by rw [e]; simp⟩
    have hl : init.length = n := by have := h.1; simpa using this
    refine List.mem_flatMap.mpr ⟨init, all_mem p0 ⟨hl, fun y hy => h.2 y (by simp [hy])⟩, List.mem_map.mpr ⟨x, ?_, rfl⟩⟩
    have hx := h.2 x (by simp)
    unfold rangeI
    exact List.mem_map.mpr ⟨x.toNat, List.mem_range.mpr (by omega), by omega⟩
section
variable {p : Int} {n : Nat} (hc : (p, n) ∈ combos)
include hc
theorem chk_raw : chkRaw (p, n) = true := List.all_eq_true.mp raw_all _ hc
theorem raw_nil : [] ∈ rawS p n := by
  have := chk_raw hc
  unfold chkRaw at this
  simp only [Bool.and_eq_true] at this
  exact List.contains_iff_mem.mp this.1
theorem raw_s {s : List (List Int)} (hs : s ∈ rawS p n) : Rows p n s ∧ s.length ≤ n ∧ ∀ v, Wf p n v → stepL p s v ∈ rawS p n ∧ (leadL (restL p v s) < (restL p v s).length → invOk p ((restL p v s).getD (leadL (restL p v s)) 0) = true) := by
  have h0 := chk_raw hc
  unfold chkRaw at h0
  simp only [Bool.and_eq_true] at h0
  have h1 := List.all_eq_true.mp h0.2 s hs
  simp only [Bool.and_eq_true] at h1
  obtain ⟨⟨h2, h3⟩, h4⟩ := h1
  have p0 : 0 < p := by
    have : combos.all (fun c => decide (0 < c.1)) = true := by decide +kernel
    exact of_decide_eq_true (List.all_eq_true.mp this _ hc)
  refine ⟨fun o ho => ?_, of_decide_eq_true h3, fun v hv => ?_⟩
  · have := Bool.and_eq_true_iff.mp (List.all_eq_true.mp h2 o ho)
    exact ⟨wfB_iff.mp this.1, of_decide_eq_true this.2⟩
  · have h5 := List.all_eq_true.mp h4 v (all_mem p0 hv)
    have h6 := Bool.and_eq_true_iff.mp h5
    refine ⟨List.contains_iff_mem.mp h6.1, fun hl => ?_⟩
    have h7 : (decide ((restL p v s).length ≤ leadL (restL p v s)) || invOk p ((restL p v s).getD (leadL (restL p v s)) 0)) = true := h6.2
    rcases Bool.or_eq_true_iff.mp h7 with q | q
    · have := of_decide_eq_true q
      omega
    · exact q
theorem combo_p : 0 < p ∧ p ≤ 5 ∧ 1 ≤ n ∧ n ≤ 3 := by
  have : combos.all (fun c => decide (0 < c.1 ∧ c.1 ≤ 5 ∧ 1 ≤ c.2 ∧ c.2 ≤ 3)) = true := by decide +kernel
  exact of_decide_eq_true (List.all_eq_true.mp this _ hc)
theorem raw_fold : ∀ {rows s : List (List Int)}, s ∈ rawS p n → (∀ r ∈ rows, Wf p n r) → rows.foldl (stepL p) s ∈ rawS p n
  | [], s, h, _ => h
  | r :: rs, s, h, hr => raw_fold (rows := rs) (((raw_s hc h).2.2 r (hr r List.mem_cons_self)).1) fun x hx => hr x (List.mem_cons_of_mem _ hx)
end
section
variable {P : Program} {w : World} {K : PySem.W.Frag} {mg : Str → Option Value} {base : Heap} {f : Addr} {fd : FuncData}
/-! ### reduced -/
abbrev sRed : Stmt := top 16
abbrev nRed : List Str := ["rows", "prime", "found", "row", "place", "other"]
theorem scRed : FnScope nRed ["rows", "prime"] (defScope sRed) := ⟨rfl, rfl, rfl, by decide +kernel, rfl, by decide +kernel, by decide +kernel⟩
def tRed : Tr := fun ds Z => ∃ (p : Int) (n : Nat) (rows : List (List Int)), ds = [dL (rows.map pT), dI p] ∧ (p, n) ∈ combos ∧ rows.length ≤ 1000 ∧ (∀ r ∈ rows, Wf p n r) ∧ Z (dL ((redL p rows).map pT))
theorem own_red (B : Bl mg) (h : At K mg "reduced" sRed f fd) (oR : Own P w K mg base 2 "rest_of" (spP K tRest)) (oA : Own P w K mg base 1 "added" (spP K tAdded)) (oL : Own P w K mg base 1 "lead" (spP K tLead)) (oS : Own P w K mg base 1 "scaled" (spP K tScaled)) (oI : Own P w K mg base 1 "inverse" (spP K tInv)) : Own P w K mg base 4 "reduced" (spP K tRed) := by
  refine def_pure h.fn scRed h.mg (h.fn.binds fun _ _ _ _ _ _ us hl => match us, hl with | [_, _], _ => rfl) (fun ds Z ⟨_, _, _, e, _⟩ => by rw [e]; rfl) fun cdv A outer s H E hr ds Z ⟨p, n, rows, ed, hc, hl, hw, q⟩ => ?_
  subst ed
  obtain ⟨p0, p5, n1, n3⟩ := combo_p hc
  refine run_cons (rs_asg (i := 2) scRed.nd rfl (Or.inl rfl) (ev_new (en_lst (ea_nil ⟨[], rfl, Nat.zero_le _, ?_⟩))))
  refine run_cons (rs_for (.one 3) PassesOwn.never rfl (pg_name (i := 3) scRed.nd rfl (Or.inr rfl)) (ei_list (ev_v 0 rfl ⟨_, rfl, fun i ρ' => ∃ a b, ρ' = [some (.im (dL (rows.map pT))), some (.im (dI p)), some (.im (dL ((rawL p (rows.take i)).map pT))), a, b, none], ⟨_, _, rfl⟩, fun i y ρ' hy ⟨a, b, er⟩ => ⟨_, rfl, ?_⟩, fun ρ' ⟨a, b, er⟩ => ?_⟩)))
  · subst er
    rw [List.getElem?_map] at hy
    obtain ⟨row, hrow, ey⟩ := Option.map_eq_some_iff.mp hy
    subst ey
    have wrow := hw row (List.mem_of_getElem? hrow)
    have hs0 : rawL p (rows.take i) ∈ rawS p n := raw_fold hc (raw_nil hc) fun r hr => hw r (List.mem_of_mem_take hr)
    have e1 : rawL p (rows.take (i + 1)) = stepL p (rawL p (rows.take i)) row := by
      rw [take_succ hrow]
      unfold rawL
      rw [List.foldl_append]
      rfl
    generalize hs : rawL p (rows.take i) = s0 at hs0 e1 ⊢
    obtain ⟨rs, ls, hv⟩ := raw_s hc hs0
    obtain ⟨hstep, hinv⟩ := hv row wrow
    have wr : Wf p n (restL p row s0) := wf_restL p0 wrow fun o ho => (rs o ho).1.1
    refine run_cons (rs_asg (i := 3) scRed.nd rfl (Or.inr rfl) (ev_call oR (hr.mono (by decide)) rfl (ea_cons (ev_v 3 rfl (ea_cons (ev_v 2 rfl (ea_cons (ev_v 1 rfl (ea_nil ⟨p, n, row, s0, rfl, p0, by omega, by omega, wrow, rs, ?_⟩)))))))))
    refine run_cons (rs_asg (i := 4) scRed.nd rfl (Or.inr rfl) (ev_call oL (hr.mono (by decide)) rfl (ea_cons (ev_v 3 rfl (ea_nil ⟨_, rfl, by rw [wr.1]; omega, ?_⟩)))))
    generalize hr0 : restL p row s0 = r at wr hinv ⊢
    refine run_one (rs_if (et_cmpI rfl (ev_v 4 rfl (ev_len rfl B.len (eq_tup (ev_v 3 rfl ⟨_, rfl, _, _, rfl, rfl, fun hlt => ?yes, fun hge => ?no⟩))))))
    case no =>
      have hn' : ¬ leadL r < r.length := by
        have := of_decide_eq_false hge
        rw [len_pI] at this
        omega
      refine run_nil ⟨some (.im (dT (pI r))), some (.im (dI (leadL r))), ?_⟩
      have e2 : stepL p s0 row = s0 := by
        unfold stepL
        rw [hr0]
        simp only [if_neg hn']
      rw [e1, e2]
      rfl
    case yes =>
      have hlt' : leadL r < r.length := by
        have := of_decide_eq_true hlt
        rw [len_pI] at this
        omega
      have ok := hinv hlt'
      obtain ⟨z, hz⟩ := get_lt hlt'
      have ez : r.getD (leadL r) 0 = z := by rw [List.getD_eq_getElem?_getD, hz]; rfl
      rw [ez] at ok
      have zb := wr.2 z (List.mem_of_getElem? hz)
      unfold invOk at ok
      simp only [Bool.and_eq_true] at ok
      obtain ⟨⟨k1, k2⟩, k3⟩ := ok
      have k1' := of_decide_eq_true k1
      have k2' := of_decide_eq_true k2
      have kb : invL p z ≤ 4 := by
        unfold invL
        cases q : (List.range 5).find? fun (k : Nat) => ((k : Int) * z) % p == 1 with
        | none => show 1 ≤ 4; omega
        | some k =>
          have := List.mem_of_find?_eq_some q
          have := List.mem_range.mp this
          show k ≤ 4
          omega
      refine run_cons (rs_asg (i := 3) scRed.nd rfl (Or.inr rfl) (ev_call oS (hr.mono (by decide)) rfl (ea_cons (ev_v 3 rfl ?_))))
      refine ea_cons (ev_call oI (hr.mono (by decide)) rfl (ea_cons (ev_ix (fun _ _ => rfl) (ev_v 3 rfl (ev_v 4 rfl ⟨_, _, _, .inr rfl, rfl, atI_pI hz, ?_⟩)))))
      refine ea_cons (ev_v 1 rfl (ea_nil ⟨z, p, invL p z, rfl, p0, ⟨by omega, by omega⟩, k1', k2', fun j j1 jk => ?_, ?_⟩))
      · have := List.all_eq_true.mp k3 j (List.mem_range.mpr jk)
        rcases Bool.or_eq_true_iff.mp this with e | e
        · have := beq_iff_eq.mp e
          omega
        · exact of_decide_eq_true e
      refine ea_cons (ev_v 1 rfl (ea_nil ⟨r, (invL p z : Nat), p, rfl, by rw [wr.1]; omega, p0, ⟨by omega, by omega⟩, ?_⟩))
      have eq1 : (r.map fun n => n * ((invL p z : Nat) : Int) % p) = scaleL p (invL p (r.getD (leadL r) 0)) r := by rw [ez]; rfl
      rw [eq1]
      generalize hr' : scaleL p (invL p (r.getD (leadL r) 0)) r = r'
      have lr' : r'.length = n := by rw [← hr']; unfold scaleL; rw [List.length_map]; exact wr.1
      have e2 : stepL p s0 row = (s0.map fun o => addL p o r' (-(o.getD (leadL r) 0))) ++ [r'] := by
        unfold stepL
        rw [hr0]
        simp only [if_pos hlt', hr']
      refine run_cons (rs_asgLcO (i := 2) (own := [("other", 5)]) (.one 5) rfl scRed.nd rfl rfl (sw_true rfl rfl rfl (by decide +kernel)) rfl (blkOk_by (N := nRed) (sc := defScope sRed) (by decide +kernel)) (fun _ _ _ _ _ => pg_name (i := 5) scRed.nd rfl (Or.inl rfl)) (lch_map (fun z => match z with | .tuple xs => pT (addL p (xs.map unI) r' (-((xs.map unI).getD (leadL r) 0))) | d => d) ?_))
      refine ei_list (ev_v 2 rfl ⟨_, rfl, by rw [List.length_map]; exact sz (by omega), fun j y hy => ?_, ?_⟩)
      · rw [List.getElem?_map] at hy
        obtain ⟨o, ho, ey⟩ := Option.map_eq_some_iff.mp hy
        subst ey
        obtain ⟨wo, lo⟩ := rs o (List.mem_of_getElem? ho)
        obtain ⟨u, hu⟩ := get_lt (xs := o) (i := leadL r) (by rw [wo.1, ← wr.1]; exact hlt')
        have ub := wo.2 u (List.mem_of_getElem? hu)
        refine ⟨_, rfl, fun s H C cl fp => ?_⟩
        refine ev_call oA (hr.mono (by decide)) rfl (ea_cons (ev_v 5 rfl (ea_cons (ev_v 3 rfl ?_))))
        refine ea_cons (ev_neg (ev_ix (fun _ _ => rfl) (ev_v 5 rfl (ev_v 4 rfl ⟨_, _, _, .inr rfl, rfl, atI_pI hu, u, rfl, ?_⟩))))
        refine ea_cons (ev_v 1 rfl (ea_nil ⟨o, r', -u, p, rfl, by rw [wo.1]; omega, p0, ⟨by omega, by omega⟩, ?_, rfl⟩))
        show dT (pI (addL p o r' (-u))) = Dt.d (pT (addL p (unT (pT o)) r' (-((unT (pT o)).getD (leadL r) 0))))
        rw [unT_pT, List.getD_eq_getElem?_getD, hu]
        rfl
      · have e3 : (s0.map pT).map (fun z => match z with | .tuple xs => pT (addL p (xs.map unI) r' (-((xs.map unI).getD (leadL r) 0))) | d => d) = (s0.map fun o => addL p o r' (-(o.getD (leadL r) 0))).map pT := by
          rw [List.map_map, List.map_map]
          refine List.map_congr_left fun o _ => ?_
          show pT (addL p (unT (pT o)) r' (-((unT (pT o)).getD (leadL r) 0))) = _
          rw [unT_pT]
          rfl
        rw [e3]
        refine run_cons (rs_append 2 rfl (Or.inl rfl) (ev_v 3 rfl ⟨_, _, rfl, rfl, ?_, ?_⟩) (ho := ⟨_, rfl⟩))
        · rw [List.length_map, List.length_map]
          exact small1000 (by omega)
        refine run_freeze 2 rfl (run_nil ⟨some (.im (dT (pI r'))), some (.im (dI (leadL r))), ?_⟩)
        rw [e1, e2, List.map_append]
        rfl
  · subst er
    have el : (rows.map pT).length = rows.length := List.length_map ..
    rw [el, List.take_length]
    have hs1 : rawL p rows ∈ rawS p n := raw_fold hc (raw_nil hc) hw
    obtain ⟨rs, ls, _⟩ := raw_s hc hs1
    refine run_one (rs_ret (ev_new (en_sortK oL (hr.mono (by decide)) rfl B.sorted (by decide +kernel) rfl (eq_list (ev_v 2 rfl ⟨_, rfl, rfl, (rawL p rows).map (fun o => (pT o, (leadL o : Int))), ?_, fun b hb => ?_, ?_⟩)))))
    · rw [List.map_map]
      rfl
    · obtain ⟨o, ho, eb⟩ := List.mem_map.mp hb
      subst eb
      exact ⟨o, rfl, by rw [(rs o ho).1.1]; omega, rfl⟩
    · have e4 : SoI.sortK ((rawL p rows).map fun o => (pT o, (leadL o : Int))) = ((rawL p rows).mergeSort leadLe).map fun o => (pT o, (leadL o : Int)) := by
        unfold SoI.sortK
        refine (PySem.W.sort_maps (r := leadLe) (fun o => (pT o, (leadL o : Int))) fun a _ b _ => ?_).symm
        unfold leadLe
        simp
      rw [e4, merge_isort leadLe_total, List.map_map]
      exact q
end
end K87
end
section
set_option Elab.async false
set_option linter.all false
set_option maxRecDepth 100000
set_option maxHeartbeats 4000000
namespace K87
open PySem PySem.Spec PyProof.Rows L2 DL
/-- a tuple (b) or a list -/
def sq (b : Bool) (xs : List PyData) : PyData := if b = true then .tuple xs else .list xs
theorem sq_or (b : Bool) (xs : List PyData) : Dt.d (sq b xs) = dL xs ∨ Dt.d (sq b xs) = dT xs := by cases b <;> simp [sq]
theorem sq_or' (b : Bool) (xs : List PyData) : Dt.d (sq b xs) = dT xs ∨ Dt.d (sq b xs) = dL xs := (sq_or b xs).symm
theorem sq_is (b : Bool) (xs : List PyData) : (isD (sq b xs) "list" || isD (sq b xs) "tuple") = true := by cases b <;> rfl
/-- pieces, as tuples or as lists (the rows are tuples) -/
def sqPc (b : Bool) (pc : List (List Int)) : PyData := sq b (pc.map pT)
def sqPs (b : Bool) (ps : List (List (List Int))) : PyData := sq b (ps.map (sqPc b))
/-- what a table of k87 is made of -/
def WfT (p : Int) (n : Nat) (ps : List (List (List Int))) : Prop := 1 ≤ ps.length ∧ ps.length ≤ 5 ∧ ∀ pc ∈ ps, 1 ≤ pc.length ∧ pc.length ≤ 2 ∧ ∀ r ∈ pc, Wf p n r
theorem WfT.ps {p : Int} {n : Nat} {ps : List (List (List Int))} (h : WfT p n ps) : WfPs p n ps := ⟨by have := h.2.1; omega, fun pc hp => ⟨by have := (h.2.2 pc hp).2.1; omega, (h.2.2 pc hp).2.2⟩⟩
theorem data_wf {p : Int} {n : Nat} {a : List Int} (h : Wf p n a) : dataD p n (pT a) = true := by
  show (decide (((pI a).length : Int) = n) && (pI a).all fun x => betw x 0 (p - 1)) = true
  rw [len_pI, h.1, decide_eq_true rfl, Bool.true_and, List.all_eq_true]
  intro x hx
  obtain ⟨y, hy, e⟩ := List.mem_map.mp hx
  subst e
  have := h.2 y hy
  show (decide (0 ≤ y) && decide (y ≤ p - 1)) = true
  rw [decide_eq_true (by omega), decide_eq_true (by omega)]
  rfl
theorem size_combo {p : Int} {n : Nat} (hc : (p, n) ∈ combos) : sizeD (.int p) (.int n) = true ∧ primeD (.int p) = true := by
  have : combos.all (fun c => sizeD (.int c.1) (.int (c.2 : Int)) && primeD (.int c.1)) = true := by decide +kernel
  exact Bool.and_eq_true_iff.mp (List.all_eq_true.mp this _ hc)
def lenD : PyData → Int
  | .tuple xs => xs.length
  | .list xs => xs.length
  | _ => 0
theorem lenD_sq (b : Bool) (xs : List PyData) : lenD (sq b xs) = xs.length := by cases b <;> rfl
theorem sum_le {xs : List Int} (m : Int) (h : ∀ x ∈ xs, x ≤ m) : xs.sum ≤ m * xs.length := by
  induction xs with
  | nil => simp
  | cons x xs ih =>
    have h1 := h x List.mem_cons_self
    have h2 := ih fun y hy => h y (List.mem_cons_of_mem _ hy)
    rw [List.sum_cons, List.length_cons, Int.natCast_succ, Int.mul_add, Int.mul_one]
    omega
section
variable {P : Program} {w : World} {K : PySem.W.Frag} {mg : Str → Option Value} {base : Heap} {f : Addr} {fd : FuncData}
/-! ### require_pieces -/
abbrev sReq : Stmt := top 41
abbrev nReq : List Str := ["prime", "size", "pieces", "index", "piece", "part", "factors"]
theorem scReq : FnScope nReq ["prime", "size", "pieces"] (defScope sReq) := ⟨rfl, rfl, rfl, by decide +kernel, rfl, by decide +kernel, by decide +kernel⟩
def tReq : Tr := fun ds Z => ∃ (p : Int) (n : Nat) (b : Bool) (ps : List (List (List Int))), ds = [dI p, dI n, .d (sqPs b ps)] ∧ (p, n) ∈ combos ∧ WfT p n ps ∧ Z dN
theorem own_req (B : Bl mg) (C : Cn K mg) (h : At K mg "require_pieces" sReq f fd) (oR : Own P w K mg base 1 "is_row" (spP K tIsRow)) (oD : Own P w K mg base 4 "is_data" (spP K tData)) : Own P w K mg base 5 "require_pieces" (spP K tReq) := by
  refine def_pure h.fn scReq h.mg (h.fn.binds fun _ _ _ _ _ _ us hl => match us, hl with | [_, _, _], _ => rfl) (fun ds Z ⟨_, _, _, _, e, _⟩ => by rw [e]; rfl) fun cdv A outer s H E hr ds Z ⟨p, n, b, ps, ed, hc, hw, q⟩ => ?_
  subst ed
  obtain ⟨w1, w5, wp⟩ := hw
  obtain ⟨tP, hP⟩ := C.pieces
  obtain ⟨tA, hA⟩ := C.parts
  obtain ⟨tS, hS⟩ := C.spots
  have lps : (ps.map (sqPc b)).length = ps.length := List.length_map ..
  refine run_cons (rs_if (et_w (ew_or (et_not (et_val (ev_call oR (hr.mono (by decide)) rfl (ea_cons (ev_v 2 rfl (ea_nil ⟨_, rfl, _, rfl, ?_⟩)))))))))
  rw [show (isD (sqPs b ps) "list" || isD (sqPs b ps) "tuple") = true from sq_is b _]
  refine ⟨fun _ => ?_, fun z => nomatch z⟩
  refine ew_or1 (et_not (et_chainI rfl rfl (ev_int (ev_len rfl B.len (eq_seq (ev_v 2 rfl ⟨_, sq_or b _, fun _ => ⟨_, _, rfl, rfl, fun hz => ?_, fun hz => ?_⟩⟩))))))
  · refine ev_glob (v := .int 6) (d := .int 6) rfl hP ⟨tP, rfl⟩ (.int 6) ⟨6, rfl, ?_⟩
    rw [lps]
    refine ⟨fun z => ?_, fun _ => ?_⟩
    · have : decide ((ps.length : Int) ≤ 6) = true := decide_eq_true (by omega)
      rw [this] at z
      cases z
    refine run_nil ?_
    refine run_cons (rs_if (et_cmpI rfl (ev_sum rfl rfl B.sum (by decide +kernel) (eq_list (ev_new (en_lc1 (M := nReq) (sc := defScope sReq) 4 scReq.nd rfl rfl (by decide +kernel) (lch_mf (fun _ => true) (fun z => .int (lenD z)) ?_) rfl fun _ _ _ _ _ => pg_name (i := 4) scReq.nd rfl (Or.inl rfl)))))))
    refine ei_seq (ev_v 2 rfl ⟨_, sq_or b _, by rw [lps]; exact sz (by omega), fun i x hx => ?_, ?_⟩)
    · rw [List.getElem?_map] at hx
      obtain ⟨pc, hpc, ex⟩ := Option.map_eq_some_iff.mp hx
      subst ex
      refine ⟨_, rfl, fun s H C cl fp => ets_one (et_val (ev_call oR (hr.mono (by decide)) rfl (ea_cons (ev_v 4 rfl (ea_nil ⟨_, rfl, _, rfl, ?_⟩)))))⟩
      refine ⟨sq_is b _, rfl, fun _ s H C cl fp => ev_len rfl B.len (eq_seq (ev_v 4 rfl ⟨_, sq_or b _, fun _ => ⟨?_, rfl⟩⟩))⟩
      show dI _ = Dt.d (.int (lenD (sq b (pc.map pT))))
      rw [lenD_sq]
    · have e1 : ((ps.map (sqPc b)).filter (fun _ => true)).map (fun z => PyData.int (lenD z)) = (ps.map fun pc => (pc.length : Int)).map PyData.int := by
        rw [List.filter_eq_self.mpr (fun _ _ => rfl), List.map_map, List.map_map]
        refine List.map_congr_left fun pc _ => ?_
        show PyData.int (lenD (sq b (pc.map pT))) = _
        rw [lenD_sq, List.length_map]
        rfl
      refine ⟨_, rfl, _, rfl, e1, ?_⟩
      refine ev_glob (v := .int 10) (d := .int 10) rfl hS ⟨tS, rfl⟩ (.int 10) ⟨_, _, rfl, rfl, fun z => ?_, fun _ => ?_⟩
      · exfalso
        have h1 := of_decide_eq_true z
        have h2 := sum_le (xs := ps.map fun pc => (pc.length : Int)) 2 fun x hx => by
          obtain ⟨pc, hp, e⟩ := List.mem_map.mp hx
          have := (wp pc hp).2.1
          omega
        rw [List.length_map] at h2
        omega
      refine run_nil ?_
      refine run_one (rs_for (.tup [3, 4]) PassesOwn.never rfl (pg_tup rfl (pgs_cons (pg_name (i := 3) scReq.nd rfl (Or.inl rfl)) (pgs_cons (pg_name (i := 4) scReq.nd rfl (Or.inl rfl)) pgs_nil))) (ei_enum rfl B.enumerate (ev_v 2 rfl ⟨_, sq_or' b _,
        fun i ρ' => ∃ a1 a2 a3 a4, ρ' = [some (.im (dI p)), some (.im (dI n)), some (.im (.d (sqPs b ps))), a1, a2, a3, a4], ⟨_, _, _, _, rfl⟩, fun i y ρ' hy ⟨a1, a2, a3, a4, er⟩ => ?_, fun ρ' _ => q⟩)))
      subst er
      have hi : i < ps.length := by
        have := (List.getElem?_eq_some_iff.mp hy).1
        unfold enumD at this
        simpa using this
      obtain ⟨pc, hpc⟩ := get_lt hi
      obtain ⟨c1, c2, cw⟩ := wp pc (List.mem_of_getElem? hpc)
      have := enumD_get hy (show (ps.map (sqPc b))[i]? = some (sqPc b pc) by rw [List.getElem?_map, hpc]; rfl)
      subst this
      refine ⟨_, rfl, ?_⟩
      have lpc : (pc.map pT).length = pc.length := List.length_map ..
      refine run_cons (rs_if (et_w (ew_or (et_not (et_val (ev_call oR (hr.mono (by decide)) rfl (ea_cons (ev_v 4 rfl (ea_nil ⟨_, rfl, _, rfl, ?_⟩)))))))))
      rw [show (isD (sqPc b pc) "list" || isD (sqPc b pc) "tuple") = true from sq_is b _]
      refine ⟨fun _ => ?_, fun z => nomatch z⟩
      refine ew_or1 (et_not (et_chainI rfl rfl (ev_int (ev_len rfl B.len (eq_seq (ev_v 4 rfl ⟨_, sq_or b _, fun _ => ⟨_, _, rfl, rfl, fun hz => ?_, fun hz => ?_⟩⟩))))))
      · refine ev_glob (v := .int 3) (d := .int 3) rfl hA ⟨tA, rfl⟩ (.int 3) ⟨3, rfl, ?_⟩
        rw [lpc]
        refine ⟨fun z => ?_, fun _ => ?_⟩
        · have : decide ((pc.length : Int) ≤ 3) = true := decide_eq_true (by omega)
          rw [this] at z
          cases z
        refine run_nil ?_
        refine run_one (rs_for (.tup [5, 6]) PassesOwn.never rfl (pg_tup rfl (pgs_cons (pg_name (i := 5) scReq.nd rfl (Or.inl rfl)) (pgs_cons (pg_name (i := 6) scReq.nd rfl (Or.inl rfl)) pgs_nil))) (ei_enum rfl B.enumerate (ev_v 4 rfl ⟨_, sq_or' b _,
          fun j ρ' => ∃ a1 a2 a3 a4, ρ' = [some (.im (dI p)), some (.im (dI n)), some (.im (.d (sqPs b ps))), a1, a2, a3, a4], ⟨_, _, _, _, rfl⟩, fun j y ρ' hy2 ⟨b1, b2, b3, b4, er⟩ => ?_, fun ρ' z => z⟩)))
        subst er
        have hj : j < pc.length := by
          have := (List.getElem?_eq_some_iff.mp hy2).1
          unfold enumD at this
          simpa using this
        obtain ⟨row, hrow⟩ := get_lt hj
        have := enumD_get hy2 (show (pc.map pT)[j]? = some (pT row) by rw [List.getElem?_map, hrow]; rfl)
        subst this
        refine ⟨_, rfl, ?_⟩
        refine run_one (rs_if (et_not (et_val (ev_call oD hr rfl (ea_cons (ev_v 0 rfl (ea_cons (ev_v 1 rfl (ea_cons (ev_v 6 rfl (ea_nil ⟨_, _, _, rfl, (size_combo hc).1, _, rfl, ?_⟩)))))))))))
        rw [data_wf (cw row (List.mem_of_getElem? hrow))]
        exact ⟨fun z => (nomatch z), fun _ => run_nil ⟨_, _, _, _, rfl⟩⟩
      · exfalso
        rw [lpc] at hz
        have := of_decide_eq_false hz
        omega
  · exfalso
    rw [lps] at hz
    have := of_decide_eq_false hz
    omega
end
end K87
end
section
set_option Elab.async false
set_option linter.all false
set_option maxRecDepth 100000
set_option maxHeartbeats 4000000
/-! The data logic: self.f, self.g = e1, e2, while self is being made. -/
namespace DL
open PySem PySem.Spec PyProof.Rows L2 Evl
def gSl (K : PySem.W.Frag) (ta : TE) (f : Str) : TG := fun v σ H Q => ta σ H fun x H2 => ∃ a C dx p vs i, x = .ref a ∧ SlX.Slt H2 a C dx vs ∧ SlX.SCls K C ∧ SlX.Slot1 K C f p i ∧ (dx ≠ a → Q σ (SlX.slH H2 a C dx (SlX.putS i v vs)))
theorem pg_sl {X : Cx} {o : Expr} {f : Str} {pos : Pos} {ta : TE} (ho : PE X o ta) : PG X (.Attribute o f pos) (gSl X.K ta f) := by
  refine ⟨fun pins s σ H v u Q I r h => ?_⟩
  rw [assign_Attribute]
  refine wpAny_bind (wpAny_holding (thn (ho.run pins s σ H _ I h) fun ov s1 ⟨x, H1, I1, r1, a, C, dx, p, vs, i, ex, hs, c, t, q⟩ => ?_))
  subst ex
  obtain rfl : ov = Value.ref a := r1
  refine wpAny_bind (wpAny_standAt (wpAny_bind (wpAny_holding (SlX.setslot_ok I1 hs c t r fun s3 I3 => ?_))))
  exact wpAny_release ⟨σ, _, I3, q (SlX.slt_at I1 hs).1⟩
section
variable {X : Cx} {ρ : DEnv} {e1 e2 : Expr} {pos p1 p2 p3 p4 tp tp2 : Pos} {C : Addr} {sl : List Str} {P : Post} {y f g : Str} {k1 k2}
theorem rs_slots2 (S : SlC X.K C sl) (j : Nat) {i1 i2 : Nat} (h1 : sl[i1]? = some f) (h2 : sl[i2]? = some g) (hcalm : X.calm = true) (h : EvA X [e1, e2] ρ fun ds ρ1 => ∃ fs x y, ds = [.d x, .d y] ∧ ρ1[j]? = some (some (.slf C fs)) ∧ slfAt j ρ1 = true ∧ slfAt j (ρ1.set j (some (.slf C (putP i1 x fs)))) = true ∧ P.nx ((ρ1.set j (some (.slf C (putP i1 x fs)))).set j (some (.slf C (putP i2 y (putP i1 x fs))))))

    (hN : X.N[j]? = some y := by rfl) (hv : Vis X.env.scope y := by first | exact Or.inl rfl | exact Or.inr (Or.inl rfl) | exact Or.inr (Or.inr rfl)) (hd : (y == ("__debug__" : Str)) = false := by decide) (hcd : (y == ("__classdict__" : Str)) = false := by decide)
    (hs : swapsWithSole [.Tuple [.Attribute (.Name y p1) f p2, .Attribute (.Name y p3) g p4] k1 tp] (.Tuple [e1, e2] k2 tp2) pos.line X.env = pure false := by rfl) (hw : swappedStores [.Tuple [.Attribute (.Name y p1) f p2, .Attribute (.Name y p3) g p4] k1 tp] (.Tuple [e1, e2] k2 tp2) X.env = pure none := by rfl)
    (ha : (assignEach [.Tuple [.Attribute (.Name y p1) f p2, .Attribute (.Name y p3) g p4] k1 tp] X.env).map (·.2) = [assign (.Tuple [.Attribute (.Name y p1) f p2, .Attribute (.Name y p3) g p4] k1 tp) X.env] := by rfl) :
    RunS X (.Assign [.Tuple [.Attribute (.Name y p1) f p2, .Attribute (.Name y p3) g p4] k1 tp] (.Tuple [e1, e2] k2 tp2) pos) ρ P := by
  obtain ⟨q1, t1⟩ := S.at_ i1 f h1
  obtain ⟨q2, t2⟩ := S.at_ i2 g h2
  intro H0 M O S' σ H E D d1 d2 d3 d4
  refine ⟨_, ps_asg (pe_tup pa_w) (pg_tup hcalm (pgs_cons (pg_sl (pe_var hN hv hd hcd)) (pgs_cons (pg_sl (pe_var hN hv hd hcd)) pgs_nil))) hs hw ha, h H0 M O S' σ H E _ fun vs H1 ds ρ1 ⟨fs, x, z, ed, hr, one, one2, q⟩ E1 r => ?_⟩
  subst ed
  cases r with
  | cons r1 r =>
    cases r with
    | cons r2 r =>
      cases r
      rename_i v1 v2
      refine ⟨by show 2 ≤ sizeLine; decide, fun p hp => ?_⟩
      obtain ⟨E2, _, np⟩ := E1.fresh hp (.tup [v1, v2])
      have r1' := dp_mono (off_mono (Ex.new (o := .tup [v1, v2]) hp)) r1
      have r2' := dp_mono (off_mono (Ex.new (o := .tup [v1, v2]) hp)) r2
      obtain ⟨v, hv1, a, dx, ws, ev, eS, hs1, hw1⟩ := E2.ent j _ hr
      subst ev
      refine ⟨p, _, rfl, SqT.of upd_same, rfl, v1, [v2], rfl, _, hv1, a, C, dx, q1, ws, i1, rfl, hs1, S.c, t1, fun ne => ?_⟩
      have E3 := E2.slot_set (i := i1) one hr hv1 eS hs1 ne hw1 r1'
      have hl : j < ρ1.length := (List.getElem?_eq_some_iff.mp hr).1
      have hr3 : (ρ1.set j (some (.slf C (putP i1 x fs))))[j]? = some (some (.slf C (putP i1 x fs))) := List.getElem?_set_self hl
      obtain ⟨v', hv2, a', dx', ws', ev', eS', hs2, hw2⟩ := E3.ent j _ hr3
      subst ev'
      rw [hv1] at hv2
      cases hv2
      rw [eS] at eS'
      cases eS'
      have r2'' : Dp X.K (off (O ++ M) (SlX.slH (upd H1 p (.tup [v1, v2])) a C dx (SlX.putS i1 v1 ws))) v2 z := by
        refine dp_mono (fun b u hb => ?_) r2'
        obtain ⟨b1, b2⟩ := of_off hb
        have aM : a ∈ M := E2.sub a (by rw [eS]; simp)
        have dM : dx ∈ M := E2.sub dx (by rw [eS]; simp)
        have n1 : b ≠ a := fun e => b1 (List.mem_append_right _ (by rw [e]; exact aM))
        have n2 : b ≠ dx := fun e => b1 (List.mem_append_right _ (by rw [e]; exact dM))
        rw [off_out b1, SlX.slH_ne n1 n2]
        exact b2
      refine ⟨v2, [], rfl, _, hv1, a, C, dx, q2, ws', i2, rfl, hs2, S.c, t2, fun ne' => ⟨rfl, ?_⟩⟩
      exact d1 O σ _ _ q (E3.slot_set (i := i2) one2 hr3 hv1 eS hs2 ne' hw2 r2'')
end
end DL
end
section
set_option Elab.async false
set_option linter.all false
set_option maxRecDepth 100000
set_option maxHeartbeats 4000000
namespace K87
open PySem PySem.Spec PyProof.Rows L2 DL
/-- the j-th statement of the class that is the i-th of the top -/
def cm (i j : Nat) : Stmt := match top i with
  | .ClassDef _ _ _ body _ _ _ _ _ _ _ => body.getD j (.Pass ⟨0, 0, 0, 0⟩)
  | s => s
abbrev slT : List Str := ["own_pieces", "own_prime", "own_size", "own_spots"]
abbrev slS : List Str := ["own_pieces", "own_spots"]
def spotsAt (i : Nat) (k : Nat) : List PyData := (List.range k).map fun (j : Nat) => .tuple [.int (i : Int), .int (j : Int)]
/-- the spots of pieces of these lengths, the first at place i -/
def spotsL : Nat → List Nat → List PyData
  | _, [] => []
  | i, k :: ks => spotsAt i k ++ spotsL (i + 1) ks
/-- a block's scope -/
def lcS (ls gs : List Str) : Scope := { kind := .function, names := ls.map (fun x => (x, .local)) ++ gs.map (fun x => (x, .globalImplicit)), isGenerator := false, isCoroutine := false }
/-- the rows of a piece, a tuple or a list -/
def unP : PyData → List (List Int)
  | .tuple rs => rs.map unT
  | .list rs => rs.map unT
  | _ => []
theorem unP_sq (b : Bool) (pc : List (List Int)) : unP (sqPc b pc) = pc := by
  cases b
  · show (pc.map pT).map unT = pc
    rw [List.map_map]
    exact List.map_id'' (fun a => unT_pT a) pc
  · show (pc.map pT).map unT = pc
    rw [List.map_map]
    exact List.map_id'' (fun a => unT_pT a) pc
theorem spots_snoc : ∀ (ks : List Nat) (i k : Nat), spotsL i (ks ++ [k]) = spotsL i ks ++ spotsAt (i + ks.length) k
  | [], i, k => by simp [spotsL]
  | x :: ks, i, k => by
    rw [List.cons_append, spotsL, spots_snoc ks (i + 1) k, spotsL, List.append_assoc, List.length_cons, show i + 1 + ks.length = i + (ks.length + 1) by omega]
theorem spotsAt_len (i k : Nat) : (spotsAt i k).length = k := by unfold spotsAt; simp
theorem spotsL_len : ∀ (ks : List Nat) (i : Nat), (spotsL i ks).length = ks.sum
  | [], i => rfl
  | k :: ks, i => by rw [spotsL, List.length_append, spotsAt_len, spotsL_len ks, List.sum_cons]
theorem nsum_le {xs : List Nat} (m : Nat) (h : ∀ x ∈ xs, x ≤ m) : xs.sum ≤ m * xs.length := by
  induction xs with
  | nil => simp
  | cons x xs ih =>
    have h1 := h x List.mem_cons_self
    have h2 := ih fun y hy => h y (List.mem_cons_of_mem _ hy)
    rw [List.sum_cons, List.length_cons, Nat.mul_succ]
    omega
/-- the slots of a table -/
def tabD (p : Int) (n : Nat) (ps : List (List (List Int))) : List PyData := [.tuple (ps.map pPc), .int p, .int n, .list (spotsL 0 (ps.map List.length))]
section
variable {P : Program} {w : World} {K : PySem.W.Frag} {mg : Str → Option Value} {base : Heap} {f C : Addr} {fd : FuncData}
/-! ### properties -/
abbrev nGet : List Str := ["self"]
def tGet (C : Addr) (i : Nat) : Tr := fun ds Z => ∃ fs x, ds = [.ins C fs] ∧ fs[i]? = some x ∧ Z (.d x)
theorem scG2 : FnScope nGet ["self"] (defScope (cm 42 2)) := ⟨rfl, rfl, rfl, by decide +kernel, rfl, by decide +kernel, by decide +kernel⟩
theorem scG3 : FnScope nGet ["self"] (defScope (cm 42 3)) := ⟨rfl, rfl, rfl, by decide +kernel, rfl, by decide +kernel, by decide +kernel⟩
theorem scG4 : FnScope nGet ["self"] (defScope (cm 42 4)) := ⟨rfl, rfl, rfl, by decide +kernel, rfl, by decide +kernel, by decide +kernel⟩
theorem own_tprime (S : SlC K C slT) (F : Fun K "prime" "Table.prime" (cm 42 2) f fd) : FnR P w K mg base CX0 1 f (spP K (tGet C 1)) := by
  refine fn_pure F scG2 (F.binds fun _ _ _ _ _ _ us hl => match us, hl with | [_], _ => rfl) (fun ds Z ⟨_, _, e, _⟩ => by rw [e]; rfl) fun cdv A outer s H E hr ds Z ⟨fs, x, ed, hx, q⟩ => ?_
  subst ed
  exact run_one (rs_ret (ev_slot S (i := 1) rfl (ev_v 0 rfl ⟨fs, x, rfl, hx, q⟩)))
theorem own_tsize (S : SlC K C slT) (F : Fun K "size" "Table.size" (cm 42 3) f fd) : FnR P w K mg base CX0 1 f (spP K (tGet C 2)) := by
  refine fn_pure F scG3 (F.binds fun _ _ _ _ _ _ us hl => match us, hl with | [_], _ => rfl) (fun ds Z ⟨_, _, e, _⟩ => by rw [e]; rfl) fun cdv A outer s H E hr ds Z ⟨fs, x, ed, hx, q⟩ => ?_
  subst ed
  exact run_one (rs_ret (ev_slot S (i := 2) rfl (ev_v 0 rfl ⟨fs, x, rfl, hx, q⟩)))
theorem own_tpieces (S : SlC K C slT) (F : Fun K "pieces" "Table.pieces" (cm 42 4) f fd) : FnR P w K mg base CX0 1 f (spP K (tGet C 0)) := by
  refine fn_pure F scG4 (F.binds fun _ _ _ _ _ _ us hl => match us, hl with | [_], _ => rfl) (fun ds Z ⟨_, _, e, _⟩ => by rw [e]; rfl) fun cdv A outer s H E hr ds Z ⟨fs, x, ed, hx, q⟩ => ?_
  subst ed
  exact run_one (rs_ret (ev_slot S (i := 0) rfl (ev_v 0 rfl ⟨fs, x, rfl, hx, q⟩)))
/-! ### Table.__init__ -/
abbrev sTI : Stmt := cm 42 1
abbrev nTI : List Str := ["self", "prime", "size", "pieces", "piece", "factors", "spots", "index", "part"]
theorem scTI : FnScope nTI ["self", "prime", "size", "pieces"] (defScope sTI) := ⟨rfl, rfl, rfl, by decide +kernel, rfl, by decide +kernel, by decide +kernel⟩
def tTI : TrI := fun ds Z => ∃ (p : Int) (n : Nat) (b : Bool) (ps : List (List (List Int))), ds = [dI p, dI n, .d (sqPs b ps)] ∧ (p, n) ∈ combos ∧ WfT p n ps ∧ Z (tabD p n ps)
theorem own_ti (B : Bl mg) (S : SlC K C slT) (mk : Mk K C f) (hm : mg "Table" = some (.ref C)) (F : Fun K "__init__" "Table.__init__" sTI f fd) (oP : Own P w K mg base 2 "is_prime" (spP K tPrime)) (oS : Own P w K mg base 3 "is_size" (spP K tSize)) (oR : Own P w K mg base 5 "require_pieces" (spP K tReq)) : OwnI P w K mg base 6 "Table" C tTI := by
  refine def_init F scTI mk hm (F.binds fun _ _ _ _ _ _ us hl => match us, hl with | [_, _, _, _], _ => rfl) (fun ds Z ⟨_, _, _, _, e, _⟩ => by rw [e]; rfl) (by intro a; omega) fun cdv A outer s H E hr ds Z ⟨p, n, b, ps, ed, hc, hw, q⟩ => ?_
  subst ed
  refine run_cons (rs_if (et_not (et_val (ev_call oP (hr.mono (by decide)) rfl (ea_cons (ev_v 1 rfl (ea_nil ⟨_, rfl, _, rfl, ?_⟩)))))))
  rw [(size_combo hc).2]
  refine ⟨fun z => (nomatch z), fun _ => run_nil ?_⟩
  refine run_cons (rs_if (et_not (et_val (ev_call oS (hr.mono (by decide)) rfl (ea_cons (ev_v 1 rfl (ea_cons (ev_v 2 rfl (ea_nil ⟨_, _, rfl, _, rfl, ?_⟩)))))))))
  rw [(size_combo hc).1]
  refine ⟨fun z => (nomatch z), fun _ => run_nil ?_⟩
  refine run_cons (rs_expr (ev_call oR hr rfl (ea_cons (ev_v 1 rfl (ea_cons (ev_v 2 rfl (ea_cons (ev_v 3 rfl (ea_nil ⟨p, n, b, ps, rfl, hc, hw, ?_⟩)))))))))
  obtain ⟨w1, w5, wp⟩ := hw
  have ssz : ∀ k : Nat, k ≤ 100 → k ≤ sizeLine := fun k hk => sz (by omega)
  refine run_cons (rs_slots2 S 0 (i1 := 1) (i2 := 2) rfl rfl rfl (ea_cons (ev_v 1 rfl (ea_cons (ev_v 2 rfl (ea_nil ⟨_, _, _, rfl, rfl, rfl, rfl, ?_⟩))))))
  refine run_cons (rs_slot S 0 (i := 0) rfl (ev_tuple rfl B.tuple (by decide +kernel) (eq_list (ev_new (en_lc1 (M := nTI) (sc := defScope sTI) 4 scTI.nd rfl rfl (by decide +kernel) (lch_map (fun z => pPc (unP z)) ?_) rfl fun _ _ _ _ _ => pg_name (i := 4) scTI.nd rfl (Or.inl rfl))))))
  have lps : (ps.map (sqPc b)).length = ps.length := List.length_map ..
  refine ei_seq (ev_v 3 rfl ⟨_, sq_or b _, by rw [lps]; exact ssz _ (by omega), fun i y hy => ?_, ?_⟩)
  · rw [List.getElem?_map] at hy
    obtain ⟨pc, hpc, ey⟩ := Option.map_eq_some_iff.mp hy
    subst ey
    have c2 := (wp pc (List.mem_of_getElem? hpc)).2.1
    refine ⟨_, rfl, fun s H C' cl fp => ev_tuple rfl B.tuple (by decide +kernel) (eq_list (ev_new (en_lc1 (M := nTI) (sc := lcS [".0", "piece"] ["tuple"]) 5 scTI.nd rfl rfl (by decide +kernel) (lch_map (fun z => z) ?_) rfl fun _ _ _ _ _ => pg_name (i := 5) scTI.nd rfl (Or.inl rfl))))⟩
    refine ei_seq (ev_v 4 rfl ⟨_, sq_or b _, by rw [List.length_map]; exact ssz _ (by omega), fun j z hz => ?_, ?_⟩)
    · rw [List.getElem?_map] at hz
      obtain ⟨r, hr2, ez⟩ := Option.map_eq_some_iff.mp hz
      subst ez
      exact ⟨_, rfl, fun s H C2 cl fp => ev_tuple rfl B.tuple (by decide +kernel) (eq_tup (ev_v 5 rfl ⟨_, rfl, rfl, rfl⟩))⟩
    · refine ⟨_, rfl, ?_, rfl⟩
      rw [List.map_id', unP_sq]
  have e0 : (ps.map (sqPc b)).map (fun z => pPc (unP z)) = ps.map pPc := by
    rw [List.map_map]
    refine List.map_congr_left fun pc _ => ?_
    show pPc (unP (sqPc b pc)) = _
    rw [unP_sq]
  rw [e0]
  refine ⟨_, rfl, _, _, rfl, rfl, rfl, ?_⟩
  refine run_cons (rs_asgO (i := 6) scTI.nd rfl (Or.inl rfl) (en_lst (ea_nil ⟨[], rfl, Nat.zero_le _, ?_⟩)))
  have lpp : (ps.map pPc).length = ps.length := List.length_map ..
  refine run_cons (rs_for (.tup [7, 4]) PassesOwn.never rfl ?_ ?_)
  · exact pg_tup rfl (pgs_cons (pg_name (i := 7) scTI.nd rfl (Or.inr rfl)) (pgs_cons (pg_name (i := 4) scTI.nd rfl (Or.inl rfl)) pgs_nil))
  refine ei_enum rfl B.enumerate (ev_slf S (i := 0) (j := 0) rfl rfl rfl ⟨_, .inl rfl,
    fun i ρ' => ∃ a4 a5 a7 a8, ρ' = [some (.slf C [some (.tuple (ps.map pPc)), some (.int p), some (.int n)]), some (.im (dI p)), some (.im (dI n)), some (.im (.d (sqPs b ps))), a4, a5, some (.ow (spotsL 0 ((ps.take i).map List.length))), a7, a8], ⟨_, _, _, _, rfl⟩, fun i y ρ' hy ⟨a4, a5, a7, a8, er⟩ => ?_, fun ρ' ⟨a4, a5, a7, a8, er⟩ => ?_⟩)
  · subst er
    have hi : i < ps.length := by
      have := (List.getElem?_eq_some_iff.mp hy).1
      unfold enumD at this
      simpa using this
    obtain ⟨pc, hpc⟩ := get_lt hi
    have := enumD_get hy (show (ps.map pPc)[i]? = some (pPc pc) by rw [List.getElem?_map, hpc]; rfl)
    subst this
    have c2 := (wp pc (List.mem_of_getElem? hpc)).2.1
    refine ⟨_, rfl, ?_⟩
    refine run_one (rs_extend 6 rfl (Or.inl rfl) (en_lc1 (M := nTI) (sc := defScope sTI) 8 scTI.nd rfl rfl (by decide +kernel) (lch_map (fun z => .tuple [.int i, z]) ?_) rfl fun _ _ _ _ _ => pg_name (i := 8) scTI.nd rfl (Or.inl rfl)) (ho := ⟨_, rfl⟩))
    refine ei_range1 rfl B.range (ev_len rfl B.len (eq_tup (ev_v 4 rfl ⟨_, rfl, _, rfl, by omega, by rw [List.length_map]; omega, ?_, fun j x hx => ?_, ?_⟩)))
    · rw [rangeD_len, List.length_map]
      exact ssz _ (by omega)
    · exact ⟨_, rfl, fun s H C cl fp => ev_tup (ea_cons (ev_v 7 rfl (ea_cons (ev_v 8 rfl (ea_nil ⟨[_, _], rfl, (by show 2 ≤ sizeLine; decide), rfl, rfl⟩)))))⟩
    · have lr : (rangeD 0 (((pc.map pT).length : Nat) : Int).toNat).map (fun z => PyData.tuple [.int i, z]) = spotsAt i pc.length := by
        rw [Int.toNat_natCast, List.length_map]
        unfold rangeD spotsAt
        rw [List.map_map]
        refine List.map_congr_left fun k _ => ?_
        show PyData.tuple [.int i, .int (0 + (k : Int))] = _
        rw [Int.zero_add]
      have ls : (spotsL 0 ((ps.take i).map List.length)).length + pc.length ≤ 2 * (i + 1) := by
        rw [spotsL_len]
        have := nsum_le (xs := (ps.take i).map List.length) 2 fun x hx => by
          obtain ⟨q1, hq, e⟩ := List.mem_map.mp hx
          rw [← e]
          exact (wp q1 (List.mem_of_mem_take hq)).2.1
        rw [List.length_map, List.length_take] at this
        have : min i ps.length ≤ i := Nat.min_le_left ..
        omega
      rw [lr]
      refine ⟨_, rfl, ?_, ?_⟩
      · rw [spotsAt_len]
        exact ssz _ (by omega)
      · have e1 : spotsL 0 ((ps.take (i + 1)).map List.length) = spotsL 0 ((ps.take i).map List.length) ++ spotsAt i pc.length := by
          rw [take_succ hpc, List.map_append]
          show spotsL 0 (_ ++ [pc.length]) = _
          rw [spots_snoc, List.length_map, List.length_take, Nat.min_eq_left (Nat.le_of_lt hi), Nat.zero_add]
        refine ⟨some (.im (.d (pPc pc))), a5, some (.im (.d (.int (i : Int)))), none, ?_⟩
        rw [e1]
        rfl
  · subst er
    have lz : (enumD (ps.map pPc)).length = ps.length := by unfold enumD; simp
    rw [lz, List.take_length]
    refine run_freeze 6 rfl (run_wipe 4 (run_wipe 5 (run_wipe 7 (run_wipe 8 ?_))))
    refine run_one (rs_slot S 0 (i := 3) rfl (ev_v 6 rfl ⟨_, _, rfl, rfl, rfl, ?_⟩))
    exact ⟨tabD p n ps, (fun z => nomatch z), rfl, q⟩
end
end K87
end
section
set_option Elab.async false
set_option linter.all false
set_option maxRecDepth 100000
set_option maxHeartbeats 4000000
/-! The data logic: is None as a test, is True, tuple * int. -/
namespace DL
open PySem PySem.Spec PyProof.Rows L2 Evl
section
variable {X : Cx} {ρ : DEnv} {Q : Dt → DEnv → Prop} {T : Bool → DEnv → Prop} {a b : Expr} {pos : Pos}
theorem et_isN {j pos'} (h : EvP X a ρ fun d1 ρ1 => T (isNoneD d1) ρ1) : EvT X (.Compare a [.Is] [.Constant .none j pos'] pos) ρ T :=
  fun H0 M O S σ H E R k => ⟨_, pt_cmp (pc_isN pe_w) rfl, h H0 M O S σ H E _ fun v H' d ρ' q E' r => by
    refine ⟨_, rfl, ?_⟩
    have : decide (v = V.non) = isNoneD d := by
      cases d with
      | d x => cases r <;> rfl
      | ins C fs => obtain ⟨a, _, _, e, _⟩ := r; subst e; rfl
    rw [this]
    exact k H' _ ρ' q E'⟩
theorem et_notN {j pos'} (h : EvP X a ρ fun d1 ρ1 => T (!isNoneD d1) ρ1) : EvT X (.Compare a [.IsNot] [.Constant .none j pos'] pos) ρ T :=
  fun H0 M O S σ H E R k => ⟨_, pt_cmp (pc_notN pe_w) rfl, h H0 M O S σ H E _ fun v H' d ρ' q E' r => by
    refine ⟨_, rfl, ?_⟩
    have : (!decide (v = V.non)) = !isNoneD d := by
      cases d with
      | d x => cases r <;> rfl
      | ins C fs => obtain ⟨a, _, _, e, _⟩ := r; subst e; rfl
    rw [this]
    exact k H' _ ρ' q E'⟩
/-! ### is, of two truth values -/
def rIsB : R2 := fun x y H Q => ∃ m n, x = .bl m ∧ y = .bl n ∧ Q (.bl (m == n)) H
def rIsNotB : R2 := fun x y H Q => ∃ m n, x = .bl m ∧ y = .bl n ∧ Q (.bl (!(m == n))) H
theorem op_isB : OpR X (compareOp .Is) rIsB := by
  intro pins s σ H x y v u Q I rx ry h
  obtain ⟨m, n, rfl, rfl, q⟩ := h
  cases (show v = Value.bool m from rx)
  cases (show u = Value.bool n from ry)
  by_cases e : m = n
  · subst e
    exact wpAny_is_self rfl ⟨.bl true, H, I, rfl, by simpa using q⟩
  · exact wpAny_is_other rfl (fun z => e (Value.bool.inj z)) ⟨.bl false, H, I, rfl, by have : (m == n) = false := beq_eq_false_iff_ne.mpr e; rw [this] at q; exact q⟩
theorem op_isNotB : OpR X (compareOp .IsNot) rIsNotB := by
  intro pins s σ H x y v u Q I rx ry h
  obtain ⟨m, n, rfl, rfl, q⟩ := h
  cases (show v = Value.bool m from rx)
  cases (show u = Value.bool n from ry)
  by_cases e : m = n
  · subst e
    exact wpAny_isNot_self rfl ⟨.bl false, H, I, rfl, by simpa using q⟩
  · exact wpAny_isNot_other rfl (fun z => e (Value.bool.inj z)) ⟨.bl true, H, I, rfl, by have : (m == n) = false := beq_eq_false_iff_ne.mpr e; rw [this] at q; exact q⟩
theorem et_isNotB (h : EvP X a ρ fun d1 ρ1 => EvP X b ρ1 fun d2 ρ2 => ∃ m n, d1 = dB m ∧ d2 = dB n ∧ T (!(m == n)) ρ2) (hm : behindInMarks .IsNot b = false := by rfl) : EvT X (.Compare a [.IsNot] [b] pos) ρ T :=
  et_cmp op_isNotB hm (h.imp fun d1 ρ1 h2 => h2.imp fun d2 ρ2 ⟨m, n, e1, e2, q⟩ => by
    subst e1 e2
    intro L v1 v2 H hL r1 r2 R k
    cases r1
    cases r2
    exact ⟨m, n, rfl, rfl, k _ H _ ⟨_, rfl, q⟩ (Ex.refl H) (.bl _)⟩)
/-! ### tuple * int -/
theorem tuple_mul1 (l : Addr) (items : Array Value) (n : Nat) (dd : Option Addr) (sl : Array (Option Value)) (u : Tok) :
    Meets (Builtin.«tuple.__mul__» ⟨[.ref l, .int 1 u], []⟩) (fun _ R s => s.heap.get? l = some { cls := .type "tuple", dict := dd, data := .seq items n, slots := sl } ∧ R (.ok (.ret (Value.ref l))) s) :=
  .of_wp fun prog w A R s h => by
    obtain ⟨hp, g, d, tk, os⟩ := s
    obtain ⟨hl, h⟩ := h
    have f1 := AutoSeq1.idx_int
    wp_walk using wpAny_loadPart' hl
    exact ⟨_, rfl, h⟩
def rRepA (K : PySem.W.Frag) : R2 := fun x y H Q => (∃ l xs, x = .ref l ∧ y = .int 1 ∧ SqT K H l xs ∧ xs ≠ [] ∧ Q (.ref l) H) ∨ rRepT K x y H Q
theorem op_repA : OpR X (binaryOp .Mult) (rRepA X.K) := by
  intro pins s σ H x y v u Q I rx ry h
  rcases h with ⟨l, xs, rfl, rfl, hT, hne, q⟩ | h
  · cases rx
    obtain ⟨t, rfl⟩ := ry
    obtain ⟨its, r, ⟨⟨cls, dd, data, sl⟩, ho, hc, n, hd⟩, hs⟩ := I.tuple hT
    simp only at hc hd
    subst hc hd
    exact wpAny_binaryOp_repeat_ref (T := "tuple") (U := "int") (by decide) ⟨_, ho, rfl⟩ (fun s' => typeIs_int s' 1 t) noFill_tuple_mul F.fills_int_mul F.slot_int_rmul repeat_tuple F.slot_int_index.lookup
      (call_meets F.slot_int_rmul (typeIs_int s 1 t) F.entry_int_rmul (F.args_int_rmul_2 _ _) (int_rmul_tuple 1 t l its.toArray n dd sl)
        ⟨ho, rfl, ⟨_, ho, rfl⟩, call_meets F.slot_tuple_mul ⟨_, ho, rfl⟩ F.entry_tuple_mul (F.args_tuple_mul_2 _ _) (tuple_mul1 l its.toArray n dd sl t) ⟨ho, .ref l, H, I, rfl, q⟩⟩)
  · exact op_repT pins s σ H x y v u Q I rx ry h
theorem ev_repT (h : EvP X a ρ fun d1 ρ1 => EvP X b ρ1 fun d2 ρ2 => ∃ xs n, d1 = dT xs ∧ d2 = dI n ∧ xs ≠ [] ∧ 1 ≤ n ∧ n ≤ 1000 ∧ xs.length ≤ 1000 ∧ Q (dT (List.replicate n.toNat xs).flatten) ρ2) : EvP X (.BinOp a .Mult b pos) ρ Q :=
  ev_op op_repA (h.imp fun d1 ρ1 h2 => h2.imp fun d2 ρ2 ⟨xs, n, e1, e2, hne, n1, n2, hl, q⟩ => by
    subst e1 e2
    intro L v1 v2 H hL r1 r2 R k
    cases r2
    cases r1 with
    | tup a1 a2 =>
      rename_i l vs
      have ll := dpa_length a2
      have hv : vs ≠ [] := fun e => hne (List.eq_nil_of_length_eq_zero (by rw [← ll, e]; rfl))
      by_cases e : n = 1
      · subst e
        refine .inl ⟨l, vs, rfl, rfl, ex_t off_ex a1, hv, k _ H _ q (Ex.refl H) ?_⟩
        have : (List.replicate (1 : Int).toNat xs).flatten = xs := by simp
        rw [this]
        exact .tup a1 a2
      · refine .inr ⟨l, n, vs, rfl, rfl, ex_t off_ex a1, hv, by omega, n2, by omega, fun p hp => ?_⟩
        exact k _ _ _ q (Ex.new hp) (.tup (SqT.of (by rw [off_out fun z => hL p z hp, upd_same])) (dpAll_mono (off_mono (Ex.new hp)) (dpa_flat a2 _))))
end
end DL
end
section
set_option Elab.async false
set_option linter.all false
set_option maxRecDepth 100000
set_option maxHeartbeats 4000000
namespace K87
open PySem PySem.Spec PyProof.Rows L2 DL
/-- numbers stored in a piece -/
def Vals6 (a : List Int) : Prop := 1 ≤ a.length ∧ a.length ≤ 2 ∧ ∀ x ∈ a, 0 ≤ x ∧ x ≤ 6
/-- the slots of what is stored -/
def stoD (vs : List (List Int)) : List PyData := [.tuple (vs.map pT), .list (spotsL 0 (vs.map List.length))]
section
variable {P : Program} {w : World} {K : PySem.W.Frag} {mg : Str → Option Value} {base : Heap} {f C : Addr} {fd : FuncData}
/-! ### is_filled -/
abbrev sFil : Stmt := top 34
abbrev nFil : List Str := ["value", "number"]
theorem scFil : FnScope nFil ["value"] (defScope sFil) := ⟨rfl, rfl, rfl, by decide +kernel, rfl, by decide +kernel, by decide +kernel⟩
def tFil : Tr := fun ds Z => ∃ (a : List Int), ds = [dT (pI a)] ∧ Vals6 a ∧ Z (dB true)
theorem own_fil (B : Bl mg) (C : Cn K mg) (h : At K mg "is_filled" sFil f fd) (oN : Own P w K mg base 1 "is_number" (spP K tNum)) : Own P w K mg base 2 "is_filled" (spP K tFil) := by
  refine def_pure h.fn scFil h.mg (h.fn.binds fun _ _ _ _ _ _ us hl => match us, hl with | [_], _ => rfl) (fun ds Z ⟨_, e, _⟩ => by rw [e]; rfl) fun cdv A outer s H E hr ds Z ⟨a, ed, ⟨a1, a2, ab⟩, q⟩ => ?_
  subst ed
  obtain ⟨tV, hV⟩ := C.value
  have la : ((pI a).length : Int) = a.length := by rw [len_pI]
  refine run_cons (rs_if (et_w (ew_or (et_not (et_val (ev_isiLT rfl B.isinstance (by decide +kernel) rfl B.list rfl B.tuple (by decide +kernel) (by decide +kernel) (ev_v 0 rfl ⟨_, rfl, _, rfl, ?_⟩)))))))
  rw [show (isD (pT a) "list" || isD (pT a) "tuple") = true from rfl]
  refine ⟨fun _ => ?_, fun z => (nomatch z)⟩
  refine ew_or1 (et_not (et_chainI rfl rfl (ev_int (ev_len rfl B.len (eq_tup (ev_v 0 rfl ⟨_, rfl, _, _, rfl, rfl, fun hz => ?_, fun hz => ?_⟩))))))
  · refine ev_int ⟨_, rfl, ?_⟩
    rw [la]
    refine ⟨fun z => ?_, fun _ => ?_⟩
    · have : decide ((a.length : Int) ≤ 3) = true := decide_eq_true (by omega)
      rw [this] at z
      cases z
    refine run_nil ?_
    refine run_one (rs_ret (ev_all rfl rfl B.all (by decide +kernel) (eq_list (ev_new ?_))))
    refine en_lc1 (M := nFil) (sc := defScope sFil) 1 scFil.nd rfl rfl (by decide +kernel) (lch_map (fun x => .bool (betw x 0 6)) ?_) rfl fun _ _ _ _ _ => pg_name (i := 1) scFil.nd rfl (Or.inl rfl)
    refine ei_tup (ev_v 0 rfl ⟨_, rfl, by rw [len_pI]; exact sz (by omega), fun i x hx => ⟨_, rfl, fun s H C cl fp => ?_⟩, ?_⟩)
    · refine ev_call oN hr rfl (ea_cons (ev_v 1 rfl ?_))
      exact ea_cons (ev_glob (v := .int 6) (d := .int 6) rfl hV ⟨tV, rfl⟩ (.int 6) (ea_nil ⟨x, _, rfl, rfl, rfl⟩))
    · refine ⟨_, rfl, (pI a).map fun x => betw x 0 6, by rw [map_betw, tru_bools], ?_⟩
      have : (((pI a).map fun x => betw x 0 6).all id) = true := by
        rw [List.all_eq_true]
        intro x hx
        obtain ⟨y, hy, e⟩ := List.mem_map.mp hx
        obtain ⟨z, hz, e2⟩ := List.mem_map.mp hy
        subst e2
        have := ab z hz
        rw [← e]
        show (decide (0 ≤ z) && decide (z ≤ 6)) = true
        rw [decide_eq_true (by omega), decide_eq_true (by omega)]
        rfl
      rw [this]
      exact q
  · exfalso
    rw [la] at hz
    have := of_decide_eq_false hz
    omega
/-! ### Stored -/
theorem scS2 : FnScope nGet ["self"] (defScope (cm 35 2)) := ⟨rfl, rfl, rfl, by decide +kernel, rfl, by decide +kernel, by decide +kernel⟩
abbrev sSI : Stmt := cm 35 1
abbrev nSI : List Str := ["self", "pieces", "piece", "found", "index", "part"]
theorem scSI : FnScope nSI ["self", "pieces"] (defScope sSI) := ⟨rfl, rfl, rfl, by decide +kernel, rfl, by decide +kernel, by decide +kernel⟩
def tSI : TrI := fun ds Z => ∃ (vs : List (List Int)), ds = [dL (vs.map pT)] ∧ 1 ≤ vs.length ∧ vs.length ≤ 5 ∧ (∀ a ∈ vs, Vals6 a) ∧ Z (stoD vs)
theorem own_si (B : Bl mg) (S : SlC K C slS) (mk : Mk K C f) (hm : mg "Stored" = some (.ref C)) (F : Fun K "__init__" "Stored.__init__" sSI f fd) (oF : Own P w K mg base 2 "is_filled" (spP K tFil)) : OwnI P w K mg base 3 "Stored" C tSI := by
  refine def_init F scSI mk hm (F.binds fun _ _ _ _ _ _ us hl => match us, hl with | [_, _], _ => rfl) (fun ds Z ⟨_, e, _⟩ => by rw [e]; rfl) (by intro a; omega) fun cdv A outer s H E hr ds Z ⟨vs, ed, v1, v5, hv, q⟩ => ?_
  subst ed
  have lv : ((vs.map pT).length : Int) = vs.length := by rw [List.length_map]
  have ssz : ∀ k : Nat, k ≤ 100 → k ≤ sizeLine := fun k hk => sz (by omega)
  refine run_cons (rs_if (et_w (ew_or (et_not (et_val (ev_isiLT rfl B.isinstance (by decide +kernel) rfl B.list rfl B.tuple (by decide +kernel) (by decide +kernel) (ev_v 1 rfl ⟨_, rfl, _, rfl, ?_⟩)))))))
  rw [show (isD (.list (vs.map pT)) "list" || isD (.list (vs.map pT)) "tuple") = true from rfl]
  refine ⟨fun _ => ?_, fun z => (nomatch z)⟩
  refine ew_or1 (et_not (et_chainI rfl rfl (ev_int (ev_len rfl B.len (eq_list (ev_v 1 rfl ⟨_, rfl, _, _, rfl, rfl, fun hz => ?_, fun hz => ?_⟩))))))
  · refine ev_int ⟨_, rfl, ?_⟩
    rw [lv]
    refine ⟨fun z => ?_, fun _ => ?_⟩
    · have : decide ((vs.length : Int) ≤ 6) = true := decide_eq_true (by omega)
      rw [this] at z
      cases z
    refine run_nil ?_
    refine run_cons (rs_if (et_not (et_val (ev_all rfl rfl B.all (by decide +kernel) (eq_list (ev_new ?_))))))
    refine en_lc1 (M := nSI) (sc := defScope sSI) 2 scSI.nd rfl rfl (by decide +kernel) (lch_map (fun x => .bool true) ?_) rfl fun _ _ _ _ _ => pg_name (i := 2) scSI.nd rfl (Or.inl rfl)
    refine ei_list (ev_v 1 rfl ⟨_, rfl, by rw [List.length_map]; exact ssz _ (by omega), fun i x hx => ?_, ?_⟩)
    · rw [List.getElem?_map] at hx
      obtain ⟨a, ha, ex⟩ := Option.map_eq_some_iff.mp hx
      subst ex
      refine ⟨_, rfl, fun s H C cl fp => ev_or (ev_isN (ev_v 2 rfl ⟨_, rfl, fun _ => ?_, fun z => (nomatch z)⟩))⟩
      exact ev_one (ev_call oF hr rfl (ea_cons (ev_v 2 rfl (ea_nil ⟨a, rfl, hv a (List.mem_of_getElem? ha), rfl, rfl⟩))))
    · refine ⟨_, rfl, vs.map fun _ => true, by rw [List.map_map, List.map_map, List.map_map]; rfl, _, rfl, ?_⟩
      have : ((vs.map fun _ => true).all id) = true := by
        rw [List.all_eq_true]
        intro x hx
        obtain ⟨y, hy, e⟩ := List.mem_map.mp hx
        rw [← e]
        rfl
      rw [this]
      refine ⟨fun z => (nomatch z), fun _ => run_nil ?_⟩
      refine run_cons (rs_slot S 0 (i := 0) rfl (ev_tuple rfl B.tuple (by decide +kernel) (eq_list (ev_new (en_lc1 (M := nSI) (sc := defScope sSI) 2 scSI.nd rfl rfl (by decide +kernel) (lch_map (fun z => z) ?_) rfl fun _ _ _ _ _ => pg_name (i := 2) scSI.nd rfl (Or.inl rfl))))))
      refine ei_list (ev_v 1 rfl ⟨_, rfl, by rw [List.length_map]; exact ssz _ (by omega), fun i x hx => ?_, ?_⟩)
      · rw [List.getElem?_map] at hx
        obtain ⟨a, ha, ex⟩ := Option.map_eq_some_iff.mp hx
        subst ex
        refine ⟨_, rfl, fun s H C cl fp => ev_if (et_isN (ev_v 2 rfl ⟨fun z => (nomatch z), fun _ => ?_⟩))⟩
        exact ev_tuple rfl B.tuple (by decide +kernel) (eq_tup (ev_v 2 rfl ⟨_, rfl, rfl, rfl⟩))
      · refine ⟨_, rfl, _, _, rfl, rfl, rfl, ?_⟩
        rw [List.map_id']
        refine run_cons (rs_asgO (i := 3) scSI.nd rfl (Or.inl rfl) (en_lst (ea_nil ⟨[], rfl, Nat.zero_le _, ?_⟩)))
        refine run_cons (rs_for (.tup [4, 2]) PassesOwn.never rfl ?_ ?_)
        · exact pg_tup rfl (pgs_cons (pg_name (i := 4) scSI.nd rfl (Or.inr rfl)) (pgs_cons (pg_name (i := 2) scSI.nd rfl (Or.inl rfl)) pgs_nil))
        refine ei_enum rfl B.enumerate (ev_v 1 rfl ⟨_, .inr rfl,
          fun i ρ' => ∃ a2 a4 a5, ρ' = [some (.slf C [some (.tuple (vs.map pT))]), some (.im (dL (vs.map pT))), a2, some (.ow (spotsL 0 ((vs.take i).map List.length))), a4, a5], ⟨_, _, _, rfl⟩, fun i y ρ' hy ⟨a2, a4, a5, er⟩ => ?_, fun ρ' ⟨a2, a4, a5, er⟩ => ?_⟩)
        · subst er
          have hi : i < vs.length := by
            have := (List.getElem?_eq_some_iff.mp hy).1
            unfold enumD at this
            simpa using this
          obtain ⟨a, ha⟩ := get_lt hi
          have := enumD_get hy (show (vs.map pT)[i]? = some (pT a) by rw [List.getElem?_map, ha]; rfl)
          subst this
          have c2 := (hv a (List.mem_of_getElem? ha)).2.1
          refine ⟨_, rfl, ?_⟩
          refine run_one (rs_if (et_notN (ev_v 2 rfl ⟨fun _ => ?_, fun z => (nomatch z)⟩)))
          refine run_one (rs_extend 3 rfl (Or.inl rfl) (en_lc1 (M := nSI) (sc := defScope sSI) 5 scSI.nd rfl rfl (by decide +kernel) (lch_map (fun z => .tuple [.int i, z]) ?_) rfl fun _ _ _ _ _ => pg_name (i := 5) scSI.nd rfl (Or.inl rfl)) (ho := ⟨_, rfl⟩))
          refine ei_range1 rfl B.range (ev_len rfl B.len (eq_tup (ev_v 2 rfl ⟨_, rfl, _, rfl, by omega, by rw [len_pI]; omega, ?_, fun j x hx => ?_, ?_⟩)))
          · rw [rangeD_len, len_pI]
            exact ssz _ (by omega)
          · exact ⟨_, rfl, fun s H C cl fp => ev_tup (ea_cons (ev_v 4 rfl (ea_cons (ev_v 5 rfl (ea_nil ⟨[_, _], rfl, (by show 2 ≤ sizeLine; decide), rfl, rfl⟩)))))⟩
          · have lr : (rangeD 0 (((pI a).length : Nat) : Int).toNat).map (fun z => PyData.tuple [.int i, z]) = spotsAt i a.length := by
              rw [Int.toNat_natCast, len_pI]
              unfold rangeD spotsAt
              rw [List.map_map]
              refine List.map_congr_left fun k _ => ?_
              show PyData.tuple [.int i, .int (0 + (k : Int))] = _
              rw [Int.zero_add]
            have ls : (spotsL 0 ((vs.take i).map List.length)).length + a.length ≤ 2 * (i + 1) := by
              rw [spotsL_len]
              have := nsum_le (xs := (vs.take i).map List.length) 2 fun x hx => by
                obtain ⟨q1, hq, e⟩ := List.mem_map.mp hx
                rw [← e]
                exact (hv q1 (List.mem_of_mem_take hq)).2.1
              rw [List.length_map, List.length_take] at this
              have : min i vs.length ≤ i := Nat.min_le_left ..
              omega
            rw [lr]
            refine ⟨_, rfl, ?_, ?_⟩
            · rw [spotsAt_len]
              exact ssz _ (by omega)
            · have e1 : spotsL 0 ((vs.take (i + 1)).map List.length) = spotsL 0 ((vs.take i).map List.length) ++ spotsAt i a.length := by
                rw [take_succ ha, List.map_append]
                show spotsL 0 (_ ++ [a.length]) = _
                rw [spots_snoc, List.length_map, List.length_take, Nat.min_eq_left (Nat.le_of_lt hi), Nat.zero_add]
              refine ⟨some (.im (dT (pI a))), some (.im (.d (.int (i : Int)))), none, ?_⟩
              rw [e1]
              rfl
        · subst er
          have lz : (enumD (vs.map pT)).length = vs.length := by unfold enumD; simp
          rw [lz, List.take_length]
          refine run_freeze 3 rfl (run_wipe 2 (run_wipe 4 (run_wipe 5 ?_)))
          refine run_one (rs_slot S 0 (i := 1) rfl (ev_v 3 rfl ⟨_, _, rfl, rfl, rfl, ?_⟩))
          exact ⟨stoD vs, (fun z => nomatch z), rfl, q⟩
  · exfalso
    rw [lv] at hz
    have := of_decide_eq_false hz
    omega
end
end K87
end
section
set_option Elab.async false
set_option linter.all false
set_option maxRecDepth 100000
set_option maxHeartbeats 4000000
/-! Plain: equality and shape of data. -/
namespace K87
open PySem PySem.Spec PyProof.Rows L2 DL
theorem eqvAll_map {α : Type} [DecidableEq α] {f : α → PyData} (h : ∀ x y, PyData.eqv (f x) (f y) = decide (x = y)) : ∀ xs ys : List α, PyData.eqvAll (xs.map f) (ys.map f) = decide (xs = ys)
  | [], [] => by simp [PyData.eqvAll]
  | [], y :: ys => by simp [PyData.eqvAll]
  | x :: xs, [] => by simp [PyData.eqvAll]
  | x :: xs, y :: ys => by
    rw [List.map_cons, List.map_cons]
    simp only [PyData.eqvAll]
    rw [h x y, eqvAll_map h xs ys]
    by_cases e : x = y
    · by_cases e2 : xs = ys <;> simp [e, e2]
    · simp [e]
theorem eqv_tup {α : Type} [DecidableEq α] {f : α → PyData} (h : ∀ x y, PyData.eqv (f x) (f y) = decide (x = y)) (xs ys : List α) : PyData.eqv (.tuple (xs.map f)) (.tuple (ys.map f)) = decide (xs = ys) := by
  rw [PyData.eqv]
  exact eqvAll_map h xs ys
theorem eqv_lst {α : Type} [DecidableEq α] {f : α → PyData} (h : ∀ x y, PyData.eqv (f x) (f y) = decide (x = y)) (xs ys : List α) : PyData.eqv (.list (xs.map f)) (.list (ys.map f)) = decide (xs = ys) := by
  rw [PyData.eqv]
  exact eqvAll_map h xs ys
theorem eqv_int (x y : Int) : PyData.eqv (.int x) (.int y) = decide (x = y) := by
  rw [PyData.eqv]
  by_cases e : x = y <;> simp [e]
theorem eqv_pT (a b : List Int) : PyData.eqv (pT a) (pT b) = decide (a = b) := eqv_tup eqv_int a b
/-- data that may be laid, no deeper than n -/
def Lay (n : Nat) (d : PyData) : Prop := d.canLay0 = true ∧ d.depth ≤ n
theorem lay_all : ∀ {xs : List PyData} {n : Nat}, (∀ x ∈ xs, Lay n x) → PyData.canLayAll0 xs = true ∧ PyData.depthAll xs ≤ n
  | [], n, _ => by simp [PyData.canLayAll0, PyData.depthAll]
  | x :: xs, n, h => by
    have h1 := h x List.mem_cons_self
    have h2 := lay_all (xs := xs) fun y hy => h y (List.mem_cons_of_mem _ hy)
    simp only [PyData.canLayAll0, PyData.depthAll]
    rw [h1.1, h2.1]
    exact ⟨rfl, Nat.max_le.mpr ⟨h1.2, h2.2⟩⟩
theorem lay_tup {xs : List PyData} {n : Nat} (h : ∀ x ∈ xs, Lay n x) : Lay (n + 1) (.tuple xs) := by
  have := lay_all h
  refine ⟨by rw [PyData.canLay0]; exact this.1, ?_⟩
  rw [PyData.depth]
  omega
theorem lay_lst {xs : List PyData} {n : Nat} (h : ∀ x ∈ xs, Lay n x) : Lay (n + 1) (.list xs) := by
  have := lay_all h
  refine ⟨by rw [PyData.canLay0]; exact this.1, ?_⟩
  rw [PyData.depth]
  omega
theorem lay_int (i : Int) : Lay 0 (.int i) := ⟨by rw [PyData.canLay0], by rw [PyData.depth]; omega⟩
theorem lay_map {α : Type} {n : Nat} {f : α → PyData} (h : ∀ x, Lay n (f x)) (xs : List α) : ∀ y ∈ xs.map f, Lay n y := fun y hy => by
  obtain ⟨x, _, e⟩ := List.mem_map.mp hy
  rw [← e]
  exact h x
theorem lay_pT (a : List Int) : Lay 1 (pT a) := lay_tup (lay_map lay_int a)
theorem lay_shp {n : Nat} {d : PyData} (h : Lay n d) (hn : n ≤ 64) : shp d := by
  show (d.canLay0 && decide (d.depth ≤ 64)) = true
  rw [h.1, decide_eq_true (Nat.le_trans h.2 hn)]
  rfl
theorem shp_rowsT (xs : List (List Int)) : shp (.tuple (xs.map pT)) := lay_shp (lay_tup (lay_map lay_pT xs)) (by decide)
theorem shp_rowsL (xs : List (List Int)) : shp (.list (xs.map pT)) := lay_shp (lay_lst (lay_map lay_pT xs)) (by decide)
/-- a tuple of rows -/
abbrev pR (b : List (List Int)) : PyData := .tuple (b.map pT)
theorem lay_pR (b : List (List Int)) : Lay 2 (pR b) := lay_tup (lay_map lay_pT b)
theorem eqv_pR (a b : List (List Int)) : PyData.eqv (pR a) (pR b) = decide (a = b) := eqv_tup eqv_pT a b
theorem any_eqv {α : Type} [DecidableEq α] {f : α → PyData} (h : ∀ x y, PyData.eqv (f x) (f y) = decide (x = y)) (xs : List α) (x : α) : ((xs.map f).any fun y => PyData.eqv y (f x)) = decide (x ∈ xs) := by
  rw [List.any_map]
  by_cases e : x ∈ xs
  · rw [decide_eq_true e, List.any_eq_true]
    exact ⟨x, e, by show PyData.eqv (f x) (f x) = true; rw [h x x, decide_eq_true rfl]⟩
  · rw [decide_eq_false e]
    refine Bool.eq_false_iff.mpr fun z => ?_
    obtain ⟨y, hy, hz⟩ := List.any_eq_true.mp z
    have : PyData.eqv (f y) (f x) = true := hz
    rw [h y x] at this
    exact e (of_decide_eq_true this ▸ hy)
end K87
end
section
set_option Elab.async false
set_option linter.all false
set_option maxRecDepth 100000
set_option maxHeartbeats 4000000
namespace K87
open PySem PySem.Spec PyProof.Rows L2 DL
/-- what a table gives of data -/
def valsL (p : Int) (ps : List (List (List Int))) (data : List Int) : List (List Int) := ps.map fun pc => pc.map fun r => valL p r data
section
variable {P : Program} {w : World} {K : PySem.W.Frag} {mg : Str → Option Value} {base : Heap} {f C D : Addr} {fd : FuncData}
/-! ### Stored.__eq__ -/
abbrev sSE : Stmt := cm 35 8
abbrev nSE : List Str := ["self", "other"]
theorem scSE : FnScope nSE ["self", "other"] (defScope sSE) := ⟨rfl, rfl, rfl, by decide +kernel, rfl, by decide +kernel, by decide +kernel⟩
def tSE (C : Addr) : Tr := fun ds Z => ∃ us vs, ds = [.ins C (stoD us), .ins C (stoD vs)] ∧ Z (dB (decide (us = vs)))
theorem own_se (B : Bl mg) (S : SlC K C slS) (I : SlX.SIsi K C) (hk : PySem.W.kitOne K (.ref C) (.ref C) = some true) (hm : mg "Stored" = some (.ref C)) (F : Fun K "__eq__" "Stored.__eq__" sSE f fd) : FnR P w K mg base CX0 1 f (spP K (tSE C)) := by
  refine fn_pure F scSE (F.binds fun _ _ _ _ _ _ us hl => match us, hl with | [_, _], _ => rfl) (fun ds Z ⟨_, _, e, _⟩ => by rw [e]; rfl) fun cdv A outer s H E hr ds Z ⟨us, vs, ed, q⟩ => ?_
  subst ed
  refine run_one (rs_ret (ev_and (ev_isiI S.c I hk rfl B.isinstance (by decide +kernel) rfl hm (ev_v 1 rfl ⟨⟨_, rfl⟩, true, rfl, fun _ => ?_, fun z => (nomatch z)⟩))))
  refine ev_one (ev_eq hr.units (ev_slot S (i := 0) rfl (ev_v 0 rfl ⟨_, _, rfl, rfl, ev_slot S (i := 0) rfl (ev_v 1 rfl ⟨_, _, rfl, rfl, _, _, rfl, rfl, shp_rowsT us, shp_rowsT vs, ?_⟩)⟩)))
  rw [eqv_pR]
  exact q
/-! ### Table.values_of -/
abbrev sTV : Stmt := cm 42 12
abbrev nTV : List Str := ["self", "piece", "data", "factors"]
theorem scTV : FnScope nTV ["self", "piece", "data"] (defScope sTV) := ⟨rfl, rfl, rfl, by decide +kernel, rfl, by decide +kernel, by decide +kernel⟩
def tTV (C : Addr) : Tr := fun ds Z => ∃ (p : Int) (n : Nat) (ps : List (List (List Int))) (pc : List (List Int)) (data : List Int), ds = [.ins C (tabD p n ps), .d (pPc pc), dT (pI data)] ∧ (p, n) ∈ combos ∧ pc.length ≤ 2 ∧ (∀ r ∈ pc, Wf p n r) ∧ Z (dT (pI (pc.map fun r => valL p r data)))
theorem own_tv (B : Bl mg) (S : SlC K C slT) (F : Fun K "values_of" "Table.values_of" sTV f fd) (oV : Own P w K mg base 1 "value_of" (spP K tVal)) : FnR P w K mg base CX0 2 f (spP K (tTV C)) := by
  refine fn_pure F scTV (F.binds fun _ _ _ _ _ _ us hl => match us, hl with | [_, _, _], _ => rfl) (fun ds Z ⟨_, _, _, _, _, e, _⟩ => by rw [e]; rfl) fun cdv A outer s H E hr ds Z ⟨p, n, ps, pc, data, ed, hc, c2, cw, q⟩ => ?_
  subst ed
  obtain ⟨p0, p5, n1, n3⟩ := combo_p hc
  refine run_one (rs_ret (ev_tuple rfl B.tuple (by decide +kernel) (eq_list (ev_new (en_lc1 (M := nTV) (sc := defScope sTV) 3 scTV.nd rfl rfl (by decide +kernel) (lch_map (fun z => .int (valL p (unT z) data)) ?_) rfl fun _ _ _ _ _ => pg_name (i := 3) scTV.nd rfl (Or.inl rfl))))))
  refine ei_tup (ev_v 1 rfl ⟨_, rfl, by rw [List.length_map]; exact sz (by omega), fun i x hx => ?_, ?_⟩)
  · rw [List.getElem?_map] at hx
    obtain ⟨r, hr2, ex⟩ := Option.map_eq_some_iff.mp hx
    subst ex
    have wr := cw r (List.mem_of_getElem? hr2)
    refine ⟨_, rfl, fun s H C' cl fp => ev_call oV hr rfl (ea_cons (ev_v 3 rfl (ea_cons (ev_v 2 rfl (ea_cons (ev_slot S (i := 1) rfl (ev_v 0 rfl ⟨_, _, rfl, rfl, ea_nil ⟨p, r, data, _, rfl, .inl rfl, p0, by rw [wr.1]; omega, wf_small wr (by omega), ?_, rfl⟩⟩)))))))⟩
    rw [unT_pT]
  · refine ⟨_, rfl, ?_⟩
    have e1 : (pc.map pT).map (fun z => PyData.int (valL p (unT z) data)) = pI (pc.map fun r => valL p r data) := by
      simp only [pI, List.map_map]
      refine List.map_congr_left fun r _ => ?_
      show PyData.int (valL p (unT (pT r)) data) = _
      rw [unT_pT]
      rfl
    rw [e1]
    exact q
/-! ### Table.__call__ -/
abbrev sTC : Stmt := cm 42 11
abbrev nTC : List Str := ["self", "data", "piece"]
theorem scTC : FnScope nTC ["self", "data"] (defScope sTC) := ⟨rfl, rfl, rfl, by decide +kernel, rfl, by decide +kernel, by decide +kernel⟩
def tTC (C D : Addr) : Tr := fun ds Z => ∃ (p : Int) (n : Nat) (ps : List (List (List Int))) (data : List Int), ds = [.ins C (tabD p n ps), dT (pI data)] ∧ (p, n) ∈ combos ∧ WfT p n ps ∧ Wf p n data ∧ Z (.ins D (stoD (valsL p ps data)))
theorem val_bd {p : Int} (p0 : 0 < p) (r data : List Int) : 0 ≤ valL p r data ∧ valL p r data < p := ⟨Int.emod_nonneg _ (by omega), Int.emod_lt_of_pos _ p0⟩
theorem own_tc (B : Bl mg) (S : SlC K C slT) (F : Fun K "__call__" "Table.__call__" sTC f fd) (oD : Own P w K mg base 4 "is_data" (spP K tData))
    (hV : ∃ g, SlX.SCls K C ∧ Meth K C "values_of" g ∧ FnR P w K mg base CX0 2 g (spP K (tTV C))) (oS : OwnI P w K mg base 3 "Stored" D tSI) : FnR P w K mg base CX0 5 f (spP K (tTC C D)) := by
  refine fn_pure F scTC (F.binds fun _ _ _ _ _ _ us hl => match us, hl with | [_, _], _ => rfl) (fun ds Z ⟨_, _, _, _, e, _⟩ => by rw [e]; rfl) fun cdv A outer s H E hr ds Z ⟨p, n, ps, data, ed, hc, ⟨w1, w5, wp⟩, wd, q⟩ => ?_
  subst ed
  obtain ⟨p0, p5, n1, n3⟩ := combo_p hc
  refine run_cons (rs_if (et_not (et_val (ev_call oD hr rfl (ea_cons (ev_slot S (i := 1) rfl (ev_v 0 rfl ⟨_, _, rfl, rfl, ea_cons (ev_slot S (i := 2) rfl (ev_v 0 rfl ⟨_, _, rfl, rfl, ea_cons (ev_v 1 rfl (ea_nil ⟨_, _, _, rfl, (size_combo hc).1, _, rfl, ?_⟩))⟩))⟩)))))))
  rw [data_wf wd]
  refine ⟨fun z => (nomatch z), fun _ => run_nil ?_⟩
  refine run_one (rs_ret (ev_make oS (hr.mono (by decide)) rfl (ea_cons (ev_new (en_lc1 (M := nTC) (sc := defScope sTC) 2 scTC.nd rfl rfl (by decide +kernel) (lch_map (fun z => pT ((unPc z).map fun r => valL p r data)) ?_) rfl fun _ _ _ _ _ => pg_name (i := 2) scTC.nd rfl (Or.inl rfl))))))
  refine ei_tup (ev_slot S (i := 0) rfl (ev_v 0 rfl ⟨_, _, rfl, rfl, _, rfl, by rw [List.length_map]; exact sz (by omega), fun i x hx => ?_, ?_⟩))
  · rw [List.getElem?_map] at hx
    obtain ⟨pc, hpc, ex⟩ := Option.map_eq_some_iff.mp hx
    subst ex
    obtain ⟨c1, c2, cw⟩ := wp pc (List.mem_of_getElem? hpc)
    refine ⟨_, rfl, fun s H C' cl fp => ev_meth (C := C) ⟨hV⟩ (hr.mono (by decide)) (ev_v 0 rfl ⟨_, rfl, ea_cons (ev_v 2 rfl (ea_cons (ev_v 1 rfl (ea_nil ⟨p, n, ps, pc, data, rfl, hc, c2, cw, ?_, rfl⟩))))⟩)⟩
    rw [unPc_pPc]
  · have e1 : (ps.map pPc).map (fun z => pT ((unPc z).map fun r => valL p r data)) = (valsL p ps data).map pT := by
      unfold valsL
      simp only [List.map_map]
      refine List.map_congr_left fun pc _ => ?_
      show pT ((unPc (pPc pc)).map _) = _
      rw [unPc_pPc]
      rfl
    rw [e1]
    refine ea_nil ⟨valsL p ps data, rfl, by unfold valsL; rw [List.length_map]; exact w1, by unfold valsL; rw [List.length_map]; exact w5, fun a ha => ?_, q⟩
    obtain ⟨pc, hpc, e⟩ := List.mem_map.mp ha
    obtain ⟨c1, c2, cw⟩ := wp pc hpc
    subst e
    refine ⟨by rw [List.length_map]; exact c1, by rw [List.length_map]; exact c2, fun x hx => ?_⟩
    obtain ⟨r, _, e⟩ := List.mem_map.mp hx
    subst e
    have := val_bd p0 r data
    omega
end
end K87
end
section
set_option Elab.async false
set_option linter.all false
set_option maxRecDepth 100000
set_option maxHeartbeats 4000000
namespace K87
open PySem PySem.Spec PyProof.Rows L2 DL
/-- a row as a tuple or a list -/
abbrev sqI (b : Bool) (a : List Int) : PyData := sq b (pI a)
theorem data_sq (b : Bool) {p : Int} {n : Nat} {a : List Int} (h : Wf p n a) : dataD p n (sqI b a) = true := by
  cases b
  · exact data_wf h
  · exact data_wf h
/-- the property x of the tables at C reads the slot i -/
def PrH (P : Program) (w : World) (K : PySem.W.Frag) (mg : Str → Option Value) (base : Heap) (C : Addr) (x : Str) (i : Nat) : Prop := ∃ p' g, PropAt K C p' g x ∧ FnR P w K mg base CX0 1 g (spP K (tGet C i))
structure TabP (P : Program) (w : World) (K : PySem.W.Frag) (mg : Str → Option Value) (base : Heap) (C : Addr) : Prop where
  prime : PrH P w K mg base C "prime" 1
  size : PrH P w K mg base C "size" 2
  pieces : PrH P w K mg base C "pieces" 0
section
variable {X : Cx} {ρ : DEnv} {Q : Dt → DEnv → Prop} {e : Expr} {pos : Pos} {C : Addr} {x : Str} {i : Nat}
theorem ev_pr (h : PrH X.prog X.w X.K X.mg X.base C x i) (hr : Room 2 X.A) (he : EvP X e ρ fun d ρ' => ∃ fs y, d = .ins C fs ∧ fs[i]? = some y ∧ Q (.d y) ρ') (hb : attributeBase e x X.env (eval e X.env) = eval e X.env := by rfl) : EvP X (.Attribute e x pos) ρ Q :=
  ev_prop (C := C) ⟨h⟩ hr (he.imp fun d ρ' ⟨fs, y, ed, hy, q⟩ => ⟨fs, ed, fs, y, rfl, hy, q⟩) hb
end
section
variable {P : Program} {w : World} {K : PySem.W.Frag} {mg : Str → Option Value} {base : Heap} {f C D : Addr} {fd : FuncData}
/-! ### is_strict_data -/
abbrev sStr : Stmt := top 44
abbrev nStr : List Str := ["table", "value"]
theorem scStr : FnScope nStr ["table", "value"] (defScope sStr) := ⟨rfl, rfl, rfl, by decide +kernel, rfl, by decide +kernel, by decide +kernel⟩
def tStr (C : Addr) : Tr := fun ds Z => ∃ (p : Int) (n : Nat) (ps : List (List (List Int))) (v : PyData), ds = [.ins C (tabD p n ps), .d v] ∧ (p, n) ∈ combos ∧ Z (dB (isD v "tuple" && dataD p n v))
theorem own_str (B : Bl mg) (h : At K mg "is_strict_data" sStr f fd) (T : TabP P w K mg base C) (oD : Own P w K mg base 4 "is_data" (spP K tData)) : Own P w K mg base 5 "is_strict_data" (spP K (tStr C)) := by
  refine def_pure h.fn scStr h.mg (h.fn.binds fun _ _ _ _ _ _ us hl => match us, hl with | [_, _], _ => rfl) (fun ds Z ⟨_, _, _, _, e, _⟩ => by rw [e]; rfl) fun cdv A outer s H E hr ds Z ⟨p, n, ps, v, ed, hc, q⟩ => ?_
  subst ed
  refine run_one (rs_ret (ev_and (ev_isi (T := "tuple") (.inr (.inr (.inr (.inl rfl)))) rfl B.isinstance (by decide +kernel) rfl B.tuple (by decide +kernel) (ev_v 1 rfl ⟨v, rfl, _, rfl, fun h1 => ?_, fun h1 => ?_⟩))))
  · rw [h1, Bool.true_and] at q
    exact ev_one (ev_call oD hr rfl (ea_cons (ev_pr T.prime (hr.mono (by decide)) (ev_v 0 rfl ⟨_, _, rfl, rfl, ea_cons (ev_pr T.size (hr.mono (by decide)) (ev_v 0 rfl ⟨_, _, rfl, rfl, ea_cons (ev_v 1 rfl (ea_nil ⟨_, _, _, rfl, (size_combo hc).1, q⟩))⟩))⟩))))
  · rw [h1, Bool.false_and] at q
    exact q
/-! ### touched_number -/
abbrev sTN : Stmt := top 46
abbrev nTN : List Str := ["table", "data", "found", "piece", "row", "is_touched"]
theorem scTN : FnScope nTN ["table", "data"] (defScope sTN) := ⟨rfl, rfl, rfl, by decide +kernel, rfl, by decide +kernel, by decide +kernel⟩
def tTN (C : Addr) : Tr := fun ds Z => ∃ (p : Int) (n : Nat) (ps : List (List (List Int))) (b : Bool) (data : List Int), ds = [.ins C (tabD p n ps), .d (sqI b data)] ∧ (p, n) ∈ combos ∧ WfT p n ps ∧ Wf p n data ∧ Z (dI (touL p ps data))
theorem zero_vals (p : Int) (pc : List (List Int)) (data : List Int) : zeroL (pc.map fun r => valL p r data) = zeroPc p pc data := by
  unfold zeroL zeroPc
  rw [List.all_map]
  rfl
def isT : PyData → Bool
  | .bool b => b
  | _ => false
theorem own_tn (B : Bl mg) (h : At K mg "touched_number" sTN f fd) (T : TabP P w K mg base C) (oV : Own P w K mg base 1 "value_of" (spP K tVal)) : Own P w K mg base 3 "touched_number" (spP K (tTN C)) := by
  refine def_pure h.fn scTN h.mg (h.fn.binds fun _ _ _ _ _ _ us hl => match us, hl with | [_, _], _ => rfl) (fun ds Z ⟨_, _, _, _, _, e, _⟩ => by rw [e]; rfl) fun cdv A outer s H E hr ds Z ⟨p, n, ps, b, data, ed, hc, ⟨w1, w5, wp⟩, wd, q⟩ => ?_
  subst ed
  obtain ⟨p0, p5, n1, n3⟩ := combo_p hc
  refine run_cons (rs_asgLc (i := 2) (own := [("piece", 3)]) (.one 3) rfl scTN.nd rfl rfl (sw_true rfl rfl rfl (by decide +kernel)) rfl (blkOk_by (N := nTN) (sc := defScope sTN) (by decide +kernel)) (fun _ _ _ _ _ => pg_name (i := 3) scTN.nd rfl (Or.inl rfl)) (lch_map (fun z => .bool (!zeroPc p (unPc z) data)) ?_))
  refine ei_tup (ev_pr T.pieces hr (ev_v 0 rfl ⟨_, _, rfl, rfl, _, rfl, by rw [List.length_map]; exact sz (by omega), fun i x hx => ?_, ?_⟩))
  · rw [List.getElem?_map] at hx
    obtain ⟨pc, hpc, ex⟩ := Option.map_eq_some_iff.mp hx
    subst ex
    obtain ⟨c1, c2, cw⟩ := wp pc (List.mem_of_getElem? hpc)
    refine ⟨_, rfl, fun s H C' cl fp => ev_any rfl rfl B.any (by decide +kernel) (eq_list (ev_new (en_lc1 (M := nTN) 4 scTN.nd rfl rfl (by rfl) (lch_map (fun z => .int (valL p (unT z) data)) ?_) rfl fun _ _ _ _ _ => pg_name (i := 4) scTN.nd rfl (Or.inl rfl))))⟩
    refine ei_tup (ev_v 3 rfl ⟨_, rfl, by rw [List.length_map]; exact sz (by omega), fun j z hz => ?_, ?_⟩)
    · rw [List.getElem?_map] at hz
      obtain ⟨r, hr2, ez⟩ := Option.map_eq_some_iff.mp hz
      subst ez
      have wr := cw r (List.mem_of_getElem? hr2)
      refine ⟨_, rfl, fun s H C2 cl fp => ev_call oV (hr.mono (by decide)) rfl (ea_cons (ev_v 4 rfl (ea_cons (ev_v 1 rfl (ea_cons (ev_pr T.prime hr (ev_v 0 rfl ⟨_, _, rfl, rfl, ea_nil ⟨p, r, data, _, rfl, sq_or' b _, p0, by rw [wr.1]; omega, wf_small wr (by omega), ?_, rfl⟩⟩)))))))⟩
      rw [unT_pT]
    · have e1 : (pc.map pT).map (fun z => PyData.int (valL p (unT z) data)) = pI (pc.map fun r => valL p r data) := by
        simp only [pI, List.map_map]
        refine List.map_congr_left fun r _ => ?_
        show PyData.int (valL p (unT (pT r)) data) = _
        rw [unT_pT]
        rfl
      rw [e1]
      refine ⟨_, rfl, _, tru_ints _, ?_, rfl⟩
      rw [any_ne, zero_vals, unPc_pPc]
  · have e2 : (ps.map pPc).map (fun z => PyData.bool (!zeroPc p (unPc z) data)) = pB (ps.map fun pc => !zeroPc p pc data) := by
      simp only [pB, List.map_map]
      refine List.map_congr_left fun pc _ => ?_
      show PyData.bool (!zeroPc p (unPc (pPc pc)) data) = _
      rw [unPc_pPc]
      rfl
    rw [e2]
    refine run_one (rs_ret (ev_len rfl B.len (eq_list (ev_new (en_lc1 (M := nTN) (sc := defScope sTN) 5 scTN.nd rfl rfl (by decide +kernel) (lch_mf isT (fun z => z) ?_) rfl fun _ _ _ _ _ => pg_name (i := 5) scTN.nd rfl (Or.inl rfl))))))
    refine ei_list (ev_v 2 rfl ⟨_, rfl, by rw [List.length_map, List.length_map]; exact sz (by omega), fun i x hx => ?_, ?_⟩)
    · rw [List.getElem?_map] at hx
      obtain ⟨c, hpc, ex⟩ := Option.map_eq_some_iff.mp hx
      subst ex
      exact ⟨_, rfl, fun s H C' cl fp => ets_one (et_val (ev_v 5 rfl ⟨c, rfl, rfl, rfl, fun _ s H C' cl fp => ev_v 5 rfl ⟨rfl, rfl⟩⟩))⟩
    · refine ⟨_, rfl, ?_⟩
      rw [List.map_id', filter_len, show (((ps.map fun pc => !zeroPc p pc data).filter fun x => isT (.bool x)).length) = touL p ps data from filter_len (fun pc => !zeroPc p pc data) (fun x => isT (.bool x)) ps]
      exact q
/-! ### touches -/
abbrev sTou : Stmt := top 47
theorem scTou : FnScope ["table", "data"] ["table", "data"] (defScope sTou) := ⟨rfl, rfl, rfl, by decide +kernel, rfl, by decide +kernel, by decide +kernel⟩
def tTou (C D : Addr) : TrX := fun ds Z Y => ∃ (p : Int) (n : Nat) (ps : List (List (List Int))) (v : PyData), ds = [.ins C (tabD p n ps), .d v] ∧ (p, n) ∈ combos ∧ WfT p n ps ∧
  ((∃ b data, v = sqI b data ∧ Wf p n data ∧ ((zeroL data = false ∧ Z (dI (touL p ps data))) ∨ (zeroL data = true ∧ Y D "value" v))) ∨ (dataD p n v = false ∧ Y D "value" v))
theorem own_tou {fI : Addr} (B : Bl mg) (h : At K mg "touches" sTou f fd) (T : TabP P w K mg base C) (X0 : ExS.ExF P K D fI "value") (hE : mg "InvalidData" = some (.ref D)) (oD : Own P w K mg base 4 "is_data" (spP K tData)) (oN : Own P w K mg base 3 "touched_number" (spP K (tTN C))) : OwnXc P w K mg base 6 "touches" (tTou C D) := by
  refine def_exc (k := 3) h.fn scTou h.mg (h.fn.binds fun _ _ _ _ _ _ us hl => match us, hl with | [_, _], _ => rfl) (fun ds Z Y ⟨_, _, _, _, e, _⟩ => by rw [e]; rfl) X0 hE (fun _ _ => rfl) (by decide) rfl (fun _ _ => rfl) fun cdv A outer s H E hr ds Z Y ⟨p, n, ps, v, ed, hc, hw, q⟩ => ?_
  subst ed
  refine et_w (ew_or (et_not (et_val (ev_call oD (hr.mono (by decide)) rfl (ea_cons (ev_pr T.prime (hr.mono (by decide)) (ev_v 0 rfl ⟨_, _, rfl, rfl, ea_cons (ev_pr T.size (hr.mono (by decide)) (ev_v 0 rfl ⟨_, _, rfl, rfl, ea_cons (ev_v 1 rfl (ea_nil ⟨_, _, _, rfl, (size_combo hc).1, _, rfl, ?_⟩))⟩))⟩)))))))
  rcases q with ⟨b, data, ev, wd, q⟩ | ⟨hd, q⟩
  · subst ev
    rw [data_sq b wd]
    refine ⟨fun _ => ?_, fun z => (nomatch z)⟩
    refine ew_or1 (et_not (et_val (ev_any rfl rfl B.any (by decide +kernel) (eq_seq (ev_v 1 rfl ⟨_, sq_or b _, fun _ => ⟨_, tru_ints _, _, rfl, ?_⟩⟩)))))
    rw [any_ne]
    rcases q with ⟨hz, q⟩ | ⟨hz, q⟩
    · rw [hz]
      refine ⟨fun z => (nomatch z), fun _ => run_one (rs_ret (ev_call oN (hr.mono (by decide)) rfl (ea_cons (ev_v 0 rfl (ea_cons (ev_v 1 rfl (ea_nil ⟨p, n, ps, b, data, rfl, hc, hw, wd, q⟩)))))))⟩
    · rw [hz]
      exact ⟨fun _ => ev_v 1 rfl ⟨_, rfl, q⟩, fun z => (nomatch z)⟩
  · rw [hd]
    exact ⟨fun z => (nomatch z), fun _ => ⟨fun _ => ev_v 1 rfl ⟨_, rfl, q⟩, fun z => (nomatch z)⟩⟩
end
end K87
end
section
set_option Elab.async false
set_option linter.all false
set_option maxRecDepth 100000
set_option maxHeartbeats 4000000
/-! Plain mathematics of k87: ranking and taking. -/
namespace K87
open PySem PySem.Spec PyProof.Rows L2 DL
/-- a number and a row, as data -/
def pk (x : Int × List Int) : PyData := .tuple [.int x.1, pT x.2]
def rkLe (a b : Int × List Int) : Bool := decide (a.1 < b.1 ∨ (a.1 = b.1 ∧ a.2 ≤ b.2))
theorem rkLe_total : PySem.W.TotalLe rkLe where
  total a b := by
    unfold rkLe
    simp only [decide_eq_true_eq]
    rcases Int.lt_trichotomy a.1 b.1 with h | h | h
    · exact .inl (.inl h)
    · rcases List.le_total a.2 b.2 with q | q
      · exact .inl (.inr ⟨h, q⟩)
      · exact .inr (.inr ⟨h.symm, q⟩)
    · exact .inr (.inl h)
  trans a b c h1 h2 := by
    unfold rkLe at *
    simp only [decide_eq_true_eq] at *
    rcases h1 with h1 | ⟨h1, h3⟩
    · rcases h2 with h2 | ⟨h2, h4⟩
      · exact .inl (by omega)
      · exact .inl (by omega)
    · rcases h2 with h2 | ⟨h2, h4⟩
      · exact .inl (by omega)
      · exact .inr ⟨by omega, List.le_trans h3 h4⟩
theorem alike_int (x y : Int) : PySem.W.alike (.int x) (.int y) = true := by simp [PySem.W.alike]
theorem alike_pT (a b : List Int) : PySem.W.alike (pT a) (pT b) = true := by
  rw [PySem.W.alike]
  exact PySem.W.alike_ints a b
theorem alike_pk (x y : Int × List Int) : PySem.W.alike (pk x) (pk y) = true := by
  unfold pk
  rw [PySem.W.alike, PySem.W.alikeAll, PySem.W.alikeAll, alike_int, alike_pT]
  simp [PySem.W.alikeAll]
theorem lt_pT (a b : List Int) : PySem.W.dataLt (pT a) (pT b) = decide (a < b) := by
  show PySem.W.dataLt (.tuple (a.map .int)) (.tuple (b.map .int)) = _
  rw [PySem.W.dataLt_tuple]
  exact PySem.W.dataLt_ints a b
theorem le_pk (x y : Int × List Int) : PySem.W.dataLe false id (pk x) (pk y) = rkLe x y := by
  show (!PySem.W.dataLt (pk y) (pk x)) = _
  unfold pk rkLe
  rw [PySem.W.dataLt_pair (alike_int _ _) (alike_pT _ _), eqv_int, eqv_pT, lt_pT, PySem.W.dataLt_int]
  by_cases h1 : y.1 = x.1
  · rw [if_pos (decide_eq_true h1)]
    by_cases h2 : y.2 = x.2
    · have : x.2 ≤ y.2 := h2 ▸ List.le_refl _
      simp [h1, h2]
    · rw [if_neg (by simpa using h2)]
      by_cases h3 : y.2 < x.2
      · have : ¬ x.2 ≤ y.2 := fun q => List.not_lt.mpr q h3
        simp [h1, h3, this]
      · have : x.2 ≤ y.2 := List.not_lt.mp h3
        simp [h1, h3, this]
  · rw [if_neg (by simpa using h1)]
    by_cases h2 : y.1 < x.1
    · have : ¬ (x.1 < y.1 ∨ (x.1 = y.1 ∧ x.2 ≤ y.2)) := by omega
      simp [h2, this]
    · have : x.1 < y.1 := by omega
      simp [h2, this]
theorem sort_pk (l : List (Int × List Int)) : (l.map pk).mergeSort (PySem.W.dataLe false id) = (l.mergeSort rkLe).map pk := (PySem.W.sort_maps (r := rkLe) pk fun a _ b _ => (le_pk a b).symm).symm
/-- the data that isn't zero, each with its touches, ranked -/
def rkL (p : Int) (n : Nat) (ps : List (List (List Int))) : List (Int × List Int) := (((rowsG p n).filter fun d => !zeroL d).map fun d => (((touL p ps d : Nat) : Int), d)).mergeSort rkLe
/-- taking the next -/
def fwStep (p : Int) (s : List (List Int) × List (List Int) × Int) (x : Int × List Int) : List (List Int) × List (List Int) × Int :=
  if zeroL (restL p x.2 s.1) = true then s else (redL p (s.1 ++ [x.2]), s.2.1 ++ [x.2], s.2.2 + x.1)
def fwL (p : Int) (xs : List (Int × List Int)) : List (List Int) × List (List Int) × Int := xs.foldl (fwStep p) ([], [], 0)
theorem fwL_snoc (p : Int) (xs : List (Int × List Int)) (x : Int × List Int) : fwL p (xs ++ [x]) = fwStep p (fwL p xs) x := by
  unfold fwL
  rw [List.foldl_append]
  rfl
section
variable {p : Int} {n : Nat} (hc : (p, n) ∈ combos)
include hc
theorem red_mem {rows : List (List Int)} {o : List Int} : o ∈ redL p rows ↔ o ∈ rawL p rows := by
  unfold redL
  rw [← merge_isort leadLe_total]
  exact List.mem_mergeSort
theorem red_len {rows : List (List Int)} : (redL p rows).length = (rawL p rows).length := by
  unfold redL
  rw [← merge_isort leadLe_total]
  exact List.length_mergeSort _
theorem red_rows {rows : List (List Int)} (h : ∀ r ∈ rows, Wf p n r) : Rows p n (redL p rows) ∧ (redL p rows).length ≤ n := by
  have hs : rawL p rows ∈ rawS p n := raw_fold hc (raw_nil hc) h
  obtain ⟨rs, ls, _⟩ := raw_s hc hs
  exact ⟨fun o ho => rs o ((red_mem hc).mp ho), by rw [red_len hc]; exact ls⟩
theorem fw_ok : ∀ (xs : List (Int × List Int)) (s : List (List Int) × List (List Int) × Int), (∀ x ∈ xs, Wf p n x.2) → Rows p n s.1 → s.1.length ≤ n → Rows p n (xs.foldl (fwStep p) s).1 ∧ (xs.foldl (fwStep p) s).1.length ≤ n
  | [], s, _, h1, h2 => ⟨h1, h2⟩
  | x :: xs, s, h, h1, h2 => by
    refine fw_ok xs (fwStep p s x) (fun y hy => h y (List.mem_cons_of_mem _ hy)) ?_ ?_
    · unfold fwStep
      split
      · exact h1
      · refine (red_rows hc fun r hr => ?_).1
        rcases List.mem_append.mp hr with z | z
        · exact (h1 r z).1
        · rw [List.mem_singleton.mp z]; exact h x List.mem_cons_self
    · unfold fwStep
      split
      · exact h2
      · refine (red_rows hc fun r hr => ?_).2
        rcases List.mem_append.mp hr with z | z
        · exact (h1 r z).1
        · rw [List.mem_singleton.mp z]; exact h x List.mem_cons_self
end
theorem fw_base : ∀ (xs : List (Int × List Int)) (s : List (List Int) × List (List Int) × Int) {p : Int}, (xs.foldl (fwStep p) s).2.1.length ≤ s.2.1.length + xs.length
  | [], s, p => Nat.le_refl _
  | x :: xs, s, p => by
    have := fw_base xs (fwStep p s x) (p := p)
    have h : (fwStep p s x).2.1.length ≤ s.2.1.length + 1 := by
      unfold fwStep
      split
      · omega
      · simp
    simp only [List.foldl_cons, List.length_cons]
    omega
end K87
end
section
set_option Elab.async false
set_option linter.all false
set_option maxRecDepth 100000
set_option maxHeartbeats 4000000
/-! The data logic: x, y, z = e, [..], 0 with the list still to be changed. -/
namespace DL
open PySem PySem.Spec PyProof.Rows L2 Evl
section
variable {X : Cx} {ρ : DEnv} {P : Post} {e1 e2 : Expr} {i j l : Nat} {x y z : Str} {k2 kk kt} {pt2 px py pz pt pos p3 : Pos} {n : Int}
theorem rs_parO3 (hc : X.calm = true) (hN : X.N.Nodup) (hi : X.N[i]? = some x) (hj : X.N[j]? = some y) (hl : X.N[l]? = some z) (hij : i ≠ j) (hil : i ≠ l) (hjl : j ≠ l)
    (hx : X.env.scope.names.lookup x = some .local) (hy : X.env.scope.names.lookup y = some .local) (hz : X.env.scope.names.lookup z = some .local)
    (h : EvP X e1 ρ fun d1 ρ1 => EvN X e2 ρ1 fun ds ρ2 => P.nx (((ρ2.set i (some (.im d1))).set j (some (.ow ds))).set l (some (.im (dI n)))))
    (hw : swappedStores [.Tuple [.Name x px, .Name y py, .Name z pz] kt pt] (.Tuple [e1, e2, .Constant (.int n) kk p3] k2 pt2) X.env = pure (some [x, y, z]) := by rfl)
    (hs : swapsWithSole [.Tuple [.Name x px, .Name y py, .Name z pz] kt pt] (.Tuple [e1, e2, .Constant (.int n) kk p3] k2 pt2) pos.line X.env = pure false := by rfl)
    (s1 : starEach [e1, e2, .Constant (.int n) kk p3] X.env = (false, eval e1 X.env) :: starEach [e2, .Constant (.int n) kk p3] X.env := by rfl) (s2 : starEach [e2, .Constant (.int n) kk p3] X.env = (false, eval e2 X.env) :: starEach [.Constant (.int n) kk p3] X.env := by rfl) (s3 : starEach [.Constant (.int n) kk p3] X.env = (false, eval (.Constant (.int n) kk p3) X.env) :: starEach [] X.env := by rfl) :
    RunS X (.Assign [.Tuple [.Name x px, .Name y py, .Name z pz] kt pt] (.Tuple [e1, e2, .Constant (.int n) kk p3] k2 pt2) pos) ρ P := fun H0 M O S σ H E D a b c d =>
  ⟨_, ps_par3 hc hN hi hj hl hij hil hjl hx hy hz (pa_cons pe_w (pa_cons pe_w (pa_cons pe_int pa_nil s3) s2) s1) hw hs, h H0 M O S σ H E _ fun v1 H1 d1 ρ1 hb E1 r1 => hb _ M O S σ H1 E1.re _ fun p vs H2 ds ρ2 q np E2 E2' hp r2 => by
    have G1 := E1.back' E2'
    have q1 := dt_mono E2'.stay' r1
    refine ⟨v1, .ref p, .int n, rfl, ?_⟩
    have nn := new_no E2 np
    have A1 := G1.set_im (i := i) q1
    have A2 := A1.set_ow (i := j) (p := p) (vs := vs) (ds := ds) (fun j' es hr he => by
      rcases set_get hr with ⟨_, h2⟩ | ⟨h1, h2⟩
      · cases h2
      · rw [List.getElem?_set_ne h1] at he
        exact nn j' es h2 he) hp r2
    exact a (p :: O) _ _ _ q (A2.set_im (i := l) dt_int)⟩
end
end DL
end
section
set_option Elab.async false
set_option linter.all false
set_option maxRecDepth 100000
set_option maxHeartbeats 4000000
namespace K87
open PySem PySem.Spec PyProof.Rows L2 DL
theorem rowsG_all {p : Int} {n : Nat} (hc : (p, n) ∈ combos) : rowsG p n = allL p n := by
  have : combos.all (fun c => rowsG c.1 c.2 == allL c.1 c.2) = true := by decide +kernel
  exact eq_of_beq (List.all_eq_true.mp this _ hc)
theorem len_rows {p : Int} {n : Nat} (hc : (p, n) ∈ combos) : (rowsG p n).length ≤ 343 := by
  obtain ⟨p0, p5, n1, n3⟩ := combo_p hc
  rw [rowsG_all hc, len_all]
  exact pow_le (by omega) n3
theorem rk_mem {p : Int} {n : Nat} (hc : (p, n) ∈ combos) {ps : List (List (List Int))} {x : Int × List Int} : x ∈ rkL p n ps ↔ Wf p n x.2 ∧ zeroL x.2 = false ∧ x.1 = ((touL p ps x.2 : Nat) : Int) := by
  unfold rkL
  rw [List.mem_mergeSort, rowsG_all hc]
  constructor
  · intro h
    obtain ⟨d, hd, e⟩ := List.mem_map.mp h
    obtain ⟨h1, h2⟩ := List.mem_filter.mp hd
    subst e
    exact ⟨mem_all h1, by simpa using h2, rfl⟩
  · rintro ⟨h1, h2, h3⟩
    refine List.mem_map.mpr ⟨x.2, List.mem_filter.mpr ⟨all_mem (combo_p hc).1 h1, by simpa using h2⟩, ?_⟩
    rw [← h3]
theorem rk_len {p : Int} {n : Nat} (hc : (p, n) ∈ combos) {ps : List (List (List Int))} : (rkL p n ps).length ≤ 343 := by
  unfold rkL
  rw [List.length_mergeSort, List.length_map]
  exact Nat.le_trans (List.length_filter_le _ _) (len_rows hc)
section
variable {P : Program} {w : World} {K : PySem.W.Frag} {mg : Str → Option Value} {base : Heap} {f C D : Addr} {fd : FuncData}
/-! ### fewest_touches -/
abbrev sFew : Stmt := top 48
abbrev nFew : List Str := ["table", "found", "base", "total", "data", "ranked", "number"]
theorem scFew : FnScope nFew ["table"] (defScope sFew) := ⟨rfl, rfl, rfl, by decide +kernel, rfl, by decide +kernel, by decide +kernel⟩
def tFew (C : Addr) : Tr := fun ds Z => ∃ (p : Int) (n : Nat) (ps : List (List (List Int))), ds = [.ins C (tabD p n ps)] ∧ (p, n) ∈ combos ∧ WfT p n ps ∧ Z (dT [.int (fwL p (rkL p n ps)).2.2, pR (fwL p (rkL p n ps)).2.1])
theorem own_few (B : Bl mg) (h : At K mg "fewest_touches" sFew f fd) (T : TabP P w K mg base C) (oN : Own P w K mg base 3 "touched_number" (spP K (tTN C))) (oG : OwnGd P w K mg base 2 "all_rows" tRows) (oH : Own P w K mg base 3 "has_row" (spP K tHas)) (oR : Own P w K mg base 4 "reduced" (spP K tRed)) : Own P w K mg base 5 "fewest_touches" (spP K (tFew C)) := by
  refine def_pure h.fn scFew h.mg (h.fn.binds fun _ _ _ _ _ _ us hl => match us, hl with | [_], _ => rfl) (fun ds Z ⟨_, _, _, e, _⟩ => by rw [e]; rfl) fun cdv A outer s H E hr ds Z ⟨p, n, ps, ed, hc, hw, q⟩ => ?_
  subst ed
  obtain ⟨p0, p5, n1, n3⟩ := combo_p hc
  refine run_cons (rs_parO3 (i := 1) (j := 2) (l := 3) rfl scFew.nd rfl rfl rfl (by decide) (by decide) (by decide) rfl rfl rfl (ev_new (en_lst (ea_nil ⟨[], rfl, Nat.zero_le _, en_lst (ea_nil ⟨[], rfl, Nat.zero_le _, ?_⟩)⟩))))
  refine run_cons (rs_asg (i := 5) scFew.nd rfl (Or.inl rfl) (ev_new (en_sort rfl B.sorted (by decide +kernel) (eq_list (ev_new ?_)))))
  refine en_lcG (k := 2) (T := tRows) 4 ⟨oG⟩ (hr.mono (by decide)) rfl scFew.nd rfl (blkOk_by (N := nFew) (sc := defScope sFew) (by decide +kernel)) (by decide +kernel) (fun _ _ _ _ _ => pg_name (i := 4) scFew.nd rfl (Or.inl rfl)) ?_
  refine ea_cons (ev_pr T.size (hr.mono (by decide)) (ev_v 0 rfl ⟨_, _, rfl, rfl, ?_⟩))
  refine ea_cons (ev_pr T.prime (hr.mono (by decide)) (ev_v 0 rfl ⟨_, _, rfl, rfl, ?_⟩))
  refine ea_nil ⟨[(n : Int), p], rowsG p n, (fun d => !zeroL d), (fun d => pk (((touL p ps d : Nat) : Int), d)), rfl, ⟨n, p, rfl, p0, by omega, n3, rfl⟩, sz (by have := len_rows hc; omega), rfl, fun row hrow ρ2 er s H C' cl fp => ?_, ?_⟩
  · subst er
    have wrow : Wf p n row := mem_all (by rw [← rowsG_all hc]; exact hrow)
    refine ets_one (et_val (ev_any rfl rfl B.any (by decide +kernel) (eq_tup (ev_v 4 rfl ⟨_, rfl, _, tru_ints _, _, rfl, any_ne row, rfl, fun _ s H C' cl fp => ?_⟩))))
    exact ev_tup (ea_cons (ev_call oN (hr.mono (by decide)) rfl (ea_cons (ev_v 0 rfl (ea_cons (ev_v 4 rfl (ea_nil ⟨p, n, ps, true, row, rfl, hc, hw, wrow, ea_cons (ev_v 4 rfl (ea_nil ⟨[_, _], rfl, (by show 2 ≤ sizeLine; decide), rfl, rfl⟩))⟩)))))))
  have em : ((rowsG p n).filter fun d => !zeroL d).map (fun d => pk (((touL p ps d : Nat) : Int), d)) = (((rowsG p n).filter fun d => !zeroL d).map fun d => (((touL p ps d : Nat) : Int), d)).map pk := by
    rw [List.map_map]
    rfl
  rw [em]
  refine ⟨_, rfl, rfl, PySem.W.AllAlike.of alike_pk, PySem.W.Sortable.tuples fun b => ⟨_, _, rfl⟩, fun d hd => ?_, ?_⟩
  · obtain ⟨x, _, e⟩ := List.mem_map.mp hd
    have := (lay_tup (n := 1) (xs := [.int x.1, pT x.2]) fun y hy => by
      rcases List.mem_cons.mp hy with z | z
      · rw [z]; exact ⟨(lay_int _).1, Nat.le_trans (lay_int _).2 (by decide)⟩
      · rw [List.mem_singleton.mp z]; exact lay_pT _).2
    subst e
    have hu := hr.units
    show (A.deeper (envOfC (Str.ofString "fewest_touches") (defScope sFew) s.heap.objs.size f cdv)).units + 2 + (PyData.tuple [.int x.1, pT x.2]).depth < cLine
    omega
  rw [sort_pk]
  show RunP _ _ [some (.im (.ins C (tabD p n ps))), some (.im (dL [])), some (.ow []), some (.im (dI 0)), none, some (.im (dL ((rkL p n ps).map pk))), none] _
  have hl := rk_len hc (ps := ps)
  have hwf : ∀ x ∈ rkL p n ps, Wf p n x.2 := fun x hx => ((rk_mem hc).mp hx).1
  refine run_cons (rs_for (.tup [6, 4]) PassesOwn.never rfl ?_ ?_)
  · exact pg_tup rfl (pgs_cons (pg_name (i := 6) scFew.nd rfl (Or.inl rfl)) (pgs_cons (pg_name (i := 4) scFew.nd rfl (Or.inl rfl)) pgs_nil))
  refine ei_list (ev_v 5 rfl ⟨_, rfl, fun i ρ' => ∃ a4 a6, ρ' = [some (.im (.ins C (tabD p n ps))), some (.im (dL ((fwL p ((rkL p n ps).take i)).1.map pT))), some (.ow ((fwL p ((rkL p n ps).take i)).2.1.map pT)), some (.im (dI (fwL p ((rkL p n ps).take i)).2.2)), a4, some (.im (dL ((rkL p n ps).map pk))), a6], ⟨_, _, rfl⟩, fun i y ρ' hy ⟨a4, a6, er⟩ => ?_, fun ρ' ⟨a4, a6, er⟩ => ?_⟩)
  · subst er
    rw [List.getElem?_map] at hy
    obtain ⟨⟨tn, row⟩, hx, ey⟩ := Option.map_eq_some_iff.mp hy
    subst ey
    have hi : i < (rkL p n ps).length := (List.getElem?_eq_some_iff.mp hx).1
    have wrow : Wf p n row := hwf _ (List.mem_of_getElem? hx)
    have e1 : fwL p ((rkL p n ps).take (i + 1)) = fwStep p (fwL p ((rkL p n ps).take i)) (tn, row) := by
      rw [take_succ hx, fwL_snoc]
    obtain ⟨rs, ls⟩ := fw_ok hc ((rkL p n ps).take i) ([], [], 0) (fun x hx => hwf x (List.mem_of_mem_take hx)) (fun o ho => nomatch ho) (Nat.zero_le _)
    have lb := fw_base ((rkL p n ps).take i) ([], [], 0) (p := p)
    have ls' : (fwL p ((rkL p n ps).take i)).1.length ≤ n := ls
    have rs' : Rows p n (fwL p ((rkL p n ps).take i)).1 := rs
    have lb' : (fwL p ((rkL p n ps).take i)).2.1.length ≤ 0 + ((rkL p n ps).take i).length := lb
    rw [List.length_take] at lb'
    generalize hs : fwL p ((rkL p n ps).take i) = st at e1 ls' rs' lb' ⊢
    obtain ⟨fo, ba, to⟩ := st
    replace ls' : fo.length ≤ n := ls'
    replace rs' : Rows p n fo := rs'
    replace lb' : ba.length ≤ 0 + min i (rkL p n ps).length := lb'
    refine ⟨_, rfl, ?_⟩
    refine run_one (rs_if (et_not (et_val (ev_call oH (hr.mono (by decide)) rfl ?_))))
    refine ea_cons (ev_v 1 rfl (ea_cons (ev_v 4 rfl ?_)))
    refine ea_cons (ev_pr T.prime (hr.mono (by decide)) (ev_v 0 rfl ⟨_, _, rfl, rfl, ?_⟩))
    refine ea_nil ⟨p, n, row, fo, rfl, p0, by omega, by omega, wrow, rs', _, rfl, fun hz => ?_, fun hz => ?_⟩
    · have ez : zeroL (restL p row fo) = false := by simpa using hz
      have e2 : fwStep p (fo, ba, to) (tn, row) = (redL p (fo ++ [row]), ba ++ [row], to + tn) := by
        unfold fwStep
        simp only [ez]
        rfl
      refine run_cons (rs_par (i := 1) (j := 3) rfl scFew.nd rfl rfl (by decide) rfl rfl ?_)
      refine ea_cons (ev_call oR hr rfl (ea_cons (ev_new (en_lst (ea_star (eq_list (ev_v 1 rfl ⟨_, rfl, ?_⟩)))))))
      refine ea_cons (ev_v 4 rfl (ea_nil ⟨(fo ++ [row]).map pT, ?_, ?_, ?_⟩))
      · rw [List.map_append, List.map_append]
        rfl
      · rw [List.length_map, List.length_append]
        exact sz (by show fo.length + 1 ≤ _; omega)
      refine ea_cons (ev_pr T.prime (hr.mono (by decide)) (ev_v 0 rfl ⟨_, _, rfl, rfl, ea_nil ⟨p, n, fo ++ [row], rfl, hc, by rw [List.length_append]; show fo.length + 1 ≤ _; omega, fun r hr2 => ?_, ?_⟩⟩))
      · rcases List.mem_append.mp hr2 with z | z
        · exact (rs' r z).1
        · rw [List.mem_singleton.mp z]; exact wrow
      refine ea_cons (ev_add (ev_v 3 rfl (ev_v 6 rfl ⟨_, _, rfl, rfl, ea_nil ⟨_, _, rfl, ?_⟩⟩)))
      refine run_one (rs_append 2 rfl (Or.inl rfl) (ev_v 4 rfl ⟨_, _, rfl, rfl, ?_, ?_⟩) (ho := ⟨_, rfl⟩))
      · rw [List.length_map]
        have : ba.length ≤ 343 := by
          have : min i (rkL p n ps).length ≤ (rkL p n ps).length := Nat.min_le_right ..
          have lb'' : ba.length ≤ 0 + min i (rkL p n ps).length := lb'
          omega
        exact Nat.lt_of_lt_of_le (show ba.length < 1000 by omega) (show 1000 ≤ sizeLine by decide)
      · refine ⟨some (.im (dT (pI row))), some (.im (dI tn)), ?_⟩
        rw [e1, e2, List.map_append]
        rfl
    · have ez : zeroL (restL p row fo) = true := by simpa using hz
      have e2 : fwStep p (fo, ba, to) (tn, row) = (fo, ba, to) := by
        unfold fwStep
        simp only [ez]
        rfl
      refine run_nil ⟨some (.im (dT (pI row))), some (.im (dI tn)), ?_⟩
      rw [e1, e2]
      rfl
  · subst er
    rw [List.length_map, List.take_length]
    refine run_one (rs_ret (ev_tup (ea_cons (ev_v 3 rfl (ea_cons (ev_tuple rfl B.tuple (by decide +kernel) (eq_o 2 rfl (ea_nil ⟨[_, _], rfl, (by show 2 ≤ sizeLine; decide), q⟩))))))))
end
end K87
end
section
set_option Elab.async false
set_option linter.all false
set_option maxRecDepth 100000
set_option maxHeartbeats 4000000
namespace K87
open PySem PySem.Spec PyProof.Rows L2 DL
/-- the numbers of a row, tuple or list -/
def rowS : PyData → List Int
  | .tuple xs => xs.map unI
  | .list xs => xs.map unI
  | _ => []
theorem betw_is {x : PyData} {l h : Int} (q : betw x l h = true) : ∃ i, x = .int i ∧ l ≤ i ∧ i ≤ h := by
  cases x with
  | int i =>
    have q' : (decide (l ≤ i) && decide (i ≤ h)) = true := q
    have := Bool.and_eq_true_iff.mp q'
    exact ⟨i, rfl, of_decide_eq_true this.1, of_decide_eq_true this.2⟩
  | _ => cases q
theorem all_ints {p : Int} : ∀ {xs : List PyData}, xs.all (fun x => betw x 0 (p - 1)) = true → xs = pI (xs.map unI) ∧ ∀ x ∈ xs.map unI, 0 ≤ x ∧ x < p
  | [], _ => ⟨rfl, fun x hx => nomatch hx⟩
  | x :: xs, h => by
    rw [List.all_cons, Bool.and_eq_true] at h
    obtain ⟨i, ei, h1, h2⟩ := betw_is h.1
    obtain ⟨q1, q2⟩ := all_ints h.2
    subst ei
    refine ⟨congrArg (List.cons (PyData.int i)) q1, fun y hy => ?_⟩
    rcases List.mem_cons.mp hy with z | z
    · have : y = i := z
      omega
    · exact q2 y z
theorem data_row {p : Int} {n : Nat} {x : PyData} (h : dataD p n x = true) : Wf p n (rowS x) ∧ ∃ b, x = sqI b (rowS x) := by
  cases x with
  | list xs =>
    have h' : (decide ((xs.length : Int) = n) && xs.all fun x => betw x 0 (p - 1)) = true := h
    obtain ⟨h1, h2⟩ := Bool.and_eq_true_iff.mp h'
    obtain ⟨q1, q2⟩ := all_ints h2
    have := of_decide_eq_true h1
    exact ⟨⟨by show (xs.map unI).length = n; rw [List.length_map]; omega, q2⟩, false, by show PyData.list xs = .list (pI (xs.map unI)); rw [← q1]⟩
  | tuple xs =>
    have h' : (decide ((xs.length : Int) = n) && xs.all fun x => betw x 0 (p - 1)) = true := h
    obtain ⟨h1, h2⟩ := Bool.and_eq_true_iff.mp h'
    obtain ⟨q1, q2⟩ := all_ints h2
    have := of_decide_eq_true h1
    exact ⟨⟨by show (xs.map unI).length = n; rw [List.length_map]; omega, q2⟩, true, by show PyData.tuple xs = .tuple (pI (xs.map unI)); rw [← q1]⟩
  | _ => cases h
/-- is_base, of any data -/
def baseD (p : Int) (n : Nat) (v : PyData) : Bool := match v with
  | .tuple xs => decide (xs.length = n) && (xs.all (dataD p n) && decide ((redL p (xs.map rowS)).length = n))
  | _ => false
theorem baseD_no {p : Int} {n : Nat} {v : PyData} (h : isD v "tuple" = false) : baseD p n v = false := by
  cases v <;> first | rfl | (exfalso; simp [isD, isS, tyD] at h)
theorem isD_tup {v : PyData} (h : isD v "tuple" = true) : ∃ xs, v = .tuple xs := by
  cases v with
  | tuple xs => exact ⟨xs, rfl⟩
  | _ => exfalso; simp [isD, isS, tyD] at h
section
variable {P : Program} {w : World} {K : PySem.W.Frag} {mg : Str → Option Value} {base : Heap} {f C D : Addr} {fd : FuncData}
/-! ### is_base -/
abbrev sIB : Stmt := top 49
abbrev nIB : List Str := ["table", "value", "data"]
theorem scIB : FnScope nIB ["table", "value"] (defScope sIB) := ⟨rfl, rfl, rfl, by decide +kernel, rfl, by decide +kernel, by decide +kernel⟩
def tIB (C : Addr) : Tr := fun ds Z => ∃ (p : Int) (n : Nat) (ps : List (List (List Int))) (v : PyData), ds = [.ins C (tabD p n ps), .d v] ∧ (p, n) ∈ combos ∧ Z (dB (baseD p n v))
theorem own_ib (B : Bl mg) (h : At K mg "is_base" sIB f fd) (T : TabP P w K mg base C) (oD : Own P w K mg base 4 "is_data" (spP K tData)) (oR : Own P w K mg base 4 "reduced" (spP K tRed)) : Own P w K mg base 5 "is_base" (spP K (tIB C)) := by
  refine def_pure h.fn scIB h.mg (h.fn.binds fun _ _ _ _ _ _ us hl => match us, hl with | [_, _], _ => rfl) (fun ds Z ⟨_, _, _, _, e, _⟩ => by rw [e]; rfl) fun cdv A outer s H E hr ds Z ⟨p, n, ps, v, ed, hc, q⟩ => ?_
  subst ed
  obtain ⟨p0, p5, n1, n3⟩ := combo_p hc
  refine run_cons (rs_if (et_w (ew_or (et_not (et_val (ev_isi (T := "tuple") (.inr (.inr (.inr (.inl rfl)))) rfl B.isinstance (by decide +kernel) rfl B.tuple (by decide +kernel) (ev_v 1 rfl ⟨v, rfl, _, rfl, fun h1 => ?_, fun h1 => ?_⟩)))))))
  · obtain ⟨xs, ev⟩ := isD_tup (v := v) (by simpa using h1)
    subst ev
    refine ew_or1 (et_ne hr.units (ev_len rfl B.len (eq_tup (ev_v 1 rfl ⟨_, rfl, ev_pr T.size (hr.mono (by decide)) (ev_v 0 rfl ⟨_, _, rfl, rfl, _, _, rfl, rfl, rfl, rfl, fun hz => ?_, fun hz => ?_⟩)⟩))))
    · have e : decide (xs.length = n) = false := by
        have : ¬ ((xs.length : Int) = n) := by simpa [PyData.eqv] using hz
        exact decide_eq_false (by omega)
      have e2 : baseD p n (.tuple xs) = false := by
        show (decide (xs.length = n) && _) = false
        rw [e, Bool.false_and]
      rw [e2] at q
      exact run_one (rs_ret (ev_bl q))
    · have e : xs.length = n := by
        have : ((xs.length : Int) = n) := by simpa [PyData.eqv] using hz
        omega
      refine run_nil ?_
      refine run_cons (rs_if (et_not (et_val (ev_all rfl rfl B.all (by decide +kernel) (eq_list (ev_new (en_lc1 (M := nIB) (sc := defScope sIB) 2 scIB.nd rfl rfl (by decide +kernel) (lch_map (fun z => .bool (dataD p n z)) ?_) rfl fun _ _ _ _ _ => pg_name (i := 2) scIB.nd rfl (Or.inl rfl))))))))
      refine ei_tup (ev_v 1 rfl ⟨_, rfl, sz (by omega), fun i x hx => ⟨_, rfl, fun s H C' cl fp => ?_⟩, ?_⟩)
      · exact ev_call oD hr rfl (ea_cons (ev_pr T.prime (hr.mono (by decide)) (ev_v 0 rfl ⟨_, _, rfl, rfl, ea_cons (ev_pr T.size (hr.mono (by decide)) (ev_v 0 rfl ⟨_, _, rfl, rfl, ea_cons (ev_v 2 rfl (ea_nil ⟨_, _, _, rfl, (size_combo hc).1, rfl, rfl⟩))⟩))⟩)))
      · refine ⟨_, rfl, xs.map (dataD p n), by rw [map_betw, tru_bools], _, rfl, fun hz => ?_, fun hz => ?_⟩
        · have e3 : xs.all (dataD p n) = false := by
            rw [List.all_map] at hz
            simpa using hz
          have e2 : baseD p n (.tuple xs) = false := by
            show (_ && (xs.all (dataD p n) && _)) = false
            rw [e3, Bool.false_and, Bool.and_false]
          rw [e2] at q
          exact run_one (rs_ret (ev_bl q))
        · have e3 : xs.all (dataD p n) = true := by
            rw [List.all_map] at hz
            simpa using hz
          have hd : ∀ x ∈ xs, dataD p n x = true := fun x hx => List.all_eq_true.mp e3 x hx
          have e2 : baseD p n (.tuple xs) = decide ((redL p (xs.map rowS)).length = n) := by
            show (decide (xs.length = n) && (xs.all (dataD p n) && _)) = _
            rw [e3, Bool.true_and, decide_eq_true e, Bool.true_and]
          rw [e2] at q
          refine run_nil ?_
          refine run_one (rs_ret (ev_eq hr.units (ev_len rfl B.len (eq_list (ev_call oR hr rfl (ea_cons (ev_new (en_lc1 (M := nIB) (sc := defScope sIB) 2 scIB.nd rfl rfl (by decide +kernel) (lch_map (fun z => pT (rowS z)) ?_) rfl fun _ _ _ _ _ => pg_name (i := 2) scIB.nd rfl (Or.inl rfl)))))))))
          refine ei_tup (ev_v 1 rfl ⟨_, rfl, sz (by omega), fun i x hx => ⟨_, rfl, fun s H C' cl fp => ?_⟩, ?_⟩)
          · obtain ⟨_, b, eb⟩ := data_row (hd x (List.mem_of_getElem? hx))
            refine ev_tuple rfl B.tuple (by decide +kernel) (eq_seq (ev_v 2 rfl ⟨pI (rowS x), ?_, fun _ => ⟨rfl, rfl⟩⟩))
            have := sq_or b (pI (rowS x))
            rw [show sq b (pI (rowS x)) = x from eb.symm] at this
            exact this
          · refine ea_cons (ev_pr T.prime (hr.mono (by decide)) (ev_v 0 rfl ⟨_, _, rfl, rfl, ea_nil ⟨p, n, xs.map rowS, by rw [List.map_map]; rfl, hc, by rw [List.length_map]; omega, fun r hr2 => ?_, ?_⟩⟩))
            · obtain ⟨x, hx, ex⟩ := List.mem_map.mp hr2
              subst ex
              exact (data_row (hd x hx)).1
            · refine ⟨_, rfl, ev_pr T.size (hr.mono (by decide)) (ev_v 0 rfl ⟨_, _, rfl, rfl, _, _, rfl, rfl, rfl, rfl, ?_⟩)⟩
              rw [eqv_int, List.length_map]
              have : decide (((redL p (xs.map rowS)).length : Int) = (n : Int)) = decide ((redL p (xs.map rowS)).length = n) := by
                rw [decide_eq_decide]
                omega
              rw [this]
              exact q
  · have h2 : isD v "tuple" = false := by simpa using h1
    rw [baseD_no h2] at q
    exact ⟨fun _ => run_one (rs_ret (ev_bl q)), fun z => nomatch z⟩
end
end K87
end
section
set_option Elab.async false
set_option linter.all false
set_option maxRecDepth 100000
set_option maxHeartbeats 4000000
namespace K87
open PySem PySem.Spec PyProof.Rows L2 DL
/-- the pieces over another base -/
def rebL (p : Int) (ps : List (List (List Int))) (b : List (List Int)) : List (List (List Int)) := ps.map fun pc => pc.map fun r => b.map fun d => valL p r d
theorem rows_pR (b : List (List Int)) : (b.map pT).map rowS = b := by
  rw [List.map_map]
  exact List.map_id'' (fun a => unT_pT a) b
theorem baseD_pR {p : Int} {n : Nat} {b : List (List Int)} (h : baseD p n (pR b) = true) : b.length = n ∧ (∀ d ∈ b, Wf p n d) ∧ (redL p b).length = n := by
  have h' : (decide ((b.map pT).length = n) && ((b.map pT).all (dataD p n) && decide ((redL p ((b.map pT).map rowS)).length = n))) = true := h
  rw [Bool.and_eq_true, Bool.and_eq_true] at h'
  obtain ⟨h1, h2, h3⟩ := h'
  have h1' := of_decide_eq_true h1
  have h3' := of_decide_eq_true h3
  rw [List.length_map] at h1'
  rw [rows_pR] at h3'
  refine ⟨h1', fun d hd => ?_, h3'⟩
  have := (data_row (List.all_eq_true.mp h2 (pT d) (List.mem_map.mpr ⟨d, hd, rfl⟩))).1
  rw [show rowS (pT d) = d from unT_pT d] at this
  exact this
theorem reb_wf {p : Int} {n : Nat} {ps : List (List (List Int))} {b : List (List Int)} (p0 : 0 < p) (hw : WfT p n ps) (hb : b.length = n) : WfT p n (rebL p ps b) := by
  obtain ⟨w1, w5, wp⟩ := hw
  unfold rebL
  refine ⟨by rw [List.length_map]; exact w1, by rw [List.length_map]; exact w5, fun pc hpc => ?_⟩
  obtain ⟨pc0, h0, e⟩ := List.mem_map.mp hpc
  subst e
  obtain ⟨c1, c2, cw⟩ := wp pc0 h0
  refine ⟨by rw [List.length_map]; exact c1, by rw [List.length_map]; exact c2, fun r hr => ?_⟩
  obtain ⟨r0, _, e⟩ := List.mem_map.mp hr
  subst e
  refine ⟨by rw [List.length_map]; exact hb, fun x hx => ?_⟩
  obtain ⟨d, _, e⟩ := List.mem_map.mp hx
  subst e
  exact val_bd p0 r0 d
section
variable {P : Program} {w : World} {K : PySem.W.Frag} {mg : Str → Option Value} {base : Heap} {f C D : Addr} {fd : FuncData}
/-! ### rebased -/
abbrev sReb : Stmt := top 51
abbrev nReb : List Str := ["table", "base", "pieces", "piece", "row", "data"]
theorem scReb : FnScope nReb ["table", "base"] (defScope sReb) := ⟨rfl, rfl, rfl, by decide +kernel, rfl, by decide +kernel, by decide +kernel⟩
def tReb (C D : Addr) : TrX := fun ds Z Y => ∃ (p : Int) (n : Nat) (ps : List (List (List Int))) (v : PyData), ds = [.ins C (tabD p n ps), .d v] ∧ (p, n) ∈ combos ∧ WfT p n ps ∧
  ((∃ b, v = pR b ∧ baseD p n v = true ∧ Z (.ins C (tabD p n (rebL p ps b)))) ∨ (baseD p n v = false ∧ Y D "value" v))
theorem own_reb {fI : Addr} (B : Bl mg) (h : At K mg "rebased" sReb f fd) (T : TabP P w K mg base C) (X0 : ExS.ExF P K D fI "value") (hE : mg "InvalidData" = some (.ref D)) (oB : Own P w K mg base 5 "is_base" (spP K (tIB C))) (oV : Own P w K mg base 1 "value_of" (spP K tVal)) (oT : OwnI P w K mg base 6 "Table" C tTI) : OwnXc P w K mg base 8 "rebased" (tReb C D) := by
  refine def_exc (k := 5) h.fn scReb h.mg (h.fn.binds fun _ _ _ _ _ _ us hl => match us, hl with | [_, _], _ => rfl) (fun ds Z Y ⟨_, _, _, _, e, _⟩ => by rw [e]; rfl) X0 hE (fun _ _ => rfl) (by decide) rfl (fun _ _ => rfl) fun cdv A outer s H E hr ds Z Y ⟨p, n, ps, v, ed, hc, hw, q⟩ => ?_
  subst ed
  obtain ⟨p0, p5, n1, n3⟩ := combo_p hc
  refine et_not (et_val (ev_call oB (hr.mono (by decide)) rfl (ea_cons (ev_v 0 rfl (ea_cons (ev_v 1 rfl (ea_nil ⟨p, n, ps, v, rfl, hc, _, rfl, ?_⟩)))))))
  rcases q with ⟨b, ev, hb, q⟩ | ⟨hb, q⟩
  · rw [hb]
    subst ev
    refine ⟨fun z => (nomatch z), fun _ => ?_⟩
    obtain ⟨bl, bw, _⟩ := baseD_pR hb
    have hw2 := hw
    obtain ⟨w1, w5, wp⟩ := hw2
    refine run_cons (rs_asgO (i := 2) scReb.nd rfl (Or.inl rfl) (en_lst (ea_nil ⟨[], rfl, Nat.zero_le _, ?_⟩)))
    refine run_cons (rs_for (.one 3) PassesOwn.never rfl (pg_name (i := 3) scReb.nd rfl (Or.inl rfl)) ?_)
    refine ei_tup (ev_pr T.pieces (hr.mono (by decide)) (ev_v 0 rfl ⟨_, _, rfl, rfl, _, rfl, fun i ρ' => ∃ a3, ρ' = [some (.im (.ins C (tabD p n ps))), some (.im (.d (pR b))), some (.ow ((rebL p (ps.take i) b).map (sqPc false))), a3, none, none], ⟨_, rfl⟩, fun i y ρ' hy ⟨a3, er⟩ => ⟨_, rfl, ?_⟩, fun ρ' ⟨a3, er⟩ => ?_⟩))
    · subst er
      rw [List.getElem?_map] at hy
      obtain ⟨pc, hpc, ey⟩ := Option.map_eq_some_iff.mp hy
      subst ey
      have hi : i < ps.length := (List.getElem?_eq_some_iff.mp hpc).1
      obtain ⟨c1, c2, cw⟩ := wp pc (List.mem_of_getElem? hpc)
      refine run_one (rs_append 2 rfl (Or.inl rfl) (ev_new (en_lc1 (M := nReb) (sc := defScope sReb) 4 scReb.nd rfl rfl (by decide +kernel) (lch_map (fun z => pT (b.map fun d => valL p (unT z) d)) ?_) rfl fun _ _ _ _ _ => pg_name (i := 4) scReb.nd rfl (Or.inr rfl))) (ho := ⟨_, rfl⟩))
      refine ei_tup (ev_v 3 rfl ⟨_, rfl, by rw [List.length_map]; exact sz (by omega), fun j z hz => ?_, ?_⟩)
      · rw [List.getElem?_map] at hz
        obtain ⟨r, hr2, ez⟩ := Option.map_eq_some_iff.mp hz
        subst ez
        have wr := cw r (List.mem_of_getElem? hr2)
        refine ⟨_, rfl, fun s H C' cl fp => ev_tuple rfl B.tuple (by decide +kernel) (eq_list (ev_new (en_lc1 (M := nReb) 5 scReb.nd rfl rfl (by rfl) (lch_map (fun z => .int (valL p r (unT z))) ?_) rfl fun _ _ _ _ _ => pg_name (i := 5) scReb.nd rfl (Or.inl rfl))))⟩
        refine ei_tup (ev_v 1 rfl ⟨_, rfl, by rw [List.length_map]; exact sz (by omega), fun l y hy => ?_, ?_⟩)
        · rw [List.getElem?_map] at hy
          obtain ⟨d, hd, ey⟩ := Option.map_eq_some_iff.mp hy
          subst ey
          refine ⟨_, rfl, fun s H C2 cl fp => ev_call oV (hr.mono (by decide)) rfl (ea_cons (ev_v 4 rfl (ea_cons (ev_v 5 rfl (ea_cons (ev_pr T.prime (hr.mono (by decide)) (ev_v 0 rfl ⟨_, _, rfl, rfl, ea_nil ⟨p, r, d, _, rfl, .inl rfl, p0, by rw [wr.1]; omega, wf_small wr (by omega), ?_, rfl⟩⟩)))))))⟩
          rw [unT_pT]
        · refine ⟨_, rfl, ?_, rfl⟩
          rw [unT_pT, List.map_map]
          refine congrArg (fun x => Dt.d (PyData.tuple x)) ?_
          show _ = (b.map _).map PyData.int
          rw [List.map_map]
          refine List.map_congr_left fun d _ => ?_
          show PyData.int (valL p r (unT (pT d))) = _
          rw [unT_pT]
          rfl
      · refine ⟨_, _, rfl, rfl, ?_, ?_⟩
        · rw [List.length_map]
          unfold rebL
          rw [List.length_map, List.length_take]
          exact Nat.lt_of_lt_of_le (show min i ps.length < 1000 by omega) (show 1000 ≤ sizeLine by decide)
        · have e1 : rebL p (ps.take (i + 1)) b = rebL p (ps.take i) b ++ [pc.map fun r => b.map fun d => valL p r d] := by
            rw [take_succ hpc]
            unfold rebL
            rw [List.map_append]
            rfl
          have e2 : (pc.map pT).map (fun z => pT (b.map fun d => valL p (unT z) d)) = (pc.map fun r => b.map fun d => valL p r d).map pT := by
            rw [List.map_map, List.map_map]
            refine List.map_congr_left fun r _ => ?_
            show pT (b.map fun d => valL p (unT (pT r)) d) = _
            rw [unT_pT]
            rfl
          refine ⟨some (.im (.d (pPc pc))), ?_⟩
          rw [e1, e2, List.map_append]
          rfl
    · subst er
      rw [List.length_map, List.take_length]
      refine run_freeze 2 rfl ?_
      refine run_one (rs_ret (ev_make oT hr rfl (ea_cons (ev_pr T.prime (hr.mono (by decide)) (ev_v 0 rfl ⟨_, _, rfl, rfl, ea_cons (ev_pr T.size (hr.mono (by decide)) (ev_v 0 rfl ⟨_, _, rfl, rfl, ?_⟩))⟩)))))
      exact ea_cons (ev_v 2 rfl (ea_nil ⟨p, n, false, rebL p ps b, rfl, hc, reb_wf p0 hw bl, q⟩))
  · rw [hb]
    exact ⟨fun _ => ev_v 1 rfl ⟨_, rfl, q⟩, fun z => (nomatch z)⟩
end
end K87
end
section
set_option Elab.async false
set_option linter.all false
set_option maxRecDepth 100000
set_option maxHeartbeats 4000000
namespace K87
open PySem PySem.Spec PyProof.Rows L2 DL
def sortI (ns : List Int) : List Int := ns.mergeSort fun a b => decide (a ≤ b)
theorem sort_pI (ns : List Int) : (pI ns).mergeSort (PySem.W.dataLe false id) = pI (sortI ns) := (PySem.W.sort_maps (r := fun a b => decide (a ≤ b)) PyData.int fun a _ b _ => by
  show _ = (!PySem.W.dataLt (.int b) (.int a))
  rw [PySem.W.dataLt_int]
  by_cases h : b < a
  · have h' : ¬ a ≤ b := by omega
    simp [h, h']
  · have h' : a ≤ b := by omega
    simp [h, h']).symm
/-- the touches of the rows of a base -/
def numsL (p : Int) (ps : List (List (List Int))) (xs : List PyData) : List Int := xs.map fun d => ((touL p ps (rowS d) : Nat) : Int)
/-- the fewest touches of a whole base -/
def fewN (p : Int) (n : Nat) (ps : List (List (List Int))) : Int := (fwL p (rkL p n ps)).2.2
def fewC (p : Int) (n : Nat) (ps : List (List (List Int))) (t : Int) (xs : List PyData) : Bool :=
  (xs.all fun d => isD d "tuple" && dataD p n d) && (baseD p n (.tuple xs) && (decide (numsL p ps xs = sortI (numsL p ps xs)) && (decide ((numsL p ps xs).sum = t) && decide (t = fewN p n ps))))
/-- is_fewest_touches, of any data -/
def fewD (p : Int) (n : Nat) (ps : List (List (List Int))) (v : PyData) : Bool := match v with
  | .tuple [.int t, .tuple xs] => fewC p n ps t xs
  | _ => false
theorem fewD_1 {p : Int} {n : Nat} {ps : List (List (List Int))} {v : PyData} (h : isD v "tuple" = false) : fewD p n ps v = false := by
  cases v <;> first | rfl | (exfalso; simp [isD, isS, tyD] at h)
theorem fewD_2 {p : Int} {n : Nat} {ps : List (List (List Int))} {ys : List PyData} (h : ys.length ≠ 2) : fewD p n ps (.tuple ys) = false := by
  unfold fewD
  split
  · rename_i e
    cases e
    exact absurd rfl h
  · rfl
theorem fewD_3 {p : Int} {n : Nat} {ps : List (List (List Int))} {a b : PyData} (h : isIntD a = false) : fewD p n ps (.tuple [a, b]) = false := by
  unfold fewD
  split
  · rename_i e
    cases e
    cases h
  · rfl
theorem fewD_4 {p : Int} {n : Nat} {ps : List (List (List Int))} {a b : PyData} (h : isD b "tuple" = false) : fewD p n ps (.tuple [a, b]) = false := by
  unfold fewD
  split
  · rename_i e
    cases e
    exfalso
    simp [isD, isS, tyD] at h
  · rfl
theorem len2 {α : Type} {ys : List α} (h : ys.length = 2) : ∃ a b, ys = [a, b] := by
  match ys, h with
  | [a, b], _ => exact ⟨a, b, rfl⟩
theorem isInt_is {a : PyData} (h : isIntD a = true) : ∃ t, a = .int t := by
  cases a with
  | int t => exact ⟨t, rfl⟩
  | _ => cases h
section
variable {P : Program} {w : World} {K : PySem.W.Frag} {mg : Str → Option Value} {base : Heap} {f C D : Addr} {fd : FuncData}
/-! ### is_fewest_touches -/
abbrev sIF : Stmt := top 50
abbrev nIF : List Str := ["table", "value", "data", "numbers"]
theorem scIF : FnScope nIF ["table", "value"] (defScope sIF) := ⟨rfl, rfl, rfl, by decide +kernel, rfl, by decide +kernel, by decide +kernel⟩
def tIF (C : Addr) : Tr := fun ds Z => ∃ (p : Int) (n : Nat) (ps : List (List (List Int))) (v : PyData), ds = [.ins C (tabD p n ps), .d v] ∧ (p, n) ∈ combos ∧ WfT p n ps ∧ (∀ a xs, v = .tuple [a, .tuple xs] → xs.length ≤ 1000) ∧ Z (dB (fewD p n ps v))
theorem own_if (B : Bl mg) (h : At K mg "is_fewest_touches" sIF f fd) (T : TabP P w K mg base C) (oI : Own P w K mg base 1 "is_integer" (spP K tInt)) (oS : Own P w K mg base 5 "is_strict_data" (spP K (tStr C))) (oB : Own P w K mg base 5 "is_base" (spP K (tIB C)))
    (oN : Own P w K mg base 3 "touched_number" (spP K (tTN C))) (oF : Own P w K mg base 5 "fewest_touches" (spP K (tFew C))) : Own P w K mg base 6 "is_fewest_touches" (spP K (tIF C)) := by
  refine def_pure h.fn scIF h.mg (h.fn.binds fun _ _ _ _ _ _ us hl => match us, hl with | [_, _], _ => rfl) (fun ds Z ⟨_, _, _, _, e, _⟩ => by rw [e]; rfl) fun cdv A outer s H E hr ds Z ⟨p, n, ps, v, ed, hc, hw, hsz, q⟩ => ?_
  subst ed
  obtain ⟨p0, p5, n1, n3⟩ := combo_p hc
  refine run_cons (rs_if (et_w (ew_or (et_not (et_val (ev_isi (T := "tuple") (.inr (.inr (.inr (.inl rfl)))) rfl B.isinstance (by decide +kernel) rfl B.tuple (by decide +kernel) (ev_v 1 rfl ⟨v, rfl, _, rfl, fun h1 => ?y1, fun h1 => ?n1⟩)))))))
  case n1 =>
    have h2 : isD v "tuple" = false := by simpa using h1
    rw [fewD_1 h2] at q
    exact ⟨fun _ => run_one (rs_ret (ev_bl q)), fun z => nomatch z⟩
  obtain ⟨ys, ev⟩ := isD_tup (v := v) (by simpa using h1)
  subst ev
  refine ew_or (et_ne hr.units (ev_len rfl B.len (eq_tup (ev_v 1 rfl ⟨_, rfl, ev_int ⟨_, _, rfl, rfl, rfl, rfl, fun hz => ?y2, fun hz => ?n2⟩⟩))))
  case n2 =>
    have e : ys.length = 2 → False := fun z => by
      rw [eqv_int, z] at hz
      exact absurd hz (by decide)
    rw [fewD_2 e] at q
    exact ⟨fun _ => run_one (rs_ret (ev_bl q)), fun z => nomatch z⟩
  have e : ys.length = 2 := by
    rw [eqv_int] at hz
    have := of_decide_eq_true (by simpa using hz)
    omega
  obtain ⟨a, b, ey⟩ := len2 e
  subst ey
  refine ew_or (et_not (et_val (ev_call oI (hr.mono (by decide)) rfl (ea_cons (ev_ix (fun _ _ => rfl) (ev_v 1 rfl (ev_int ⟨_, _, a, .inr rfl, rfl, rfl, ea_nil ⟨a, rfl, _, rfl, fun h3 => ?y3, fun h3 => ?n3⟩⟩)))))))
  case n3 =>
    have h2 : isIntD a = false := by simpa using h3
    rw [fewD_3 h2] at q
    exact ⟨fun _ => run_one (rs_ret (ev_bl q)), fun z => nomatch z⟩
  obtain ⟨t, et⟩ := isInt_is (a := a) (by simpa using h3)
  subst et
  refine ew_or1 (et_not (et_val (ev_isi (T := "tuple") (.inr (.inr (.inr (.inl rfl)))) rfl B.isinstance (by decide +kernel) rfl B.tuple (by decide +kernel) (ev_ix (fun _ _ => rfl) (ev_v 1 rfl (ev_int ⟨_, _, b, .inr rfl, rfl, rfl, b, rfl, _, rfl, fun h4 => ?y4, fun h4 => ?n4⟩))))))
  case y4 =>
    have h2 : isD b "tuple" = false := by simpa using h4
    rw [fewD_4 h2] at q
    exact run_one (rs_ret (ev_bl q))
  obtain ⟨xs, eb⟩ := isD_tup (v := b) (by simpa using h4)
  subst eb
  have hl : xs.length ≤ 1000 := hsz _ _ rfl
  have eD : fewD p n ps (.tuple [.int t, .tuple xs]) = fewC p n ps t xs := rfl
  rw [eD] at q
  unfold fewC at q
  refine run_nil ?_
  refine run_cons (rs_if (et_w (ew_or (et_not (et_val (ev_all rfl rfl B.all (by decide +kernel) (eq_list (ev_new (en_lc1 (M := nIF) (sc := defScope sIF) 2 scIF.nd rfl rfl (by decide +kernel) (lch_map (fun z => .bool (isD z "tuple" && dataD p n z)) ?_) rfl fun _ _ _ _ _ => pg_name (i := 2) scIF.nd rfl (Or.inl rfl))))))))))
  refine ei_tup (ev_ix (fun _ _ => rfl) (ev_v 1 rfl (ev_int ⟨_, _, _, .inr rfl, rfl, rfl, xs, rfl, sz (by omega), fun i x hx => ⟨_, rfl, fun s H C' cl fp => ?_⟩, ?_⟩)))
  · exact ev_call oS hr rfl (ea_cons (ev_v 0 rfl (ea_cons (ev_v 2 rfl (ea_nil ⟨p, n, ps, x, rfl, hc, rfl, rfl⟩)))))
  refine ⟨_, rfl, xs.map (fun z => isD z "tuple" && dataD p n z), by rw [map_betw, tru_bools], _, rfl, fun hz => ?y5, fun hz => ?n5⟩
  case n5 =>
    have e3 : (xs.all fun z => isD z "tuple" && dataD p n z) = false := by
      rw [List.all_map] at hz
      simpa using hz
    rw [e3, Bool.false_and] at q
    exact ⟨fun _ => run_one (rs_ret (ev_bl q)), fun z => nomatch z⟩
  have e3 : (xs.all fun z => isD z "tuple" && dataD p n z) = true := by
    rw [List.all_map] at hz
    simpa using hz
  rw [e3, Bool.true_and] at q
  refine ew_or1 (et_not (et_val (ev_call oB hr rfl (ea_cons (ev_v 0 rfl (ea_cons (ev_ix (fun _ _ => rfl) (ev_v 1 rfl (ev_int ⟨_, _, _, .inr rfl, rfl, rfl, ea_nil ⟨p, n, ps, .tuple xs, rfl, hc, _, rfl, fun hz => ?y6, fun hz => ?n6⟩⟩)))))))))
  case y6 =>
    have e4 : baseD p n (.tuple xs) = false := by simpa using hz
    rw [e4, Bool.false_and] at q
    exact run_one (rs_ret (ev_bl q))
  have e4 : baseD p n (.tuple xs) = true := by simpa using hz
  rw [e4, Bool.true_and] at q
  have hx : ∀ x ∈ xs, Wf p n (rowS x) ∧ x = sqI true (rowS x) := fun x hx => by
    have := List.all_eq_true.mp e3 x hx
    rw [Bool.and_eq_true] at this
    obtain ⟨ys, ey⟩ := isD_tup this.1
    obtain ⟨q1, b, q2⟩ := data_row this.2
    refine ⟨q1, ?_⟩
    cases b with
    | true => exact q2
    | false =>
      rw [ey] at q2
      cases q2
  refine run_nil ?_
  refine run_cons (rs_asgLc (i := 3) (own := [("data", 2)]) (.one 2) rfl scIF.nd rfl rfl (sw_true rfl rfl rfl (by decide +kernel)) rfl (blkOk_by (N := nIF) (sc := defScope sIF) (by decide +kernel)) (fun _ _ _ _ _ => pg_name (i := 2) scIF.nd rfl (Or.inl rfl)) (lch_map (fun z => .int ((touL p ps (rowS z) : Nat) : Int)) ?_))
  refine ei_tup (ev_ix (fun _ _ => rfl) (ev_v 1 rfl (ev_int ⟨_, _, _, .inr rfl, rfl, rfl, xs, rfl, sz (by omega), fun i x hx2 => ⟨_, rfl, fun s H C' cl fp => ?_⟩, ?_⟩)))
  · obtain ⟨q1, q2⟩ := hx x (List.mem_of_getElem? hx2)
    exact ev_call oN (hr.mono (by decide)) rfl (ea_cons (ev_v 0 rfl (ea_cons (ev_v 2 rfl (ea_nil ⟨p, n, ps, true, rowS x, by rw [← q2], hc, hw, q1, rfl, rfl⟩)))))
  have en : xs.map (fun z => PyData.int ((touL p ps (rowS z) : Nat) : Int)) = pI (numsL p ps xs) := by
    unfold numsL
    simp only [pI, List.map_map]
    rfl
  rw [en]
  have shI : ∀ ns : List Int, shp (.list (pI ns)) := fun ns => lay_shp (lay_lst (lay_map lay_int ns)) (by decide)
  refine run_one (rs_ret (ev_and (ev_eq hr.units (ev_v 3 rfl (ev_new (en_sort rfl B.sorted (by decide +kernel) (eq_list (ev_v 3 rfl ⟨_, rfl, rfl, PySem.W.AllAlike.of alike_int, PySem.W.Sortable.others fun b => ⟨fun z => (nomatch z), fun _ z => (nomatch z)⟩, fun d hd => ?_, ?_⟩))))))))
  · obtain ⟨x, _, e⟩ := List.mem_map.mp hd
    have := (lay_int x).2
    subst e
    have hu := hr.units
    show (A.deeper (envOfC (Str.ofString "is_fewest_touches") (defScope sIF) s.heap.objs.size f cdv)).units + 2 + (PyData.int x).depth < cLine
    omega
  rw [sort_pI]
  refine ⟨_, _, rfl, rfl, shI _, shI _, _, rfl, fun hz => ?_, fun hz => ?_⟩
  · rw [eqv_lst eqv_int] at hz
    rw [hz, Bool.true_and] at q
    refine ev_one (ev_chain (op_eqD hr.units) (op_eqD hr.units) (ev_sum rfl rfl B.sum (by decide +kernel) (eq_list (ev_v 3 rfl ⟨_, rfl, _, rfl, rfl, ?_⟩))))
    refine ev_ix (fun _ _ => rfl) (ev_v 1 rfl (ev_int ⟨_, _, _, .inr rfl, rfl, rfl, ?_⟩))
    refine op2_eqD rfl rfl ⟨_, rfl, fun hz => ?_, fun hz => ?_⟩
    · rw [eqv_int] at hz
      rw [hz, Bool.true_and] at q
      refine ev_ix (fun _ _ => rfl) (ev_call oF hr rfl (ea_cons (ev_v 0 rfl (ea_nil ⟨p, n, ps, rfl, hc, hw, ev_int ⟨_, _, _, .inr rfl, rfl, rfl, ?_⟩⟩))))
      refine op2_eqD rfl rfl ?_
      rw [eqv_int]
      exact q
    · rw [eqv_int] at hz
      rw [hz, Bool.false_and] at q
      exact q
  · rw [eqv_lst eqv_int] at hz
    rw [hz, Bool.false_and] at q
    exact q
end
end K87
end
section
set_option Elab.async false
set_option linter.all false
set_option maxRecDepth 100000
set_option maxHeartbeats 4000000
namespace K87
open PySem PySem.Spec PyProof.Rows L2 DL
theorem wf_unit {p : Int} {n : Nat} (p1 : 1 < p) (i : Int) : Wf p n (unitL n i) := by
  unfold unitL
  refine ⟨by rw [List.length_map, len_range, Int.toNat_natCast], fun x hx => ?_⟩
  obtain ⟨a, _, e⟩ := List.mem_map.mp hx
  rw [← e]
  split <;> constructor <;> omega
/-- pieces of the law -/
def WfQ (p : Int) (n : Nat) (ps : List (List (List Int))) : Prop := ∀ pc ∈ ps, 1 ≤ pc.length ∧ pc.length ≤ 2 ∧ ∀ r ∈ pc, Wf p n r
theorem prime_two {p : Int} {n : Nat} (hc : (p, n) ∈ combos) : 1 < p := by
  have : combos.all (fun c => decide (1 < c.1)) = true := by decide +kernel
  exact of_decide_eq_true (List.all_eq_true.mp this _ hc)
section
variable {P : Program} {w : World} {K : PySem.W.Frag} {mg : Str → Option Value} {base : Heap} {f C D : Addr} {fd : FuncData}
/-! ### _law_pieces -/
abbrev sLP : Stmt := top 60
abbrev nLP : List Str := ["source", "prime", "size", "least_many", "most_many", "found", "turn", "rows", "part"]
theorem scLP : FnScope nLP ["source", "prime", "size", "least_many", "most_many"] (defScope sLP) := ⟨rfl, rfl, rfl, by decide +kernel, rfl, by decide +kernel, by decide +kernel⟩
def tLP : TrS := fun n s ds Z => ∃ (p : Int) (k : Nat), ds = [dI p, dI k, dI 1, dI 5] ∧ (p, k) ∈ combos ∧ SrcOk n s ∧ ∀ ps n' s', WfT p k ps → SrcOk n' s' → Z (dT (ps.map pPc)) n' s'
theorem own_lp (B : Bl mg) (h : At K mg "_law_pieces" sLP f fd) (oD : Own P w K mg base 1 "_law_draw" (spS K tDraw)) (oR : Own P w K mg base 2 "_law_row" (spS K tLR)) (oU : Own P w K mg base 1 "_law_unit" (spP K tLU)) : Own P w K mg base 3 "_law_pieces" (spS K tLP) := by
  refine def_src h.fn scLP h.mg (h.fn.binds fun _ _ _ _ _ _ us hl => match us, hl with | [_, _, _, _, _], _ => rfl) (fun n s ds Z ⟨_, _, e, _⟩ => by rw [e]; rfl) fun cdv A outer s0 H E hr n s ds Z ⟨p, k, ed, hc, so, q⟩ => ?_
  subst ed
  obtain ⟨p0, p5, n1, n3⟩ := combo_p hc
  have p1 := prime_two hc
  refine run_cons (rs_asgO (i := 5) scLP.nd rfl (Or.inl rfl) (en_lst (ea_nil ⟨[], rfl, Nat.zero_le _, ?_⟩)))
  refine run_cons (rs_for (.one 6) PassesOwn.never rfl (pg_name (i := 6) scLP.nd rfl (Or.inl rfl)) (ei_range1 rfl B.range (ev_add (ev_v 3 rfl (ev_callS 0 oD (hr.mono (by decide)) rfl rfl (by first | exact Or.inl rfl | exact Or.inr (Or.inl rfl) | exact Or.inr (Or.inr rfl)) ?_)))))
  refine ea_cons (ev_add (ev_sub (ev_v 4 rfl (ev_v 3 rfl ⟨_, _, rfl, rfl, ev_int ⟨_, _, rfl, rfl, ea_nil ?_⟩⟩))))
  refine ⟨n, s, rfl, rfl, 5, rfl, by decide, by decide, so, fun d n' s' d0 d1 so' => ⟨1, d, rfl, rfl, 1 + d, rfl, by omega, by omega, fun i ρ' => ∃ ps n2 s2, ps.length = i ∧ WfQ p k ps ∧ SrcOk n2 s2 ∧ ρ' = [some (.src n2 s2), some (.im (dI p)), some (.im (dI k)), some (.im (dI 1)), some (.im (dI 5)), some (.ow (ps.map pPc)), none, none, none], ⟨[], n', s', rfl, (fun _ h => nomatch h), so', rfl⟩, fun i y ρ' hy ⟨ps, n2, s2, hl, hw, so2, er⟩ => ⟨_, rfl, ?_⟩, fun ρ' ⟨ps, n2, s2, hl, hw, so2, er⟩ => ?_⟩⟩
  · subst er
    have hi : i < (1 + d).toNat := by
      have := (List.getElem?_eq_some_iff.mp hy).1
      rw [rangeD_len] at this
      exact this
    have ey := rangeD_get hy
    rw [Int.zero_add] at ey
    subst ey
    refine run_cons (rs_asgLcO (i := 7) (own := [("part", 8)]) (.one 8) rfl scLP.nd rfl rfl (sw_true rfl rfl rfl (by decide +kernel)) rfl (blkOk_by (N := nLP) (sc := defScope sLP) (by decide +kernel)) (fun _ _ _ _ _ => pg_name (i := 8) scLP.nd rfl (Or.inl rfl)) ?_)
    refine ei_range1 rfl B.range (ev_add (ev_int (ev_int1 rfl B.int (by decide +kernel) (ev_eq hr.units (ev_callS 0 oD (hr.mono (by decide)) rfl rfl (by first | exact Or.inl rfl | exact Or.inr (Or.inl rfl) | exact Or.inr (Or.inr rfl)) (ea_cons (ev_int (ea_nil ⟨n2, s2, rfl, rfl, 3, rfl, by decide, by decide, so2, fun d2 n3 s3 _ _ so3 => ?_⟩))))))))
    refine ev_int ⟨_, _, rfl, rfl, rfl, rfl, .inr ⟨_, rfl, ?_⟩⟩
    generalize hm : (if PyData.eqv (.int d2) (.int 0) = true then (1 : Int) else 0) = m0
    have hm0 : m0 = 0 ∨ m0 = 1 := by
      rw [← hm]
      split
      · exact .inr rfl
      · exact .inl rfl
    refine ⟨_, _, rfl, rfl, 1 + m0, rfl, by omega, by omega, by rw [rangeD_len]; exact sz (by omega), fun j acc ρ' => ∃ n4 s4 pc, pc.length = j ∧ (∀ r ∈ pc, Wf p k r) ∧ SrcOk n4 s4 ∧ acc = pc.map pT ∧ ρ' = [some (.src n4 s4), some (.im (dI p)), some (.im (dI k)), some (.im (dI 1)), some (.im (dI 5)), some (.ow (ps.map pPc)), some (.im (dI (i : Int))), none, none], ⟨n3, s3, [], rfl, (fun _ h => nomatch h), so3, rfl, rfl⟩, fun j acc y ρ' hy ⟨n4, s4, pc, hpl, hpw, so4, ea, er⟩ => ?_, fun acc ρ' ⟨n4, s4, pc, hpl, hpw, so4, ea, er⟩ => ?_⟩
    · subst ea er
      refine ⟨_, rfl, fun s H C cl fp => ets_nil ⟨fun _ s H C cl fp => ?_, fun z => nomatch z⟩⟩
      refine ev_callS 0 oR (hr.mono (by decide)) rfl rfl (by first | exact Or.inl rfl | exact Or.inr (Or.inl rfl) | exact Or.inr (Or.inr rfl)) (ea_cons (ev_v 1 rfl (ea_cons (ev_v 2 rfl (ea_nil ⟨n4, s4, rfl, rfl, p, k, rfl, p0, by omega, by omega, so4, fun row n5 s5 wr so5 => ⟨_, rfl, n5, s5, pc ++ [row], by rw [List.length_append, hpl]; rfl, fun r hr2 => ?_, so5, by rw [List.map_append]; rfl, rfl⟩⟩)))))
      rcases List.mem_append.mp hr2 with z | z
      · exact hpw r z
      · rw [List.mem_singleton.mp z]; exact wr
    · subst ea er
      rw [rangeD_len] at hpl
      have pl1 : 1 ≤ pc.length := by omega
      have pl2 : pc.length ≤ 2 := by omega
      have fin : ∀ (pc' : List (List Int)) n6 s6, pc'.length = pc.length → (∀ r ∈ pc', Wf p k r) → SrcOk n6 s6 → ∃ ps' n2 s2, ps'.length = i + 1 ∧ WfQ p k ps' ∧ SrcOk n2 s2 ∧ [some (.src n6 s6), some (.im (dI p)), some (.im (dI k)), some (.im (dI 1)), some (.im (dI 5)), some (.ow (ps.map pPc ++ [pPc pc'])), none, none, none] = [some (Ent.src n2 s2), some (.im (dI p)), some (.im (dI k)), some (.im (dI 1)), some (.im (dI 5)), some (.ow (ps'.map pPc)), none, none, none] := fun pc' n6 s6 h1 h2 h3 => by
        refine ⟨ps ++ [pc'], n6, s6, by rw [List.length_append, hl]; rfl, fun qc hq => ?_, h3, by rw [List.map_append]; rfl⟩
        rcases List.mem_append.mp hq with z | z
        · exact hw qc z
        · rw [List.mem_singleton.mp z]
          exact ⟨by omega, by omega, h2⟩
      refine run_cons (rs_if (et_w (ew_and (et_cmpI rfl (ev_v 6 rfl (ev_v 2 rfl ⟨_, _, rfl, rfl, fun hz => ?_, fun hz => ?_⟩))))))
      · refine ew_and1 (et_cmpI rfl (ev_callS 0 oD (hr.mono (by decide)) rfl rfl (by first | exact Or.inl rfl | exact Or.inr (Or.inl rfl) | exact Or.inr (Or.inr rfl)) (ea_cons (ev_int (ea_nil ⟨n4, s4, rfl, rfl, 3, rfl, by decide, by decide, so4, fun d3 n5 s5 _ _ so5 => ev_int ⟨_, _, rfl, rfl, fun hy => ?_, fun hy => ?_⟩⟩)))))
        · refine run_one (rs_store (k := 0) 7 rfl (Or.inl rfl) (ev_call oU (hr.mono (by decide)) rfl (ea_cons (ev_v 2 rfl (ea_cons (ev_v 6 rfl (ea_nil ⟨k, (i : Int), rfl, by omega, ?_⟩)))))))
          refine ⟨pc.map pT, _, rfl, rfl, show ixN (pc.map pT).length 0 = some 0 from ?_, ?_⟩
          · unfold ixN
            rw [if_pos (by decide), if_pos (by rw [List.length_map]; omega)]
            rfl
          · have es : (pc.map pT).set 0 (pT (unitL k (i : Int))) = (pc.set 0 (unitL k (i : Int))).map pT := by rw [List.map_set]
            rw [es]
            show RunP _ _ _ _
            refine run_cons (rs_append 5 rfl (Or.inl rfl) ?_ (ho := ⟨_, rfl⟩))
            refine ev_tuple rfl B.tuple (by decide +kernel) (eq_o 7 rfl ⟨_, _, rfl, rfl, ?_, ?_⟩)
            · rw [List.length_map, hl]
              exact Nat.lt_of_lt_of_le (show i < 1000 by omega) (show 1000 ≤ sizeLine by decide)
            · exact run_wipe 6 (run_wipe 7 (run_nil (fin (pc.set 0 (unitL k (i : Int))) n5 s5 (by rw [List.length_set]) (fun r hr2 => by
              rcases List.mem_or_eq_of_mem_set hr2 with z | z
              · exact hpw r z
              · rw [z]; exact wf_unit p1 _) so5)))
        · refine run_nil ?_
          show RunP _ _ _ _
          refine run_cons (rs_append 5 rfl (Or.inl rfl) ?_ (ho := ⟨_, rfl⟩))
          refine ev_tuple rfl B.tuple (by decide +kernel) (eq_o 7 rfl ⟨_, _, rfl, rfl, ?_, ?_⟩)
          · rw [List.length_map, hl]
            exact Nat.lt_of_lt_of_le (show i < 1000 by omega) (show 1000 ≤ sizeLine by decide)
          · exact run_wipe 6 (run_wipe 7 (run_nil (fin pc n5 s5 rfl hpw so5)))
      · refine ⟨fun z => (nomatch z), fun _ => run_nil ?_⟩
        show RunP _ _ _ _
        refine run_cons (rs_append 5 rfl (Or.inl rfl) ?_ (ho := ⟨_, rfl⟩))
        refine ev_tuple rfl B.tuple (by decide +kernel) (eq_o 7 rfl ⟨_, _, rfl, rfl, ?_, ?_⟩)
        · rw [List.length_map, hl]
          exact Nat.lt_of_lt_of_le (show i < 1000 by omega) (show 1000 ≤ sizeLine by decide)
        · exact run_wipe 6 (run_wipe 7 (run_nil (fin pc n4 s4 rfl hpw so4)))
  · subst er
    rw [rangeD_len] at hl
    refine run_one (rs_ret (ev_tuple rfl B.tuple (by decide +kernel) (eq_o 5 rfl ⟨_, _, rfl, q ps n2 s2 ⟨by omega, by omega, hw⟩ so2⟩)))
end
end K87
end
section
set_option Elab.async false
set_option linter.all false
set_option maxRecDepth 100000
set_option maxHeartbeats 4000000
/-! The data logic: len(set(e)), e a list of rows of ints. -/
namespace DL
open PySem PySem.Spec PyProof.Rows L2 Evl
def distL : List (List Int) → List (List Int)
  | [] => []
  | x :: xs => if xs.contains x = true then distL xs else x :: distL xs
theorem dist_mem : ∀ {xs : List (List Int)} {y : List Int}, y ∈ distL xs ↔ y ∈ xs
  | [], y => Iff.rfl
  | x :: xs, y => by
    unfold distL
    split
    · rename_i h
      rw [dist_mem (xs := xs), List.mem_cons]
      constructor
      · exact .inr
      · rintro (e | e)
        · rw [e]; simpa using h
        · exact e
    · rw [List.mem_cons, List.mem_cons, dist_mem (xs := xs)]
theorem dist_nodup : ∀ (xs : List (List Int)), (distL xs).Nodup
  | [] => List.nodup_nil
  | x :: xs => by
    unfold distL
    split
    · exact dist_nodup xs
    · rename_i h
      refine List.nodup_cons.mpr ⟨fun z => h ?_, dist_nodup xs⟩
      simpa using dist_mem.mp z
theorem nodup_len {α : Type} [DecidableEq α] : ∀ {xs ys : List α}, xs.Nodup → (∀ x ∈ xs, x ∈ ys) → xs.length ≤ ys.length
  | [], ys, _, _ => Nat.zero_le _
  | x :: xs, ys, h, hs => by
    obtain ⟨h1, h2⟩ := List.nodup_cons.mp h
    have hx : x ∈ ys := hs x List.mem_cons_self
    have ih := nodup_len (xs := xs) (ys := ys.erase x) h2 fun z hz => (List.mem_erase_of_ne fun (e : z = x) => h1 (e ▸ hz)).mpr (hs z (List.mem_cons_of_mem _ hz))
    rw [List.length_erase_of_mem hx] at ih
    have : 0 < ys.length := List.length_pos_of_mem hx
    rw [List.length_cons]
    omega
section
variable {X : Cx}
def tLenSetT (K : PySem.W.Frag) (ta : TE) : TE := fun σ H Q => ta σ H fun x H1 => ∃ (l : Addr) (ks : List (Addr × List Int)), x = V.ref l ∧ SqL K H1 l (ks.map fun p => V.ref p.1) ∧ (∀ p ∈ ks, SqT K H1 p.1 (p.2.map V.int)) ∧ ks.length < 64 ∧ Q (.int (distL (ks.map (·.2))).length) H1
theorem pe_lenSetT {a : Expr} {ta : TE} {p p2 q pos : Pos} (hc : X.calm = true) (hu : X.A.units + 64 < cLine) (hg : Gl X "len") (hm : X.mg "len" = none) (hg2 : Gl X "set") (hm2 : X.mg "set" = none) (ha : PE X a ta)
    (na : starEach [a] X.env = (false, eval a X.env) :: starEach [] X.env := by rfl) : PE X (.Call (.Name "len" p) [.Call (.Name "set" p2) [a] [] q] [] pos) (tLenSetT X.K ta) := by
  refine ⟨fun pins s σ H Q I h => ?_⟩
  refine Call_ (ld_blt I hg hm PySem.boot_len ?_)
  refine PyProof.Rows.callWith_builtin1 (PyProof.Rows.args_cons ?_ rfl) rfl rfl
  refine Call_ (ld_blt I hg2 hm2 PyProof.Rows.boot_set ?_)
  refine PyProof.Rows.callWith_type1 (PyProof.Rows.args_cons (thn (ha.run pins s σ H _ I h) fun v s1 ⟨x, H1, I1, r1, q1⟩ => PyProof.Rows.args_nil ?_) na) na rfl
  obtain ⟨l, ks, rfl, hl, hk, hf, q1⟩ := q1
  cases r1
  obtain ⟨its, rv, pl, hz⟩ := I1.list hl
  refine call_set_tups (P := X.prog) (w := X.w) ks (I1.ok.hd hc) pl.isList (by simpa using refs_of_vals rv) (fun p hp => I1.isT (hk p hp)) hf (by omega) fun h' tk L es ep t R g k => ?_
  refine PyProof.Rows.args_nil ?_
  obtain ⟨o, ho, hex, hd⟩ := R.ob
  have I2 : Inv X pins σ H1 { s1 with heap := h', toks := tk } := I1.kept k
  have R' : SetTR X.prog X.w ({ s1 with heap := h', toks := tk } : Shared).heap s1.heap.objs.size L es ep t := R
  have hsz := R'.size
  have hfew := R.few
  have hlen : L.length = (distL (ks.map (·.2))).length := by
    have e1 : (L.map (·.2)).length ≤ (distL (ks.map (·.2))).length := nodup_len R.nd fun x hx => by
      obtain ⟨p, hp, e⟩ := List.mem_map.mp hx
      exact dist_mem.mpr (List.mem_map.mpr ⟨p, List.mem_of_mem_take (g.sub p hp), e⟩)
    have e2 : (distL (ks.map (·.2))).length ≤ (L.map (·.2)).length := nodup_len (dist_nodup _) fun x hx => by
      obtain ⟨p, hp, e⟩ := List.mem_map.mp (dist_mem.mp hx)
      rw [← e]
      exact g.all p (by rw [List.take_length]; exact hp)
    rw [List.length_map] at e1 e2
    omega
  refine call_len_set ho hex hd R'.fits (by rw [hsz]; omega) ⟨.int L.length, H1, I2.tok _, ⟨_, by rw [hsz]⟩, ?_⟩
  rw [hlen]
  exact q1
end
theorem dpa_tups {K : PySem.W.Frag} {H : Hp} : ∀ {vs : List V} {rows : List (List Int)}, DpAll K H vs (rows.map fun r => PyData.tuple (r.map PyData.int)) → ∃ ks : List (Addr × List Int), vs = ks.map (fun p => V.ref p.1) ∧ ks.map (·.2) = rows ∧ ∀ p ∈ ks, SqT K H p.1 (p.2.map V.int)
  | _, [], .nil => ⟨[], rfl, rfl, fun p hp => nomatch hp⟩
  | _, r :: rows, .cons (.tup (a := a) h1 h2) q => by
    obtain ⟨ks, e1, e2, h3⟩ := dpa_tups q
    have := dpa_ints h2
    subst this
    refine ⟨(a, r) :: ks, by rw [e1]; rfl, by rw [List.map_cons, e2], fun p hp => ?_⟩
    rcases List.mem_cons.mp hp with z | z
    · rw [z]; exact h1
    · exact h3 p z
section
variable {X : Cx} {ρ : DEnv} {Q : Dt → DEnv → Prop} {e : Expr} {p p2 q pos : Pos}
theorem ev_lenSet (hc : X.calm = true) (hu : X.A.units + 64 < cLine) (hg : Gl X "len") (hm : X.mg "len" = none) (hg2 : Gl X "set") (hm2 : X.mg "set" = none)
    (h : EvP X e ρ fun d ρ' => ∃ rows : List (List Int), d = dL (rows.map fun r => PyData.tuple (r.map PyData.int)) ∧ rows.length < 64 ∧ Q (dI ((distL rows).length : Nat)) ρ') (na : starEach [e] X.env = (false, eval e X.env) :: starEach [] X.env := by rfl) :
    EvP X (.Call (.Name "len" p) [.Call (.Name "set" p2) [e] [] q] [] pos) ρ Q := fun H0 M O S σ H E R k => ⟨_, pe_lenSetT hc hu hg hm hg2 hm2 pe_w na, h H0 M O S σ H E _ fun v H1 d ρ1 ⟨rows, ed, hl, z⟩ E1 r => by
    subst ed
    cases r with
    | lst h1 h2 =>
      obtain ⟨ks, e1, e2, h3⟩ := dpa_tups h2
      subst e1 e2
      refine ⟨_, ks, rfl, ex_l off_ex h1, fun p hp => ex_t off_ex (h3 p hp), by simpa using hl, k _ H1 _ ρ1 z E1 dt_int⟩⟩
end
end DL
end
section
set_option Elab.async false
set_option linter.all false
set_option maxRecDepth 100000
set_option maxHeartbeats 4000000
namespace K87
open PySem PySem.Spec PyProof.Rows L2 DL
def isBaseL (p : Int) (n : Nat) (b : List (List Int)) : Bool := decide ((distL ((allL p n).map (madeL p n b))).length = (allL p n).length)
def nzL (p : Int) (n : Nat) : List (List Int) := (allL p n).filter fun d => !zeroL d
def tupsL (rows : List (List Int)) : Nat → List (List (List Int))
  | 0 => [[]]
  | n + 1 => (tupsL rows n).flatMap fun b => rows.map fun r => b ++ [r]
def basesL (p : Int) (n : Nat) : List (List (List Int)) := (tupsL (nzL p n) n).filter (isBaseL p n)
theorem len_tups {rows : List (List Int)} : ∀ n, (tupsL rows n).length = rows.length ^ n
  | 0 => rfl
  | n + 1 => by
    rw [tupsL, len_flat (m := rows.length) fun x _ => by rw [List.length_map], len_tups n, Nat.pow_succ]
theorem mem_tups {rows : List (List Int)} : ∀ {n : Nat} {b : List (List Int)}, b ∈ tupsL rows n ↔ b.length = n ∧ ∀ r ∈ b, r ∈ rows
  | 0, b => by
    rw [tupsL, List.mem_singleton]
    constructor
    · intro h; subst h; exact ⟨rfl, fun _ h => nomatch h⟩
    · intro h; exact List.eq_nil_of_length_eq_zero h.1
  | n + 1, b => by
    rw [tupsL, List.mem_flatMap]
    constructor
    · rintro ⟨b0, h0, h1⟩
      obtain ⟨r, hr, e⟩ := List.mem_map.mp h1
      obtain ⟨q1, q2⟩ := mem_tups.mp h0
      subst e
      refine ⟨by rw [List.length_append, q1]; rfl, fun x hx => ?_⟩
      rcases List.mem_append.mp hx with z | z
      · exact q2 x z
      · rw [List.mem_singleton.mp z]; exact hr
    · rintro ⟨h1, h2⟩
      have hne : b ≠ [] := fun e => by rw [e] at h1; cases h1
      refine ⟨b.dropLast, mem_tups.mpr ⟨by rw [List.length_dropLast, h1]; rfl, fun r hr => h2 r ((List.dropLast_sublist b).subset hr)⟩, List.mem_map.mpr ⟨b.getLast hne, h2 _ (List.getLast_mem hne), List.dropLast_concat_getLast hne⟩⟩
theorem nz_bd {p : Int} {n : Nat} (hc : (p, n) ∈ combos) : 1 ≤ (nzL p n).length ∧ (nzL p n).length ^ n ≤ 600 ∧ (allL p n).length < 64 := by
  have : combos.all (fun c => decide (1 ≤ (nzL c.1 c.2).length) && decide ((nzL c.1 c.2).length ^ c.2 ≤ 600) && decide ((allL c.1 c.2).length < 64)) = true := by decide +kernel
  have h := List.all_eq_true.mp this _ hc
  simp only [Bool.and_eq_true, decide_eq_true_eq] at h
  exact ⟨h.1.1, h.1.2, h.2⟩
theorem nz_mem {p : Int} {n : Nat} (p0 : 0 < p) {d : List Int} : d ∈ nzL p n ↔ Wf p n d ∧ zeroL d = false := by
  unfold nzL
  rw [List.mem_filter]
  exact ⟨fun ⟨h1, h2⟩ => ⟨mem_all h1, by simpa using h2⟩, fun ⟨h1, h2⟩ => ⟨all_mem p0 h1, by simpa using h2⟩⟩
section
variable {P : Program} {w : World} {K : PySem.W.Frag} {mg : Str → Option Value} {base : Heap} {f C D : Addr} {fd : FuncData}
/-! ### _law_is_base -/
abbrev sLIB : Stmt := top 63
abbrev nLIB : List Str := ["prime", "size", "base", "every", "factors"]
theorem scLIB : FnScope nLIB ["prime", "size", "base"] (defScope sLIB) := ⟨rfl, rfl, rfl, by decide +kernel, rfl, by decide +kernel, by decide +kernel⟩
def tLIB : Tr := fun ds Z => ∃ (p : Int) (n : Nat) (b : List (List Int)), ds = [dI p, dI n, .d (pR b)] ∧ (p, n) ∈ combos ∧ b.length = n ∧ (∀ d ∈ b, Wf p n d) ∧ Z (dB (isBaseL p n b))
theorem own_lib (B : Bl mg) (h : At K mg "_law_is_base" sLIB f fd) (oA : Own P w K mg base 1 "_law_all" (spP K tAll)) (oM : Own P w K mg base 1 "_law_made" (spP K tLM)) : Own P w K mg base 2 "_law_is_base" (spP K tLIB) := by
  refine def_pure h.fn scLIB h.mg (h.fn.binds fun _ _ _ _ _ _ us hl => match us, hl with | [_, _, _], _ => rfl) (fun ds Z ⟨_, _, _, e, _⟩ => by rw [e]; rfl) fun cdv A outer s H E hr ds Z ⟨p, n, b, ed, hc, hb, hw, q⟩ => ?_
  subst ed
  obtain ⟨p0, p5, n1, n3⟩ := combo_p hc
  obtain ⟨_, _, al⟩ := nz_bd hc
  refine run_cons (rs_asg (i := 3) scLIB.nd rfl (Or.inl rfl) (ev_call oA hr rfl (ea_cons (ev_v 0 rfl (ea_cons (ev_v 1 rfl (ea_nil ⟨p, n, rfl, p0, by omega, n3, ?_⟩)))))))
  refine run_one (rs_ret (ev_eq hr.units (ev_lenSet rfl hr.units rfl B.len rfl B.set (ev_new (en_lc1 (M := nLIB) (sc := defScope sLIB) 4 scLIB.nd rfl rfl (by decide +kernel) (lch_map (fun z => pT (madeL p n b (unT z))) ?_) rfl fun _ _ _ _ _ => pg_name (i := 4) scLIB.nd rfl (Or.inl rfl))))))
  refine ei_list (ev_v 3 rfl ⟨_, rfl, by rw [List.length_map]; exact sz (by omega), fun i x hx => ?_, ?_⟩)
  · rw [List.getElem?_map] at hx
    obtain ⟨fs, hfs, ex⟩ := Option.map_eq_some_iff.mp hx
    subst ex
    have wf := mem_all (List.mem_of_getElem? hfs)
    refine ⟨_, rfl, fun s H C' cl fp => ev_call oM hr rfl (ea_cons (ev_v 0 rfl (ea_cons (ev_v 2 rfl (ea_cons (ev_v 4 rfl (ea_nil ⟨p, n, b, fs, rfl, p0, by omega, by omega, by omega, by rw [wf.1]; omega, fun d hd => (hw d hd).1, wf_small wf (by omega), ?_, rfl⟩)))))))⟩
    rw [unT_pT]
  · have e1 : ((allL p n).map pT).map (fun z => pT (madeL p n b (unT z))) = ((allL p n).map (madeL p n b)).map fun r => PyData.tuple (r.map PyData.int) := by
      rw [List.map_map, List.map_map]
      refine List.map_congr_left fun r _ => ?_
      show pT (madeL p n b (unT (pT r))) = _
      rw [unT_pT]
      rfl
    rw [e1]
    refine ⟨_, rfl, by rw [List.length_map]; exact al, ev_len rfl B.len (eq_list (ev_v 3 rfl ⟨_, rfl, _, _, rfl, rfl, rfl, rfl, ?_⟩))⟩
    rw [eqv_int, List.length_map]
    have : decide (((distL ((allL p n).map (madeL p n b))).length : Int) = ((allL p n).length : Int)) = isBaseL p n b := by
      unfold isBaseL
      rw [decide_eq_decide]
      omega
    rw [this]
    exact q
/-! ### _law_bases -/
abbrev sLB : Stmt := top 64
abbrev nLB : List Str := ["prime", "size", "rows", "found", "turn", "longer", "base", "row"]
theorem scLB : FnScope nLB ["prime", "size"] (defScope sLB) := ⟨rfl, rfl, rfl, by decide +kernel, rfl, by decide +kernel, by decide +kernel⟩
def tLB : Tr := fun ds Z => ∃ (p : Int) (n : Nat), ds = [dI p, dI n] ∧ (p, n) ∈ combos ∧ Z (dL ((basesL p n).map pR))
theorem un_pR (b : List (List Int)) : unPc (pR b) = b := unPc_pPc b
theorem own_lb (B : Bl mg) (h : At K mg "_law_bases" sLB f fd) (oA : Own P w K mg base 1 "_law_all" (spP K tAll)) (oB : Own P w K mg base 2 "_law_is_base" (spP K tLIB)) : Own P w K mg base 3 "_law_bases" (spP K tLB) := by
  refine def_pure h.fn scLB h.mg (h.fn.binds fun _ _ _ _ _ _ us hl => match us, hl with | [_, _], _ => rfl) (fun ds Z ⟨_, _, e, _⟩ => by rw [e]; rfl) fun cdv A outer s H E hr ds Z ⟨p, n, ed, hc, q⟩ => ?_
  subst ed
  obtain ⟨p0, p5, n1, n3⟩ := combo_p hc
  obtain ⟨m1, m6, al⟩ := nz_bd hc
  have mi : ∀ i, i ≤ n → (nzL p n).length ^ i ≤ 600 := fun i hi => Nat.le_trans (Nat.pow_le_pow_right m1 hi) m6
  refine run_cons (rs_par (i := 2) (j := 3) rfl scLB.nd rfl rfl (by decide) rfl rfl (ea_cons (ev_new (en_lc1 (M := nLB) (sc := defScope sLB) 7 scLB.nd rfl rfl (by decide +kernel) (lch_mf (fun z => !zeroL (unT z)) (fun z => z) ?_) rfl fun _ _ _ _ _ => pg_name (i := 7) scLB.nd rfl (Or.inl rfl)))))
  refine ei_list (ev_call oA (hr.mono (by decide)) rfl (ea_cons (ev_v 0 rfl (ea_cons (ev_v 1 rfl (ea_nil ⟨p, n, rfl, p0, by omega, n3, _, rfl, by rw [List.length_map]; exact sz (by omega), fun i x hx => ?_, ?_⟩))))))
  · rw [List.getElem?_map] at hx
    obtain ⟨d, hd, ex⟩ := Option.map_eq_some_iff.mp hx
    subst ex
    refine ⟨_, rfl, fun s H C' cl fp => ets_one (et_val (ev_any rfl rfl B.any (by decide +kernel) (eq_tup (ev_v 7 rfl ⟨_, rfl, _, tru_ints _, _, rfl, ?_, rfl, fun _ s H C' cl fp => ev_v 7 rfl ⟨rfl, rfl⟩⟩))))⟩
    rw [any_ne, unT_pT]
  have e0 : (((allL p n).map pT).filter fun z => !zeroL (unT z)).map (fun z => z) = (nzL p n).map pT := by
    rw [List.map_id', List.filter_map]
    unfold nzL
    refine congrArg (List.map pT) (List.filter_congr fun d _ => ?_)
    show (!zeroL (unT (pT d))) = _
    rw [unT_pT]
  rw [e0]
  refine ea_cons (ev_new (en_lst (ea_cons (ev_tup (ea_nil ⟨[], rfl, Nat.zero_le _, ea_nil ⟨[.tuple []], rfl, (by show 1 ≤ sizeLine; decide), ea_nil ⟨_, _, rfl, ?_⟩⟩⟩)))))
  refine run_cons (rs_for (.one 4) PassesOwn.never rfl (pg_name (i := 4) scLB.nd rfl (Or.inl rfl)) (ei_range1 rfl B.range (ev_v 1 rfl ⟨_, rfl, by omega, by omega, fun i ρ' => ∃ a b c, ρ' = [some (.im (dI p)), some (.im (dI n)), some (.im (dL ((nzL p n).map pT))), some (.im (dL ((tupsL (nzL p n) i).map pR))), a, b, c, none], ⟨_, _, _, rfl⟩, fun i y ρ' hy ⟨a, b, c, er⟩ => ⟨_, rfl, ?_⟩, fun ρ' ⟨a, b, c, er⟩ => ?_⟩)))
  · subst er
    have hi : i < n := by
      have := (List.getElem?_eq_some_iff.mp hy).1
      rw [rangeD_len, Int.toNat_natCast] at this
      exact this
    have l2 := mi (i + 1) hi
    refine run_cons (rs_asg (i := 5) scLB.nd rfl (Or.inl rfl) (ev_new (en_lst (ea_nil ⟨[], rfl, Nat.zero_le _, ?_⟩))))
    refine run_cons (rs_for (.one 6) PassesOwn.never rfl (pg_name (i := 6) scLB.nd rfl (Or.inr rfl)) (ei_list (ev_v 3 rfl ⟨_, rfl, fun j ρ' => ∃ c, ρ' = [some (.im (dI p)), some (.im (dI n)), some (.im (dL ((nzL p n).map pT))), some (.im (dL ((tupsL (nzL p n) i).map pR))), some (.im (.d y)), some (.im (dL ((((tupsL (nzL p n) i).take j).flatMap fun b => (nzL p n).map fun r => b ++ [r]).map pR))), c, none], ⟨_, rfl⟩, fun j z ρ' hz ⟨c, er⟩ => ⟨_, rfl, ?_⟩, fun ρ' ⟨c, er⟩ => ?_⟩)))
    · subst er
      rw [List.getElem?_map] at hz
      obtain ⟨b, hb, ez⟩ := Option.map_eq_some_iff.mp hz
      subst ez
      have hj : j < (tupsL (nzL p n) i).length := (List.getElem?_eq_some_iff.mp hb).1
      have l1 : (((tupsL (nzL p n) i).take j).flatMap fun b => (nzL p n).map fun r => b ++ [r]).length = j * (nzL p n).length := by
        rw [len_flat (m := (nzL p n).length) fun x _ => by rw [List.length_map], List.length_take, Nat.min_eq_left (Nat.le_of_lt hj)]
      have l3 : (j + 1) * (nzL p n).length ≤ 600 := by
        rw [len_tups] at hj
        have : (j + 1) * (nzL p n).length ≤ (nzL p n).length ^ i * (nzL p n).length := Nat.mul_le_mul_right _ hj
        rw [← Nat.pow_succ] at this
        exact Nat.le_trans this l2
      have l4 : j * (nzL p n).length + (nzL p n).length ≤ 600 := by rw [← Nat.succ_mul]; exact l3
      refine run_one (rs_asg (i := 5) scLB.nd rfl (Or.inl rfl) (ev_new (en_cat (ev_v 5 rfl (ev_new ?_)))))
      refine en_lc1 (M := nLB) (sc := defScope sLB) 7 scLB.nd rfl rfl (by decide +kernel) (lch_map (fun z => pR (b ++ [unT z])) ?_) rfl fun _ _ _ _ _ => pg_name (i := 7) scLB.nd rfl (Or.inl rfl)
      refine ei_list (ev_v 2 rfl ⟨_, rfl, by rw [List.length_map]; exact sz (by omega), fun k x hx => ?_, ?_⟩)
      · rw [List.getElem?_map] at hx
        obtain ⟨r, hr2, ex⟩ := Option.map_eq_some_iff.mp hx
        subst ex
        refine ⟨_, rfl, fun s H C cl fp => ev_catT (ev_v 6 rfl (ev_tup (ea_cons (ev_v 7 rfl (ea_nil ⟨[_], rfl, (by show 1 ≤ sizeLine; decide), _, _, rfl, rfl, ?_, ?_, rfl⟩)))))⟩
        · rw [List.length_map, (mem_tups.mp (List.mem_of_getElem? hb)).1]
          exact sz (by show i + 1 ≤ _; omega)
        · rw [unT_pT]
          simp [pR]
      · have e : ((((tupsL (nzL p n) i).take j).flatMap fun b => (nzL p n).map fun r => b ++ [r]).map pR) ++ ((nzL p n).map pT).map (fun z => pR (b ++ [unT z])) = ((((tupsL (nzL p n) i).take (j + 1)).flatMap fun b => (nzL p n).map fun r => b ++ [r]).map pR) := by
          rw [take_succ hb, List.flatMap_append, List.map_append]
          simp only [List.flatMap_cons, List.flatMap_nil, List.append_nil, List.map_map]
          refine congrArg _ (List.map_congr_left fun r _ => ?_)
          show pR (b ++ [unT (pT r)]) = _
          rw [unT_pT]
          rfl
        refine ⟨_, _, rfl, rfl, ?_, ?_⟩
        · rw [List.length_map, List.length_map, List.length_map, l1]
          exact sz (by omega)
        · rw [e]
          exact ⟨_, rfl⟩
    · subst er
      rw [List.length_map, List.take_length]
      exact run_one (rs_asg (i := 3) scLB.nd rfl (Or.inl rfl) (ev_v 5 rfl ⟨_, _, _, rfl⟩))
  · subst er
    rw [rangeD_len, Int.toNat_natCast]
    refine run_one (rs_ret (ev_new (en_lc1 (M := nLB) (sc := defScope sLB) 6 scLB.nd rfl rfl (by decide +kernel) (lch_mf (fun z => isBaseL p n (unPc z)) (fun z => z) ?_) rfl fun _ _ _ _ _ => pg_name (i := 6) scLB.nd rfl (Or.inl rfl))))
    have := mi n (Nat.le_refl _)
    refine ei_list (ev_v 3 rfl ⟨_, rfl, by rw [List.length_map, len_tups]; exact sz (by omega), fun k x hx => ?_, ?_⟩)
    · rw [List.getElem?_map] at hx
      obtain ⟨b, hb, ex⟩ := Option.map_eq_some_iff.mp hx
      subst ex
      obtain ⟨b1, b2⟩ := mem_tups.mp (List.mem_of_getElem? hb)
      refine ⟨_, rfl, fun s H C' cl fp => ets_one (et_val (ev_call oB hr rfl (ea_cons (ev_v 0 rfl (ea_cons (ev_v 1 rfl (ea_cons (ev_v 6 rfl (ea_nil ⟨p, n, b, rfl, hc, b1, fun d hd => ((nz_mem p0).mp (b2 d hd)).1, _, rfl, ?_, rfl, fun _ s H C' cl fp => ev_v 6 rfl ⟨rfl, rfl⟩⟩)))))))))⟩
      rw [un_pR]
    · have e1 : (((tupsL (nzL p n) n).map pR).filter fun z => isBaseL p n (unPc z)).map (fun z => z) = (basesL p n).map pR := by
        rw [List.map_id', List.filter_map]
        unfold basesL
        refine congrArg (List.map pR) (List.filter_congr fun d _ => ?_)
        show isBaseL p n (unPc (pR d)) = _
        rw [un_pR]
      rw [e1]
      exact q
end
end K87
end
section
set_option Elab.async false
set_option linter.all false
set_option maxRecDepth 100000
set_option maxHeartbeats 4000000
namespace K87
open PySem PySem.Spec PyProof.Rows L2 DL
abbrev rep (k : Int) (xs : List PyData) : List PyData := (List.replicate k.toNat xs).flatten
/-- what touches refuses -/
def oddT (p : Int) (n : Nat) : List PyData := [.none, .int 5, .tuple (rep n [.int 0]), .tuple (rep (n + 1) [.int 1]), .tuple (rep n [.int p]), .tuple (rep n [.bool true]), .str "1", .tuple (rep n [.none])]
/-- what rebased refuses -/
def oddR (p : Int) (n : Nat) : List PyData := [.none, .int 5, .tuple [], .tuple (rep n [.tuple (rep n [.int 0])]), .tuple (rep (n + 1) [.tuple (rep n [.int 1])]), .tuple (rep n [.none]),
  .list ((rangeI n).map fun a => pT ((rangeI n).map fun t => if a = t then 1 else 0)), .tuple (rep n [.tuple (rep (n + 1) [.int 1])])]
def shB (y : PyData) : Bool := y.showable && !y.hasDict && decide (y.depth ≤ 60) && decide (y.shown.length ≤ 1000)
theorem odd_t : combos.all (fun c => (oddT c.1 c.2).all fun y => shB y && (!dataD c.1 c.2 y || zeroL (rowS y))) = true := by decide +kernel
theorem odd_r : combos.all (fun c => (oddR c.1 c.2).all fun y => shB y && !baseD c.1 c.2 y) = true := by decide +kernel
structure ExH (P : Program) (K : PySem.W.Frag) (mg : Str → Option Value) (D fI : Addr) : Prop where
  ex : ExS.ExF P K D fI "value"
  xf : XfC K D
  exm : PySem.W.exmOne K (.ref D) (.ref D) = some true
  mg : mg "InvalidData" = some (.ref D)
theorem shB_ok {y : PyData} (h : shB y = true) : y.showable = true ∧ y.hasDict = false ∧ y.depth ≤ 60 ∧ y.shown.length ≤ sizeLine := by
  unfold shB at h
  simp only [Bool.and_eq_true, decide_eq_true_eq, Bool.not_eq_true'] at h
  exact ⟨h.1.1.1, h.1.1.2, h.1.2, sz (by omega)⟩
section
variable {P : Program} {w : World} {K : PySem.W.Frag} {mg : Str → Option Value} {base : Heap} {f C D fI : Addr} {fd : FuncData}
/-! ### _law_refused -/
abbrev sRef : Stmt := top 65
abbrev nRef : List Str := ["table", "size", "odd", "e", "some", "at", "to"]
theorem scRef : FnScope nRef ["table", "size"] (defScope sRef) := ⟨rfl, rfl, rfl, by decide +kernel, rfl, by decide +kernel, by decide +kernel⟩
def tRef (C : Addr) : Tr := fun ds Z => ∃ (p : Int) (n : Nat) (ps : List (List (List Int))), ds = [.ins C (tabD p n ps), dI n] ∧ (p, n) ∈ combos ∧ WfT p n ps ∧ Z (dB true)
theorem own_ref (B : Bl mg) (h : At K mg "_law_refused" sRef f fd) (kp : PySem.W.keepIn K (.ref f) = true) (T : TabP P w K mg base C) (X0 : ExH P K mg D fI) (oT : OwnXc P w K mg base 6 "touches" (tTou C D)) (oR : OwnXc P w K mg base 8 "rebased" (tReb C D)) : OwnG0 P w K mg base 9 "_law_refused" (spP K (tRef C)) := by
  refine ⟨f, def_G h.fn scRef (h.fn.binds fun _ _ _ _ _ _ us hl => match us, hl with | [_, _], _ => rfl) (fun ds Z ⟨_, _, _, e, _⟩ => by rw [e]; rfl) fun cdv A outer s H E hgd hr ds Z ⟨p, n, ps, ed, hc, hw, q⟩ => ?_, h.mg, kp⟩
  subst ed
  obtain ⟨p0, p5, n1, n3⟩ := combo_p hc
  have hT := List.all_eq_true.mp odd_t _ hc
  have hR := List.all_eq_true.mp odd_r _ hc
  have one : 1 ≤ sizeLine := by decide
  refine run_cons (rs_for (.one 2) PassesOwn.never rfl (pg_name (i := 2) scRef.nd rfl (Or.inl rfl)) (ei_list (ev_new (en_lst ?_))))
  refine ea_cons (ev_non (ea_cons (ev_int ?_)))
  refine ea_cons (ev_repT (ev_tup (ea_cons (ev_int (ea_nil ⟨[_], rfl, one, ev_v 1 rfl ⟨_, n, rfl, rfl, by simp, by omega, by omega, (by simp), ?_⟩⟩)))))
  refine ea_cons (ev_repT (ev_tup (ea_cons (ev_int (ea_nil ⟨[_], rfl, one, ev_add (ev_v 1 rfl (ev_int ⟨_, _, rfl, rfl, _, n + 1, rfl, rfl, by simp, by omega, by omega, (by simp), ?_⟩))⟩)))))
  refine ea_cons (ev_repT (ev_tup (ea_cons (ev_pr T.prime (hr.mono (by decide)) (ev_v 0 rfl ⟨_, _, rfl, rfl, ea_nil ⟨[_], rfl, one, ev_v 1 rfl ⟨_, n, rfl, rfl, by simp, by omega, by omega, (by simp), ?_⟩⟩⟩)))))
  refine ea_cons (ev_repT (ev_tup (ea_cons (ev_bl (ea_nil ⟨[_], rfl, one, ev_v 1 rfl ⟨_, n, rfl, rfl, by simp, by omega, by omega, (by simp), ?_⟩⟩)))))
  refine ea_cons (ev_str (ea_cons (ev_repT (ev_tup (ea_cons (ev_non (ea_nil ⟨[_], rfl, one, ev_v 1 rfl ⟨_, n, rfl, rfl, by simp, by omega, by omega, (by simp), ?_⟩⟩)))))))
  refine ea_nil ⟨oddT p n, rfl, (by show 8 ≤ sizeLine; decide), oddT p n, rfl, fun i ρ' => ∃ a, ρ' = [some (.im (.ins C (tabD p n ps))), some (.im (dI n)), a, none, none, none, none], ⟨_, rfl⟩, fun i y ρ' hy ⟨a, er⟩ => ⟨_, rfl, ?_⟩, fun ρ' ⟨a, er⟩ => ?_⟩
  · subst er
    have hy2 := List.all_eq_true.mp hT y (List.mem_of_getElem? hy)
    rw [Bool.and_eq_true] at hy2
    obtain ⟨s1, s2, s3, s4⟩ := shB_ok hy2.1
    refine run_one (rs_tryR (C := D) (T := tTou C D) 3 2 (by decide) oT (hr.mono (by decide)) hgd rfl rfl rfl scRef.nd rfl rfl rfl (by first | exact Or.inl rfl | exact Or.inr (Or.inl rfl)) ⟨rfl, by decide, .inl X0.mg⟩ X0.exm X0.xf X0.ex.noF rfl B.repr (by decide +kernel) fun pn xe => ?_)
    refine ea_cons (ev_v 0 rfl (ea_cons (ev_v 2 rfl (ea_nil ⟨y, (by show 3 < 7; decide), ⟨p, n, ps, y, rfl, hc, hw, ?_⟩, rfl, s1, s2, s3, s4, ⟨_, rfl⟩⟩))))
    cases hd : dataD p n y with
    | false => exact .inr ⟨rfl, rfl, rfl, rfl⟩
    | true =>
      have hz := hy2.2
      rw [show (!dataD p n y || zeroL (rowS y)) = zeroL (rowS y) by rw [hd]; rfl] at hz
      obtain ⟨wd, b, eb⟩ := data_row hd
      exact .inl ⟨b, rowS y, eb, wd, .inr ⟨hz, rfl, rfl, rfl⟩⟩
  · subst er
    refine run_cons (rs_asgO (i := 4) scRef.nd rfl (Or.inl rfl) (en_lst ?_))
    refine ea_cons (ev_non (ea_cons (ev_int (ea_cons (ev_tup (ea_nil ⟨[], rfl, Nat.zero_le _, ?_⟩))))))
    refine ea_cons (ev_repT (ev_tup (ea_cons (ev_repT (ev_tup (ea_cons (ev_int (ea_nil ⟨[_], rfl, one, ev_v 1 rfl ⟨_, n, rfl, rfl, by simp, by omega, by omega, (by simp), ?_⟩⟩))))))))
    refine ea_nil ⟨[_], rfl, one, ev_v 1 rfl ⟨_, n, rfl, rfl, by simp, by omega, by omega, (by simp), ?_⟩⟩
    refine ea_cons (ev_repT (ev_tup (ea_cons (ev_repT (ev_tup (ea_cons (ev_int (ea_nil ⟨[_], rfl, one, ev_v 1 rfl ⟨_, n, rfl, rfl, by simp, by omega, by omega, (by simp), ?_⟩⟩))))))))
    refine ea_nil ⟨[_], rfl, one, ev_add (ev_v 1 rfl (ev_int ⟨_, _, rfl, rfl, _, n + 1, rfl, rfl, by simp, by omega, by omega, (by simp), ?_⟩))⟩
    refine ea_cons (ev_repT (ev_tup (ea_cons (ev_non (ea_nil ⟨[_], rfl, one, ev_v 1 rfl ⟨_, n, rfl, rfl, by simp, by omega, by omega, (by simp), ?_⟩⟩)))))
    refine ea_nil ⟨(oddR p n).take 6, rfl, (by show 6 ≤ sizeLine; decide), ?_⟩
    refine run_cons (rs_append 4 rfl (Or.inl rfl) (ev_new (en_lc1 (M := nRef) (sc := defScope sRef) 5 scRef.nd rfl rfl (by decide +kernel) (lch_map (fun z => match z with | .int a => pT ((rangeI n).map fun t => if a = t then 1 else 0) | d => d) ?_) rfl fun _ _ _ _ _ => pg_name (i := 5) scRef.nd rfl (Or.inr rfl))) (ho := ⟨_, rfl⟩))
    refine ei_range1 rfl B.range (ev_v 1 rfl ⟨_, rfl, by omega, by omega, by rw [rangeD_len]; exact sz (by omega), fun i x hx => ?_, ?_⟩)
    · have := rangeD_get hx
      subst this
      refine ⟨_, rfl, fun s H C' cl fp => ev_tuple rfl B.tuple (by decide +kernel) (eq_list (ev_new (en_lc1 (M := nRef) 6 scRef.nd rfl rfl (by rfl) (lch_map (fun z => match z with | .int t => .int (if (0 + (i : Int)) = t then 1 else 0) | d => d) ?_) rfl fun _ _ _ _ _ => pg_name (i := 6) scRef.nd rfl (Or.inl rfl))))⟩
      refine ei_range1 rfl B.range (ev_v 1 rfl ⟨_, rfl, by omega, by omega, by rw [rangeD_len]; exact sz (by omega), fun k y hy => ?_, ?_⟩)
      · have := rangeD_get hy
        subst this
        refine ⟨_, rfl, fun s H C' cl fp => ev_int1 rfl B.int (by decide +kernel) (ev_eq hr.units (ev_v 5 rfl (ev_v 6 rfl ⟨_, _, rfl, rfl, rfl, rfl, .inr ⟨_, rfl, ?_, rfl⟩⟩)))⟩
        simp [PyData.eqv]
      · refine ⟨_, rfl, ?_, rfl⟩
        rw [rangeD_pI, List.map_map]
        refine congrArg (fun x => Dt.d (PyData.tuple x)) ?_
        show _ = ((rangeI n).map _).map PyData.int
        rw [List.map_map]
        rfl
    · refine ⟨_, _, rfl, rfl, (by show 6 < sizeLine; decide), ?_⟩
      refine run_freeze 4 rfl ?_
      refine run_cons (rs_for (.one 2) PassesOwn.never rfl (pg_name (i := 2) scRef.nd rfl (Or.inl rfl)) (ei_list (ev_new (en_cat (ev_v 4 rfl (ev_new (en_lst ?_)))))))
      refine ea_cons (ev_repT (ev_tup (ea_cons (ev_repT (ev_tup (ea_cons (ev_int (ea_nil ⟨[_], rfl, one, ev_add (ev_v 1 rfl (ev_int ⟨_, _, rfl, rfl, _, n + 1, rfl, rfl, by simp, by omega, by omega, (by simp), ?_⟩))⟩))))))))
      refine ea_nil ⟨[_], rfl, one, ev_v 1 rfl ⟨_, n, rfl, rfl, by simp, by omega, by omega, (by simp), ?_⟩⟩
      refine ea_nil ⟨[_], rfl, one, _, _, rfl, rfl, (by show 7 + 1 ≤ sizeLine; decide), oddR p n, ?_, fun i ρ' => ∃ a b, ρ' = [some (.im (.ins C (tabD p n ps))), some (.im (dI n)), a, none, b, none, none], ⟨_, _, rfl⟩, fun i y ρ' hy ⟨a, b, er⟩ => ⟨_, rfl, ?_⟩, fun ρ' ⟨a, b, er⟩ => ?_⟩
      · rw [rangeD_pI]
        simp only [pI, List.map_map]
        rfl
      · subst er
        have hy2 := List.all_eq_true.mp hR y (List.mem_of_getElem? hy)
        rw [Bool.and_eq_true, Bool.not_eq_true'] at hy2
        obtain ⟨s1, s2, s3, s4⟩ := shB_ok hy2.1
        refine run_one (rs_tryR (C := D) (T := tReb C D) 3 2 (by decide) oR (hr.mono (by decide)) hgd rfl rfl rfl scRef.nd rfl rfl rfl (by first | exact Or.inl rfl | exact Or.inr (Or.inl rfl)) ⟨rfl, by decide, .inl X0.mg⟩ X0.exm X0.xf X0.ex.noF rfl B.repr (by decide +kernel) fun pn xe => ?_)
        exact ea_cons (ev_v 0 rfl (ea_cons (ev_v 2 rfl (ea_nil ⟨y, (by show 3 < 7; decide), ⟨p, n, ps, y, rfl, hc, hw, .inr ⟨hy2.2, rfl, rfl, rfl⟩⟩, rfl, s1, s2, s3, s4, ⟨_, _, rfl⟩⟩))))
      · subst er
        exact run_one (rs_ret (ev_bl q))
end
end K87
end
section
set_option Elab.async false
set_option linter.all false
set_option maxRecDepth 100000
set_option maxHeartbeats 4000000
/-! Plain mathematics of k87: bases, by a finite look, in parts. -/
namespace K87
def okB (p : Int) (n : Nat) (b : List (List Int)) : Bool := decide ((rawL p b).length = n) == ((b.all fun d => !zeroL d) && isBaseL p n b)
/-- the i-th part of the tuples, forty in each -/
def partB (p : Int) (n i : Nat) : Bool := (((tupsL (allL p n) n).drop (40 * i)).take 40).all (okB p n)
theorem all_parts {α : Type} (f : α → Bool) (c : Nat) (hc : 0 < c) : ∀ (m : Nat) (l : List α), l.length ≤ c * m → (∀ i < m, ((l.drop (c * i)).take c).all f = true) → l.all f = true
  | 0, l, hl, _ => by
    have : l = [] := List.eq_nil_of_length_eq_zero (by omega)
    rw [this]
    rfl
  | m + 1, l, hl, h => by
    have h0 := h 0 (by omega)
    rw [Nat.mul_zero, List.drop_zero] at h0
    have ih := all_parts f c hc m (l.drop c) (by rw [List.length_drop]; rw [Nat.mul_succ] at hl; omega) fun i hi => by
      have := h (i + 1) (by omega)
      rw [List.drop_drop]
      rw [Nat.mul_succ, Nat.add_comm] at this
      exact this
    rw [← List.take_append_drop c l, List.all_append, h0, ih]
    rfl
theorem pb_2_1_0 : partB 2 1 0 = true := by decide +kernel
theorem ab_2_1 : (tupsL (allL 2 1) 1).all (okB 2 1) = true := by
  refine all_parts _ 40 (by decide) 1 _ (by rw [len_tups, len_all]; decide) fun i hi => ?_
  match i, hi with
  | 0, _ => exact pb_2_1_0
  | k + 1, hk => exact absurd hk (by omega)
theorem pb_2_2_0 : partB 2 2 0 = true := by decide +kernel
theorem ab_2_2 : (tupsL (allL 2 2) 2).all (okB 2 2) = true := by
  refine all_parts _ 40 (by decide) 1 _ (by rw [len_tups, len_all]; decide) fun i hi => ?_
  match i, hi with
  | 0, _ => exact pb_2_2_0
  | k + 1, hk => exact absurd hk (by omega)
theorem pb_2_3_0 : partB 2 3 0 = true := by decide +kernel
theorem pb_2_3_1 : partB 2 3 1 = true := by decide +kernel
theorem pb_2_3_2 : partB 2 3 2 = true := by decide +kernel
theorem pb_2_3_3 : partB 2 3 3 = true := by decide +kernel
theorem pb_2_3_4 : partB 2 3 4 = true := by decide +kernel
theorem pb_2_3_5 : partB 2 3 5 = true := by decide +kernel
theorem pb_2_3_6 : partB 2 3 6 = true := by decide +kernel
theorem pb_2_3_7 : partB 2 3 7 = true := by decide +kernel
theorem pb_2_3_8 : partB 2 3 8 = true := by decide +kernel
theorem pb_2_3_9 : partB 2 3 9 = true := by decide +kernel
theorem pb_2_3_10 : partB 2 3 10 = true := by decide +kernel
theorem pb_2_3_11 : partB 2 3 11 = true := by decide +kernel
theorem pb_2_3_12 : partB 2 3 12 = true := by decide +kernel
theorem ab_2_3 : (tupsL (allL 2 3) 3).all (okB 2 3) = true := by
  refine all_parts _ 40 (by decide) 13 _ (by rw [len_tups, len_all]; decide) fun i hi => ?_
  match i, hi with
  | 0, _ => exact pb_2_3_0
  | 1, _ => exact pb_2_3_1
  | 2, _ => exact pb_2_3_2
  | 3, _ => exact pb_2_3_3
  | 4, _ => exact pb_2_3_4
  | 5, _ => exact pb_2_3_5
  | 6, _ => exact pb_2_3_6
  | 7, _ => exact pb_2_3_7
  | 8, _ => exact pb_2_3_8
  | 9, _ => exact pb_2_3_9
  | 10, _ => exact pb_2_3_10
  | 11, _ => exact pb_2_3_11
  | 12, _ => exact pb_2_3_12
  | k + 13, hk => exact absurd hk (by omega)
theorem pb_3_1_0 : partB 3 1 0 = true := by decide +kernel
theorem ab_3_1 : (tupsL (allL 3 1) 1).all (okB 3 1) = true := by
  refine all_parts _ 40 (by decide) 1 _ (by rw [len_tups, len_all]; decide) fun i hi => ?_
  match i, hi with
  | 0, _ => exact pb_3_1_0
  | k + 1, hk => exact absurd hk (by omega)
theorem pb_3_2_0 : partB 3 2 0 = true := by decide +kernel
theorem pb_3_2_1 : partB 3 2 1 = true := by decide +kernel
theorem pb_3_2_2 : partB 3 2 2 = true := by decide +kernel
theorem ab_3_2 : (tupsL (allL 3 2) 2).all (okB 3 2) = true := by
  refine all_parts _ 40 (by decide) 3 _ (by rw [len_tups, len_all]; decide) fun i hi => ?_
  match i, hi with
  | 0, _ => exact pb_3_2_0
  | 1, _ => exact pb_3_2_1
  | 2, _ => exact pb_3_2_2
  | k + 3, hk => exact absurd hk (by omega)
theorem pb_5_1_0 : partB 5 1 0 = true := by decide +kernel
theorem ab_5_1 : (tupsL (allL 5 1) 1).all (okB 5 1) = true := by
  refine all_parts _ 40 (by decide) 1 _ (by rw [len_tups, len_all]; decide) fun i hi => ?_
  match i, hi with
  | 0, _ => exact pb_5_1_0
  | k + 1, hk => exact absurd hk (by omega)
theorem pb_5_2_0 : partB 5 2 0 = true := by decide +kernel
theorem pb_5_2_1 : partB 5 2 1 = true := by decide +kernel
theorem pb_5_2_2 : partB 5 2 2 = true := by decide +kernel
theorem pb_5_2_3 : partB 5 2 3 = true := by decide +kernel
theorem pb_5_2_4 : partB 5 2 4 = true := by decide +kernel
theorem pb_5_2_5 : partB 5 2 5 = true := by decide +kernel
theorem pb_5_2_6 : partB 5 2 6 = true := by decide +kernel
theorem pb_5_2_7 : partB 5 2 7 = true := by decide +kernel
theorem pb_5_2_8 : partB 5 2 8 = true := by decide +kernel
theorem pb_5_2_9 : partB 5 2 9 = true := by decide +kernel
theorem pb_5_2_10 : partB 5 2 10 = true := by decide +kernel
theorem pb_5_2_11 : partB 5 2 11 = true := by decide +kernel
theorem pb_5_2_12 : partB 5 2 12 = true := by decide +kernel
theorem pb_5_2_13 : partB 5 2 13 = true := by decide +kernel
theorem pb_5_2_14 : partB 5 2 14 = true := by decide +kernel
theorem pb_5_2_15 : partB 5 2 15 = true := by decide +kernel
theorem ab_5_2 : (tupsL (allL 5 2) 2).all (okB 5 2) = true := by
  refine all_parts _ 40 (by decide) 16 _ (by rw [len_tups, len_all]; decide) fun i hi => ?_
  match i, hi with
  | 0, _ => exact pb_5_2_0
  | 1, _ => exact pb_5_2_1
  | 2, _ => exact pb_5_2_2
  | 3, _ => exact pb_5_2_3
  | 4, _ => exact pb_5_2_4
  | 5, _ => exact pb_5_2_5
  | 6, _ => exact pb_5_2_6
  | 7, _ => exact pb_5_2_7
  | 8, _ => exact pb_5_2_8
  | 9, _ => exact pb_5_2_9
  | 10, _ => exact pb_5_2_10
  | 11, _ => exact pb_5_2_11
  | 12, _ => exact pb_5_2_12
  | 13, _ => exact pb_5_2_13
  | 14, _ => exact pb_5_2_14
  | 15, _ => exact pb_5_2_15
  | k + 16, hk => exact absurd hk (by omega)
theorem base_all : combos.all (fun c => (tupsL (allL c.1 c.2) c.2).all fun b => decide ((rawL c.1 b).length = c.2) == ((b.all fun d => !zeroL d) && isBaseL c.1 c.2 b)) = true := by
  refine List.all_eq_true.mpr fun c hc => ?_
  unfold combos at hc
  simp only [List.mem_cons, List.not_mem_nil, or_false] at hc
  rcases hc with rfl | rfl | rfl | rfl | rfl | rfl | rfl
  · exact ab_2_1
  · exact ab_2_2
  · exact ab_2_3
  · exact ab_3_1
  · exact ab_3_2
  · exact ab_5_1
  · exact ab_5_2
def unitsL (n : Nat) : List (List Int) := (List.range n).map fun (i : Nat) => unitL n (i : Int)
theorem units_all : combos.all (fun c => isBaseL c.1 c.2 (unitsL c.2) && (unitsL c.2).all fun d => !zeroL d && wfB c.1 c.2 d) = true := by decide +kernel
end K87
end
section
set_option Elab.async false
set_option linter.all false
set_option maxRecDepth 100000
set_option maxHeartbeats 4000000
/-! The data logic: a, b, .. = a list. -/
namespace DL
open PySem PySem.Spec PyProof.Rows L2 Evl
theorem setEs_len : ∀ (is : List Nat) (ds : List PyData) (ρ ρ' : DEnv), setEs is ds ρ = some ρ' → ds.length = is.length
  | [], [], _, _, _ => rfl
  | [], _ :: _, _, _, e => nomatch e
  | _ :: _, [], _, _, e => nomatch e
  | i :: is, d :: ds, ρ, ρ', e => congrArg (· + 1) (setEs_len is ds _ ρ' e)
section
variable {X : Cx} {ρ : DEnv} {P : Post} {e : Expr} {spos : Pos}
theorem rs_unpL {tg : Expr} {is : List Nat} (hg : PG X tg (gLst X.K is.length (gSlots is))) (h : EvP X e ρ fun d ρ' => ∃ ds ρ2, d = dL ds ∧ setEs is ds ρ' = some ρ2 ∧ P.nx ρ2)
    (hs : swapsWithSole [tg] e spos.line X.env = pure false := by rfl) (hw : swappedStores [tg] e X.env = pure none := by rfl) (h1 : (assignEach [tg] X.env).map (·.2) = [assign tg X.env] := by rfl) : RunS X (.Assign [tg] e spos) ρ P := fun H0 M O S σ H E D a b c d =>
  ⟨_, ps_asg pe_w hg hs hw h1, h H0 M O S σ H E _ fun v H1 dd ρ1 ⟨ds, ρ2, ed, hset, q⟩ E1 r => by
    subst ed
    cases r with
    | lst h1 h2 =>
      refine ⟨_, _, rfl, ex_l off_ex h1, ?_, gSlots_ok (vs := is) (fun i hi => hi) E1 h2 hset _ fun σ' E2 _ => a O σ' H1 ρ2 q E2⟩
      rw [dpa_length h2]
      exact setEs_len is ds _ _ hset⟩
end
end DL
end
section
set_option Elab.async false
set_option linter.all false
set_option maxRecDepth 100000
set_option maxHeartbeats 4000000
namespace K87
open PySem PySem.Spec PyProof.Rows L2 DL
/-- the touches of the rows of a base -/
def numsR (p : Int) (ps : List (List (List Int))) (b : List (List Int)) : List Int := b.map fun d => ((touL p ps d : Nat) : Int)
theorem nums_pR (p : Int) (ps : List (List (List Int))) (b : List (List Int)) : numsL p ps (b.map pT) = numsR p ps b := by
  unfold numsL numsR
  rw [List.map_map]
  refine List.map_congr_left fun d _ => ?_
  show ((touL p ps (rowS (pT d)) : Nat) : Int) = _
  rw [show rowS (pT d) = d from unT_pT d]
theorem wf_tups {p : Int} {n : Nat} (p0 : 0 < p) {b : List (List Int)} (h1 : b.length = n) (h2 : ∀ d ∈ b, Wf p n d) : b ∈ tupsL (allL p n) n := mem_tups.mpr ⟨h1, fun d hd => all_mem p0 (h2 d hd)⟩
theorem bases_mem {p : Int} {n : Nat} (hc : (p, n) ∈ combos) {b : List (List Int)} : b ∈ basesL p n ↔ b.length = n ∧ (∀ d ∈ b, Wf p n d) ∧ (redL p b).length = n := by
  have p0 := (combo_p hc).1
  have key : ∀ b, b.length = n → (∀ d ∈ b, Wf p n d) → ((decide ((rawL p b).length = n)) = ((b.all fun d => !zeroL d) && isBaseL p n b)) := fun b h1 h2 =>
    eq_of_beq (List.all_eq_true.mp (List.all_eq_true.mp base_all _ hc) b (wf_tups p0 h1 h2))
  unfold basesL
  rw [List.mem_filter, mem_tups]
  constructor
  · rintro ⟨⟨h1, h2⟩, h3⟩
    have w := fun d hd => (nz_mem p0).mp (h2 d hd)
    refine ⟨h1, fun d hd => (w d hd).1, ?_⟩
    have := key b h1 fun d hd => (w d hd).1
    rw [h3, Bool.and_true, List.all_eq_true.mpr (fun d hd => by rw [(w d hd).2]; rfl)] at this
    rw [red_len hc]
    exact of_decide_eq_true this
  · rintro ⟨h1, h2, h3⟩
    have := key b h1 h2
    rw [red_len hc] at h3
    rw [decide_eq_true h3] at this
    have h4 := Bool.and_eq_true_iff.mp this.symm
    refine ⟨⟨h1, fun d hd => (nz_mem p0).mpr ⟨h2 d hd, ?_⟩⟩, h4.2⟩
    have := List.all_eq_true.mp h4.1 d hd
    simpa using this
theorem bases_ne {p : Int} {n : Nat} (hc : (p, n) ∈ combos) : 0 < (basesL p n).length := by
  have p0 := (combo_p hc).1
  have h := List.all_eq_true.mp units_all _ hc
  rw [Bool.and_eq_true] at h
  refine List.length_pos_of_mem (a := unitsL n) (List.mem_filter.mpr ⟨mem_tups.mpr ⟨by unfold unitsL; simp, fun d hd => ?_⟩, h.1⟩)
  have := List.all_eq_true.mp h.2 d hd
  rw [Bool.and_eq_true] at this
  exact (nz_mem p0).mpr ⟨wfB_iff.mp this.2, by simpa using this.1⟩
theorem bases_len {p : Int} {n : Nat} (hc : (p, n) ∈ combos) : (basesL p n).length ≤ 600 := by
  have := (nz_bd hc).2.1
  unfold basesL
  exact Nat.le_trans (List.length_filter_le _ _) (by rw [len_tups]; exact this)
theorem baseD_eq {p : Int} {n : Nat} (hc : (p, n) ∈ combos) {b : List (List Int)} (h2 : ∀ d ∈ b, Wf p n d) : baseD p n (pR b) = decide (b ∈ basesL p n) := by
  show (decide ((b.map pT).length = n) && ((b.map pT).all (dataD p n) && decide ((redL p ((b.map pT).map rowS)).length = n))) = _
  rw [rows_pR, List.length_map, show (b.map pT).all (dataD p n) = true from List.all_eq_true.mpr fun x hx => by
    obtain ⟨d, hd, e⟩ := List.mem_map.mp hx
    rw [← e]
    exact data_wf (h2 d hd), Bool.true_and, Bool.eq_iff_iff, Bool.and_eq_true, decide_eq_true_eq, decide_eq_true_eq, decide_eq_true_eq, bases_mem hc]
  exact ⟨fun ⟨h1, h3⟩ => ⟨h1, h2, h3⟩, fun ⟨h1, _, h3⟩ => ⟨h1, h3⟩⟩
/-- is_fewest_touches of a base: what the law says -/
def recB (p : Int) (n : Nat) (ps : List (List (List Int))) (m : Int) (b : List (List Int)) : Bool :=
  decide (b ∈ basesL p n) && (decide ((numsR p ps b).sum = m) && (decide (m = fewN p n ps) && decide (numsR p ps b = sortI (numsR p ps b))))
theorem few_rec {p : Int} {n : Nat} (hc : (p, n) ∈ combos) {ps : List (List (List Int))} {m : Int} {b : List (List Int)} (h2 : ∀ d ∈ b, Wf p n d) : fewD p n ps (.tuple [.int m, pR b]) = recB p n ps m b := by
  show ((b.map pT).all (fun d => isD d "tuple" && dataD p n d) && (baseD p n (pR b) && (decide (numsL p ps (b.map pT) = sortI (numsL p ps (b.map pT))) && (decide ((numsL p ps (b.map pT)).sum = m) && decide (m = fewN p n ps))))) = _
  rw [nums_pR, baseD_eq hc h2, show (b.map pT).all (fun d => isD d "tuple" && dataD p n d) = true from List.all_eq_true.mpr fun x hx => by
    obtain ⟨d, hd, e⟩ := List.mem_map.mp hx
    rw [← e, data_wf (h2 d hd)]
    rfl, Bool.true_and]
  unfold recB
  generalize decide (b ∈ basesL p n) = A
  generalize decide ((numsR p ps b).sum = m) = U
  generalize decide (m = fewN p n ps) = W
  generalize decide (numsR p ps b = sortI (numsR p ps b)) = S
  cases A <;> cases U <;> cases W <;> cases S <;> rfl
theorem cut_last (xs : List PyData) (h : 1 ≤ xs.length) : cutP xs none (some (-1)) = xs.dropLast := by
  unfold cutP
  have e1 : HT.sIx xs.length 0 none = 0 := rfl
  have e2 : HT.sIx xs.length xs.length (some (-1)) = xs.length - 1 := by
    show (if (-1 : Int) < 0 then ((-1 : Int) + (xs.length : Int)).toNat else min (-1 : Int).toNat xs.length) = _
    rw [if_pos (by decide)]
    omega
  rw [e1, e2, List.drop_zero, Nat.sub_zero, List.dropLast_eq_take]
end K87
end
section
set_option Elab.async false
set_option linter.all false
set_option maxRecDepth 100000
set_option maxHeartbeats 4000000
namespace K87
open PySem PySem.Spec PyProof.Rows L2 DL
theorem run_seq {X : Cx} {st : Stmt} {rest : List Stmt} {ρ : DEnv} {P : Post} (I : DEnv → Prop) (h : RunS X st ρ { P with nx := I }) (k : ∀ ρ', I ρ' → RunP X rest ρ' P) : RunP X (st :: rest) ρ P :=
  run_cons (fun H0 M O S σ H E D a b c d => h H0 M O S σ H E D (fun O' σ' H' ρ' z E' => a O' σ' H' ρ' (k ρ' z) E') b c d)
theorem any_pR (xs : List (List (List Int))) (b : List (List Int)) : ((xs.map pR).any fun y => PyData.eqv y (pR b)) = decide (b ∈ xs) := by
  rw [any_eqv eqv_pR]
  exact decide_eq_decide.mpr Iff.rfl
theorem cut_first (xs : List PyData) : cutP xs none (some 1) = xs.take 1 := by
  unfold cutP
  have e1 : HT.sIx xs.length 0 none = 0 := rfl
  have e2 : HT.sIx xs.length xs.length (some 1) = min 1 xs.length := rfl
  rw [e1, e2, List.drop_zero, Nat.sub_zero]
  cases xs with
  | nil => rfl
  | cons x xs =>
    rw [List.length_cons, Nat.min_eq_left (by omega)]
theorem five (d : Int) (d0 : 0 ≤ d) (d1 : d < 5) : ∃ z, atI [PyData.int 0, .int 0, .int 0, .int 1, .int (-1)] d = some (.int z) := by
  have : d = 0 ∨ d = 1 ∨ d = 2 ∨ d = 3 ∨ d = 4 := by omega
  rcases this with e | e | e | e | e <;> subst e <;> exact ⟨_, rfl⟩
/-- what is_fewest_touches refuses -/
def oddF (p : Int) (n : Nat) (t : Int) (b : List (List Int)) : List PyData :=
  [.none, .int 5, .tuple [], .tuple [.int t], .list [.int t, pR b], .tuple [.int t, .list (b.map pT)], .tuple [pR b, .int t], .tuple [.int t, .list (b.map fun d => .list (pI d))],
   .tuple [.none, pR b], .tuple [.int t, .none], .tuple [.int t, pR b, .none], .tuple [.int t, .tuple (b.map pT ++ (b.map pT).take 1)], .tuple [.int t, .tuple (rep n [.none])]]
theorem odd_f {p : Int} {n : Nat} {ps : List (List (List Int))} {t : Int} {b : List (List Int)} (n1 : 1 ≤ n) (hb : b.length = n) : ∀ y ∈ oddF p n t b, fewD p n ps y = false ∧ ∀ a xs, y = .tuple [a, .tuple xs] → xs.length ≤ n + 1 := by
  have hlast : fewD p n ps (.tuple [.int t, .tuple (b.map pT ++ (b.map pT).take 1)]) = false := by
    show (_ && (baseD p n (.tuple (b.map pT ++ (b.map pT).take 1)) && _)) = false
    have : baseD p n (.tuple (b.map pT ++ (b.map pT).take 1)) = false := by
      show (decide ((b.map pT ++ (b.map pT).take 1).length = n) && _) = false
      rw [decide_eq_false, Bool.false_and]
      rw [List.length_append, List.length_take, List.length_map]
      omega
    rw [this, Bool.false_and, Bool.and_false]
  have hnone : fewD p n ps (.tuple [.int t, .tuple (rep n [.none])]) = false := by
    show ((rep n [.none]).all (fun d => isD d "tuple" && dataD p n d) && _) = false
    have : (rep n [PyData.none]).all (fun d => isD d "tuple" && dataD p n d) = false := by
      obtain ⟨m, e⟩ : ∃ m, n = m + 1 := ⟨n - 1, by omega⟩
      subst e
      unfold rep
      rw [Int.toNat_natCast, List.replicate_succ]
      rfl
    rw [this, Bool.false_and]
  intro y hy
  unfold oddF at hy
  simp only [List.mem_cons, List.not_mem_nil, or_false] at hy
  rcases hy with rfl | rfl | rfl | rfl | rfl | rfl | rfl | rfl | rfl | rfl | rfl | rfl | rfl
  case _ => exact ⟨rfl, fun a xs e => nomatch e⟩
  case _ => exact ⟨rfl, fun a xs e => nomatch e⟩
  case _ => exact ⟨rfl, fun a xs e => nomatch e⟩
  case _ => exact ⟨rfl, fun a xs e => nomatch e⟩
  case _ => exact ⟨rfl, fun a xs e => nomatch e⟩
  case _ => exact ⟨rfl, fun a xs e => nomatch e⟩
  case _ => exact ⟨rfl, fun a xs e => nomatch e⟩
  case _ => exact ⟨rfl, fun a xs e => nomatch e⟩
  case _ =>
    refine ⟨rfl, fun a xs e => ?_⟩
    cases e
    rw [List.length_map]
    omega
  case _ => exact ⟨rfl, fun a xs e => nomatch e⟩
  case _ => exact ⟨rfl, fun a xs e => nomatch e⟩
  case _ =>
    refine ⟨hlast, fun a xs e => ?_⟩
    cases e
    rw [List.length_append, List.length_take, List.length_map]
    omega
  case _ =>
    refine ⟨hnone, fun a xs e => ?_⟩
    cases e
    unfold rep
    rw [Int.toNat_natCast]
    simp
section
variable {P : Program} {w : World} {K : PySem.W.Frag} {mg : Str → Option Value} {base : Heap} {f C D fI : Addr} {fd : FuncData}
/-! ### _law_recognized -/
abbrev sRc : Stmt := top 66
abbrev nRc : List Str := ["source", "table", "made", "bases", "total", "prime", "size", "pieces", "attempt", "base", "number", "numbers", "is_due", "odd", "data", "one"]
theorem scRc : FnScope nRc ["source", "table", "made", "bases", "total"] (defScope sRc) := ⟨rfl, rfl, rfl, by decide +kernel, rfl, by decide +kernel, by decide +kernel⟩
def tRc (C : Addr) : TrS := fun n s ds Z => ∃ (p : Int) (k : Nat) (ps : List (List (List Int))), ds = [.ins C (tabD p k ps), dL [.int p, .int k, .tuple (ps.map pPc)], dL ((basesL p k).map pR), dI (fewN p k ps)] ∧ (p, k) ∈ combos ∧ WfT p k ps ∧ SrcOk n s ∧ ∀ n' s', SrcOk n' s' → Z (dB true) n' s'
abbrev entRc (C : Addr) (p : Int) (k : Nat) (ps : List (List (List Int))) (n s : Int) : List (Option Ent) := [some (.src n s), some (.im (.ins C (tabD p k ps))), some (.im (dL [.int p, .int k, .tuple (ps.map pPc)])), some (.im (dL ((basesL p k).map pR))), some (.im (dI (fewN p k ps))), some (.im (dI p)), some (.im (dI k)), some (.im (dT (ps.map pPc)))]
theorem own_rc (B : Bl mg) (h : At K mg "_law_recognized" sRc f fd) (oD : Own P w K mg base 1 "_law_draw" (spS K tDraw)) (oT : Own P w K mg base 3 "_law_touches" (spP K tLT)) (oF : Own P w K mg base 6 "is_fewest_touches" (spP K (tIF C))) : Own P w K mg base 7 "_law_recognized" (spS K (tRc C)) := by
  refine def_src h.fn scRc h.mg (h.fn.binds fun _ _ _ _ _ _ us hl => match us, hl with | [_, _, _, _, _], _ => rfl) (fun n s ds Z ⟨_, _, _, e, _⟩ => by rw [e]; rfl) fun cdv A outer s0 H E hr n s ds Z ⟨p, k, ps, ed, hc, hw, so, q⟩ => ?_
  subst ed
  obtain ⟨p0, p5, n1, n3⟩ := combo_p hc
  have hb0 := bases_ne hc
  have hb6 := bases_len hc
  have hun := hr.un
  refine run_cons (rs_unpL (is := [5, 6, 7]) (pg_lst rfl (pgs_cons (pg_name (i := 5) scRc.nd rfl (Or.inr rfl)) (pgs_cons (pg_name (i := 6) scRc.nd rfl (Or.inl rfl)) (pgs_cons (pg_name (i := 7) scRc.nd rfl (Or.inr rfl)) pgs_nil)))) (ev_v 2 rfl ⟨_, _, rfl, rfl, ?_⟩))
  refine run_cons (rs_for (.one 8) PassesOwn.never rfl (pg_name (i := 8) scRc.nd rfl (Or.inl rfl)) (ei_range1 rfl B.range (ev_int ⟨_, rfl, by decide, by decide, fun i ρ' => ∃ n' s', SrcOk n' s' ∧ ρ' = entRc C p k ps n' s' ++ [none, none, none, none, none, none, none, none], ⟨n, s, so, rfl⟩, fun i y ρ' hy ⟨n', s', so', er⟩ => ⟨_, rfl, ?_⟩, fun ρ' ⟨n', s', so', er⟩ => ?_⟩)))
  · subst er
    refine run_seq (fun ρ' => ∃ b n2 s2 m, SrcOk n2 s2 ∧ b ∈ basesL p k ∧ ρ' = entRc C p k ps n2 s2 ++ [some (.im (.d y)), some (.im (.d (pR b))), some (.im (dI m)), none, none, none, none, none]) (rs_par (i := 9) (j := 10) rfl scRc.nd rfl rfl (by decide) rfl rfl ?_) ?_
    · refine ea_cons (ev_ix (fun _ _ => rfl) (ev_v 3 rfl (ev_callS 0 oD (hr.mono (by decide)) rfl rfl (by first | exact Or.inl rfl | exact Or.inr (Or.inl rfl) | exact Or.inr (Or.inr rfl)) ?_)))
      refine ea_cons (ev_len rfl B.len (eq_list (ev_v 3 rfl ⟨_, rfl, ea_nil ⟨n', s', rfl, rfl, _, rfl, by rw [List.length_map]; omega, by rw [List.length_map]; omega, so', fun d n2 s2 d0 d1 so2 => ?_⟩⟩)))
      rw [List.length_map] at d1
      obtain ⟨m, rfl⟩ := Int.eq_ofNat_of_zero_le d0
      obtain ⟨b, hb⟩ := get_lt (xs := basesL p k) (i := m) (by omega)
      refine ⟨_, _, pR b, .inl rfl, rfl, atI_get (by rw [List.getElem?_map, hb]; rfl), ?_⟩
      refine ea_cons (ev_add (ev_v 4 rfl (ev_ix (fun _ _ => rfl) (ev_new (en_lst ?_)))))
      refine ea_cons (ev_int (ea_cons (ev_int (ea_cons (ev_int (ea_cons (ev_int ?_)))))))
      refine ea_cons (ev_neg (ev_int ⟨_, rfl, ea_nil ⟨[.int 0, .int 0, .int 0, .int 1, .int (-1)], rfl, (by show 5 ≤ sizeLine; decide), ?_⟩⟩))
      refine ev_callS 0 oD (hr.mono (by decide)) rfl rfl (by first | exact Or.inl rfl | exact Or.inr (Or.inl rfl) | exact Or.inr (Or.inr rfl)) (ea_cons (ev_int (ea_nil ⟨n2, s2, rfl, rfl, _, rfl, by decide, by decide, so2, fun d n3 s3 d0 d1 so3 => ?_⟩)))
      obtain ⟨z, hz⟩ := five d d0 d1
      exact ⟨_, _, _, .inl rfl, rfl, hz, _, _, rfl, rfl, ea_nil ⟨_, _, rfl, b, n3, s3, _, so3, List.mem_of_getElem? hb, rfl⟩⟩
    rintro ρ' ⟨b, n2, s2, m, so2, hb, er⟩
    subst er
    obtain ⟨hb1, hb2, _⟩ := (bases_mem hc).mp hb
    refine run_seq (fun ρ' => ∃ b n2 s2, SrcOk n2 s2 ∧ b.length = k ∧ (∀ d ∈ b, Wf p k d) ∧ ρ' = entRc C p k ps n2 s2 ++ [some (.im (.d y)), some (.im (.d (pR b))), some (.im (dI m)), none, none, none, none, none]) (rs_if (et_eq hr.units (ev_callS 0 oD (hr.mono (by decide)) rfl rfl (by first | exact Or.inl rfl | exact Or.inr (Or.inl rfl) | exact Or.inr (Or.inr rfl)) (ea_cons (ev_int (ea_nil ⟨n2, s2, rfl, rfl, _, rfl, by decide, by decide, so2, fun d n3 s3 _ _ so3 => ?_⟩)))))) ?_
    · refine ev_int ⟨_, _, rfl, rfl, rfl, rfl, fun _ => ?_, fun _ => run_nil ⟨b, n3, s3, so3, hb1, hb2, rfl⟩⟩
      refine run_one (rs_asg (i := 9) scRc.nd rfl (Or.inl rfl) (ev_catT (ev_slT (ev_v 9 rfl (eo_none (eo_some (ev_neg (ev_int ⟨_, rfl, _, rfl, _, rfl, ?_⟩))))))))
      rw [cut_last _ (by rw [List.length_map]; omega)]
      refine ev_tup (ea_cons (ev_repT (ev_tup (ea_cons (ev_int (ea_nil ⟨[_], rfl, (by show 1 ≤ sizeLine; decide), ev_v 6 rfl ⟨_, k, rfl, rfl, by simp, by omega, by omega, (by simp), ?_⟩⟩))))))
      refine ea_nil ⟨[_], rfl, (by show 1 ≤ sizeLine; decide), _, _, rfl, rfl, ?_, ?_⟩
      · rw [List.length_dropLast, List.length_map]
        exact sz (by show b.length - 1 + 1 ≤ _; omega)
      · have e0 : PyData.tuple (rep k [.int 0]) = pT (List.replicate k 0) := by
          unfold rep
          rw [Int.toNat_natCast, flat_one]
          show PyData.tuple _ = .tuple (pI _)
          unfold pI
          rw [List.map_replicate]
        refine ⟨b.dropLast ++ [List.replicate k 0], n3, s3, so3, ?_, fun d hd => ?_, ?_⟩
        · rw [List.length_append, List.length_dropLast]
          show b.length - 1 + 1 = k
          omega
        · rcases List.mem_append.mp hd with z | z
          · exact hb2 d ((List.dropLast_sublist b).subset z)
          · rw [List.mem_singleton.mp z]
            refine ⟨List.length_replicate, fun x hx => ?_⟩
            rw [List.eq_of_mem_replicate hx]
            omega
        · rw [e0]
          have : (b.map pT).dropLast ++ [pT (List.replicate k 0)] = (b.dropLast ++ [List.replicate k 0]).map pT := by
            rw [List.map_append, List.map_dropLast]
            rfl
          rw [this]
          rfl
    rintro ρ' ⟨b, n2, s2, so2, hb1, hb2, er⟩
    subst er
    refine run_cons (rs_asgLc (i := 11) (own := [("data", 14)]) (.one 14) rfl scRc.nd rfl rfl (sw_true rfl rfl rfl (by decide +kernel)) rfl (blkOk_by (N := nRc) (sc := defScope sRc) (by decide +kernel)) (fun _ _ _ _ _ => pg_name (i := 14) scRc.nd rfl (Or.inl rfl)) (lch_map (fun z => .int ((touL p ps (rowS z) : Nat) : Int)) ?_))
    refine ei_tup (ev_v 9 rfl ⟨_, rfl, by rw [List.length_map]; exact sz (by omega), fun j x hx => ?_, ?_⟩)
    · rw [List.getElem?_map] at hx
      obtain ⟨d, hd, ex⟩ := Option.map_eq_some_iff.mp hx
      subst ex
      have wd := hb2 d (List.mem_of_getElem? hd)
      refine ⟨_, rfl, fun s H C' cl fp => ev_call oT (hr.mono (by decide)) rfl (ea_cons (ev_v 5 rfl (ea_cons (ev_v 7 rfl (ea_cons (ev_v 14 rfl (ea_nil ⟨p, k, ps, d, rfl, p0, by omega, by omega, hw.ps, by rw [wd.1]; omega, ?_, rfl⟩)))))))⟩
      rw [show rowS (pT d) = d from unT_pT d]
    have en : (b.map pT).map (fun z => PyData.int ((touL p ps (rowS z) : Nat) : Int)) = pI (numsR p ps b) := by
      rw [← nums_pR]
      unfold numsL
      simp only [pI, List.map_map]
      rfl
    rw [en]
    have shI : ∀ ns : List Int, shp (.list (pI ns)) := fun ns => lay_shp (lay_lst (lay_map lay_int ns)) (by decide)
    refine run_seq (fun ρ' => ρ' = entRc C p k ps n2 s2 ++ [some (.im (.d y)), some (.im (.d (pR b))), some (.im (dI m)), some (.im (dL (pI (numsR p ps b)))), some (.im (dB (recB p k ps m b))), none, none, none]) (rs_asg (i := 12) scRc.nd rfl (Or.inl rfl) (ev_and (ev_inD (by show (A.deeper _).units + 65 < cLine; omega) (ev_v 9 rfl (ev_v 3 rfl ⟨_, _, rfl, rfl, lay_shp (lay_pR b) (by decide), lay_shp (lay_lst (lay_map lay_pR _)) (by decide), _, rfl, fun hz => ?_, fun hz => ?_⟩))))) ?_
    · rw [any_pR] at hz
      refine ev_and (ev_eq hr.units (ev_sum rfl rfl B.sum (by decide +kernel) (eq_list (ev_v 11 rfl ⟨_, rfl, _, rfl, rfl, ev_v 10 rfl ⟨_, _, rfl, rfl, rfl, rfl, _, rfl, fun hz2 => ?_, fun hz2 => ?_⟩⟩))))
      · rw [eqv_int] at hz2
        refine ev_and (ev_eq hr.units (ev_v 10 rfl (ev_v 4 rfl ⟨_, _, rfl, rfl, rfl, rfl, _, rfl, fun hz3 => ?_, fun hz3 => ?_⟩)))
        · rw [eqv_int] at hz3
          refine ev_one (ev_eq hr.units (ev_v 11 rfl (ev_new (en_sort rfl B.sorted (by decide +kernel) (eq_list (ev_v 11 rfl ⟨_, rfl, rfl, PySem.W.AllAlike.of alike_int, PySem.W.Sortable.others fun b => ⟨fun z => (nomatch z), fun _ z => (nomatch z)⟩, fun d hd => ?_, ?_⟩))))))
          · obtain ⟨x, _, e⟩ := List.mem_map.mp hd
            have := (lay_int x).2
            subst e
            show (A.deeper _).units + 2 + (PyData.int x).depth < cLine
            omega
          · rw [sort_pI]
            refine ⟨_, _, rfl, rfl, shI _, shI _, ?_⟩
            rw [eqv_lst eqv_int]
            have er : recB p k ps m b = decide (numsR p ps b = sortI (numsR p ps b)) := by
              unfold recB
              rw [hz, hz2, hz3]
              rfl
            rw [er]
            rfl
        · rw [eqv_int] at hz3
          have er : recB p k ps m b = false := by
            unfold recB
            rw [hz, hz2, hz3]
            rfl
          rw [er]
          rfl
      · rw [eqv_int] at hz2
        have er : recB p k ps m b = false := by
          unfold recB
          rw [hz, hz2]
          rfl
        rw [er]
        rfl
    · rw [any_pR] at hz
      have er : recB p k ps m b = false := by
        unfold recB
        rw [hz]
        rfl
      rw [er]
      rfl
    rintro ρ' er
    subst er
    refine run_one (rs_if (et_ne hr.units (ev_call oF hr rfl (ea_cons (ev_v 1 rfl (ea_cons (ev_tup ?_)))))))
    refine ea_cons (ev_v 10 rfl (ea_cons (ev_v 9 rfl (ea_nil ⟨[_, _], rfl, (by show 2 ≤ sizeLine; decide), ?_⟩))))
    refine ea_nil ⟨p, k, ps, _, rfl, hc, hw, fun a xs e => ?_, ev_v 12 rfl ⟨_, _, rfl, rfl, rfl, rfl, fun hz => ?_, fun hz => ?_⟩⟩
    · cases e
      rw [List.length_map]
      omega
    · exfalso
      rw [few_rec hc hb2] at hz
      simp [PyData.eqv] at hz
    · exact run_wipe 8 (run_wipe 9 (run_wipe 10 (run_wipe 11 (run_wipe 12 (run_nil ⟨n2, s2, so2, rfl⟩)))))
  · subst er
    obtain ⟨b, hb⟩ := get_lt (xs := basesL p k) (i := 0) hb0
    obtain ⟨hb1, hb2, _⟩ := (bases_mem hc).mp (List.mem_of_getElem? hb)
    have one : 1 ≤ sizeLine := by decide
    have two : 2 ≤ sizeLine := by decide
    refine run_cons (rs_asg (i := 9) scRc.nd rfl (Or.inl rfl) (ev_ix (fun _ _ => rfl) (ev_v 3 rfl (ev_int ⟨_, _, pR b, .inl rfl, rfl, atI_get (i := 0) (by rw [List.getElem?_map, hb]; rfl), ?_⟩))))
    refine run_cons (rs_asgO (i := 13) scRc.nd rfl (Or.inl rfl) (en_lst ?_))
    refine ea_cons (ev_non (ea_cons (ev_int (ea_cons (ev_tup (ea_nil ⟨[], rfl, Nat.zero_le _, ?_⟩))))))
    refine ea_cons (ev_tup (ea_cons (ev_v 4 rfl (ea_nil ⟨[_], rfl, one, ?_⟩))))
    refine ea_cons (ev_new (en_lst (ea_cons (ev_v 4 rfl (ea_cons (ev_v 9 rfl (ea_nil ⟨[_, _], rfl, two, ?_⟩)))))))
    refine ea_cons (ev_tup (ea_cons (ev_v 4 rfl (ea_cons (ev_new (en_list rfl B.list (by decide +kernel) (eq_tup (ev_v 9 rfl ⟨_, rfl, ea_nil ⟨[_, _], rfl, two, ?_⟩⟩))))))))
    refine ea_cons (ev_tup (ea_cons (ev_v 9 rfl (ea_cons (ev_v 4 rfl (ea_nil ⟨[_, _], rfl, two, ?_⟩))))))
    refine ea_nil ⟨(oddF p k (fewN p k ps) b).take 7, rfl, (by show 7 ≤ sizeLine; decide), ?_⟩
    refine run_cons (rs_append 13 rfl (Or.inl rfl) (ev_tup (ea_cons (ev_v 4 rfl (ea_cons (ev_new (en_lc1 (M := nRc) (sc := defScope sRc) 14 scRc.nd rfl rfl (by decide +kernel) (lch_map (fun z => .list (pI (rowS z))) ?_) rfl fun _ _ _ _ _ => pg_name (i := 14) scRc.nd rfl (Or.inl rfl))))))) (ho := ⟨_, rfl⟩))
    refine ei_tup (ev_v 9 rfl ⟨_, rfl, by rw [List.length_map]; exact sz (by omega), fun j x hx => ?_, ?_⟩)
    · rw [List.getElem?_map] at hx
      obtain ⟨d, hd, ex⟩ := Option.map_eq_some_iff.mp hx
      subst ex
      refine ⟨_, rfl, fun s H C' cl fp => ev_new (en_list rfl B.list (by decide +kernel) (eq_tup (ev_v 14 rfl ⟨_, rfl, ?_, rfl⟩)))⟩
      rw [show rowS (pT d) = d from unT_pT d]
    have el : (b.map pT).map (fun z => PyData.list (pI (rowS z))) = b.map fun d => .list (pI d) := by
      rw [List.map_map]
      refine List.map_congr_left fun d _ => ?_
      show PyData.list (pI (rowS (pT d))) = _
      rw [show rowS (pT d) = d from unT_pT d]
    rw [el]
    refine ea_nil ⟨[_, _], rfl, two, _, _, rfl, rfl, (by show 7 < sizeLine; decide), ?_⟩
    refine run_freeze 13 rfl ?_
    refine run_cons (rs_asg (i := 13) scRc.nd rfl (Or.inl rfl) (ev_new (en_cat (ev_v 13 rfl (ev_new (en_lst ?_))))))
    refine ea_cons (ev_tup (ea_cons (ev_non (ea_cons (ev_v 9 rfl (ea_nil ⟨[_, _], rfl, two, ?_⟩))))))
    refine ea_cons (ev_tup (ea_cons (ev_v 4 rfl (ea_cons (ev_non (ea_nil ⟨[_, _], rfl, two, ?_⟩))))))
    refine ea_cons (ev_tup (ea_cons (ev_v 4 rfl (ea_cons (ev_v 9 rfl (ea_cons (ev_non (ea_nil ⟨[_, _, _], rfl, (by show 3 ≤ sizeLine; decide), ?_⟩))))))))
    refine ea_cons (ev_tup (ea_cons (ev_v 4 rfl (ea_cons (ev_catT (ev_v 9 rfl (ev_slT (ev_v 9 rfl (eo_none (eo_some (ev_int ?_)))))))))))
    refine ⟨1, rfl, _, rfl, _, _, rfl, rfl, ?_, ea_nil ⟨[_, _], rfl, two, ?_⟩⟩
    · rw [cut_first, List.length_map, List.length_take, List.length_map]
      exact sz (by omega)
    rw [cut_first]
    refine ea_cons (ev_tup (ea_cons (ev_v 4 rfl (ea_cons (ev_repT (ev_tup (ea_cons (ev_non (ea_nil ⟨[_], rfl, one, ev_v 6 rfl ⟨_, k, rfl, rfl, by simp, by omega, by omega, (by simp), ?_⟩⟩)))))))))
    refine ea_nil ⟨[_, _], rfl, two, ea_nil ⟨(oddF p k (fewN p k ps) b).drop 8, rfl, (by show 5 ≤ sizeLine; decide), _, _, rfl, rfl, (by show 8 + 5 ≤ sizeLine; decide), ?_⟩⟩
    show RunP _ _ (entRc C p k ps n' s' ++ [none, some (.im (.d (pR b))), none, none, none, some (.im (dL (oddF p k (fewN p k ps) b))), none, none]) _
    have hodd := odd_f (p := p) (ps := ps) (t := fewN p k ps) n1 hb1
    refine run_one (rs_ret (ev_eq hr.units (ev_new (en_lc1 (M := nRc) (sc := defScope sRc) 15 scRc.nd rfl rfl (by decide +kernel) (lch_mf (fun z => fewD p k ps z) (fun z => z) ?_) rfl fun _ _ _ _ _ => pg_name (i := 15) scRc.nd rfl (Or.inl rfl)))))
    refine ei_list (ev_v 13 rfl ⟨_, rfl, (by show 13 ≤ sizeLine; decide), fun j x hx => ?_, ?_⟩)
    · obtain ⟨h1, h2⟩ := hodd x (List.mem_of_getElem? hx)
      refine ⟨_, rfl, fun s H C' cl fp => ets_one (et_isNotB (ev_call oF hr rfl (ea_cons (ev_v 1 rfl (ea_cons (ev_v 15 rfl (ea_nil ⟨p, k, ps, x, rfl, hc, hw, fun a xs e => ?_, ev_bl ⟨_, _, rfl, rfl, ?_, rfl, fun _ s H C' cl fp => ev_v 15 rfl ⟨rfl, rfl⟩⟩⟩)))))))⟩
      · have := h2 a xs e
        omega
      · cases fewD p k ps x <;> rfl
    · have ef : ((oddF p k (fewN p k ps) b).filter fun z => fewD p k ps z) = [] := List.filter_eq_nil_iff.mpr fun y hy => by rw [(hodd y hy).1]; exact Bool.false_ne_true
      rw [ef]
      refine ev_new (en_lst (ea_nil ⟨[], rfl, Nat.zero_le _, _, _, rfl, rfl, rfl, rfl, ?_⟩))
      exact ⟨_, _, rfl, q _ _ so'⟩
end
end K87
end
section
set_option Elab.async false
set_option linter.all false
set_option maxRecDepth 100000
set_option maxHeartbeats 4000000
/-! Plain mathematics of k87: taking the least first is best. -/
namespace K87
def hasB (p : Int) (s : List (List Int)) (v : List Int) : Bool := zeroL (restL p v s)
def stLv (p : Int) (n : Nat) : Nat → List (List (List Int))
  | 0 => [[]]
  | k + 1 => dedup (stLv p n k ++ (stLv p n k).flatMap fun s => (allL p n).map fun v => redL p (s ++ [v]))
/-- the states that taking may reach -/
def stS (p : Int) (n : Nat) : List (List (List Int)) := stLv p n n
def basesR (p : Int) (n : Nat) : List (List (List Int)) := (tupsL (allL p n) n).filter fun b => decide ((rawL p b).length = n)
def chkSt (p : Int) (n : Nat) (s : List (List Int)) : Bool :=
  ((allL p n).all fun v => hasB p s v || (let t := redL p (s ++ [v]); (stS p n).contains t && (decide (t.length = s.length + 1) && (hasB p t v && (allL p n).all fun u => !hasB p s u || hasB p t u)))) &&
    ((nzL p n).any (fun v => !hasB p s v) || decide (s.length = n))
def seqStep (p : Int) (o : Option (List (List Int))) (v : List Int) : Option (List (List Int)) := o.bind fun s => if hasB p s v = true then none else some (redL p (s ++ [v]))
def seqSt (p : Int) (b : List (List Int)) : Option (List (List Int)) := b.foldl (seqStep p) (some [])
theorem st_all : combos.all (fun c => (stS c.1 c.2).contains [] && (stS c.1 c.2).all (chkSt c.1 c.2)) = true := by decide +kernel
theorem st_bases : combos.all (fun c => (basesR c.1 c.2).all fun b => (stS c.1 c.2).all fun s => decide ((b.filter (hasB c.1 s)).length ≤ s.length)) = true := by decide +kernel
theorem seq_all : combos.all (fun c => (tupsL (allL c.1 c.2) c.2).all fun b => !(seqSt c.1 b).isSome || decide ((rawL c.1 b).length = c.2)) = true := by decide +kernel
end K87
end
section
set_option Elab.async false
set_option linter.all false
set_option maxRecDepth 100000
set_option maxHeartbeats 4000000
/-! Plain mathematics of k87: taking the least first is best. -/
namespace K87
section
variable {p : Int} {n : Nat} (hc : (p, n) ∈ combos)
include hc
theorem st_nil : [] ∈ stS p n := by
  have h := List.all_eq_true.mp st_all _ hc
  rw [Bool.and_eq_true] at h
  simpa using h.1
theorem st_step {s : List (List Int)} (hs : s ∈ stS p n) {v : List Int} (hv : Wf p n v) (h : hasB p s v = false) :
    redL p (s ++ [v]) ∈ stS p n ∧ (redL p (s ++ [v])).length = s.length + 1 ∧ hasB p (redL p (s ++ [v])) v = true ∧ ∀ u, Wf p n u → hasB p s u = true → hasB p (redL p (s ++ [v])) u = true := by
  have h0 := List.all_eq_true.mp st_all _ hc
  rw [Bool.and_eq_true] at h0
  have h1 := List.all_eq_true.mp h0.2 s hs
  unfold chkSt at h1
  rw [Bool.and_eq_true] at h1
  have p0 := (combo_p hc).1
  have h2 := List.all_eq_true.mp h1.1 v (all_mem p0 hv)
  rw [h, Bool.false_or] at h2
  simp only [Bool.and_eq_true, decide_eq_true_eq] at h2
  obtain ⟨q1, q2, q3, q4⟩ := h2
  refine ⟨by simpa using q1, q2, q3, fun u hu hb => ?_⟩
  have := List.all_eq_true.mp q4 u (all_mem p0 hu)
  rw [hb] at this
  simpa using this
theorem st_full {s : List (List Int)} (hs : s ∈ stS p n) (h : ∀ v, Wf p n v → zeroL v = false → hasB p s v = true) : s.length = n := by
  have h0 := List.all_eq_true.mp st_all _ hc
  rw [Bool.and_eq_true] at h0
  have h1 := List.all_eq_true.mp h0.2 s hs
  unfold chkSt at h1
  rw [Bool.and_eq_true, Bool.or_eq_true] at h1
  rcases h1.2 with z | z
  · obtain ⟨v, hv, q⟩ := List.any_eq_true.mp z
    obtain ⟨w1, w2⟩ := (nz_mem (combo_p hc).1).mp hv
    rw [h v w1 w2] at q
    cases q
  · exact of_decide_eq_true z
theorem st_few {s : List (List Int)} (hs : s ∈ stS p n) {b : List (List Int)} (hb : b ∈ basesL p n) : (b.filter (hasB p s)).length ≤ s.length := by
  obtain ⟨h1, h2, h3⟩ := (bases_mem hc).mp hb
  have hm : b ∈ basesR p n := List.mem_filter.mpr ⟨wf_tups (combo_p hc).1 h1 h2, by rw [red_len hc] at h3; exact decide_eq_true h3⟩
  have := List.all_eq_true.mp (List.all_eq_true.mp (List.all_eq_true.mp st_bases _ hc) b hm) s hs
  exact of_decide_eq_true this
theorem seq_base {b : List (List Int)} {s : List (List Int)} (h1 : b.length = n) (h2 : ∀ d ∈ b, Wf p n d) (h : seqSt p b = some s) : b ∈ basesL p n := by
  have := List.all_eq_true.mp (List.all_eq_true.mp seq_all _ hc) b (wf_tups (combo_p hc).1 h1 h2)
  rw [h] at this
  have h3 : (rawL p b).length = n := by simpa using this
  exact (bases_mem hc).mpr ⟨h1, h2, by rw [red_len hc]; exact h3⟩
end
/-- what holds after some were looked at -/
structure Tk (p : Int) (n : Nat) (ps : List (List (List Int))) (xs : List (Int × List Int)) (s : List (List Int) × List (List Int) × Int) : Prop where
  st : s.1 ∈ stS p n
  len : s.2.1.length = s.1.length
  has : ∀ x ∈ xs, hasB p s.1 x.2 = true
  sum : s.2.2 = (numsR p ps s.2.1).sum
  seq : seqSt p s.2.1 = some s.1
  sub : s.2.1.Sublist (xs.map (·.2))
/-- a row with its touches -/
def Rk (p : Int) (n : Nat) (ps : List (List (List Int))) (x : Int × List Int) : Prop := Wf p n x.2 ∧ x.1 = ((touL p ps x.2 : Nat) : Int)
theorem seq_snoc (p : Int) (b : List (List Int)) (v : List Int) : seqSt p (b ++ [v]) = seqStep p (seqSt p b) v := by
  unfold seqSt
  rw [List.foldl_append]
  rfl
theorem tk_step {p : Int} {n : Nat} (hc : (p, n) ∈ combos) {ps : List (List (List Int))} {xs : List (Int × List Int)} {s : List (List Int) × List (List Int) × Int} {x : Int × List Int} (hx : Rk p n ps x) (hxs : ∀ y ∈ xs, Rk p n ps y) (T : Tk p n ps xs s) : Tk p n ps (xs ++ [x]) (fwStep p s x) := by
  unfold fwStep
  by_cases h : zeroL (restL p x.2 s.1) = true
  · rw [if_pos h]
    refine ⟨T.st, T.len, fun y hy => ?_, T.sum, T.seq, ?_⟩
    · rcases List.mem_append.mp hy with z | z
      · exact T.has y z
      · rw [List.mem_singleton.mp z]; exact h
    · rw [List.map_append]
      exact T.sub.trans (List.sublist_append_left _ _)
  · rw [if_neg h]
    have h' : hasB p s.1 x.2 = false := by simpa [hasB] using h
    obtain ⟨q1, q2, q3, q4⟩ := st_step hc T.st hx.1 h'
    refine ⟨q1, ?_, fun y hy => ?_, ?_, ?_, ?_⟩
    · show (s.2.1 ++ [x.2]).length = _
      rw [List.length_append, q2, T.len]
      rfl
    · rcases List.mem_append.mp hy with z | z
      · exact q4 _ (hxs y z).1 (T.has y z)
      · rw [List.mem_singleton.mp z]; exact q3
    · show s.2.2 + x.1 = (numsR p ps (s.2.1 ++ [x.2])).sum
      unfold numsR
      rw [List.map_append, List.sum_append, T.sum, hx.2]
      simp [numsR]
    · show seqSt p (s.2.1 ++ [x.2]) = _
      rw [seq_snoc, T.seq]
      show (if hasB p s.1 x.2 = true then none else _) = _
      rw [h']
      rfl
    · show (s.2.1 ++ [x.2]).Sublist _
      rw [List.map_append]
      exact List.Sublist.append T.sub (List.Sublist.refl _)
theorem tk_fold {p : Int} {n : Nat} (hc : (p, n) ∈ combos) {ps : List (List (List Int))} : ∀ (ys xs : List (Int × List Int)) (s : List (List Int) × List (List Int) × Int), (∀ y ∈ ys, Rk p n ps y) → (∀ y ∈ xs, Rk p n ps y) → Tk p n ps xs s → Tk p n ps (xs ++ ys) (ys.foldl (fwStep p) s)
  | [], xs, s, _, _, T => by rw [List.append_nil]; exact T
  | y :: ys, xs, s, h1, h2, T => by
    have := tk_fold hc ys (xs ++ [y]) (fwStep p s y) (fun z hz => h1 z (List.mem_cons_of_mem _ hz)) (fun z hz => by
      rcases List.mem_append.mp hz with q | q
      · exact h2 z q
      · rw [List.mem_singleton.mp q]; exact h1 y List.mem_cons_self) (tk_step hc (h1 y List.mem_cons_self) h2 T)
    rw [List.append_assoc] at this
    exact this
theorem tk_all {p : Int} {n : Nat} (hc : (p, n) ∈ combos) {ps : List (List (List Int))} (xs : List (Int × List Int)) (h : ∀ y ∈ xs, Rk p n ps y) : Tk p n ps xs (fwL p xs) := by
  have := tk_fold hc xs [] ([], [], 0) h (fun _ h => nomatch h) ⟨st_nil hc, rfl, fun _ h => (nomatch h), rfl, rfl, List.Sublist.refl _⟩
  rw [List.nil_append] at this
  exact this
/-- the base only grows -/
theorem fw_pre {p : Int} : ∀ (xs : List (Int × List Int)) (s : List (List Int) × List (List Int) × Int), ∃ r, (xs.foldl (fwStep p) s).2.1 = s.2.1 ++ r
  | [], s => ⟨[], by simp⟩
  | x :: xs, s => by
    obtain ⟨r, e⟩ := fw_pre xs (fwStep p s x)
    rw [List.foldl_cons, e]
    unfold fwStep
    split
    · exact ⟨r, rfl⟩
    · exact ⟨x.2 :: r, by show (s.2.1 ++ [x.2]) ++ r = _; rw [List.append_assoc]; rfl⟩
/-! ### counting -/
def cLe (t : Nat) (ws : List Nat) : Nat := (ws.filter fun w => decide (w ≤ t)).length
theorem sum_cLe : ∀ (ws : List Nat), (∀ w ∈ ws, w ≤ 5) → ws.sum + (cLe 0 ws + cLe 1 ws + cLe 2 ws + cLe 3 ws + cLe 4 ws) = 5 * ws.length
  | [], _ => rfl
  | w :: ws, h => by
    have ih := sum_cLe ws fun x hx => h x (List.mem_cons_of_mem _ hx)
    have hw := h w List.mem_cons_self
    have key : ∀ t, cLe t (w :: ws) = (if w ≤ t then 1 else 0) + cLe t ws := fun t => by
      unfold cLe
      rw [List.filter_cons]
      by_cases q : w ≤ t
      · rw [if_pos (decide_eq_true q), if_pos q, List.length_cons]; omega
      · rw [if_neg (by simpa using q), if_neg q]; omega
    rw [List.sum_cons, List.length_cons, key, key, key, key, key]
    have : w = 0 ∨ w = 1 ∨ w = 2 ∨ w = 3 ∨ w = 4 ∨ w = 5 := by omega
    rcases this with e | e | e | e | e | e <;> subst e <;> simp <;> omega
theorem sum_leW {ws vs : List Nat} (h1 : ∀ w ∈ ws, w ≤ 5) (h2 : ∀ w ∈ vs, w ≤ 5) (hl : ws.length = vs.length) (h : ∀ t, cLe t vs ≤ cLe t ws) : ws.sum ≤ vs.sum := by
  have e1 := sum_cLe ws h1
  have e2 := sum_cLe vs h2
  have a0 := h 0
  have a1 := h 1
  have a2 := h 2
  have a3 := h 3
  have a4 := h 4
  rw [hl] at e1
  omega
/-- a sorted list, cut by what is at most t -/
theorem cut_sorted (t : Int) : ∀ (l : List (Int × List Int)), l.Pairwise (fun a b => a.1 ≤ b.1) → l = l.filter (fun x => decide (x.1 ≤ t)) ++ l.filter (fun x => !decide (x.1 ≤ t))
  | [], _ => rfl
  | x :: l, h => by
    obtain ⟨h1, h2⟩ := List.pairwise_cons.mp h
    have ih := cut_sorted t l h2
    by_cases q : x.1 ≤ t
    · rw [List.filter_cons, List.filter_cons, if_pos (decide_eq_true q), if_neg (by simp [q]), List.cons_append, ← ih]
    · have none : l.filter (fun x => decide (x.1 ≤ t)) = [] := List.filter_eq_nil_iff.mpr fun y hy => by
        have := h1 y hy
        simp
        omega
      have all : l.filter (fun x => !decide (x.1 ≤ t)) = l := List.filter_eq_self.mpr fun y hy => by
        have := h1 y hy
        simp
        omega
      rw [List.filter_cons, List.filter_cons, if_neg (by simpa using q), if_pos (by simp; omega), none, all, List.nil_append]
end K87
end
section
set_option Elab.async false
set_option linter.all false
set_option maxRecDepth 100000
set_option maxHeartbeats 4000000
/-! Plain mathematics of k87: what the law says of the fewest touches. -/
namespace K87
theorem tou_le (p : Int) (ps : List (List (List Int))) (d : List Int) : touL p ps d ≤ ps.length := List.length_filter_le _ _
/-- the touches as plain numbers -/
def touN (p : Int) (ps : List (List (List Int))) (b : List (List Int)) : List Nat := b.map (touL p ps)
theorem nums_touN (p : Int) (ps : List (List (List Int))) (b : List (List Int)) : (numsR p ps b).sum = (((touN p ps b).sum : Nat) : Int) := by
  induction b with
  | nil => rfl
  | cons d b ih =>
    unfold numsR touN at *
    rw [List.map_cons, List.map_cons, List.sum_cons, List.sum_cons, ih, Int.natCast_add]
section
variable {p : Int} {n : Nat} (hc : (p, n) ∈ combos) (ps : List (List (List Int)))
include hc
theorem rk_rk : ∀ x ∈ rkL p n ps, Rk p n ps x := fun x hx => ⟨((rk_mem hc).mp hx).1, ((rk_mem hc).mp hx).2.2⟩
theorem rk_sorted : (rkL p n ps).Pairwise fun a b => a.1 ≤ b.1 := by
  have h : (rkL p n ps).Pairwise fun a b => rkLe a b = true := List.pairwise_mergeSort (fun a b c => rkLe_total.trans a b c) (fun a b => by
    rcases rkLe_total.total a b with e | e
    · rw [e]; rfl
    · rw [e, Bool.or_true]) _
  refine h.imp fun {a b} q => ?_
  unfold rkLe at q
  have := of_decide_eq_true q
  omega
/-- the base that is taken -/
abbrev tkB (p : Int) (n : Nat) (ps : List (List (List Int))) : List (List Int) := (fwL p (rkL p n ps)).2.1
theorem tk_base : tkB p n ps ∈ basesL p n := by
  have T := tk_all hc (rkL p n ps) (rk_rk hc ps)
  have full := st_full hc T.st fun v hv hz => T.has (((touL p ps v : Nat) : Int), v) ((rk_mem hc).mpr ⟨hv, hz, rfl⟩)
  refine seq_base hc (by rw [T.len, full]) (fun d hd => ?_) T.seq
  obtain ⟨x, hx, e⟩ := List.mem_map.mp (T.sub.subset hd)
  rw [← e]
  exact (rk_rk hc ps x hx).1
theorem tk_sum : fewN p n ps = (numsR p ps (tkB p n ps)).sum := (tk_all hc (rkL p n ps) (rk_rk hc ps)).sum
theorem tk_ord : numsR p ps (tkB p n ps) = sortI (numsR p ps (tkB p n ps)) := by
  have T := tk_all hc (rkL p n ps) (rk_rk hc ps)
  have e1 : ((rkL p n ps).map (·.2)).map (fun d => ((touL p ps d : Nat) : Int)) = (rkL p n ps).map (·.1) := by
    rw [List.map_map]
    exact List.map_congr_left fun x hx => ((rk_rk hc ps x hx).2).symm
  have h1 : ((rkL p n ps).map (·.1)).Pairwise (fun a b : Int => a ≤ b) := List.pairwise_map.mpr (rk_sorted hc ps)
  have h2 : (numsR p ps (tkB p n ps)).Pairwise (fun a b : Int => a ≤ b) := by
    refine List.Pairwise.sublist ?_ h1
    rw [← e1]
    exact T.sub.map _
  unfold sortI
  exact (List.mergeSort_of_pairwise (h2.imp fun q => decide_eq_true q)).symm
theorem tk_least (hw : ps.length ≤ 5) {b : List (List Int)} (hb : b ∈ basesL p n) : fewN p n ps ≤ (numsR p ps b).sum := by
  rw [tk_sum hc ps, nums_touN, nums_touN]
  have hB := tk_base hc ps
  have l1 := ((bases_mem hc).mp hB).1
  obtain ⟨l2, wb, _⟩ := (bases_mem hc).mp hb
  have small : ∀ c : List (List Int), ∀ w ∈ touN p ps c, w ≤ 5 := fun c w hw2 => by
    obtain ⟨d, _, e⟩ := List.mem_map.mp hw2
    rw [← e]
    exact Nat.le_trans (tou_le p ps d) hw
  refine Int.ofNat_le.mpr (sum_leW (small _) (small _) (by unfold touN; rw [List.length_map, List.length_map, l1, l2]) fun t => ?_)
  -- the rows of at most t touches
  have hcut := cut_sorted (t : Int) (rkL p n ps) (rk_sorted hc ps)
  have hL1 : ∀ y ∈ (rkL p n ps).filter (fun x => decide (x.1 ≤ (t : Int))), Rk p n ps y := fun y hy => rk_rk hc ps y (List.mem_filter.mp hy).1
  have T1 := tk_all hc _ hL1
  generalize hs : fwL p ((rkL p n ps).filter (fun x => decide (x.1 ≤ (t : Int)))) = s1 at T1
  have few := st_few hc T1.st hb
  have c1 : cLe t (touN p ps b) ≤ (b.filter (hasB p s1.1)).length := by
    unfold cLe touN
    rw [List.filter_map, List.length_map]
    rw [← List.countP_eq_length_filter, ← List.countP_eq_length_filter]
    refine List.countP_mono_left fun d hd q => ?_
    have q' : touL p ps d ≤ t := of_decide_eq_true q
    have hz := ((nz_mem (combo_p hc).1).mp ((mem_tups.mp (List.mem_filter.mp hb).1).2 d hd)).2
    exact T1.has (((touL p ps d : Nat) : Int), d) (List.mem_filter.mpr ⟨(rk_mem hc).mpr ⟨wb d hd, hz, rfl⟩, decide_eq_true (by show ((touL p ps d : Nat) : Int) ≤ (t : Int); omega)⟩)
  have c2 : s1.2.1.length ≤ cLe t (touN p ps (tkB p n ps)) := by
    obtain ⟨r, e⟩ := fw_pre ((rkL p n ps).filter (fun x => !decide (x.1 ≤ (t : Int)))) s1
    have eB : tkB p n ps = s1.2.1 ++ r := by
      rw [← e, ← hs]
      unfold tkB fwL
      rw [← List.foldl_append, ← hcut]
    rw [eB]
    unfold cLe touN
    rw [List.map_append, List.filter_append, List.length_append]
    have : (s1.2.1.map (touL p ps)).filter (fun w => decide (w ≤ t)) = s1.2.1.map (touL p ps) := List.filter_eq_self.mpr fun w hw2 => by
      obtain ⟨d, hd, e⟩ := List.mem_map.mp hw2
      obtain ⟨x, hx, e2⟩ := List.mem_map.mp (T1.sub.subset hd)
      have h3 := (hL1 x hx).2
      have h4 := of_decide_eq_true (List.mem_filter.mp hx).2
      rw [← e, ← e2]
      refine decide_eq_true ?_
      omega
    rw [this, List.length_map]
    omega
  rw [T1.len] at c2
  omega
end
end K87
end
section
set_option Elab.async false
set_option linter.all false
set_option maxRecDepth 100000
set_option maxHeartbeats 4000000
/-! Plain mathematics of k87: values over another base. -/
namespace K87
theorem dot_cons (x y : Int) (a b : List Int) : dot (x :: a) (y :: b) = x * y + dot a b := by
  unfold dot
  rw [List.zipWith_cons_cons, List.sum_cons]
/-- one step of a made row -/
def mkStep (p : Int) (acc : List Int) (x : Int × List Int) : List Int := List.zipWith (fun a d => (a + x.1 * d) % p) acc x.2
theorem mkStep_len {p : Int} {n : Nat} {acc : List Int} {x : Int × List Int} (h1 : acc.length = n) (h2 : x.2.length = n) : (mkStep p acc x).length = n := by
  unfold mkStep
  rw [List.length_zipWith, h1, h2, Nat.min_self]
theorem dot_step {p f : Int} : ∀ {r acc d : List Int}, acc.length = r.length → d.length = r.length → dot r (List.zipWith (fun a d => (a + f * d) % p) acc d) % p = (dot r acc + f * dot r d) % p
  | [], [], [], _, _ => by simp [dot]
  | x :: r, a :: acc, y :: d, h1, h2 => by
    have ih := dot_step (p := p) (f := f) (r := r) (acc := acc) (d := d) (by simpa using h1) (by simpa using h2)
    rw [List.zipWith_cons_cons, dot_cons, dot_cons, dot_cons]
    have e1 : (x * ((a + f * y) % p) + dot r (List.zipWith (fun a d => (a + f * d) % p) acc d)) % p = (x * (a + f * y) + (dot r acc + f * dot r d)) % p := by
      rw [Int.add_emod, ih, Int.mul_emod, Int.emod_emod_of_dvd _ (Int.dvd_refl p), ← Int.mul_emod, ← Int.add_emod]
    rw [e1]
    congr 1
    rw [Int.mul_add, Int.mul_add, show x * (f * y) = f * (x * y) by rw [← Int.mul_assoc, ← Int.mul_assoc, Int.mul_comm x f]]
    omega
  | [], _ :: _, _, h, _ => nomatch h
  | [], [], _ :: _, _, h => nomatch h
  | _ :: _, [], _, h, _ => nomatch h
  | _ :: _, _ :: _, [], _, h => nomatch h
theorem dot_fold {p : Int} {r : List Int} : ∀ (zs : List (Int × List Int)) (acc : List Int), acc.length = r.length → (∀ z ∈ zs, z.2.length = r.length) → dot r (zs.foldl (mkStep p) acc) % p = (dot r acc + (zs.map fun z => z.1 * dot r z.2).sum) % p
  | [], acc, _, _ => by simp
  | z :: zs, acc, h1, h2 => by
    have hz := h2 z List.mem_cons_self
    rw [List.foldl_cons, dot_fold zs (mkStep p acc z) (mkStep_len h1 hz) fun y hy => h2 y (List.mem_cons_of_mem _ hy), Int.add_emod]
    unfold mkStep
    rw [dot_step h1 hz, ← Int.add_emod, List.map_cons, List.sum_cons, Int.add_assoc]
theorem dot_zero {r : List Int} : ∀ n, dot r (List.replicate n 0) = 0 := by
  induction r with
  | nil => intro n; simp [dot]
  | cons x r ih =>
    intro n
    cases n with
    | zero => simp [dot]
    | succ n => rw [List.replicate_succ, dot_cons, ih n]; simp
theorem dot_comm_vals {p : Int} {r : List Int} : ∀ (fs : List Int) (b : List (List Int)), dot (b.map fun d => valL p r d) fs % p = ((fs.zip b).map fun z => z.1 * dot r z.2).sum % p
  | [], b => by
    cases b <;> simp [dot]
  | f :: fs, [] => by simp [dot]
  | f :: fs, d :: b => by
    rw [List.map_cons, dot_cons, List.zip_cons_cons, List.map_cons, List.sum_cons, Int.add_emod, dot_comm_vals fs b, ← Int.add_emod]
    unfold valL
    rw [Int.add_emod, Int.mul_emod, Int.emod_emod_of_dvd _ (Int.dvd_refl p), ← Int.mul_emod, ← Int.add_emod, Int.mul_comm]
theorem val_made {p : Int} {n : Nat} {r fs : List Int} {b : List (List Int)} (hr : r.length = n) (hb : ∀ d ∈ b, d.length = n) : valL p (b.map fun d => valL p r d) fs = valL p r (madeL p n b fs) := by
  have e1 : madeL p n b fs = (fs.zip b).foldl (mkStep p) (List.replicate n 0) := rfl
  show dot _ fs % p = dot r _ % p
  rw [dot_comm_vals, e1, dot_fold _ _ (by rw [List.length_replicate, hr]) fun z hz => by rw [hr]; exact hb z.2 (List.of_mem_zip hz).2, dot_zero, Int.zero_add]
theorem vals_reb {p : Int} {n : Nat} {ps : List (List (List Int))} {b : List (List Int)} {fs : List Int} (hp : ∀ pc ∈ ps, ∀ r ∈ pc, r.length = n) (hb : ∀ d ∈ b, d.length = n) : valsL p (rebL p ps b) fs = valsL p ps (madeL p n b fs) := by
  unfold valsL rebL
  rw [List.map_map]
  refine List.map_congr_left fun pc hpc => ?_
  show (pc.map _).map _ = _
  rw [List.map_map]
  exact List.map_congr_left fun r hr => val_made (hp pc hpc r hr) hb
theorem wf_fold {p : Int} {n : Nat} (p0 : 0 < p) : ∀ (zs : List (Int × List Int)) (acc : List Int), Wf p n acc → (∀ z ∈ zs, z.2.length = n) → Wf p n (zs.foldl (mkStep p) acc)
  | [], acc, h, _ => h
  | z :: zs, acc, h, hz => wf_fold p0 zs (mkStep p acc z) ⟨mkStep_len h.1 (hz z List.mem_cons_self), fun x hx => by
      unfold mkStep at hx
      obtain ⟨i, hi, e⟩ := List.getElem_of_mem hx
      rw [List.getElem_zipWith] at e
      rw [← e]
      exact ⟨Int.emod_nonneg _ (by omega), Int.emod_lt_of_pos _ p0⟩⟩ fun y hy => hz y (List.mem_cons_of_mem _ hy)
theorem wf_made {p : Int} {n : Nat} (p0 : 0 < p) {b : List (List Int)} {fs : List Int} (hb : ∀ d ∈ b, d.length = n) : Wf p n (madeL p n b fs) :=
  wf_fold p0 (fs.zip b) (List.replicate n 0) ⟨List.length_replicate, fun x hx => by rw [List.eq_of_mem_replicate hx]; omega⟩ fun z hz => hb z.2 (List.of_mem_zip hz).2
end K87
end
section
set_option Elab.async false
set_option linter.all false
set_option maxRecDepth 100000
set_option maxHeartbeats 4000000
namespace K87
open PySem PySem.Spec PyProof.Rows L2 DL
theorem sq_pcs (ps : List (List (List Int))) : PyData.tuple (ps.map pPc) = sqPs true ps := rfl
theorem four (d : Int) (d0 : 0 ≤ d) (d1 : d < 4) : ∃ z, (z = 2 ∨ z = 3 ∨ z = 5) ∧ atI [PyData.int 2, .int 2, .int 3, .int 5] d = some (.int z) := by
  have : d = 0 ∨ d = 1 ∨ d = 2 ∨ d = 3 := by omega
  rcases this with e | e | e | e <;> subst e
  · exact ⟨2, .inl rfl, rfl⟩
  · exact ⟨2, .inl rfl, rfl⟩
  · exact ⟨3, .inr (.inl rfl), rfl⟩
  · exact ⟨5, .inr (.inr rfl), rfl⟩
theorem combo_12 {z d : Int} (hz : z = 2 ∨ z = 3 ∨ z = 5) (d0 : 0 ≤ d) (d1 : d < 2) : ∃ n : Nat, 1 + d = (n : Int) ∧ (z, n) ∈ combos := by
  have : d = 0 ∨ d = 1 := by omega
  rcases this with e | e <;> subst e
  · exact ⟨1, rfl, by rcases hz with e | e | e <;> subst e <;> decide⟩
  · exact ⟨2, rfl, by rcases hz with e | e | e <;> subst e <;> decide⟩
section
variable {P : Program} {w : World} {K : PySem.W.Frag} {mg : Str → Option Value} {base : Heap} {f C D S fI : Addr} {fd : FuncData}
/-! ### law -/
abbrev sLaw : Stmt := top 67
abbrev nLaw : List Str := ["script", "turn", "source", "prime", "size", "made", "table", "bases", "data", "due", "total", "base", "other", "factors"]
theorem scLaw : FnScope nLaw ["script"] (defScope sLaw) := ⟨rfl, rfl, rfl, by decide +kernel, rfl, by decide +kernel, by decide +kernel⟩
def tLaw : Tr := fun ds Z => ∃ ns : List Int, ds = [dL (pI ns)] ∧ ns.length ≤ 1000 ∧ Z (dB true)
structure LawH (P : Program) (w : World) (K : PySem.W.Frag) (mg : Str → Option Value) (base : Heap) (C S D : Addr) : Prop where
  src : Own P w K mg base 1 "_law_source" (spK K tSource)
  draw : Own P w K mg base 1 "_law_draw" (spS K tDraw)
  pcs : Own P w K mg base 3 "_law_pieces" (spS K tLP)
  tab : OwnI P w K mg base 6 "Table" C tTI
  bases : Own P w K mg base 3 "_law_bases" (spP K tLB)
  all : Own P w K mg base 1 "_law_all" (spP K tAll)
  tou : OwnXc P w K mg base 6 "touches" (tTou C D)
  lt : Own P w K mg base 3 "_law_touches" (spP K tLT)
  few : Own P w K mg base 5 "fewest_touches" (spP K (tFew C))
  isf : Own P w K mg base 6 "is_fewest_touches" (spP K (tIF C))
  rc : Own P w K mg base 7 "_law_recognized" (spS K (tRc C))
  ref : OwnG0 P w K mg base 9 "_law_refused" (spP K (tRef C))
  reb : OwnXc P w K mg base 8 "rebased" (tReb C D)
  made : Own P w K mg base 1 "_law_made" (spP K tLM)
  call : ∃ g, StX.CallO K C g ∧ FnR P w K mg base CX0 5 g (spP K (tTC C S))
  eq : ∃ g, EqF K S g ∧ FnR P w K mg base CX0 1 g (spP K (tSE S))
theorem own_law (B : Bl mg) (F : Fun K "law" "law" sLaw f fd) (L : LawH P w K mg base C S D) : FnG P w K mg base 10 f (spP K tLaw) := by
  refine def_G F scLaw (F.binds fun _ _ _ _ _ _ us hl => match us, hl with | [_], _ => rfl) (fun ds Z ⟨_, e, _⟩ => by rw [e]; rfl) fun cdv A outer s0 H E hgd hr ds Z ⟨ns, ed, hns, q⟩ => ?_
  subst ed
  have hun := hr.un
  refine run_cons (rs_for (.one 1) PassesOwn.never rfl (pg_name (i := 1) scLaw.nd rfl (Or.inl rfl)) (ei_range1 rfl B.range (ev_max2 rfl rfl B.max (by decide +kernel) (ev_int (ev_min2 rfl rfl B.min (by decide +kernel) (ev_len rfl B.len (eq_list (ev_v 0 rfl ⟨_, rfl, ?_⟩))))))))
  refine ev_int ⟨_, _, rfl, rfl, _, _, rfl, rfl, ?_⟩
  generalize hm : (if (if (5 : Int) < ((pI ns).length : Int) then (5 : Int) else ((pI ns).length : Int)) > 1 then (if (5 : Int) < ((pI ns).length : Int) then (5 : Int) else ((pI ns).length : Int)) else 1) = m
  have m1 : 1 ≤ m ∧ m ≤ 5 := by
    rw [← hm]
    split <;> split <;> omega
  refine ⟨m, rfl, by omega, by omega, fun i ρ' => ρ' = [some (.im (dL (pI ns))), none, none, none, none, none, none, none, none, none, none, none, none, none], rfl, fun i y ρ' hy er => ⟨_, rfl, ?_⟩, fun ρ' er => ?_⟩
  · subst er
    have hi : i < m.toNat := by
      have := (List.getElem?_eq_some_iff.mp hy).1
      rw [rangeD_len] at this
      exact this
    have ey := rangeD_get hy
    rw [Int.zero_add] at ey
    subst ey
    refine run_newSrc (i := 2) L.src (hr.mono (by decide)) rfl scLaw.nd rfl (Or.inl rfl) (ea_cons (ev_v 0 rfl (ea_cons (ev_v 1 rfl (ea_nil ⟨rfl, ns, i, rfl, by omega, fun n s so => ?_⟩)))))
    refine run_seq (fun ρ' => ∃ p d n' s', SrcOk n' s' ∧ (p = 2 ∨ p = 3 ∨ p = 5) ∧ 0 ≤ d ∧ d < 2 ∧ ρ' = [some (.im (dL (pI ns))), some (.im (dI i)), some (.src n' s'), some (.im (dI p)), some (.im (dI (1 + d))), none, none, none, none, none, none, none, none, none]) (rs_tup (is := [3, 4]) ?_ ?_) ?_
    · exact pg_tup rfl (pgs_cons (pg_name (i := 3) scLaw.nd rfl (Or.inr rfl)) (pgs_cons (pg_name (i := 4) scLaw.nd rfl (Or.inl rfl)) pgs_nil))
    · refine ea_cons (ev_ix (fun _ _ => rfl) (ev_new (en_lst ?_)))
      refine ea_cons (ev_int (ea_cons (ev_int (ea_cons (ev_int (ea_cons (ev_int (ea_nil ⟨[.int 2, .int 2, .int 3, .int 5], rfl, (by show 4 ≤ sizeLine; decide), ?_⟩))))))))
      refine ev_callS 2 L.draw (hr.mono (by decide)) rfl rfl (by first | exact Or.inl rfl | exact Or.inr (Or.inl rfl) | exact Or.inr (Or.inr rfl)) (ea_cons (ev_int (ea_nil ⟨n, s, rfl, rfl, 4, rfl, by decide, by decide, so, fun d n2 s2 d0 d1 so2 => ?_⟩)))
      obtain ⟨z, hz, hat⟩ := four d d0 d1
      refine ⟨_, _, _, .inl rfl, rfl, hat, ?_⟩
      refine ea_cons (ev_add (ev_int (ev_callS 2 L.draw (hr.mono (by decide)) rfl rfl (by first | exact Or.inl rfl | exact Or.inr (Or.inl rfl) | exact Or.inr (Or.inr rfl)) (ea_cons (ev_int (ea_nil ⟨n2, s2, rfl, rfl, 2, rfl, by decide, by decide, so2, fun d n3 s3 d0 d1 so3 => ?_⟩))))))
      exact ⟨_, _, rfl, rfl, ea_nil ⟨rfl, (by show 2 ≤ sizeLine; decide), z, d, n3, s3, so3, hz, d0, d1, rfl⟩⟩
    rintro ρ' ⟨p, d, n2, s2, so2, hp, d0, d1, er⟩
    subst er
    obtain ⟨k0, ek0, hc0⟩ := combo_12 hp d0 d1
    rw [ek0]
    refine run_seq (fun ρ' => ∃ (k : Nat) (n' s' : Int), SrcOk n' s' ∧ (p, k) ∈ combos ∧ ρ' = [some (.im (dL (pI ns))), some (.im (dI i)), some (.src n' s'), some (.im (dI p)), some (.im (dI k)), none, none, none, none, none, none, none, none, none]) (rs_asg (i := 4) scLaw.nd rfl (Or.inl rfl) (ev_if (et_w (ew_and (et_eq hr.units (ev_v 3 rfl (ev_int ⟨_, _, rfl, rfl, rfl, rfl, fun hz => ?_, fun hz => ?_⟩))))))) ?_
    · have ep : p = 2 := by
        rw [eqv_int] at hz
        exact of_decide_eq_true hz
      refine ew_and1 (et_eq hr.units (ev_callS 2 L.draw (hr.mono (by decide)) rfl rfl (by first | exact Or.inl rfl | exact Or.inr (Or.inl rfl) | exact Or.inr (Or.inr rfl)) (ea_cons (ev_int (ea_nil ⟨n2, s2, rfl, rfl, 2, rfl, by decide, by decide, so2, fun d n3 s3 _ _ so3 => ?_⟩)))))
      refine ev_int ⟨_, _, rfl, rfl, rfl, rfl, fun _ => ev_int ⟨3, n3, s3, so3, by rw [ep]; decide, rfl⟩, fun _ => ev_v 4 rfl ⟨k0, n3, s3, so3, hc0, rfl⟩⟩
    · exact ⟨fun z => (nomatch z), fun _ => ev_v 4 rfl ⟨k0, n2, s2, so2, hc0, rfl⟩⟩
    rintro ρ' ⟨k, n3, s3, so3, hc, er⟩
    subst er
    clear hc0 ek0 hp so2 so
    obtain ⟨p0, p5, k1, k3⟩ := combo_p hc
    refine run_seq (fun ρ' => ∃ ps n' s', SrcOk n' s' ∧ WfT p k ps ∧ ρ' = [some (.im (dL (pI ns))), some (.im (dI i)), some (.src n' s'), some (.im (dI p)), some (.im (dI k)), some (.im (dL [.int p, .int k, .tuple (ps.map pPc)])), none, none, none, none, none, none, none, none]) (rs_asg (i := 5) scLaw.nd rfl (Or.inr rfl) (ev_new (en_lst ?_))) ?_
    · refine ea_cons (ev_v 3 rfl (ea_cons (ev_v 4 rfl (ea_cons (ev_callS 2 L.pcs (hr.mono (by decide)) rfl rfl (by first | exact Or.inl rfl | exact Or.inr (Or.inl rfl) | exact Or.inr (Or.inr rfl)) ?_)))))
      refine ea_cons (ev_v 3 rfl (ea_cons (ev_v 4 rfl (ea_cons (ev_int (ea_cons (ev_int (ea_nil ⟨n3, s3, rfl, rfl, p, k, rfl, hc, so3, fun ps n4 s4 hw so4 => ?_⟩))))))))
      exact ea_nil ⟨[_, _, _], rfl, (by show 3 ≤ sizeLine; decide), ps, n4, s4, so4, hw, rfl⟩
    rintro ρ' ⟨ps, n4, s4, so4, hw, er⟩
    subst er
    have hbl := bases_len hc
    have hb0 := bases_ne hc
    refine run_cons (rs_par (i := 6) (j := 7) rfl scLaw.nd rfl rfl (by decide) rfl rfl ?_)
    refine ea_cons (ev_make L.tab (hr.mono (by decide)) rfl ?_)
    refine ea_cons (ev_v 3 rfl (ea_cons (ev_v 4 rfl (ea_cons (ev_ix (fun _ _ => rfl) (ev_v 5 rfl (ev_int ⟨_, _, _, .inl rfl, rfl, rfl, ea_nil ⟨p, k, true, ps, rfl, hc, hw, ?_⟩⟩)))))))
    refine ea_cons (ev_call L.bases (hr.mono (by decide)) rfl (ea_cons (ev_v 3 rfl (ea_cons (ev_v 4 rfl (ea_nil ⟨p, k, rfl, hc, ea_nil ⟨_, _, rfl, ?_⟩⟩))))))
    -- the rows
    refine run_seq (fun ρ' => ρ' = [some (.im (dL (pI ns))), some (.im (dI i)), some (.src n4 s4), some (.im (dI p)), some (.im (dI k)), some (.im (dL [.int p, .int k, .tuple (ps.map pPc)])), some (.im (.ins C (tabD p k ps))), some (.im (dL ((basesL p k).map pR))), none, none, none, none, none, none]) (rs_for (.one 8) PassesOwn.never rfl (pg_name (i := 8) scLaw.nd rfl (Or.inl rfl)) ?_) ?_
    · refine ei_list (ev_call L.all (hr.mono (by decide)) rfl (ea_cons (ev_v 3 rfl (ea_cons (ev_v 4 rfl (ea_nil ⟨p, k, rfl, p0, by omega, k3, ?_⟩))))))
      refine ⟨_, rfl, fun j ρ' => ρ' = [some (.im (dL (pI ns))), some (.im (dI i)), some (.src n4 s4), some (.im (dI p)), some (.im (dI k)), some (.im (dL [.int p, .int k, .tuple (ps.map pPc)])), some (.im (.ins C (tabD p k ps))), some (.im (dL ((basesL p k).map pR))), none, none, none, none, none, none], rfl, fun j y ρ' hy er => ⟨_, rfl, ?_⟩, fun ρ' er => er⟩
      subst er
      rw [List.getElem?_map] at hy
      obtain ⟨d, hd, ey⟩ := Option.map_eq_some_iff.mp hy
      subst ey
      have wd := mem_all (List.mem_of_getElem? hd)
      refine run_one (rs_if (et_w (ew_and (et_val (ev_any rfl rfl B.any (by decide +kernel) (eq_tup (ev_v 8 rfl ⟨_, rfl, _, tru_ints _, _, rfl, ?_⟩)))))))
      rw [any_ne]
      refine ⟨fun hz => ?_, fun _ => ⟨fun z => (nomatch z), fun _ => run_wipe 8 (run_nil rfl)⟩⟩
      have hz' : zeroL d = false := by simpa using hz
      refine ew_and1 (et_ne hr.units (ev_callX L.tou (hr.mono (by decide)) rfl (ea_cons (ev_v 6 rfl (ea_cons (ev_new (en_list rfl B.list (by decide +kernel) (eq_tup (ev_v 8 rfl ⟨_, rfl, ?_⟩)))))))))
      refine ea_nil ⟨p, k, ps, .list (pI d), rfl, hc, hw, .inl ⟨false, d, rfl, wd, .inl ⟨hz', ?_⟩⟩⟩
      refine ev_call L.lt (hr.mono (by decide)) rfl (ea_cons (ev_v 3 rfl (ea_cons (ev_ix (fun _ _ => rfl) (ev_v 5 rfl (ev_int ⟨_, _, _, .inl rfl, rfl, rfl, ?_⟩))))))
      refine ea_cons (ev_v 8 rfl (ea_nil ⟨p, k, ps, d, rfl, p0, by omega, by omega, hw.ps, by rw [wd.1]; omega, _, _, rfl, rfl, rfl, rfl, fun hz => ?_, fun _ => run_wipe 8 (run_nil rfl)⟩))
      exfalso
      simp [PyData.eqv] at hz
    rintro ρ' er
    subst er
    -- the least sum
    refine run_seq (fun ρ' => ρ' = [some (.im (dL (pI ns))), some (.im (dI i)), some (.src n4 s4), some (.im (dI p)), some (.im (dI k)), some (.im (dL [.int p, .int k, .tuple (ps.map pPc)])), some (.im (.ins C (tabD p k ps))), some (.im (dL ((basesL p k).map pR))), none, some (.im (dI (fewN p k ps))), none, none, none, none]) (rs_asg (i := 9) scLaw.nd rfl (Or.inl rfl) (ev_min rfl rfl B.min (by decide +kernel) (eq_list (ev_new (en_lc1 (M := nLaw) (sc := defScope sLaw) 11 scLaw.nd rfl rfl (by decide +kernel) (lch_map (fun z => .int (numsR p ps (unPc z)).sum) ?_) rfl fun _ _ _ _ _ => pg_name (i := 11) scLaw.nd rfl (Or.inl rfl)))))) ?_
    · refine ei_list (ev_v 7 rfl ⟨_, rfl, by rw [List.length_map]; exact sz (by omega), fun j x hx => ?_, ?_⟩)
      · rw [List.getElem?_map] at hx
        obtain ⟨b, hb, ex⟩ := Option.map_eq_some_iff.mp hx
        subst ex
        obtain ⟨b1, b2, _⟩ := (bases_mem hc).mp (List.mem_of_getElem? hb)
        refine ⟨_, rfl, fun s H C' cl fp => ev_sum rfl rfl B.sum (by decide +kernel) (eq_list (ev_new (en_lc1 (M := nLaw) 8 scLaw.nd rfl rfl (by rfl) (lch_map (fun z => .int ((touL p ps (rowS z) : Nat) : Int)) ?_) rfl fun _ _ _ _ _ => pg_name (i := 8) scLaw.nd rfl (Or.inl rfl))))⟩
        refine ei_tup (ev_v 11 rfl ⟨_, rfl, by rw [List.length_map]; exact sz (by omega), fun l z hz => ?_, ?_⟩)
        · rw [List.getElem?_map] at hz
          obtain ⟨d, hd, ez⟩ := Option.map_eq_some_iff.mp hz
          subst ez
          have wd := b2 d (List.mem_of_getElem? hd)
          refine ⟨_, rfl, fun s H C2 cl fp => ev_call L.lt (hr.mono (by decide)) rfl (ea_cons (ev_v 3 rfl (ea_cons (ev_ix (fun _ _ => rfl) (ev_v 5 rfl (ev_int ⟨_, _, _, .inl rfl, rfl, rfl, ea_cons (ev_v 8 rfl (ea_nil ⟨p, k, ps, d, rfl, p0, by omega, by omega, hw.ps, by rw [wd.1]; omega, ?_, rfl⟩))⟩))))))⟩
          rw [show rowS (pT d) = d from unT_pT d]
        · refine ⟨_, rfl, numsR p ps b, rfl, ?_, ?_, rfl⟩
          · rw [← nums_pR]
            unfold numsL
            simp only [pI, List.map_map]
            rfl
          · rw [un_pR]
      · refine ⟨_, rfl, (basesL p k).map fun b => (numsR p ps b).sum, rfl, ?_, by rw [List.length_map]; exact hb0, fun m hm1 hm2 => ?_⟩
        · rw [List.map_map, List.map_map]
          refine List.map_congr_left fun b _ => ?_
          show PyData.int (numsR p ps (unPc (pR b))).sum = _
          rw [un_pR]
          rfl
        · have e1 : m = fewN p k ps := by
            obtain ⟨b, hb, e⟩ := List.mem_map.mp hm1
            have h1 := tk_least hc ps hw.2.1 hb
            have h2 := hm2 _ (List.mem_map.mpr ⟨_, tk_base hc ps, rfl⟩)
            have h3 := tk_sum hc ps
            omega
          rw [e1]
          rfl
    rintro ρ' er
    subst er
    -- what fewest_touches gives
    refine run_seq (fun ρ' => ρ' = [some (.im (dL (pI ns))), some (.im (dI i)), some (.src n4 s4), some (.im (dI p)), some (.im (dI k)), some (.im (dL [.int p, .int k, .tuple (ps.map pPc)])), some (.im (.ins C (tabD p k ps))), some (.im (dL ((basesL p k).map pR))), none, some (.im (dI (fewN p k ps))), some (.im (dI (fewN p k ps))), some (.im (.d (pR (tkB p k ps)))), none, none]) (rs_unp (is := [10, 11]) ?_ ?_) ?_
    · exact pg_tup rfl (pgs_cons (pg_name (i := 10) scLaw.nd rfl (Or.inl rfl)) (pgs_cons (pg_name (i := 11) scLaw.nd rfl (Or.inl rfl)) pgs_nil))
    · exact ev_call L.few (hr.mono (by decide)) rfl (ea_cons (ev_v 6 rfl (ea_nil ⟨p, k, ps, rfl, hc, hw, _, _, rfl, rfl, rfl⟩)))
    rintro ρ' er
    subst er
    have hB := tk_base hc ps
    obtain ⟨B1, B2, _⟩ := (bases_mem hc).mp hB
    refine run_cons (rs_if (et_w (ew_or (et_ne hr.units (ev_v 10 rfl (ev_v 9 rfl ⟨_, _, rfl, rfl, rfl, rfl, fun _ => ?_, fun hz => ?_⟩))))))
    case refine_2 =>
      exfalso
      simp [PyData.eqv] at hz
    refine ew_or (et_niD (by show (A.deeper _).units + 65 < cLine; omega) (ev_v 11 rfl (ev_v 7 rfl ⟨_, _, rfl, rfl, lay_shp (lay_pR _) (by decide), lay_shp (lay_lst (lay_map lay_pR _)) (by decide), fun _ => ?_, fun hz => ?_⟩)))
    case refine_2 =>
      exfalso
      rw [any_pR, decide_eq_true hB] at hz
      cases hz
    refine ew_or1 (et_isNotB (ev_call L.isf (hr.mono (by decide)) rfl (ea_cons (ev_v 6 rfl (ea_cons (ev_tup ?_))))))
    refine ea_cons (ev_v 10 rfl (ea_cons (ev_v 11 rfl (ea_nil ⟨[_, _], rfl, (by show 2 ≤ sizeLine; decide), ?_⟩))))
    have hrec : recB p k ps (fewN p k ps) (tkB p k ps) = true := by
      unfold recB
      rw [decide_eq_true hB, decide_eq_true (tk_sum hc ps).symm, decide_eq_true rfl, decide_eq_true (tk_ord hc ps)]
      rfl
    refine ea_nil ⟨p, k, ps, _, rfl, hc, hw, fun a xs e => ?_, ev_bl ⟨_, _, rfl, rfl, fun hz => ?_, fun _ => run_nil ?_⟩⟩
    · cases e
      rw [List.length_map]
      omega
    · exfalso
      rw [few_rec hc B2, hrec] at hz
      cases hz
    -- what else the law asks
    refine run_seq (fun ρ' => ∃ n' s', SrcOk n' s' ∧ ρ' = [some (.im (dL (pI ns))), some (.im (dI i)), some (.src n' s'), some (.im (dI p)), some (.im (dI k)), some (.im (dL [.int p, .int k, .tuple (ps.map pPc)])), some (.im (.ins C (tabD p k ps))), some (.im (dL ((basesL p k).map pR))), none, some (.im (dI (fewN p k ps))), some (.im (dI (fewN p k ps))), some (.im (.d (pR (tkB p k ps)))), none, none]) (rs_if (et_w (ew_or (et_not (et_val (ev_callS 2 L.rc (hr.mono (by decide)) rfl rfl (by first | exact Or.inl rfl | exact Or.inr (Or.inl rfl) | exact Or.inr (Or.inr rfl)) ?_)))))) ?_
    · refine ea_cons (ev_v 6 rfl (ea_cons (ev_v 5 rfl (ea_cons (ev_v 7 rfl (ea_cons (ev_v 10 rfl (ea_nil ⟨n4, s4, rfl, rfl, p, k, ps, rfl, hc, hw, so4, fun n5 s5 so5 => ⟨_, rfl, fun _ => ?_, fun z => (nomatch z)⟩⟩))))))))
      refine ew_or1 (et_not (et_val (ev_callG L.ref hgd hr rfl (ea_cons (ev_v 6 rfl (ea_cons (ev_v 4 rfl (ea_nil ⟨p, k, ps, rfl, hc, hw, _, rfl, fun z => (nomatch z), fun _ => run_nil ⟨n5, s5, so5, rfl⟩⟩))))))))
    rintro ρ' ⟨n5, s5, so5, er⟩
    subst er
    refine run_seq (fun ρ' => ∃ b n' s', SrcOk n' s' ∧ b ∈ basesL p k ∧ ρ' = [some (.im (dL (pI ns))), some (.im (dI i)), some (.src n' s'), some (.im (dI p)), some (.im (dI k)), some (.im (dL [.int p, .int k, .tuple (ps.map pPc)])), some (.im (.ins C (tabD p k ps))), some (.im (dL ((basesL p k).map pR))), none, some (.im (dI (fewN p k ps))), some (.im (dI (fewN p k ps))), some (.im (.d (pR b))), none, none]) (rs_asg (i := 11) scLaw.nd rfl (Or.inl rfl) ?_) ?_
    · refine ev_ix (fun _ _ => rfl) (ev_v 7 rfl (ev_callS 2 L.draw (hr.mono (by decide)) rfl rfl (by first | exact Or.inl rfl | exact Or.inr (Or.inl rfl) | exact Or.inr (Or.inr rfl)) ?_))
      refine ea_cons (ev_len rfl B.len (eq_list (ev_v 7 rfl ⟨_, rfl, ea_nil ⟨n5, s5, rfl, rfl, _, rfl, by rw [List.length_map]; omega, by rw [List.length_map]; omega, so5, fun d n6 s6 d0 d1 so6 => ?_⟩⟩)))
      rw [List.length_map] at d1
      obtain ⟨m, rfl⟩ := Int.eq_ofNat_of_zero_le d0
      obtain ⟨b, hb⟩ := get_lt (xs := basesL p k) (i := m) (by omega)
      exact ⟨_, _, pR b, .inl rfl, rfl, atI_get (by rw [List.getElem?_map, hb]; rfl), b, n6, s6, so6, List.mem_of_getElem? hb, rfl⟩
    rintro ρ' ⟨b, n6, s6, so6, hb, er⟩
    subst er
    obtain ⟨b1, b2, _⟩ := (bases_mem hc).mp hb
    have hbD : baseD p k (pR b) = true := by rw [baseD_eq hc b2, decide_eq_true hb]
    have hbl2 : ∀ d ∈ b, d.length = k := fun d hd => (b2 d hd).1
    refine run_cons (rs_asg (i := 12) scLaw.nd rfl (Or.inl rfl) (ev_callX L.reb (hr.mono (by decide)) rfl (ea_cons (ev_v 6 rfl (ea_cons (ev_v 11 rfl (ea_nil ⟨p, k, ps, _, rfl, hc, hw, .inl ⟨b, rfl, hbD, ?_⟩⟩)))))))
    refine run_seq (fun ρ' => ∃ a8 a12 a13, ρ' = [some (.im (dL (pI ns))), some (.im (dI i)), some (.src n6 s6), some (.im (dI p)), some (.im (dI k)), some (.im (dL [.int p, .int k, .tuple (ps.map pPc)])), some (.im (.ins C (tabD p k ps))), some (.im (dL ((basesL p k).map pR))), a8, some (.im (dI (fewN p k ps))), some (.im (dI (fewN p k ps))), some (.im (.d (pR b))), a12, a13]) (rs_for (.one 13) PassesOwn.never rfl (pg_name (i := 13) scLaw.nd rfl (Or.inl rfl)) ?_) ?_
    · refine ei_list (ev_call L.all (hr.mono (by decide)) rfl (ea_cons (ev_v 3 rfl (ea_cons (ev_v 4 rfl (ea_nil ⟨p, k, rfl, p0, by omega, k3, ?_⟩))))))
      refine ⟨_, rfl, fun j ρ' => ∃ a13, ρ' = [some (.im (dL (pI ns))), some (.im (dI i)), some (.src n6 s6), some (.im (dI p)), some (.im (dI k)), some (.im (dL [.int p, .int k, .tuple (ps.map pPc)])), some (.im (.ins C (tabD p k ps))), some (.im (dL ((basesL p k).map pR))), none, some (.im (dI (fewN p k ps))), some (.im (dI (fewN p k ps))), some (.im (.d (pR b))), some (.im (.ins C (tabD p k (rebL p ps b)))), a13], ⟨_, rfl⟩, fun j y ρ' hy ⟨a13, er⟩ => ⟨_, rfl, ?_⟩, fun ρ' ⟨a13, er⟩ => ⟨_, _, _, er⟩⟩
      subst er
      rw [List.getElem?_map] at hy
      obtain ⟨fs, hfs, ey⟩ := Option.map_eq_some_iff.mp hy
      subst ey
      have wf := mem_all (List.mem_of_getElem? hfs)
      have hrm := hr.mono (show 6 ≤ 9 by decide)
      refine run_one (rs_if (et_neI (C := S) (k := 1) ⟨L.eq⟩ (hr.mono (by decide)) (ev_callO (C := C) ⟨L.call⟩ (hr.mono (by decide)) (ev_v 12 rfl ⟨_, rfl, ea_cons (ev_v 13 rfl (ea_nil ⟨p, k, rebL p ps b, fs, rfl, hc, reb_wf p0 hw b1, wf, ?_⟩))⟩))))
      refine ev_callO (C := C) ⟨L.call⟩ (hr.mono (by decide)) (ev_v 6 rfl ⟨_, rfl, ?_⟩)
      refine ea_cons (ev_call L.made (hr.mono (by decide)) rfl (ea_cons (ev_v 3 rfl (ea_cons (ev_v 11 rfl (ea_cons (ev_v 13 rfl (ea_nil ⟨p, k, b, fs, rfl, p0, by omega, by omega, by omega, by rw [b1, wf.1]; omega, hbl2, wf_small wf (by omega), ?_⟩))))))))
      refine ea_nil ⟨p, k, ps, madeL p k b fs, rfl, hc, hw, wf_made p0 hbl2, _, _, rfl, rfl, _, _, rfl, _, rfl, ?_⟩
      have ev : valsL p (rebL p ps b) fs = valsL p ps (madeL p k b fs) := vals_reb (fun pc hpc r hr2 => ((hw.2.2 pc hpc).2.2 r hr2).1) hbl2
      rw [decide_eq_true ev]
      exact ⟨fun z => (nomatch z), fun _ => run_nil ⟨_, rfl⟩⟩
    rintro ρ' ⟨a8, a12, a13, er⟩
    subst er
    exact run_wipe 1 (run_wipe 3 (run_wipe 4 (run_wipe 5 (run_wipe 6 (run_wipe 7 (run_wipe 8 (run_wipe 9 (run_wipe 10 (run_wipe 11 (run_wipe 12 (run_wipe 13 (run_nil ⟨rfl, rfl⟩))))))))))))
  · subst er
    exact run_one (rs_ret (ev_bl q))
end
end K87
end
section
set_option Elab.async false
set_option linter.all false
set_option maxRecDepth 100000
set_option maxHeartbeats 4000000
/-! The head's facts, with classes of slots, properties, own exceptions. -/
namespace HX
open PySem PySem.Spec PyProof.Rows L2 He PySem.W
/-! ### defs -/
structure DefE where
  at_ : Frag → Addr
  name : Str
  qual : Str
  params : Arguments
  body : List Stmt
  scope : Scope
  clo : List Str := []
abbrev FnE : Type := Option (Str × Str × Arguments × FuncBody × Scope × Addr × List Str × Addr)
def fnE (K : Frag) (a : Addr) : FnE := match K.lookup a with
  | some ⟨_, _, .func fd, _⟩ => some (fd.name, fd.qualname, fd.params, fd.body, fd.scope, fd.globals, fd.closure.map (·.1), fd.builtins)
  | _ => none
def DefE.val (d : DefE) : FnE := some (d.name, d.qual, d.params, .stmts d.body, d.scope, mainGlobals, d.clo, builtinsNs)
def isNon : Value → Bool
  | .none => true
  | _ => false
theorem isNon_ok {v : Value} (h : isNon v = true) : v = .none := by
  cases v <;> first | rfl | cases h
def DefE.ok (K : Frag) (d : DefE) : Bool := keepIn K (.ref (d.at_ K)) && (match K.lookup (d.at_ K) with
  | some ⟨_, _, .func fd, _⟩ => codeIn K fd.code d.qual && isNon fd.defaults
  | _ => false)
def mkD (p : Frag → Addr) (x q : Str) (st : Stmt) : DefE := ⟨p, x, q, defArgs st, defBody st, defScope st, []⟩
theorem fun_of {K : Frag} {p : Frag → Addr} {x q : Str} {st : Stmt} (e : fnE K (p K) = (mkD p x q st).val) (c : (mkD p x q st).ok K = true) : ∃ fd, Fun K x q st (p K) fd := by
  obtain ⟨kp, c2⟩ := ba c
  unfold fnE at e
  have kp : keepIn K (.ref (p K)) = true := kp
  have c2 : (match K.lookup (p K) with
    | some ⟨_, _, .func fd, _⟩ => codeIn K fd.code q && isNon fd.defaults
    | _ => false) = true := c2
  cases h : K.lookup (p K) with
  | none =>
    rw [h] at c2
    cases c2
  | some o =>
    obtain ⟨oc, od, dt, osl⟩ := o
    rw [h] at c2 e
    cases dt with
    | func fd =>
      obtain ⟨n1, n2, n3, n4, n5, n6, n7, n8, n9, n10, n11, n12, n13, n14, n15⟩ := fd
      have e2 : (some (n1, n2, n3, n4, n5, n6, n7.map (·.1), n15) : FnE) = some (x, q, defArgs st, .stmts (defBody st), defScope st, mainGlobals, [], builtinsNs) := e
      simp only [Option.some.injEq, Prod.mk.injEq] at e2
      obtain ⟨h1, h2, h3, h4, h5, h6, h7, h8⟩ := e2
      have h7' : n7 = [] := List.map_eq_nil_iff.mp h7
      subst h1 h2 h3 h4 h5 h6 h7' h8
      obtain ⟨k1, k2⟩ := ba (show (codeIn K n13 _ && isNon n8) = true from c2)
      have hd : n8 = .none := isNon_ok k2
      subst hd
      exact ⟨_, ⟨oc, od, n9, n10, n11, n12, n13, n14, osl, rfl, h, k1⟩, kp⟩
    | _ => cases c2
/-! ### classes with slots -/
def dS {α : Type} [DecidableEq α] (a b : α) : Bool := decide (a = b)
theorem dS_ok {α : Type} [DecidableEq α] {a b : α} (h : dS a b = true) : a = b := of_decide_eq_true h
def sclsB (K : Frag) (C : Addr) : Bool := plainGet K C Str.empty && (isClsIn K C && (plainOver K C && eqO (findIn K (.ref C) "__setattr__") (some (some (.builtin "object.__setattr__")))))
theorem scls_ok {K : Frag} {C : Addr} (h : sclsB K C = true) : SlX.SCls K C := by
  obtain ⟨h1, h⟩ := ba h
  obtain ⟨h2, h⟩ := ba h
  obtain ⟨h3, h4⟩ := ba h
  exact ⟨h1, h2, h3, eqO_ok h4⟩
def slotB (K : Frag) (C : Addr) (f : Str) (i : Nat) : Bool := eqO (findIn K (.ref C) f) (some (some (.ref (ma K C f)))) && (eqO (specialIn K (.ref (ma K C f)) "__get__") (some (some (.builtin "member_descriptor.__get__"))) &&
  (dS (takesIn K (.ref (ma K C f))) (some true) && (dS (typeIn K (.ref (ma K C f))) (some (.type "member_descriptor")) && (dS (slotIn K (ma K C f) C) (some i) && decide (i < 1000)))))
theorem slot_ok {K : Frag} {C : Addr} {f : Str} {i : Nat} (h : slotB K C f i = true) : SlX.Slot1 K C f (ma K C f) i := by
  obtain ⟨h1, h⟩ := ba h
  obtain ⟨h2, h⟩ := ba h
  obtain ⟨h3, h⟩ := ba h
  obtain ⟨h4, h⟩ := ba h
  obtain ⟨h5, h6⟩ := ba h
  exact ⟨eqO_ok h1, eqO_ok h2, dS_ok h3, dS_ok h4, dS_ok h5, of_decide_eq_true h6⟩
def slcB (K : Frag) (C : Addr) (sl : List Str) : Bool := sclsB K C && (List.range sl.length).all fun i => slotB K C (sl.getD i Str.empty) i
theorem slc_ok {K : Frag} {C : Addr} {sl : List Str} (h : slcB K C sl = true) : DL.SlC K C sl := by
  obtain ⟨h1, h2⟩ := ba h
  refine ⟨scls_ok h1, fun i f hf => ⟨ma K C f, ?_⟩⟩
  have hl := (List.getElem?_eq_some_iff.mp hf).1
  have := List.all_eq_true.mp h2 i (List.mem_range.mpr hl)
  have e : sl.getD i Str.empty = f := by rw [List.getD_eq_getElem?_getD, hf]; rfl
  rw [e] at this
  exact slot_ok this
def mkB (K : Frag) (C : Addr) : Bool := makesIn K C && (eqO (findIn K (.ref C) "__init__") (some (some (.ref (ma K C "__init__")))) && (isFn K (.ref (ma K C "__init__")) && keepIn K (.ref C)))
theorem mk_ok {K : Frag} {C : Addr} (h : mkB K C = true) : Mk K C (ma K C "__init__") := by
  obtain ⟨h1, h⟩ := ba h
  obtain ⟨h2, h⟩ := ba h
  obtain ⟨h3, h4⟩ := ba h
  exact ⟨h1, eqO_ok h2, h3, h4⟩
/-- the getter of the property at p -/
def gAd (K : Frag) (p : Addr) : Addr := match recIn K p "property" with
  | some (.ref g :: _) => g
  | _ => 0
def propB (K : Frag) (C : Addr) (f : Str) : Bool := eqO (findIn K (.ref C) f) (some (some (.ref (ma K C f)))) && (eqO (specialIn K (.ref (ma K C f)) "__get__") (some (some (.builtin "property.__get__"))) && (dS (takesIn K (.ref (ma K C f))) (some true) &&
  match recIn K (ma K C f) "property" with
  | some (.ref _ :: _) => true
  | _ => false))
theorem prop_ok {K : Frag} {C : Addr} {f : Str} (c : SlX.SCls K C) (h : propB K C f = true) : DL.PropAt K C (ma K C f) (gAd K (ma K C f)) f := by
  obtain ⟨h1, h⟩ := ba h
  obtain ⟨h2, h⟩ := ba h
  obtain ⟨h3, h4⟩ := ba h
  refine ⟨c, eqO_ok h1, eqO_ok h2, dS_ok h3, ?_⟩
  unfold gAd
  revert h4
  cases recIn K (ma K C f) "property" with
  | none => intro h; cases h
  | some l =>
    cases l with
    | nil => intro h; cases h
    | cons v r =>
      cases v with
      | ref g => intro _; exact ⟨r, rfl⟩
      | _ => intro h; cases h
def methB (K : Frag) (C : Addr) (m : Str) : Bool := eqO (findIn K (.ref C) m) (some (some (.ref (ma K C m)))) && (isFn K (.ref (ma K C m)) && keepIn K (.ref (ma K C m)))
theorem meth_ok {K : Frag} {C : Addr} {m : Str} (h : methB K C m = true) : Meth K C m (ma K C m) := by
  obtain ⟨h1, h⟩ := ba h
  obtain ⟨h2, h3⟩ := ba h
  exact ⟨eqO_ok h1, h2, h3⟩
def callB (K : Frag) (C : Addr) : Bool := eqO (findIn K (.ref C) "__call__") (some (some (.ref (ma K C "__call__")))) && (isFn K (.ref (ma K C "__call__")) && fnIn K (ma K C "__call__"))
theorem call_ok {K : Frag} {C : Addr} (h : callB K C = true) : StX.CallO K C (ma K C "__call__") := by
  obtain ⟨h1, h⟩ := ba h
  obtain ⟨h2, h3⟩ := ba h
  exact ⟨eqO_ok h1, h2, h3⟩
def isiB (K : Frag) (C : Addr) : Bool := eqO (findIn K (.ref C) "__class__") (some (some (.builtin "object.__class__"))) && (eqO (specialIn K (.builtin "object.__class__") "__get__") (some (some (.builtin "getset_descriptor.__get__"))) &&
  (dS (takesIn K (.builtin "object.__class__")) (some true) && dS (mroIn K C (.type "object")) (some true)))
theorem isi_ok {K : Frag} {C : Addr} (h : isiB K C = true) : SlX.SIsi K C := by
  obtain ⟨h1, h⟩ := ba h
  obtain ⟨h2, h⟩ := ba h
  obtain ⟨h3, h4⟩ := ba h
  exact ⟨eqO_ok h1, eqO_ok h2, dS_ok h3, dS_ok h4⟩
def clsC (C : Addr) (ok : Addr → List Value → Bool → Bool) (N : Addr) (hd : Bool) : List Value → Bool
  | .ref C' :: bm => dS C' C && ok N bm hd
  | _ => false
def clsN (newId : String → Bool) : List (Option Value) → Bool
  | [_, _, _, _, some (.builtin n), _] => newId n
  | _ => false
theorem clsN_ok {newId : String → Bool} : ∀ {l : List (Option Value)}, clsN newId l = true → ∃ k0 k1 k2 k3 n k5, l = [k0, k1, k2, k3, some (.builtin n), k5] ∧ newId n = true
  | [k0, k1, k2, k3, some (.builtin n), k5], h => ⟨k0, k1, k2, k3, n, k5, rfl, h⟩
/-- the class at C as the text makes it: its line behind it, its maker -/
def clsB (K : Frag) (C : Addr) (ok : Addr → List Value → Bool → Bool) (newId : String → Bool) : Bool := match K.lookup C with
  | some ⟨.type t, _, .cls cd, sl⟩ => dS t "type" && (clsC C ok cd.ns cd.hasDict cd.mro && (!cd.hasDel && clsN newId sl.toList))
  | _ => false
theorem cls_is {K : Frag} {C : Addr} {ok : Addr → List Value → Bool → Bool} {newId : String → Bool} (h : clsB K C ok newId = true) : ∃ nm q N bs bm hdct sn sub ab col dd k0 k1 k2 k3 k5 n,
    K.lookup C = some (excClassObj nm q C N bs bm hdct sn sub ab col dd k0 k1 k2 k3 k5 n) ∧ ok N bm hdct = true ∧ newId n = true := by
  unfold clsB at h
  split at h
  · rename_i t od cd sl hl
    obtain ⟨g1, g⟩ := ba h
    obtain ⟨g2, g⟩ := ba g
    obtain ⟨g3, g4⟩ := ba g
    obtain ⟨nm, bs, mro, N, q, hdct, sn, sub, ab, col, hdel⟩ := cd
    have et := dS_ok g1
    have g2' : clsC C ok N hdct mro = true := g2
    have g3' : (!hdel) = true := g3
    cases mro with
    | nil => cases g2'
    | cons v bm =>
      cases v with
      | ref C' =>
        obtain ⟨g5, g6⟩ := ba (show (dS C' C && ok N bm hdct) = true from g2')
        have e5 := dS_ok g5
        have e3 : hdel = false := by simpa using g3'
        subst e5 et e3
        obtain ⟨k0, k1, k2, k3, n, k5, hs, hn⟩ := clsN_ok g4
        refine ⟨nm, q, N, bs, bm, hdct, sn, sub, ab, col, od, k0, k1, k2, k3, k5, n, ?_, g6, hn⟩
        rw [hl]
        have : sl = #[k0, k1, k2, k3, some (.builtin n), k5] := by
          rw [← Array.toList_inj, hs]
        rw [this]
      | _ => cases g2'
  · cases h
/-! ### == of a class -/
def eqB (K : Frag) (C : Addr) : Bool := eqO (findIn K (.ref C) (cmpInfo .Eq).2.1) (some (some (.ref (ma K C "__eq__")))) && (isFn K (.ref (ma K C "__eq__")) && (notFirst K C (.ref C) &&
  (clsB K C (fun N bm _ => dS bm [.type "object"] && (nsOkIn K N && (eqO (nsIn K N "__eq__") (some (some (.ref (ma K C "__eq__")))) && eqO (nsIn K N "__ne__") (some none)))) (fun _ => true) && (match K.lookup (ma K C "__eq__") with
    | some ⟨c, _, _, _⟩ => dS c (.type "function")
    | _ => false))))
theorem eq_ok {K : Frag} {C : Addr} (h : eqB K C = true) : DL.EqF K C (ma K C "__eq__") := by
  obtain ⟨h1, h⟩ := ba h
  obtain ⟨h2, h⟩ := ba h
  obtain ⟨h3, h⟩ := ba h
  obtain ⟨h4, h5⟩ := ba h
  obtain ⟨nm, q, N, bs, bm, hdct, sn, sub, ab, col, dd, k0, k1, k2, k3, k5, n, e, o, _⟩ := cls_is h4
  obtain ⟨o1, o⟩ := ba o
  obtain ⟨o2, o⟩ := ba o
  obtain ⟨o3, o4⟩ := ba o
  have e1 := dS_ok o1
  subst e1
  refine ⟨eqO_ok h1, h2, h3, ?_⟩
  cases hg : K.lookup (ma K C "__eq__") with
  | none => rw [hg] at h5; cases h5
  | some of =>
    rw [hg] at h5
    obtain ⟨c, od, dt, sl⟩ := of
    exact ⟨nm, q, N, bs, hdct, sn, sub, ab, col, dd, k0, k1, k2, k3, k5, n, _, e, o2, eqO_ok o3, eqO_ok o4, rfl, dS_ok h5⟩
end HX
end
section
set_option Elab.async false
set_option linter.all false
set_option maxRecDepth 100000
set_option maxHeartbeats 4000000
/-! The head's facts: an own exception. -/
namespace HX
open PySem PySem.Spec PyProof.Rows L2 He PySem.W
def clo1 (K : Frag) (C : Addr) : List (Str × Addr) → Bool
  | [(_, cc)] => (match K.lookup cc with
    | some ⟨_, _, .cell (some (.ref C')), _⟩ => dS C' C
    | _ => false)
  | _ => false
def fileB (file : Str) (vs : Array Value) : Bool := match (vs[2]? : Option Value) with
  | some (.str fl _) => file == fl
  | _ => false
theorem fileB_ok {file : Str} {vs : Array Value} (h : fileB file vs = true) : ∃ fl tf, vs[2]? = some (.str fl tf) ∧ (file == fl) = true := by
  unfold fileB at h
  split at h
  · rename_i fl tf e
    exact ⟨fl, tf, e, h⟩
  · cases h
def codeF (K : Frag) (file : Str) : Value → Bool
  | .ref cda => (match K.lookup cda with
    | some ⟨_, _, .fields vs, _⟩ => fileB file vs
    | _ => false)
  | _ => false
def fnX1 (K : Frag) (C f : Addr) (file : Str) : Bool := match K.lookup f with
  | some ⟨_, _, .func fd, _⟩ => isNon fd.defaults && (codeIn K fd.code fd.qualname && (codeF K file fd.code && clo1 K C fd.closure))
  | _ => false
def excB (K : Frag) (C f : Addr) (fld file : Str) : Bool :=
  clsB K C (fun _ bm hd => ExS.refsE bm && (eqO (alongIn K "__init__" bm) (some (some (.builtin "Exception.__init__"))) && hd)) (fun n => dS n "Exception.__new__") &&
  (eqO (findIn K (.ref C) "__setattr__") (some (some (.builtin "object.__setattr__"))) && (dS (subIn K (.ref C) (.type "BaseException")) (some true) && (dS (subIn K (.ref C) (.type "Exception")) (some true) &&
  (dS (typeIn K (.ref C)) (some (.type "type")) && (keepIn K (.ref C) && (eqO (findIn K (.ref C) fld) (some none) && (eqO (findIn K (.ref C) "__init__") (some (some (.ref f))) && (dS (typeIn K (.ref f)) (some (.type "function")) &&
  (eqO (nsIn K cStatics "thirdparty.any") (some none) && (eqO (nsIn K mainGlobals "super") (some none) && (dS (mroIn K C (.ref C)) (some true) && fnX1 K C f file)))))))))))
/-- what the text of such an __init__ is -/
def IniT (fld qual : Str) (st : Stmt) : Prop := ∃ (msg par : Str) (kk : Nat) (p1 p2 p3 p4 p5 p6 p7 p8 p9 p10 : Pos) (ar : Arg), defBody st = ExS.iBody msg fld par kk p1 p2 p3 p4 p5 p6 p7 p8 p9 p10 ∧
  ((defArgs st).posonlyargs ++ (defArgs st).args).head? = some ar ∧ ar.arg = "self" ∧ (∀ (kV doc pm ct : Value) (an : Option Addr) (cda cc : Addr) (a b : Value), bindArgs (ksFn "__init__" qual (defArgs st) (defBody st) (defScope st) .none kV doc pm an (.ref cda) ct cc) ⟨[a, b], []⟩ = pure [(("self" : Str), a), (par, b)]) ∧
  (defScope st).names.lookup ("super" : Str) = some .globalImplicit ∧ (defScope st).names.lookup ("__class__" : Str) = some .free ∧ (defScope st).names.lookup ("self" : Str) = some .local ∧ (defScope st).names.lookup par = some .local ∧ (∀ x ∈ (defScope st).names, x.2 ≠ .cell) ∧
  (defScope st).isCoroutine = false ∧ (defScope st).isGenerator = false ∧ (defScope st).kind = .function ∧ par ≠ "self" ∧ (par == ("__debug__" : Str)) = false ∧ (p3.endLine == p5.line) = true
def iniD (p : Frag → Addr) (q : Str) (st : Stmt) : DefE := ⟨p, "__init__", q, defArgs st, defBody st, defScope st, ["__class__"]⟩
theorem exf_of {prog : Program} {K : Frag} {C : Addr} {p : Frag → Addr} {fld q file : Str} {st : Stmt} (e : fnE K (p K) = (iniD p q st).val) (c : excB K C (p K) fld file = true) (hf : prog.main.file = file) (top : (prog.main.scope.names.lookup ("super" : Str)).isSome = false) (T : IniT fld q st) : ExS.ExF prog K C (p K) fld := by
  obtain ⟨c0, c⟩ := ba c
  obtain ⟨c1, c⟩ := ba c
  obtain ⟨c2, c⟩ := ba c
  obtain ⟨c3, c⟩ := ba c
  obtain ⟨c4, c⟩ := ba c
  obtain ⟨c5, c⟩ := ba c
  obtain ⟨c6, c⟩ := ba c
  obtain ⟨c7, c⟩ := ba c
  obtain ⟨c8, c⟩ := ba c
  obtain ⟨c9, c⟩ := ba c
  obtain ⟨c10, c⟩ := ba c
  obtain ⟨c11, c12⟩ := ba c
  obtain ⟨nm, qq, N, bs, bm, hdct, sn, sub, ab, col, dd, k0, k1, k2, k3, k5, n, hl, o, hn⟩ := cls_is c0
  obtain ⟨o1, o⟩ := ba o
  obtain ⟨o2, o3⟩ := ba o
  have hn := dS_ok hn
  subst hn
  have o3 : hdct = true := o3
  subst o3
  refine ⟨⟨nm, qq, N, bs, bm, sn, sub, ab, col, dd, k0, k1, k2, k3, k5, hl, o1, eqO_ok o2⟩, eqO_ok c1, dS_ok c2, dS_ok c3, dS_ok c4, c5, eqO_ok c6, eqO_ok c7, dS_ok c8, eqO_ok c9, eqO_ok c10, dS_ok c11, ?_, top⟩
  obtain ⟨msg, par, kk, p1, p2, p3, p4, p5, p6, p7, p8, p9, p10, ar, t1, t2, t3, t4, t5, t6, t7, t8, t9, t10, t11, t12, t13, t14, t15⟩ := T
  unfold fnE at e
  unfold fnX1 at c12
  cases h : K.lookup (p K) with
  | none =>
    rw [h] at c12
    cases c12
  | some ob =>
    obtain ⟨oc, od, dt, osl⟩ := ob
    rw [h] at c12 e
    cases dt with
    | func fd =>
      obtain ⟨n1, n2, n3, n4, n5, n6, n7, n8, n9, n10, n11, n12, n13, n14, n15⟩ := fd
      have e2 : (some (n1, n2, n3, n4, n5, n6, n7.map (·.1), n15) : FnE) = some (("__init__" : Str), q, defArgs st, FuncBody.stmts (defBody st), defScope st, mainGlobals, [("__class__" : Str)], builtinsNs) := e
      simp only [Option.some.injEq, Prod.mk.injEq] at e2
      obtain ⟨h1, h2, h3, h4, h5, h6, h7, h8⟩ := e2
      have c12 : (isNon n8 && (codeIn K n13 n2 && (codeF K file n13 && clo1 K C n7))) = true := c12
      obtain ⟨k1, c12⟩ := ba c12
      obtain ⟨k2, c12⟩ := ba c12
      obtain ⟨k3, k4⟩ := ba c12
      have hd := isNon_ok k1
      match n7, h7, k4 with
      | [(nc, cc)], h7, k4 =>
        have enc : nc = "__class__" := by simpa using h7
        subst enc hd h1 h2 h3 h4 h5 h6 h8
        cases n13 with
        | ref cda =>
          have k3 : (match K.lookup cda with
            | some ⟨_, _, .fields vs, _⟩ => fileB file vs
            | _ => false) = true := k3
          have k4 : (match K.lookup cc with
            | some ⟨_, _, .cell (some (.ref C')), _⟩ => dS C' C
            | _ => false) = true := k4
          cases hcd : K.lookup cda with
          | none => rw [hcd] at k3; cases k3
          | some oc2 =>
            obtain ⟨ccl, cdd, cdt, ccs⟩ := oc2
            rw [hcd] at k3
            cases cdt with
            | fields vs =>
              obtain ⟨fl, tf, hv, k3⟩ := fileB_ok k3
              cases hcc : K.lookup cc with
              | none => rw [hcc] at k4; cases k4
              | some oc3 =>
                obtain ⟨cl, cld, cdt2, csl⟩ := oc3
                rw [hcc] at k4
                cases cdt2 with
                | cell ov =>
                  cases ov with
                  | none => cases k4
                  | some v =>
                    cases v with
                    | ref C' =>
                      have e5 := dS_ok (show dS C' C = true from k4)
                      subst e5
                      refine ⟨oc, od, "__init__", _, defArgs st, defScope st, msg, par, kk, p1, p2, p3, p4, p5, p6, p7, p8, p9, p10, n9, n10, n11, n14, n12, cda, cc, osl, ar, ccl, cl, cdd, cld, ccs, csl, vs, fl, tf, ?_, k2, t2, t3, ?_, hcd, hv, ?_, hcc, t5, t6, t7, t8, t9, t10, t11, t12, t13, t14, t15⟩
                      · rw [← t1]
                      · rw [← t1]
                        exact fun a b => t4 _ _ _ _ _ _ _ a b
                      · rw [hf]
                        exact k3
                    | _ => cases k4
                | _ => cases k4
            | _ => cases k3
        | _ => cases k3
    | _ => cases c12
end HX
end
section
set_option Elab.async false
set_option linter.all false
set_option maxRecDepth 100000
set_option maxHeartbeats 4000000
/-! The head's facts of k87. -/
namespace K87
open PySem PySem.Spec PyProof.Rows L2 He HX
def aT (K : PySem.W.Frag) : Addr := ga K "Table"
def aS (K : PySem.W.Frag) : Addr := ga K "Stored"
def aD (K : PySem.W.Frag) : Addr := ga K "InvalidData"
def gD (x : Str) (i : Nat) : DefE := mkD (fun K => ga K x) x x (top i)
def defs : List DefE := [gD "inverse" 11, gD "scaled" 12, gD "added" 13, gD "lead" 14, gD "rest_of" 15, gD "reduced" 16, gD "has_row" 17, gD "value_of" 18, gD "power" 19, gD "all_rows" 20, gD "is_between" 24, gD "is_integer" 25, gD "is_prime" 26, gD "is_size" 27, gD "is_data" 28, gD "is_number" 33, gD "is_filled" 34,
  gD "is_row" 40, gD "require_pieces" 41, gD "is_strict_data" 44, gD "touched_number" 46, gD "touches" 47, gD "fewest_touches" 48, gD "is_base" 49, gD "is_fewest_touches" 50, gD "rebased" 51, gD "_law_source" 53, gD "_law_draw" 54, gD "_law_all" 55, gD "_law_value" 56, gD "_law_is_zero" 57, gD "_law_row" 58, gD "_law_unit" 59,
  gD "_law_pieces" 60, gD "_law_touches" 61, gD "_law_made" 62, gD "_law_is_base" 63, gD "_law_bases" 64, gD "_law_refused" 65, gD "_law_recognized" 66, gD "law" 67,
  mkD (fun K => ma K (aT K) "__init__") "__init__" "Table.__init__" (cm 42 1), mkD (fun K => gAd K (ma K (aT K) "prime")) "prime" "Table.prime" (cm 42 2), mkD (fun K => gAd K (ma K (aT K) "size")) "size" "Table.size" (cm 42 3), mkD (fun K => gAd K (ma K (aT K) "pieces")) "pieces" "Table.pieces" (cm 42 4),
  mkD (fun K => ma K (aT K) "__call__") "__call__" "Table.__call__" (cm 42 11), mkD (fun K => ma K (aT K) "values_of") "values_of" "Table.values_of" (cm 42 12),
  mkD (fun K => ma K (aS K) "__init__") "__init__" "Stored.__init__" (cm 35 1), mkD (fun K => ma K (aS K) "__eq__") "__eq__" "Stored.__eq__" (cm 35 8), iniD (fun K => ma K (aD K) "__init__") "InvalidData.__init__" (cm 4 0)]
def frees : List Str := (["tuple", "list", "len", "zip", "range", "sum", "any", "all", "min", "max", "int", "bool", "set", "repr", "sorted", "enumerate", "isinstance"] : List String).map Str.ofString
def glos : List Str := (["inverse", "scaled", "added", "lead", "rest_of", "reduced", "has_row", "value_of", "power", "all_rows", "is_between", "is_integer", "is_prime", "is_size", "is_data", "is_number", "is_filled", "is_row", "require_pieces", "is_strict_data", "touched_number", "touches", "fewest_touches", "is_base", "is_fewest_touches", "rebased",
  "_law_source", "_law_draw", "_law_all", "_law_value", "_law_is_zero", "_law_row", "_law_unit", "_law_pieces", "_law_touches", "_law_made", "_law_is_base", "_law_bases", "_law_refused", "_law_recognized", "law", "Table", "Stored", "InvalidData", "PRIMES"] : List String).map Str.ofString
def nums : List (Str × Int) := [("MOST_DATA", 4096), ("MOST_VALUE", 6), ("MOST_PIECES", 6), ("MOST_PARTS", 3), ("MOST_SPOTS", 10)]
abbrev fileP : Str := PySem.Challenge.pw_keysaloud_k87_whole_fewest_touches.main.file
def cfacts (K : PySem.W.Frag) : List Bool := [slcB K (aT K) slT, mkB K (aT K), propB K (aT K) "prime", propB K (aT K) "size", propB K (aT K) "pieces", methB K (aT K) "values_of", callB K (aT K),
  slcB K (aS K) slS, mkB K (aS K), isiB K (aS K), dS (PySem.W.kitOne K (.ref (aS K)) (.ref (aS K))) (some true), eqB K (aS K),
  excB K (aD K) (ma K (aD K) "__init__") "value" fileP, xfB K (aD K), dS (PySem.W.exmOne K (.ref (aD K)) (.ref (aD K))) (some true), tupB K "PRIMES" [.int 2, .int 3, .int 5, .int 7]]
def factsX (K : PySem.W.Frag) : List Bool := cfacts K ++ (frees.map (fun x => (Fa.free x).ok K) ++ (glos.map (fun x => (Fa.glo x).ok K) ++ (nums.map (fun q => (Fa.int q.1 q.2).ok K) ++ defs.map (fun d => d.ok K))))
abbrev AlX : Type := Bool × List FnE
def obsX (K : PySem.W.Frag) : AlX := ((factsX K).all id, defs.map fun d => fnE K (d.at_ K))
def valX : AlX := (true, defs.map DefE.val)
/-- what an object names that is looked at -/
def codesOf (g : Addr → Option Obj) (a : Addr) : List Addr := match g a with
  | some o => (match o.data with
    | .func fd => refV fd.code ++ fd.closure.map (·.2)
    | .fields vs => vs.toList.flatMap refV
    | .cls cd => cd.ns :: cd.mro.flatMap refV
    | _ => [])
  | none => []
def nsOf (g : Addr → Option Obj) (a : Addr) : Addr := match g a with
  | some ⟨_, _, .cls cd, _⟩ => cd.ns
  | _ => 0
def memA (g : Addr → Option Obj) (N : Addr) (x : Str) : List Addr := match PySem.W.nsIn (frG g [N]) N x with
  | some (some (.ref a)) => [a]
  | _ => []
def memT : List Str := (["own_prime", "own_size", "own_pieces", "own_spots", "__init__", "prime", "size", "pieces", "__call__", "values_of"] : List String).map Str.ofString
def memS : List Str := (["own_pieces", "own_spots", "__init__", "__eq__"] : List String).map Str.ofString
def memD : List Str := (["__init__"] : List String).map Str.ofString
def asX (g : Addr → Option Obj) : List Addr :=
  let K0 := frG g [mainGlobals]
  let gl := glos.map (ga K0)
  let cl := [ga K0 "Table", ga K0 "Stored", ga K0 "InvalidData", ga K0 "LeastError"]
  let m := memT.flatMap (memA g (nsOf g (ga K0 "Table"))) ++ (memS.flatMap (memA g (nsOf g (ga K0 "Stored"))) ++ memD.flatMap (memA g (nsOf g (ga K0 "InvalidData"))))
  let c1 := gl.flatMap (codesOf g)
  let c2 := m.flatMap (codesOf g)
  mainGlobals :: cStatics :: (gl ++ (cl ++ (cl.map (nsOf g) ++ (m ++ (c1 ++ (c2 ++ c2.flatMap (codesOf g)))))))
def obsXG (g : Addr → Option Obj) : AlX := obsX (frG g (asX g))
def hk : PySem.W.Hook where
  α := AlX
  obs := fun s => obsXG s.heap.get?
  val := fun _ => valX
  says := fun _ h => ∃ K : PySem.W.Frag, K.In h ∧ obsX K = valX
  of := fun _ _ e => ⟨_, frG_in, e⟩
  keeps := fun _ _ _ ⟨K, hK, c⟩ k => ⟨K, PySem.W.Frag.In.keeps hK k, c⟩
abbrev R : PySem.W.OpenRow := PySem.W.OpenLaw.row PySem.Challenge.rw_keysaloud_k87_whole_fewest_touches
def ob (s : PySem.W.SharedT) : AlX := obsXG (HandSHeadRun.getT s)
theorem ob_eq (s : PySem.W.SharedT) : ob s = hk.obs s.abs := by
  have e : HandSHeadRun.getT s = s.abs.heap.get? := funext (HandSHeadRun.getT_eq s)
  show obsXG (HandSHeadRun.getT s) = obsXG s.abs.heap.get?
  rw [e]
end K87
end
section
set_option Elab.async false
set_option linter.all false
set_option maxRecDepth 100000
namespace K87
open PySem PySem.Spec PyProof.Rows L2 HandSHeadRun
def ln1 : List PySem.Str := [("_wall" : PySem.Str), ("LeastError" : PySem.Str), ("InvalidSum" : PySem.Str), ("InvalidData" : PySem.Str), ("InvalidSpots" : PySem.Str), ("InvalidStored" : PySem.Str), ("InvalidNumber" : PySem.Str), ("InvalidTable" : PySem.Str), ("InvalidOperand" : PySem.Str), ("inverse" : PySem.Str), ("scaled" : PySem.Str), ("added" : PySem.Str)]
def ln2 : List PySem.Str := [("lead" : PySem.Str), ("rest_of" : PySem.Str), ("reduced" : PySem.Str), ("has_row" : PySem.Str), ("value_of" : PySem.Str), ("power" : PySem.Str), ("all_rows" : PySem.Str), ("PRIMES" : PySem.Str), ("MOST_DATA" : PySem.Str), ("is_between" : PySem.Str), ("is_integer" : PySem.Str), ("is_prime" : PySem.Str)]
def ln3 : List PySem.Str := [("is_size" : PySem.Str), ("is_data" : PySem.Str), ("Sum" : PySem.Str), ("is_sum" : PySem.Str), ("MOST_VALUE" : PySem.Str), ("is_number" : PySem.Str), ("is_filled" : PySem.Str), ("Stored" : PySem.Str), ("MOST_PIECES" : PySem.Str), ("MOST_PARTS" : PySem.Str), ("MOST_SPOTS" : PySem.Str), ("is_row" : PySem.Str)]
def ln4 : List PySem.Str := [("require_pieces" : PySem.Str), ("Table" : PySem.Str), ("is_strict_data" : PySem.Str), ("touched_number" : PySem.Str), ("touches" : PySem.Str), ("fewest_touches" : PySem.Str), ("is_base" : PySem.Str), ("is_fewest_touches" : PySem.Str), ("rebased" : PySem.Str), ("_law_source" : PySem.Str), ("_law_draw" : PySem.Str), ("_law_all" : PySem.Str)]
def ln5 : List PySem.Str := [("_law_value" : PySem.Str), ("_law_is_zero" : PySem.Str), ("_law_row" : PySem.Str), ("_law_unit" : PySem.Str), ("_law_pieces" : PySem.Str), ("_law_touches" : PySem.Str), ("_law_made" : PySem.Str), ("_law_is_base" : PySem.Str), ("_law_bases" : PySem.Str), ("_law_refused" : PySem.Str), ("_law_recognized" : PySem.Str)]
def loose : List PySem.Str := ln1 ++ ln2 ++ ln3 ++ ln4 ++ ln5

noncomputable abbrev endAt (w : World) (os : OsState) : Option PySem.W.SharedT := endF (stepQ (denQ tabQ) R.prog w) 16000 R.prog w os
abbrev frOf (s : PySem.W.SharedT) : PySem.W.Frag := He.frG (getT s) (asX (getT s))
end K87
end
section
set_option Elab.async false
set_option linter.all false
set_option maxRecDepth 100000
set_option maxHeartbeats 0
namespace K87
open PySem PySem.Spec PyProof.Rows L2 HandSHeadRun HX
theorem run_a (w : World) (os : OsState) : (endAt w os).map (fun s => (factsX (frOf s)).all id) = some true := by kernel_rfl
end K87
end
section
set_option Elab.async false
set_option linter.all false
set_option maxRecDepth 100000
set_option maxHeartbeats 0
namespace K87
open PySem PySem.Spec PyProof.Rows L2 HandSHeadRun HX
theorem run_b (w : World) (os : OsState) : (endAt w os).map (fun s => defs.map fun d => fnE (frOf s) (d.at_ (frOf s))) = some (defs.map DefE.val) := by kernel_rfl
end K87
end
section
set_option Elab.async false
set_option linter.all false
set_option maxRecDepth 100000
set_option maxHeartbeats 0
namespace K87
open PySem PySem.Spec PyProof.Rows L2 HandSHeadRun HX
def h0 : PySem.W.Hook where
  α := Unit
  obs := fun _ => ()
  val := fun _ => ()
  says := fun _ _ => True
  of := fun _ _ _ => trivial
  keeps := fun _ _ _ _ _ => trivial
theorem run_c (w : World) : HandSHeadRun.RunEq R (PySem.W.view R.prog [67]) h0 (fun _ => ()) 16000 loose w := by
  intro os
  kernel_rfl
end K87
end
section
set_option Elab.async false
set_option linter.all false
set_option maxRecDepth 100000
set_option maxHeartbeats 4000000
namespace K87
open PySem PySem.Spec PyProof.Rows L2 HandSHeadRun HX
theorem both {α β γ δ : Type} {e : Option α} {f : α → β} {g : α → γ} {k : α → δ} {b : β} {c : γ} {d : δ} (h1 : e.map f = some b) (h2 : e.map g = some c) (h3 : e.map k = some d) : ∃ s, e = some s ∧ f s = b ∧ g s = c ∧ k s = d := by
  cases e with
  | none => cases h1
  | some s => exact ⟨s, rfl, Option.some.inj h1, Option.some.inj h2, Option.some.inj h3⟩
theorem run (w : World) : HandSHeadRun.RunEq R (PySem.W.view R.prog [67]) hk ob 16000 loose w := by
  intro os
  obtain ⟨s, e, h1, h2, h3⟩ := both (run_a w os) (run_b w os) (run_c w os)
  have eo : ob s = valX := by
    show (((factsX (frOf s)).all id, defs.map fun d => fnE (frOf s) (d.at_ (frOf s))) : AlX) = _
    rw [h1, h2]
    rfl
  have e' : endF (stepQ (denQ tabQ) R.prog w) 16000 R.prog w os = some s := e
  rw [e', Option.map_some]
  have a1 := congrArg (fun x => x.1) h3
  have a2 := congrArg (fun x => x.2.1) h3
  exact congrArg some (Prod.ext a1 (Prod.ext a2 eo))
end K87
end
section
set_option Elab.async false
set_option linter.all false
set_option maxRecDepth 100000
set_option maxHeartbeats 4000000
/-! The law's end for a def that may ask repr. -/
namespace DL
open PySem PySem.Spec PyProof.Rows L2
section
variable {P : Program} {w : World} {K : PySem.W.Frag} {mg mb : Str → Option Value} {k : Nat} {fa sa : Addr} {sp : Sp} {t : Shared} {us : List Value} {ns : List Int}
/-- what stays where H hides no more than the script -/
theorem hid_keeps {H : Hp} {ol : Obj} (hs : t.heap.get? sa = some ol) (nd : ∀ es ep, ol.data ≠ .dict es ep) (only : ∀ c, H c ≠ none → c = sa) : ∀ {c : Addr} {m : Str → Option Value}, t.heap.Ns c m → (hidT t.heap H).Ns c m := fun {c m} ⟨o, es, ep, e, d, r⟩ => by
  refine ⟨o, es, ep, hidT_get e ?_, d, r⟩
  cases q : H c with
  | none => rfl
  | some u =>
    have ec := only c (by rw [q]; exact fun z => nomatch z)
    subst ec
    rw [hs] at e
    cases e
    exact absurd d (nd es ep)
theorem hid_in {H : Hp} (X : K.In t.heap) (only : ∀ c, H c ≠ none → c = sa) (own : H sa ≠ none → K.lookup sa = none) : K.In (hidT t.heap H) := fun c o e => by
  refine hidT_get (X c o e) ?_
  cases q : H c with
  | none => rfl
  | some u =>
    have nn : H c ≠ none := by rw [q]; exact fun z => nomatch z
    have ec := only c nn
    subst ec
    rw [own nn] at e
    cases e
/-- the call of the law, from a heap in which at most the script is told -/
theorem law_from {H : Hp} (X : K.In t.heap) (G : t.heap.Ns mainGlobals mg) (Gb : t.heap.Ns builtinsNs mb) (bb : ∀ x : Str, x ≠ "__name__" → mb x = bootBuiltins x) (lim : t.heap.NoLimit) (gens : t.gens = #[])
    (hs : t.heap.get? sa = some { cls := .type "list", data := .seq us.toArray }) (room : Room k callerA) (gd : callerA.guards = some []) (F : ∀ b0 : Heap, K.In b0 → b0.Ns mainGlobals mg → FnG P w K mg b0 k fa sp)
    (O : Only H) (ok : HOk P w H t.heap) (only : ∀ c, H c ≠ none → c = sa) (own : H sa ≠ none → K.lookup sa = none) (q : sp [.ref sa] H (fun v _ => v = .bl true) fun _ _ _ => False) :
    codeAny (model P w) callerA (.call (.ref fa) ⟨[.ref sa], []⟩) (fun r t' => r = .ok (.ret (.bool true)) ∧ OldK t.heap t'.heap ∧ t'.os = t.os ∧ AllBare t'.gens) t := by
  have kp : ∀ {c : Addr} {m : Str → Option Value}, t.heap.Ns c m → (hidT t.heap H).Ns c m := hid_keeps hs (fun _ _ z => nomatch z) only
  have ki := hid_in X only own
  have M : Mod K mg (hidT t.heap H) := ⟨ki, kp G, ⟨mb, kp Gb, bb⟩, let ⟨mc, g1, g2⟩ := lim; ⟨mc, kp g1, g2⟩⟩
  have env : Env0 P w K mg (hidT t.heap H) callerA [] t H := ⟨rfl, M, fun _ _ e => of_hidT e, Nat.le_of_eq (hidT_size _ _), trivial, (fun c z => absurd (show c ∈ ([] : List Addr) from z) List.not_mem_nil), ok, .of_eq gens⟩
  refine codeAny_mono (F _ ki (kp G) callerA [] t H [.ref sa] [.ref sa] _ _ gd room env (.cons rfl .nil) q) fun r t' z => ?_
  match r, z with
  | .error e, z => exact z.elim
  | .ok .next, z => exact z.elim
  | .ok .brk, z => exact z.elim
  | .ok .cont, z => exact z.elim
  | .ok (.ret u), ⟨v, H', eos, bare, un, ok', ru, ev⟩ =>
    have ev : v = .bl true := ev
    subst ev
    have eu : u = Value.bool true := ru
    subst eu
    refine ⟨rfl, OldK.of_keep fun c o e => ?_, eos, bare⟩
    cases h : H c with
    | none => exact un.keep c o e h (fun z => absurd (show c ∈ ([] : List Addr) from z) List.not_mem_nil) (by simp)
    | some u =>
      rcases O c with n0 | ⟨ob, xs, fz⟩
      · rw [h] at n0
        cases n0
      · have e1 := (ok c _ fz).1
        have e2 := (ok' c _ (un.frzs c ob _ fz)).1
        rw [e] at e1
        cases e1
        exact e2
theorem law_G (X : K.In t.heap) (G : t.heap.Ns mainGlobals mg) (Gb : t.heap.Ns builtinsNs mb) (bb : ∀ x : Str, x ≠ "__name__" → mb x = bootBuiltins x) (lim : t.heap.NoLimit) (gens : t.gens = #[])
    (hs : t.heap.get? sa = some { cls := .type "list", data := .seq us.toArray }) (hi : IntsAre us ns) (hl : ns.length ≤ sizeLine) (room : Room k callerA) (gd : callerA.guards = some []) (F : ∀ b0 : Heap, K.In b0 → b0.Ns mainGlobals mg → FnG P w K mg b0 k fa sp)
    (q : ∀ H : Hp, Only H → SqL K H sa (ns.map V.int) → sp [.ref sa] H (fun v _ => v = .bl true) fun _ _ _ => False) :
    codeAny (model P w) callerA (.call (.ref fa) ⟨[.ref sa], []⟩) (fun r t' => r = .ok (.ret (.bool true)) ∧ OldK t.heap t'.heap ∧ t'.os = t.os ∧ AllBare t'.gens) t := by
  have rv := vals_ints hi
  have lv := hi.length
  cases hk : K.lookup sa with
  | some o =>
    have eo : o = { cls := .type "list", data := .seq us.toArray } := by
      have := X sa o hk
      rw [hs] at this
      exact (Option.some.inj this).symm
    subst eo
    have nn : Only fun _ => none := fun _ => .inl rfl
    exact law_from X G Gb bb lim gens hs room gd F nn (fun _ _ z => nomatch z) (fun _ z => absurd rfl z) (fun z => absurd rfl z) (q _ nn (.inr ⟨_, us.toArray, _, hk, rfl, rfl, rfl, by rw [List.size_toArray, lv]; exact hl, by simpa using rv⟩))
  | none =>
    generalize hH : (fun c => if c = sa then some (HO.frz { cls := .type "list", data := .seq us.toArray } (.lst (ns.map V.int))) else none : Hp) = H
    have at_ : H sa = some (HO.frz { cls := .type "list", data := .seq us.toArray } (.lst (ns.map V.int))) := by rw [← hH]; exact if_pos rfl
    have off_ : ∀ c, c ≠ sa → H c = none := fun c hc => by rw [← hH]; exact if_neg hc
    have only : ∀ c, H c ≠ none → c = sa := fun c hc => Classical.byContradiction fun z => hc (off_ c z)
    have O : Only H := fun c => by
      by_cases hc : c = sa
      · subst hc
        exact .inr ⟨_, _, at_⟩
      · exact .inl (off_ c hc)
    refine law_from X G Gb bb lim gens hs room gd F O (fun c u z => ?_) only (fun _ => hk) (q H O (.inl (.inr ⟨_, at_⟩)))
    have hc := only c (by rw [z]; exact fun y => nomatch y)
    subst hc
    rw [at_] at z
    cases z
    exact ⟨hs, by rw [List.length_map]; exact hl, us, _, rv, hs⟩
end
end DL
end
section
set_option Elab.async false
set_option linter.all false
set_option maxRecDepth 100000
set_option maxHeartbeats 4000000
namespace K87
open PySem PySem.Spec PyProof.Rows L2 DL He HX
section
variable {K : PySem.W.Frag} (c : obsX K = valX)
include c
theorem all_facts : (factsX K).all id = true := congrArg (fun z : AlX => z.1) c
theorem c_facts : (cfacts K).all id = true := by
  have := all_facts c
  unfold factsX at this
  rw [List.all_append, Bool.and_eq_true] at this
  exact this.1
theorem free_f {x : Str} (h : x ∈ frees) : (Fa.free x).ok K = true := by
  have := all_facts c
  unfold factsX at this
  rw [List.all_append, List.all_append, List.all_append, List.all_append, Bool.and_eq_true, Bool.and_eq_true] at this
  exact List.all_eq_true.mp this.2.1 _ (List.mem_map.mpr ⟨x, h, rfl⟩)
theorem glo_f {x : Str} (h : x ∈ glos) : (Fa.glo x).ok K = true := by
  have := all_facts c
  unfold factsX at this
  rw [List.all_append, List.all_append, List.all_append, List.all_append, Bool.and_eq_true, Bool.and_eq_true, Bool.and_eq_true] at this
  exact List.all_eq_true.mp this.2.2.1 _ (List.mem_map.mpr ⟨x, h, rfl⟩)
theorem num_f {q : Str × Int} (h : q ∈ nums) : (Fa.int q.1 q.2).ok K = true := by
  have := all_facts c
  unfold factsX at this
  rw [List.all_append, List.all_append, List.all_append, List.all_append, Bool.and_eq_true, Bool.and_eq_true, Bool.and_eq_true, Bool.and_eq_true] at this
  exact List.all_eq_true.mp this.2.2.2.1 _ (List.mem_map.mpr ⟨q, h, rfl⟩)
theorem def_e (j : Nat) {d : DefE} (h : defs[j]? = some d := by rfl) : fnE K (d.at_ K) = d.val ∧ d.ok K = true := by
  refine ⟨?_, ?_⟩
  · have e : defs.map (fun d => fnE K (d.at_ K)) = defs.map DefE.val := congrArg (fun z : AlX => z.2) c
    have e2 : (defs.map fun d => fnE K (d.at_ K))[j]? = (defs.map DefE.val)[j]? := by rw [e]
    rw [List.getElem?_map, List.getElem?_map, h] at e2
    exact Option.some.inj e2
  · have := all_facts c
    unfold factsX at this
    rw [List.all_append, List.all_append, List.all_append, List.all_append, Bool.and_eq_true, Bool.and_eq_true, Bool.and_eq_true, Bool.and_eq_true] at this
    exact List.all_eq_true.mp this.2.2.2.2 _ (List.mem_map.mpr ⟨d, List.mem_of_getElem? h, rfl⟩)
theorem fun_e (j : Nat) {p : PySem.W.Frag → Addr} {x q : Str} {st : Stmt} (h : defs[j]? = some (mkD p x q st) := by rfl) : ∃ fd, Fun K x q st (p K) fd := by
  obtain ⟨e, o⟩ := def_e c j h
  exact fun_of e o
end
section
variable {K : PySem.W.Frag} {h : Heap} {mg : Str → Option Value} (X : K.In h) (G : h.Ns mainGlobals mg) (c : obsX K = valX)
include X G c
theorem fr_mg (x : Str) (hx : x ∈ frees) : mg x = none := free_ok X G (free_f c hx)
theorem gl_mg (x : Str) (hx : x ∈ glos) : mg x = some (.ref (ga K x)) := glo_ok X G (glo_f c hx)
theorem bl_of : Bl mg where
  tuple := fr_mg X G c _ (by decide +kernel)
  list := fr_mg X G c _ (by decide +kernel)
  len := fr_mg X G c _ (by decide +kernel)
  zip := fr_mg X G c _ (by decide +kernel)
  range := fr_mg X G c _ (by decide +kernel)
  sum := fr_mg X G c _ (by decide +kernel)
  any := fr_mg X G c _ (by decide +kernel)
  all := fr_mg X G c _ (by decide +kernel)
  min := fr_mg X G c _ (by decide +kernel)
  max := fr_mg X G c _ (by decide +kernel)
  int := fr_mg X G c _ (by decide +kernel)
  bool := fr_mg X G c _ (by decide +kernel)
  set := fr_mg X G c _ (by decide +kernel)
  repr := fr_mg X G c _ (by decide +kernel)
  sorted := fr_mg X G c _ (by decide +kernel)
  enumerate := fr_mg X G c _ (by decide +kernel)
  isinstance := fr_mg X G c _ (by decide +kernel)
theorem at_e (j : Nat) {x : Str} {i : Nat} (hj : defs[j]? = some (gD x i) := by rfl) (hx : x ∈ glos := by decide +kernel) : ∃ fd, At K mg x (top i) (ga K x) fd := by
  obtain ⟨fd, F⟩ := fun_e c j hj
  exact ⟨fd, F, gl_mg X G c x hx⟩
theorem cn_of : Cn K mg := by
  have ci := c_facts c
  unfold cfacts at ci
  simp only [List.all_cons, List.all_nil, Bool.and_true, Bool.and_eq_true, id_eq] at ci
  obtain ⟨_, _, _, _, _, _, _, _, _, _, _, _, _, _, _, ht⟩ := ci
  exact ⟨⟨_, gl_mg X G c "PRIMES" (by decide +kernel), tupB_ok ht _⟩, int_ok X G (num_f c (q := ("MOST_DATA", 4096)) (by decide +kernel)), int_ok X G (num_f c (q := ("MOST_VALUE", 6)) (by decide +kernel)), int_ok X G (num_f c (q := ("MOST_PIECES", 6)) (by decide +kernel)), int_ok X G (num_f c (q := ("MOST_PARTS", 3)) (by decide +kernel)), int_ok X G (num_f c (q := ("MOST_SPOTS", 10)) (by decide +kernel))⟩
end
theorem ini_t : IniT "value" "InvalidData.__init__" (cm 4 0) :=
  ⟨_, "value", _, _, _, _, _, _, _, _, _, _, _, _, rfl, rfl, rfl, fun _ _ _ _ _ _ _ _ _ => rfl, rfl, rfl, rfl, rfl, by decide +kernel, rfl, rfl, rfl, by decide, by decide, rfl⟩
abbrev PP : Program := R.prog
theorem law_fn {w : World} {K : PySem.W.Frag} {h base : Heap} {mg : Str → Option Value} (X : K.In h) (G : h.Ns mainGlobals mg) (c : obsX K = valX) : FnG PP w K mg base 10 (ga K "law") (spP K tLaw) := by
  have B := bl_of X G c
  have N := cn_of X G c
  obtain ⟨_, h_inv⟩ := at_e X G c 0 (x := "inverse") (i := 11)
  obtain ⟨_, h_sca⟩ := at_e X G c 1 (x := "scaled") (i := 12)
  obtain ⟨_, h_add⟩ := at_e X G c 2 (x := "added") (i := 13)
  obtain ⟨_, h_lead⟩ := at_e X G c 3 (x := "lead") (i := 14)
  obtain ⟨_, h_rest⟩ := at_e X G c 4 (x := "rest_of") (i := 15)
  obtain ⟨_, h_red⟩ := at_e X G c 5 (x := "reduced") (i := 16)
  obtain ⟨_, h_has⟩ := at_e X G c 6 (x := "has_row") (i := 17)
  obtain ⟨_, h_val⟩ := at_e X G c 7 (x := "value_of") (i := 18)
  obtain ⟨_, h_pow⟩ := at_e X G c 8 (x := "power") (i := 19)
  obtain ⟨_, h_rows⟩ := at_e X G c 9 (x := "all_rows") (i := 20)
  obtain ⟨_, h_betw⟩ := at_e X G c 10 (x := "is_between") (i := 24)
  obtain ⟨_, h_int⟩ := at_e X G c 11 (x := "is_integer") (i := 25)
  obtain ⟨_, h_prime⟩ := at_e X G c 12 (x := "is_prime") (i := 26)
  obtain ⟨_, h_size⟩ := at_e X G c 13 (x := "is_size") (i := 27)
  obtain ⟨_, h_data⟩ := at_e X G c 14 (x := "is_data") (i := 28)
  obtain ⟨_, h_num⟩ := at_e X G c 15 (x := "is_number") (i := 33)
  obtain ⟨_, h_fil⟩ := at_e X G c 16 (x := "is_filled") (i := 34)
  obtain ⟨_, h_isrow⟩ := at_e X G c 17 (x := "is_row") (i := 40)
  obtain ⟨_, h_req⟩ := at_e X G c 18 (x := "require_pieces") (i := 41)
  obtain ⟨_, h_str⟩ := at_e X G c 19 (x := "is_strict_data") (i := 44)
  obtain ⟨_, h_tn⟩ := at_e X G c 20 (x := "touched_number") (i := 46)
  obtain ⟨_, h_tou⟩ := at_e X G c 21 (x := "touches") (i := 47)
  obtain ⟨_, h_few⟩ := at_e X G c 22 (x := "fewest_touches") (i := 48)
  obtain ⟨_, h_ib⟩ := at_e X G c 23 (x := "is_base") (i := 49)
  obtain ⟨_, h_isf⟩ := at_e X G c 24 (x := "is_fewest_touches") (i := 50)
  obtain ⟨_, h_reb⟩ := at_e X G c 25 (x := "rebased") (i := 51)
  obtain ⟨_, h_source⟩ := at_e X G c 26 (x := "_law_source") (i := 53)
  obtain ⟨_, h_draw⟩ := at_e X G c 27 (x := "_law_draw") (i := 54)
  obtain ⟨_, h_all⟩ := at_e X G c 28 (x := "_law_all") (i := 55)
  obtain ⟨_, h_lv⟩ := at_e X G c 29 (x := "_law_value") (i := 56)
  obtain ⟨_, h_lz⟩ := at_e X G c 30 (x := "_law_is_zero") (i := 57)
  obtain ⟨_, h_lr⟩ := at_e X G c 31 (x := "_law_row") (i := 58)
  obtain ⟨_, h_lu⟩ := at_e X G c 32 (x := "_law_unit") (i := 59)
  obtain ⟨_, h_lp⟩ := at_e X G c 33 (x := "_law_pieces") (i := 60)
  obtain ⟨_, h_lt⟩ := at_e X G c 34 (x := "_law_touches") (i := 61)
  obtain ⟨_, h_lm⟩ := at_e X G c 35 (x := "_law_made") (i := 62)
  obtain ⟨_, h_lib⟩ := at_e X G c 36 (x := "_law_is_base") (i := 63)
  obtain ⟨_, h_lb⟩ := at_e X G c 37 (x := "_law_bases") (i := 64)
  obtain ⟨_, h_ref⟩ := at_e X G c 38 (x := "_law_refused") (i := 65)
  obtain ⟨_, h_rc⟩ := at_e X G c 39 (x := "_law_recognized") (i := 66)
  obtain ⟨_, h_law⟩ := at_e X G c 40 (x := "law") (i := 67)
  obtain ⟨_, f_ti⟩ := fun_e c 41 (p := fun K => ma K (aT K) "__init__") (x := "__init__") (q := "Table.__init__") (st := cm 42 1)
  obtain ⟨_, f_tp⟩ := fun_e c 42 (p := fun K => gAd K (ma K (aT K) "prime")) (x := "prime") (q := "Table.prime") (st := cm 42 2)
  obtain ⟨_, f_ts⟩ := fun_e c 43 (p := fun K => gAd K (ma K (aT K) "size")) (x := "size") (q := "Table.size") (st := cm 42 3)
  obtain ⟨_, f_tq⟩ := fun_e c 44 (p := fun K => gAd K (ma K (aT K) "pieces")) (x := "pieces") (q := "Table.pieces") (st := cm 42 4)
  obtain ⟨_, f_tc⟩ := fun_e c 45 (p := fun K => ma K (aT K) "__call__") (x := "__call__") (q := "Table.__call__") (st := cm 42 11)
  obtain ⟨_, f_tv⟩ := fun_e c 46 (p := fun K => ma K (aT K) "values_of") (x := "values_of") (q := "Table.values_of") (st := cm 42 12)
  obtain ⟨_, f_si⟩ := fun_e c 47 (p := fun K => ma K (aS K) "__init__") (x := "__init__") (q := "Stored.__init__") (st := cm 35 1)
  obtain ⟨_, f_se⟩ := fun_e c 48 (p := fun K => ma K (aS K) "__eq__") (x := "__eq__") (q := "Stored.__eq__") (st := cm 35 8)
  obtain ⟨e_d, _⟩ := def_e c 49 (d := iniD (fun K => ma K (aD K) "__init__") "InvalidData.__init__" (cm 4 0))
  have ci := c_facts c
  unfold cfacts at ci
  simp only [List.all_cons, List.all_nil, Bool.and_true, Bool.and_eq_true, id_eq] at ci
  obtain ⟨c1, c2, c3, c4, c5, c6, c7, c8, c9, c10, c11, c12, c13, c14, c15, c16⟩ := ci
  have mT : mg "Table" = some (.ref (aT K)) := gl_mg X G c "Table" (by decide +kernel)
  have mS : mg "Stored" = some (.ref (aS K)) := gl_mg X G c "Stored" (by decide +kernel)
  have mD : mg "InvalidData" = some (.ref (aD K)) := gl_mg X G c "InvalidData" (by decide +kernel)
  have sT := slc_ok c1
  have sS := slc_ok c8
  have X0 : ExH PP K mg (aD K) (ma K (aD K) "__init__") := ⟨exf_of e_d c13 rfl (by decide +kernel) ini_t, xfB_ok c14, dS_ok c15, mD⟩
  -- rows
  have o_sca : Own PP w K mg base 1 "scaled" (spP K tScaled) := own_scaled B h_sca.fn h_sca.mg
  have o_add : Own PP w K mg base 1 "added" (spP K tAdded) := own_added B h_add.fn h_add.mg
  have o_lead : Own PP w K mg base 1 "lead" (spP K tLead) := own_lead B h_lead.fn h_lead.mg
  have o_inv : Own PP w K mg base 1 "inverse" (spP K tInv) := own_inv h_inv
  have o_pow : Own PP w K mg base 1 "power" (spP K tPow) := own_pow B h_pow
  have o_rest : Own PP w K mg base 2 "rest_of" (spP K tRest) := own_rest h_rest o_add o_lead
  have o_red : Own PP w K mg base 4 "reduced" (spP K tRed) := own_red B h_red o_rest o_add o_lead o_sca o_inv
  have o_has : Own PP w K mg base 3 "has_row" (spP K tHas) := own_has B h_has o_rest
  have o_val : Own PP w K mg base 1 "value_of" (spP K tVal) := own_val B h_val
  have o_rows : OwnGd PP w K mg base 2 "all_rows" tRows := own_rows B h_rows o_pow
  -- sums
  have o_betw : Own PP w K mg base 1 "is_between" (spP K tBetw) := own_betw B h_betw
  have o_int : Own PP w K mg base 1 "is_integer" (spP K tInt) := own_int B h_int
  have o_prime : Own PP w K mg base 2 "is_prime" (spP K tPrime) := own_prime N h_prime o_int
  have o_size : Own PP w K mg base 3 "is_size" (spP K tSize) := own_size N h_size o_prime o_betw o_pow
  have o_data : Own PP w K mg base 4 "is_data" (spP K tData) := own_data B h_data o_size o_betw
  -- stored
  have o_num : Own PP w K mg base 1 "is_number" (spP K tNum) := own_num B h_num
  have o_fil : Own PP w K mg base 2 "is_filled" (spP K tFil) := own_fil B N h_fil o_num
  have o_si : OwnI PP w K mg base 3 "Stored" (aS K) tSI := own_si B sS (mk_ok c9) mS f_si o_fil
  have o_se : FnR PP w K mg base CX0 1 (ma K (aS K) "__eq__") (spP K (tSE (aS K))) := own_se B sS (isi_ok c10) (dS_ok c11) mS f_se
  -- tables
  have o_isrow : Own PP w K mg base 1 "is_row" (spP K tIsRow) := own_isrow B h_isrow
  have o_req : Own PP w K mg base 5 "require_pieces" (spP K tReq) := own_req B N h_req o_isrow o_data
  have o_ti : OwnI PP w K mg base 6 "Table" (aT K) tTI := own_ti B sT (mk_ok c2) mT f_ti o_prime o_size o_req
  have T : TabP PP w K mg base (aT K) := ⟨⟨_, _, prop_ok sT.c c3, own_tprime sT f_tp⟩, ⟨_, _, prop_ok sT.c c4, own_tsize sT f_ts⟩, ⟨_, _, prop_ok sT.c c5, own_tpieces sT f_tq⟩⟩
  have o_tv : FnR PP w K mg base CX0 2 (ma K (aT K) "values_of") (spP K (tTV (aT K))) := own_tv B sT f_tv o_val
  have o_tc : FnR PP w K mg base CX0 5 (ma K (aT K) "__call__") (spP K (tTC (aT K) (aS K))) := own_tc B sT f_tc o_data ⟨_, sT.c, HX.meth_ok c6, o_tv⟩ o_si
  -- judged
  have o_str : Own PP w K mg base 5 "is_strict_data" (spP K (tStr (aT K))) := own_str B h_str T o_data
  have o_tn : Own PP w K mg base 3 "touched_number" (spP K (tTN (aT K))) := own_tn B h_tn T o_val
  have o_tou : OwnXc PP w K mg base 6 "touches" (tTou (aT K) (aD K)) := own_tou B h_tou T X0.ex mD o_data o_tn
  have o_few : Own PP w K mg base 5 "fewest_touches" (spP K (tFew (aT K))) := own_few B h_few T o_tn o_rows o_has o_red
  have o_ib : Own PP w K mg base 5 "is_base" (spP K (tIB (aT K))) := own_ib B h_ib T o_data o_red
  have o_isf : Own PP w K mg base 6 "is_fewest_touches" (spP K (tIF (aT K))) := own_if B h_isf T o_int o_str o_ib o_tn o_few
  have o_reb : OwnXc PP w K mg base 8 "rebased" (tReb (aT K) (aD K)) := own_reb B h_reb T X0.ex mD o_ib o_val o_ti
  -- the law's own
  have o_source : Own PP w K mg base 1 "_law_source" (spK K tSource) := own_source B h_source
  have o_draw : Own PP w K mg base 1 "_law_draw" (spS K tDraw) := own_draw B h_draw
  have o_all : Own PP w K mg base 1 "_law_all" (spP K tAll) := own_all B h_all
  have o_lv : Own PP w K mg base 1 "_law_value" (spP K tLV) := own_lv B h_lv
  have o_lz : Own PP w K mg base 2 "_law_is_zero" (spP K tLZ) := own_lz h_lz o_lv
  have o_lr : Own PP w K mg base 2 "_law_row" (spS K tLR) := own_lr B h_lr o_draw
  have o_lu : Own PP w K mg base 1 "_law_unit" (spP K tLU) := own_lu B h_lu
  have o_lp : Own PP w K mg base 3 "_law_pieces" (spS K tLP) := own_lp B h_lp o_draw o_lr o_lu
  have o_lt : Own PP w K mg base 3 "_law_touches" (spP K tLT) := own_lt B h_lt o_lz
  have o_lm : Own PP w K mg base 1 "_law_made" (spP K tLM) := own_lm B h_lm
  have o_lib : Own PP w K mg base 2 "_law_is_base" (spP K tLIB) := own_lib B h_lib o_all o_lm
  have o_lb : Own PP w K mg base 3 "_law_bases" (spP K tLB) := own_lb B h_lb o_all o_lib
  have o_rc : Own PP w K mg base 7 "_law_recognized" (spS K (tRc (aT K))) := own_rc B h_rc o_draw o_lt o_isf
  have o_ref : OwnG0 PP w K mg base 9 "_law_refused" (spP K (tRef (aT K))) := own_ref B h_ref h_ref.fn.kp T X0 o_tou o_reb
  exact own_law (C := aT K) (S := aS K) (D := aD K) B h_law.fn ⟨o_source, o_draw, o_lp, o_ti, o_lb, o_all, o_tou, o_lt, o_few, o_isf, o_rc, o_ref, o_reb, o_lm, ⟨_, call_ok c7, o_tc⟩, ⟨_, eq_ok c12, o_se⟩⟩
end K87
end
set_option Elab.async false
set_option linter.all false
set_option maxRecDepth 100000
set_option maxHeartbeats 0
open PySem PySem.W PySem.Calls PyProof.Rows
theorem PySem.Challenge.cw_keysaloud_k87_whole_fewest_touches_holds : PySem.Challenge.rw_keysaloud_k87_whole_fewest_touches.Holds := by
  w_on; o_law
  refine HandSHeadRun.head_any (r := OpenLaw.row PySem.Challenge.rw_keysaloud_k87_whole_fewest_touches) (q := view (OpenLaw.row PySem.Challenge.rw_keysaloud_k87_whole_fewest_touches).prog [67]) (H := K87.hk) (ob := K87.ob) (M := 16000) (loose := K87.loose) (d := HandSHeadRun.topDef (OpenLaw.row PySem.Challenge.rw_keysaloud_k87_whole_fewest_touches).prog 67) (kwd := []) K87.ob_eq
    (by kernel_rfl) (fun s => by kernel_rfl) K87.run (by kernel_rfl) (by kernel_rfl) (by kernel_rfl) (by rfl) (by first | assumption | decide +kernel) (by decide +kernel) ⟨rfl, rfl, rfl, rfl, rfl, by decide +kernel⟩ ?hw ?hc
  case hw => w_witness2
  case hc =>
    refine Att.attach_call (l := PySem.Challenge.rw_keysaloud_k87_whole_fewest_touches) (n := 63) rfl (by kernel_rfl) fun w s₀ s₁ mg mb fa o pm cd doc a vs ns G Y ho hd hcd hmg hobj hints hlen hg => ?_
    obtain ⟨K, KX, c⟩ := Y
    have el : mg "law" = some (.ref (He.ga K "law")) := K87.gl_mg KX G.T.g c "law" (by decide +kernel)
    have ef : fa = He.ga K "law" := by
      have e2 : mg "law" = some (.ref fa) := hmg
      rw [el] at e2
      cases e2
      rfl
    subst ef
    refine DL.law_G (sp := DL.spP K K87.tLaw) (k := 10) KX G.T.g G.T.b G.T.builtins G.T.nolimit hg hobj hints (Nat.le_trans hlen (by decide)) ⟨rfl, by decide, by decide⟩ rfl (fun b0 X0 G0 => K87.law_fn X0 G0 c) fun H O S => ?_
    refine ⟨[], [DL.dL (K87.pI ns)], fun d => d = DL.dB true, fun b hb => ?_, ?_, ⟨ns, rfl, Nat.le_trans hlen (by decide), rfl⟩, fun v H' d hd _ rd => ?_⟩
    · exact absurd hb List.not_mem_nil
    · have e0 : DL.off [] H = H := funext fun b => DL.off_out List.not_mem_nil
      rw [e0]
      exact .cons (show DL.DtR K H (.ref a) (DL.dL (K87.pI ns)) from L2.Dp.lst S (DL.dpa_of_ints ns)) .nil
    · subst hd
      cases rd
      rfl
