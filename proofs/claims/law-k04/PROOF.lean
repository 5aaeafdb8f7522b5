import PyProof.Rows.All
import Wide.All
import OpenK.AllK
import Wide.FinOn
import HandS.ForMost
import HandS.Wide
import HandS.Walk
import HandS.IsInst
import HandS.Zip
import HandS.TupAny
import PySem.Challenge.RW_windround_k04_better_and_worse
set_option Elab.async false
set_option linter.all false
set_option maxRecDepth 100000
set_option maxHeartbeats 4000000
set_option exponentiation.threshold 100000
/-! DL: a logic of plain data over the hand layer. -/
namespace L2.DL
open PySem PySem.Spec PyProof.Rows

/-! ### readings that are the run itself -/
section
variable {X : Cx}
def tO (X : Cx) (e : Expr) : TE := fun σ H Q => ∀ pins s, Inv X pins σ H s → wpAny (model X.prog X.w) X.A (eval e X.env) (EP X pins σ Q) X.xe s
theorem pe_o {e : Expr} : PE X e (tO X e) := ⟨fun pins s σ H Q I h => h pins s I⟩
theorem le_o {e : Expr} {t : TE} {σ : St} {H : Hp} {Q : VK} (h : PE X e t) (q : t σ H Q) : tO X e σ H Q := fun pins s I => h.run pins s σ H Q I q
def tT (X : Cx) (e : Expr) : TT := fun σ H Q => ∀ pins s, Inv X pins σ H s → wpAny (model X.prog X.w) X.A (isTrue e X.env (eval e X.env)) (TP X pins σ Q) X.xe s
theorem pt_o {e : Expr} : PT X e (tT X e) := ⟨fun pins s σ H Q I h => h pins s I⟩
theorem le_t {e : Expr} {t : TT} {σ : St} {H : Hp} {Q : Bool → Hp → Prop} (h : PT X e t) (q : t σ H Q) : tT X e σ H Q := fun pins s I => h.run pins s σ H Q I q
def tW (X : Cx) (e : Expr) : TT := fun σ H Q => ∀ whole pins s, Inv X pins σ H s → wpAny (model X.prog X.w) X.A (isTrue e X.env whole) (TP X pins σ Q) X.xe s
theorem pw_o {e : Expr} : PW X e (tW X e) := ⟨fun whole pins s σ H Q I h => h whole pins s I⟩
theorem le_w {e : Expr} {t : TT} {σ : St} {H : Hp} {Q : Bool → Hp → Prop} (h : PW X e t) (q : t σ H Q) : tW X e σ H Q := fun whole pins s I => h.run whole pins s σ H Q I q
def tA (X : Cx) (es : List Expr) : TA := fun σ H Q => ∀ pos pins s, Inv X pins σ H s → wpAny (model X.prog X.w) X.A (spliced (backTo pos (starEach es X.env))) (AP X pins σ Q) X.xe s
theorem pa_o {es : List Expr} : PA X es (tA X es) := ⟨fun pos pins s σ H Q I h => h pos pins s I⟩
theorem le_a {es : List Expr} {t : TA} {σ : St} {H : Hp} {Q : List V → Hp → Prop} (h : PA X es t) (q : t σ H Q) : tA X es σ H Q := fun pos pins s I => h.run pos pins s σ H Q I q
def tS (X : Cx) (st : Stmt) : TS := fun D σ H => ∀ pins s, Inv X pins σ H s → wpAny (model X.prog X.w) X.A (exec st X.env) (SP X pins D) X.xe s
theorem ps_o {st : Stmt} : PS X st (tS X st) := ⟨fun pins s σ H D I h => h pins s I⟩
theorem le_s {st : Stmt} {t : TS} {D : Ends} {σ : St} {H : Hp} (h : PS X st t) (q : t D σ H) : tS X st D σ H := fun pins s I => h.run pins s σ H D I q
def tSs (X : Cx) (st : List Stmt) : TS := fun D σ H => ∀ pins s, Inv X pins σ H s → wpAny (model X.prog X.w) X.A (execs st X.env) (SP X pins D) X.xe s
theorem pss_o {st : List Stmt} : PSs X st (tSs X st) := ⟨fun pins s σ H D I h => h pins s I⟩
theorem le_ss {st : List Stmt} {t : TS} {D : Ends} {σ : St} {H : Hp} (h : PSs X st t) (q : t D σ H) : tSs X st D σ H := fun pins s I => h.run pins s σ H D I q
end

/-! ### data that stands -/
mutual
inductive Dq (H : Hp) : V → PyData → Prop
  | non : Dq H .non .none
  | bl (b : Bool) : Dq H (.bl b) (.bool b)
  | int (i : Int) : Dq H (.int i) (.int i)
  | str (x : Str) : Dq H (.str x) (.str x)
  | lst {a : Addr} {xs : List V} {ds : List PyData} : Rd H a (.lst xs) → DqAll H xs ds → Dq H (.ref a) (.list ds)
  | tup {a : Addr} {xs : List V} {ds : List PyData} : Rd H a (.tup xs) → DqAll H xs ds → Dq H (.ref a) (.tuple ds)
inductive DqAll (H : Hp) : List V → List PyData → Prop
  | nil : DqAll H [] []
  | cons {v : V} {vs : List V} {d : PyData} {ds : List PyData} : Dq H v d → DqAll H vs ds → DqAll H (v :: vs) (d :: ds)
end
section
variable {K : PySem.W.Frag} {H H' : Hp}
theorem rd_mono {a : Addr} {u : HO} (e : Same H H') (h : Rd H a u) : Rd H' a u := by
  rcases h with h | ⟨o, h⟩
  · exact .inl (e _ _ h)
  · exact .inr ⟨o, e _ _ h⟩
mutual
theorem dp_mono (e : Same H H') : ∀ (d : PyData) (v : V), Dq H v d → Dq H' v d
  | .none, _, h => by cases h; exact .non
  | .bool _, _, h => by cases h; exact .bl _
  | .int _, _, h => by cases h; exact .int _
  | .str _, _, h => by cases h; exact .str _
  | .list ds, _, h => by
    cases h with
    | lst hs ha => exact .lst (rd_mono e hs) (dps_mono e ds _ ha)
  | .tuple ds, _, h => by
    cases h with
    | tup hs ha => exact .tup (rd_mono e hs) (dps_mono e ds _ ha)
  | .dict _, _, h => by cases h
theorem dps_mono (e : Same H H') : ∀ (ds : List PyData) (vs : List V), DqAll H vs ds → DqAll H' vs ds
  | [], _, h => by cases h; exact .nil
  | d :: ds, _, h => by
    cases h with
    | cons h1 h2 => exact .cons (dp_mono e d _ h1) (dps_mono e ds _ h2)
end
mutual
theorem dq_dp : ∀ (d : PyData) (v : V), Dq H v d → Dp K H v d
  | .none, _, h => by cases h; exact .non
  | .bool _, _, h => by cases h; exact .bl _
  | .int _, _, h => by cases h; exact .int _
  | .str _, _, h => by cases h; exact .str _
  | .list ds, _, h => by
    cases h with
    | lst hs ha => exact .lst (.inl hs) (dqs_dps ds _ ha)
  | .tuple ds, _, h => by
    cases h with
    | tup hs ha => exact .tup (.inl hs) (dqs_dps ds _ ha)
  | .dict _, _, h => by cases h
theorem dqs_dps : ∀ (ds : List PyData) (vs : List V), DqAll H vs ds → DpAll K H vs ds
  | [], _, h => by cases h; exact .nil
  | d :: ds, _, h => by
    cases h with
    | cons h1 h2 => exact .cons (dq_dp d _ h1) (dqs_dps ds _ h2)
end
theorem dps_len : ∀ {vs : List V} {ds : List PyData}, DqAll H vs ds → vs.length = ds.length
  | _, _, .nil => rfl
  | _, _, .cons _ t => congrArg (· + 1) (dps_len t)
theorem dps_get : ∀ {vs : List V} {ds : List PyData} {i : Nat} {d : PyData}, DqAll H vs ds → ds[i]? = some d → ∃ v, vs[i]? = some v ∧ Dq H v d
  | _, _, _, _, .nil, e => by simp at e
  | _, _, 0, _, .cons h _, e => ⟨_, rfl, Option.some.inj e ▸ h⟩
  | _, _, i + 1, _, .cons _ t, e => dps_get (i := i) t e
theorem dps_get' : ∀ {vs : List V} {ds : List PyData} {i : Nat} {v : V}, DqAll H vs ds → vs[i]? = some v → ∃ d, ds[i]? = some d ∧ Dq H v d
  | _, _, _, _, .nil, e => by simp at e
  | _, _, 0, _, .cons h _, e => ⟨_, rfl, Option.some.inj e ▸ h⟩
  | _, _, i + 1, _, .cons _ t, e => dps_get' (i := i) t e
theorem dps_app : ∀ {vs ws : List V} {ds es : List PyData}, DqAll H vs ds → DqAll H ws es → DqAll H (vs ++ ws) (ds ++ es)
  | _, _, _, _, .nil, s => s
  | _, _, _, _, .cons r t, s => .cons r (dps_app t s)
theorem dps_take : ∀ {vs : List V} {ds : List PyData} (n : Nat), DqAll H vs ds → DqAll H (vs.take n) (ds.take n)
  | _, _, 0, _ => .nil
  | _, _, _ + 1, .nil => .nil
  | _, _, n + 1, .cons r t => .cons r (dps_take n t)
theorem dps_drop : ∀ {vs : List V} {ds : List PyData} (n : Nat), DqAll H vs ds → DqAll H (vs.drop n) (ds.drop n)
  | _, _, 0, r => r
  | _, _, _ + 1, .nil => .nil
  | _, _, n + 1, .cons _ t => dps_drop n t
theorem dps_set {v : V} {d : PyData} (r : Dq H v d) : ∀ {vs : List V} {ds : List PyData} (i : Nat), DqAll H vs ds → DqAll H (vs.set i v) (ds.set i d)
  | _, _, _, .nil => .nil
  | _, _, 0, .cons _ t => .cons r t
  | _, _, i + 1, .cons q t => .cons q (dps_set r i t)
theorem dps_dropLast {vs : List V} {ds : List PyData} (h : DqAll H vs ds) : DqAll H vs.dropLast ds.dropLast := by
  rw [List.dropLast_eq_take, List.dropLast_eq_take, dps_len h]
  exact dps_take _ h
theorem dps_ints {ns : List Int} : ∀ {vs : List V}, DqAll H vs (ns.map .int) → vs = ns.map .int := by
  induction ns with
  | nil => intro vs h; cases h; rfl
  | cons n r ih =>
    intro vs h
    cases h with
    | cons h1 h2 =>
      cases h1
      rw [ih h2]
      rfl
theorem dps_of_ints (ns : List Int) : DqAll H (ns.map .int) (ns.map .int) := by
  induction ns with
  | nil => exact .nil
  | cons n r ih => exact .cons (.int n) ih
theorem dps_bls {bs : List Bool} : ∀ {vs : List V}, DqAll H vs (bs.map .bool) → vs = bs.map .bl := by
  induction bs with
  | nil => intro vs h; cases h; rfl
  | cons n r ih =>
    intro vs h
    cases h with
    | cons h1 h2 =>
      cases h1
      rw [ih h2]
      rfl
end

/-! ### what a name holds: data, or a list of its own -/
inductive SD where
  | val (d : PyData)
  | own (ds : List PyData)
  | any
abbrev En := List SD
inductive RD where
  | val (d : PyData)
  | own (ds : List PyData)
  | loc (i : Nat)

structure Cc (E : En) (ps : Nat → Addr) (σ : St) (Hf H : Hp) : Prop where
  sub : Same Hf H
  len : σ.length = E.length
  val : ∀ (i : Nat) (d : PyData), E[i]? = some (SD.val d) → ∃ v, σ[i]? = some (some v) ∧ Dq Hf v d
  own : ∀ (i : Nat) (ds : List PyData), E[i]? = some (SD.own ds) → σ[i]? = some (some (.ref (ps i))) ∧ Hf (ps i) = none ∧ ∃ vs, H (ps i) = some (.lst vs) ∧ DqAll Hf vs ds
  inj : ∀ (i j : Nat) (ds es : List PyData), E[i]? = some (SD.own ds) → E[j]? = some (SD.own es) → ps i = ps j → i = j

/-- a step of the heaps: Hf the part that never changes -/
structure Stp (E E' : En) (ps : Nat → Addr) (Hf H Hf' H' : Hp) : Prop where
  frz : Same Hf Hf'
  keep : ∀ p o, H p = some o → (∀ (i : Nat) (ds : List PyData), E[i]? = some (SD.own ds) → ps i ≠ p) → H' p = some o ∧ (Hf p = none → Hf' p = none)
  dom : ∀ p o, H p = some o → ∃ o', H' p = some o'
  own : ∀ (i : Nat) (ds : List PyData), E'[i]? = some (SD.own ds) → ∃ es, E[i]? = some (SD.own es)

/-- what v is; B the heap where its making began -/
def Rv (E : En) (ps : Nat → Addr) (B Hf H : Hp) (v : V) : RD → Prop
  | .val d => Dq Hf v d
  | .own ds => ∃ p vs, v = .ref p ∧ B p = none ∧ Hf p = none ∧ H p = some (.lst vs) ∧ DqAll Hf vs ds ∧ ∀ (i : Nat) (es : List PyData), E[i]? = some (SD.own es) → ps i ≠ p
  | .loc i => v = .ref (ps i) ∧ ∃ ds, E[i]? = some (SD.own ds)

/-- the list that r is -/
def sdO : Option SD → Option (List PyData)
  | some (.own ds) => some ds
  | _ => none
def lkL (E : En) : RD → Option (List PyData)
  | .val (.list ds) => some ds
  | .own ds => some ds
  | .loc i => sdO E[i]?
  | _ => none

section
variable {K : PySem.W.Frag} {E E' E1 E2 : En} {ps : Nat → Addr} {σ : St} {Hf H Hf' H' Hf1 H1 Hf2 H2 B : Hp} {v : V} {r : RD}
theorem Stp.refl : Stp E E ps Hf H Hf H := ⟨.refl _, fun _ _ h _ => ⟨h, fun q => q⟩, fun _ o h => ⟨o, h⟩, fun _ ds h => ⟨ds, h⟩⟩
theorem Stp.trans (a : Stp E E1 ps Hf H Hf1 H1) (b : Stp E1 E2 ps Hf1 H1 Hf2 H2) : Stp E E2 ps Hf H Hf2 H2 := by
  refine ⟨a.frz.trans b.frz, fun p o h n => ?_, fun p o h => ?_, fun i ds h => ?_⟩
  · obtain ⟨h1, f1⟩ := a.keep p o h n
    obtain ⟨h2, f2⟩ := b.keep p o h1 fun i ds e => by
      obtain ⟨es, e'⟩ := a.own i ds e
      exact n i es e'
    exact ⟨h2, fun q => f2 (f1 q)⟩
  · obtain ⟨o1, h1⟩ := a.dom p o h
    exact b.dom p o1 h1
  · obtain ⟨es, e⟩ := b.own i ds h
    exact a.own i es e
theorem Stp.back (a : Stp E E1 ps Hf H Hf1 H1) {p : Addr} (h : H1 p = none) : H p = none := by
  cases q : H p with
  | none => rfl
  | some o =>
    obtain ⟨o', h'⟩ := a.dom p o q
    rw [h] at h'
    cases h'
theorem Rv.step (a : Stp E1 E2 ps Hf1 H1 Hf2 H2) (ok : ∀ (i : Nat), r = .loc i → ∃ ds, E2[i]? = some (SD.own ds)) (h : Rv E1 ps B Hf1 H1 v r) : Rv E2 ps B Hf2 H2 v r := by
  cases r with
  | val d => exact dp_mono a.frz d v h
  | own ds =>
    obtain ⟨p, vs, e, b, f, l, q, n⟩ := h
    obtain ⟨l', f'⟩ := a.keep p _ l n
    exact ⟨p, vs, e, b, f' f, l', dps_mono a.frz _ _ q, fun i es z => by
      obtain ⟨es', z'⟩ := a.own i es z
      exact n i es' z'⟩
  | loc i => exact ⟨h.1, ok i rfl⟩
theorem Rv.list (c : Cc E ps σ Hf H) (h : Rv E ps B Hf H v r) {ds : List PyData} (l : lkL E r = some ds) : ∃ p vs, v = .ref p ∧ Rd H p (.lst vs) ∧ DqAll Hf vs ds := by
  cases r with
  | val d =>
    cases d with
    | list es =>
      obtain rfl := Option.some.inj l
      cases h with
      | lst hs ha => exact ⟨_, _, rfl, rd_mono c.sub hs, ha⟩
    | _ => cases l
  | own es =>
    obtain rfl := Option.some.inj l
    obtain ⟨p, vs, e, b, f, l, q, n⟩ := h
    exact ⟨p, vs, e, Rd.of l, q⟩
  | loc i =>
    obtain ⟨e, es, z⟩ := h
    have l' : some es = some ds := by
      have l2 : sdO E[i]? = some ds := l
      rw [z] at l2
      exact l2
    obtain rfl := Option.some.inj l'
    obtain ⟨_, _, vs, hv, hd⟩ := c.own i es z
    exact ⟨_, vs, e, Rd.of hv, hd⟩
theorem Cc.lt (c : Cc E ps σ Hf H) {i : Nat} {s : SD} (h : E[i]? = some s) : i < σ.length := by
  rw [c.len]
  exact (List.getElem?_eq_some_iff.mp h).1
/-- an address that nobody has -/
theorem Cc.none_ne (c : Cc E ps σ Hf H) {p : Addr} (h : H p = none) : ∀ (i : Nat) (ds : List PyData), E[i]? = some (SD.own ds) → ps i ≠ p := fun i ds e z => by
  obtain ⟨_, _, vs, hv, _⟩ := c.own i ds e
  rw [z, h] at hv
  cases hv
theorem Cc.frz_none (c : Cc E ps σ Hf H) {p : Addr} (h : H p = none) : Hf p = none := c.sub.free h
/-- the frozen part grows by a new object -/
theorem Cc.new (c : Cc E ps σ Hf H) {p : Addr} {o : HO} (h : H p = none) : Cc E ps σ (upd Hf p o) (upd H p o) := by
  have hf := c.frz_none h
  refine ⟨fun b x e => ?_, c.len, fun i d e => ?_, fun i ds e => ?_, c.inj⟩
  · by_cases hb : b = p
    · subst hb
      rw [upd_same] at e ⊢
      exact e
    · rw [upd_ne hb] at e ⊢
      exact c.sub b x e
  · obtain ⟨v, e1, e2⟩ := c.val i d e
    exact ⟨v, e1, dp_mono (fun b x q => by rw [upd_ne (ne_of_none q hf)]; exact q) d v e2⟩
  · obtain ⟨e1, e2, vs, e3, e4⟩ := c.own i ds e
    have ne := c.none_ne h i ds e
    exact ⟨e1, by rw [upd_ne ne]; exact e2, vs, by rw [upd_ne ne]; exact e3, dps_mono (fun b x q => by rw [upd_ne (ne_of_none q hf)]; exact q) _ _ e4⟩
theorem Stp.new (c : Cc E ps σ Hf H) {p : Addr} {o : HO} (h : H p = none) : Stp E E ps Hf H (upd Hf p o) (upd H p o) := by
  have hf := c.frz_none h
  refine ⟨fun b x q => by rw [upd_ne (ne_of_none q hf)]; exact q, fun q x e _ => ?_, fun q x e => ?_, fun _ ds h => ⟨ds, h⟩⟩
  · have ne := ne_of_none e h
    exact ⟨by rw [upd_ne ne]; exact e, fun z => by rw [upd_ne ne]; exact z⟩
  · exact ⟨x, by rw [upd_ne (ne_of_none e h)]; exact e⟩
/-- a new object that is not frozen -/
theorem Cc.newO (c : Cc E ps σ Hf H) {p : Addr} {o : HO} (h : H p = none) : Cc E ps σ Hf (upd H p o) := by
  have hf := c.frz_none h
  refine ⟨fun b x e => ?_, c.len, c.val, fun i ds e => ?_, c.inj⟩
  · rw [upd_ne (ne_of_none e hf)]
    exact c.sub b x e
  · obtain ⟨e1, e2, vs, e3, e4⟩ := c.own i ds e
    have ne := c.none_ne h i ds e
    exact ⟨e1, e2, vs, by rw [upd_ne ne]; exact e3, e4⟩
theorem Stp.newO (c : Cc E ps σ Hf H) {p : Addr} {o : HO} (h : H p = none) : Stp E E ps Hf H Hf (upd H p o) := by
  refine ⟨.refl _, fun q x e _ => ⟨by rw [upd_ne (ne_of_none e h)]; exact e, fun z => z⟩, fun q x e => ⟨x, by rw [upd_ne (ne_of_none e h)]; exact e⟩, fun _ ds h => ⟨ds, h⟩⟩
/-- an own list changes -/
theorem Cc.mut (c : Cc E ps σ Hf H) {i : Nat} {ds ds' : List PyData} {vs : List V} (e : E[i]? = some (SD.own ds)) (q : DqAll Hf vs ds') : Cc (E.set i (.own ds')) ps σ Hf (upd H (ps i) (.lst vs)) := by
  obtain ⟨e1, e2, ws, e3, e4⟩ := c.own i ds e
  have hi : i < E.length := (List.getElem?_eq_some_iff.mp e).1
  have get : ∀ (j : Nat) (s : SD), (E.set i (.own ds'))[j]? = some s → (j = i ∧ s = .own ds') ∨ (j ≠ i ∧ E[j]? = some s) := fun j s h => by
    by_cases hj : j = i
    · subst hj
      rw [List.getElem?_set_self hi] at h
      exact .inl ⟨rfl, (Option.some.inj h).symm⟩
    · rw [List.getElem?_set_ne (Ne.symm hj)] at h
      exact .inr ⟨hj, h⟩
  refine ⟨fun b x z => ?_, by rw [List.length_set]; exact c.len, fun j d h => ?_, fun j es h => ?_, fun j k es fs h1 h2 z => ?_⟩
  · have ne : b ≠ ps i := fun y => by rw [y, e2] at z; cases z
    rw [upd_ne ne]
    exact c.sub b x z
  · rcases get j _ h with ⟨_, h⟩ | ⟨_, h⟩
    · cases h
    · exact c.val j d h
  · rcases get j _ h with ⟨rfl, h'⟩ | ⟨hj, h⟩
    · cases h'
      exact ⟨e1, e2, vs, upd_same, q⟩
    · obtain ⟨f1, f2, us, f3, f4⟩ := c.own j es h
      have ne : ps j ≠ ps i := fun z => hj (c.inj j i es ds h e z)
      exact ⟨f1, f2, us, by rw [upd_ne ne]; exact f3, f4⟩
  · have own : ∀ (m : Nat) (gs : List PyData), (E.set i (.own ds'))[m]? = some (SD.own gs) → ∃ gs', E[m]? = some (SD.own gs') := fun m gs h => by
      rcases get m _ h with ⟨rfl, _⟩ | ⟨_, h⟩
      · exact ⟨ds, e⟩
      · exact ⟨gs, h⟩
    obtain ⟨_, h1⟩ := own j es h1
    obtain ⟨_, h2⟩ := own k fs h2
    exact c.inj j k _ _ h1 h2 z
theorem Stp.mut (c : Cc E ps σ Hf H) {i : Nat} {ds ds' : List PyData} {vs : List V} (e : E[i]? = some (SD.own ds)) : Stp E (E.set i (.own ds')) ps Hf H Hf (upd H (ps i) (.lst vs)) := by
  refine ⟨.refl _, fun p o h n => ⟨by rw [upd_ne (n i ds e).symm]; exact h, fun z => z⟩, fun p o h => ?_, fun j es h => ?_⟩
  · by_cases hp : p = ps i
    · subst hp
      exact ⟨_, upd_same⟩
    · exact ⟨o, by rw [upd_ne hp]; exact h⟩
  · by_cases hj : j = i
    · subst hj
      exact ⟨ds, e⟩
    · rw [List.getElem?_set_ne (Ne.symm hj)] at h
      exact ⟨es, h⟩
/-- an own list is frozen -/
theorem Cc.freeze (c : Cc E ps σ Hf H) {i : Nat} {ds : List PyData} (e : E[i]? = some (SD.own ds)) : ∃ Hf', Cc (E.set i (.val (.list ds))) ps σ Hf' H ∧ Stp E (E.set i (.val (.list ds))) ps Hf H Hf' H ∧ Dq Hf' (.ref (ps i)) (.list ds) := by
  obtain ⟨e1, e2, vs, e3, e4⟩ := c.own i ds e
  have hi : i < E.length := (List.getElem?_eq_some_iff.mp e).1
  have sm : Same Hf (upd Hf (ps i) (.lst vs)) := fun b x q => by rw [upd_ne (ne_of_none q e2)]; exact q
  have get : ∀ (j : Nat) (s : SD), (E.set i (.val (.list ds)))[j]? = some s → (j = i ∧ s = .val (.list ds)) ∨ (j ≠ i ∧ E[j]? = some s) := fun j s h => by
    by_cases hj : j = i
    · subst hj
      rw [List.getElem?_set_self hi] at h
      exact .inl ⟨rfl, (Option.some.inj h).symm⟩
    · rw [List.getElem?_set_ne (Ne.symm hj)] at h
      exact .inr ⟨hj, h⟩
  have dp : Dq (upd Hf (ps i) (.lst vs)) (.ref (ps i)) (.list ds) := .lst (Rd.of upd_same) (dps_mono sm _ _ e4)
  have own : ∀ (m : Nat) (gs : List PyData), (E.set i (.val (.list ds)))[m]? = some (SD.own gs) → m ≠ i ∧ E[m]? = some (SD.own gs) := fun m gs h => by
    rcases get m _ h with ⟨_, h⟩ | h
    · cases h
    · exact h
  refine ⟨upd Hf (ps i) (.lst vs), ⟨fun b x z => ?_, by rw [List.length_set]; exact c.len, fun j d h => ?_, fun j es h => ?_, fun j k es fs h1 h2 z => c.inj j k _ _ (own _ _ h1).2 (own _ _ h2).2 z⟩,
    ⟨sm, fun p o h n => ⟨h, fun z => by rw [upd_ne (n i ds e).symm]; exact z⟩, fun p o h => ⟨o, h⟩, fun j es h => ⟨es, (own _ _ h).2⟩⟩, dp⟩
  · by_cases hb : b = ps i
    · subst hb
      rw [upd_same] at z
      rw [e3]
      exact z
    · rw [upd_ne hb] at z
      exact c.sub b x z
  · rcases get j _ h with ⟨rfl, h'⟩ | ⟨_, h⟩
    · cases h'
      exact ⟨_, e1, dp⟩
    · obtain ⟨v, f1, f2⟩ := c.val j d h
      exact ⟨v, f1, dp_mono sm d v f2⟩
  · obtain ⟨hj, h⟩ := own _ _ h
    obtain ⟨f1, f2, us, f3, f4⟩ := c.own j es h
    have ne : ps j ≠ ps i := fun z => hj (c.inj j i es ds h e z)
    exact ⟨f1, by rw [upd_ne ne]; exact f2, us, f3, dps_mono sm _ _ f4⟩
/-- a fresh list is frozen -/
theorem Cc.frzNew (c : Cc E ps σ Hf H) {p : Addr} {vs : List V} {ds : List PyData} (f : Hf p = none) (l : H p = some (.lst vs)) (q : DqAll Hf vs ds) (n : ∀ (i : Nat) (es : List PyData), E[i]? = some (SD.own es) → ps i ≠ p) :
    ∃ Hf', Cc E ps σ Hf' H ∧ Same Hf Hf' ∧ (∀ b, b ≠ p → Hf b = none → Hf' b = none) ∧ Dq Hf' (.ref p) (.list ds) := by
  have sm : Same Hf (upd Hf p (.lst vs)) := fun b x z => by rw [upd_ne (ne_of_none z f)]; exact z
  refine ⟨upd Hf p (.lst vs), ⟨fun b x z => ?_, c.len, fun j d h => ?_, fun j es h => ?_, c.inj⟩, sm, fun b hb z => by rw [upd_ne hb]; exact z, .lst (Rd.of upd_same) (dps_mono sm _ _ q)⟩
  · by_cases hb : b = p
    · subst hb
      rw [upd_same] at z
      rw [l]
      exact z
    · rw [upd_ne hb] at z
      exact c.sub b x z
  · obtain ⟨v, f1, f2⟩ := c.val j d h
    exact ⟨v, f1, dp_mono sm d v f2⟩
  · obtain ⟨f1, f2, us, f3, f4⟩ := c.own j es h
    exact ⟨f1, by rw [upd_ne (n j es h)]; exact f2, us, f3, dps_mono sm _ _ f4⟩
end

/-! ### expressions -/
def EX (X : Cx) (e : Expr) (E E' : En) (r : RD) : Prop := ∀ ps σ Hf H, Cc E ps σ Hf H → ∀ Q : VK,
  (∀ v Hf' H', Stp E E' ps Hf H Hf' H' → Cc E' ps σ Hf' H' → Rv E' ps H Hf' H' v r → Q v H') → tO X e σ H Q
def ET (X : Cx) (e : Expr) (E E' : En) (b : Bool) : Prop := ∀ ps σ Hf H, Cc E ps σ Hf H → ∀ Q : Bool → Hp → Prop,
  (∀ Hf' H', Stp E E' ps Hf H Hf' H' → Cc E' ps σ Hf' H' → Q b H') → tT X e σ H Q
def EW (X : Cx) (e : Expr) (E E' : En) (b : Bool) : Prop := ∀ ps σ Hf H, Cc E ps σ Hf H → ∀ Q : Bool → Hp → Prop,
  (∀ Hf' H', Stp E E' ps Hf H Hf' H' → Cc E' ps σ Hf' H' → Q b H') → tW X e σ H Q
/-- arguments -/
def EA (X : Cx) (es : List Expr) (E E' : En) (rs : List RD) : Prop := ∀ ps σ Hf H, Cc E ps σ Hf H → ∀ Q : List V → Hp → Prop,
  (∀ vs Hf' H', Stp E E' ps Hf H Hf' H' → Cc E' ps σ Hf' H' → Paired (fun v r => Rv E' ps H Hf' H' v r) vs rs → Q vs H') → tA X es σ H Q
end L2.DL

namespace L2.DL
open PySem PySem.Spec PyProof.Rows
section
variable {X : Cx} {E E1 E2 E3 E4 : En} {a b e : Expr} {es : List Expr} {pos : Pos} {ra rb r : RD}

/-! ### freezing -/
theorem ex_frz_own {ds : List PyData} (h : EX X e E E1 (.own ds)) : EX X e E E1 (.val (.list ds)) := fun ps σ Hf H c Q q =>
  h ps σ Hf H c Q fun v Hf1 H1 st c1 r => by
    obtain ⟨p, vs, rfl, b, f, l, dq, n⟩ := r
    obtain ⟨Hf2, c2, sm, k, dp⟩ := c1.frzNew f l dq n
    refine q _ Hf2 H1 ⟨st.frz.trans sm, fun p' o h n' => ?_, st.dom, st.own⟩ c2 dp
    obtain ⟨h1, f1⟩ := st.keep p' o h n'
    exact ⟨h1, fun z => k p' (ne_of_none h b) (f1 z)⟩
theorem ex_frz_loc {i : Nat} {ds : List PyData} (h : EX X e E E1 (.loc i)) (l : E1[i]? = some (SD.own ds)) : EX X e E (E1.set i (.val (.list ds))) (.val (.list ds)) := fun ps σ Hf H c Q q =>
  h ps σ Hf H c Q fun v Hf1 H1 st c1 r => by
    obtain ⟨Hf2, c2, st2, dp⟩ := c1.freeze l
    obtain ⟨rfl, _⟩ := r
    exact q _ Hf2 H1 (st.trans st2) c2 dp

/-! ### names and constants -/
theorem ex_name (i : Nat) {x : Str} {d : PyData} (l : E[i]? = some (SD.val d)) (hN : X.N[i]? = some x) (hv : Vis X.env.scope x) (hd : (x == ("__debug__" : Str)) = false := by decide) (hcd : (x == ("__classdict__" : Str)) = false := by decide) :
    EX X (.Name x pos) E E (.val d) := fun ps σ Hf H c Q q => by
  obtain ⟨v, e1, e2⟩ := c.val i d l
  exact le_o (pe_var (i := i) hN hv hd hcd) ⟨v, e1, q v Hf H .refl c e2⟩
theorem ex_own (i : Nat) {x : Str} {ds : List PyData} (l : E[i]? = some (SD.own ds)) (hN : X.N[i]? = some x) (hv : Vis X.env.scope x) (hd : (x == ("__debug__" : Str)) = false := by decide) (hcd : (x == ("__classdict__" : Str)) = false := by decide) :
    EX X (.Name x pos) E E (.loc i) := fun ps σ Hf H c Q q =>
  le_o (pe_var (i := i) hN hv hd hcd) ⟨_, (c.own i ds l).1, q _ Hf H .refl c ⟨rfl, ds, l⟩⟩
theorem ex_int {i : Int} {j : Nat} : EX X (.Constant (.int i) j pos) E E (.val (.int i)) := fun ps σ Hf H c Q q => le_o pe_int (q _ Hf H .refl c (.int i))
theorem ex_bl {i : Bool} {j : Nat} : EX X (.Constant (.bool i) j pos) E E (.val (.bool i)) := fun ps σ Hf H c Q q => le_o pe_bl (q _ Hf H .refl c (.bl i))
theorem ex_non {j : Nat} : EX X (.Constant .none j pos) E E (.val .none) := fun ps σ Hf H c Q q => le_o pe_non (q _ Hf H .refl c .non)
theorem ex_str {x : Str} {j : Nat} : EX X (.Constant (.str x) j pos) E E (.val (.str x)) := fun ps σ Hf H c Q q => le_o pe_str (q _ Hf H .refl c (.str x))

/-! ### two in a row -/
/-- r lives through a step to E2 -/
def Live (E : En) : RD → Prop
  | .loc i => ∃ ds, E[i]? = some (SD.own ds)
  | _ => True
theorem Live.loc {E : En} {r : RD} (h : Live E r) : ∀ (i : Nat), r = .loc i → ∃ ds, E[i]? = some (SD.own ds) := fun i e => by
  subst e
  exact h
/-- a two-place operation: from values that stand for ra, rb to one that stands for z -/
structure Op2 (X : Cx) (f : Value → Value → Sem Value) (E : En) (ra rb : RD) (z : PyData) : Prop where
  run : ∃ r : R2, OpR X f r ∧ ∀ ps σ B Hf H va vb, Cc E ps σ Hf H → Rv E ps B Hf H va ra → Rv E ps B Hf H vb rb → ∀ Q : VK, (∀ v Hf' H', Stp E E ps Hf H Hf' H' → Cc E ps σ Hf' H' → Dq Hf' v z → Q v H') → r va vb H Q
/-- .. with a new list as its outcome -/
structure Op2L (X : Cx) (f : Value → Value → Sem Value) (E : En) (ra rb : RD) (zs : List PyData) : Prop where
  run : ∃ r : R2, OpR X f r ∧ ∀ ps σ B Hf H va vb, Cc E ps σ Hf H → Rv E ps B Hf H va ra → Rv E ps B Hf H vb rb → ∀ Q : VK, (∀ v Hf' H', Stp E E ps Hf H Hf' H' → Cc E ps σ Hf' H' → Rv E ps H Hf' H' v (.own zs) → Q v H') → r va vb H Q
theorem Rv.from {ps : Nat → Addr} {B B' Hf H : Hp} {v : V} {r : RD} (k : ∀ p, B p = none → B' p = none) (h : Rv E ps B Hf H v r) : Rv E ps B' Hf H v r := by
  cases r with
  | val d => exact h
  | own ds =>
    obtain ⟨p, vs, e, b, x⟩ := h
    exact ⟨p, vs, e, k p b, x⟩
  | loc i => exact h
theorem ex_two (ha : EX X a E E1 ra) (hb : EX X b E1 E2 rb) (lv : Live E2 ra) {ps : Nat → Addr} {σ : St} {Hf H : Hp} (c : Cc E ps σ Hf H) {R : V → V → Hp → Prop}
    (q : ∀ va vb Hf' H', Stp E E2 ps Hf H Hf' H' → Cc E2 ps σ Hf' H' → Rv E2 ps H Hf' H' va ra → Rv E2 ps H Hf' H' vb rb → R va vb H') : tO X a σ H fun va H1 => tO X b σ H1 fun vb H2 => R va vb H2 :=
  ha ps σ Hf H c _ fun va Hf1 H1 s1 c1 r1 => hb ps σ Hf1 H1 c1 _ fun vb Hf2 H2 s2 c2 r2 => q va vb Hf2 H2 (s1.trans s2) c2 (r1.step s2 lv.loc) (r2.from fun p z => s1.back z)
theorem ex_op {op : Operator} {z : PyData} (ho : Op2 X (binaryOp op) E2 ra rb z) (ha : EX X a E E1 ra) (hb : EX X b E1 E2 rb) (lv : Live E2 ra) : EX X (.BinOp a op b pos) E E2 (.val z) := fun ps σ Hf H c Q q => by
  obtain ⟨r, h1, h2⟩ := ho.run
  refine le_o (pe_op h1 pe_o pe_o) (ex_two ha hb lv c fun va vb Hf2 H2 st c2 r1 r2 => ?_)
  exact h2 ps σ H Hf2 H2 va vb c2 r1 r2 Q fun v Hf3 H3 s3 c3 d => q v Hf3 H3 (st.trans s3) c3 d
theorem ex_opL {op : Operator} {zs : List PyData} (ho : Op2L X (binaryOp op) E2 ra rb zs) (ha : EX X a E E1 ra) (hb : EX X b E1 E2 rb) (lv : Live E2 ra) : EX X (.BinOp a op b pos) E E2 (.own zs) := fun ps σ Hf H c Q q => by
  obtain ⟨r, h1, h2⟩ := ho.run
  refine le_o (pe_op h1 pe_o pe_o) (ex_two ha hb lv c fun va vb Hf2 H2 st c2 r1 r2 => ?_)
  exact h2 ps σ H Hf2 H2 va vb c2 r1 r2 Q fun v Hf3 H3 s3 c3 d => q v Hf3 H3 (st.trans s3) c3 (d.from fun p z => st.back z)
theorem ex_cmp {op : CmpOp} {z : PyData} (ho : Op2 X (compareOp op) E2 ra rb z) (ha : EX X a E E1 ra) (hb : EX X b E1 E2 rb) (lv : Live E2 ra) (hm : behindInMarks op b = false) : EX X (.Compare a [op] [b] pos) E E2 (.val z) := fun ps σ Hf H c Q q => by
  obtain ⟨r, h1, h2⟩ := ho.run
  refine le_o (pe_cmpR h1 pe_o pe_o hm) (ex_two ha hb lv c fun va vb Hf2 H2 st c2 r1 r2 => ?_)
  exact h2 ps σ H Hf2 H2 va vb c2 r1 r2 Q fun v Hf3 H3 s3 c3 d => q v Hf3 H3 (st.trans s3) c3 d
theorem et_cmp {op : CmpOp} {z : Bool} (ho : Op2 X (compareOp op) E2 ra rb (.bool z)) (ha : EX X a E E1 ra) (hb : EX X b E1 E2 rb) (lv : Live E2 ra) (hm : behindInMarks op b = false) : ET X (.Compare a [op] [b] pos) E E2 z := fun ps σ Hf H c Q q => by
  obtain ⟨r, h1, h2⟩ := ho.run
  refine le_t (pt_cmpR h1 pe_o pe_o hm) (ex_two ha hb lv c fun va vb Hf2 H2 st c2 r1 r2 => ?_)
  refine h2 ps σ H Hf2 H2 va vb c2 r1 r2 _ fun v Hf3 H3 s3 c3 d => ?_
  cases d
  exact ⟨z, rfl, q Hf3 H3 (st.trans s3) c3⟩

/-! ### operations on ints -/
theorem o2_I0 {f : Value → Value → Sem Value} {g : Int → Int → Int} (ho : OpR X f (rI0 fun i j => .int (g i j))) {i j : Int} : Op2 X f E (.val (.int i)) (.val (.int j)) (.int (g i j)) :=
  ⟨_, ho, fun ps σ B Hf H va vb c h1 h2 Q q => by cases h1; cases h2; exact ⟨i, j, rfl, rfl, q _ Hf H .refl c (.int _)⟩⟩
theorem o2_I {f : Value → Value → Sem Value} {C : Int → Int → Prop} {g : Int → Int → Int} (ho : OpR X f (rI C fun i j => .int (g i j))) {i j : Int} (hc : C i j) : Op2 X f E (.val (.int i)) (.val (.int j)) (.int (g i j)) :=
  ⟨_, ho, fun ps σ B Hf H va vb c h1 h2 Q q => by cases h1; cases h2; exact ⟨i, j, rfl, rfl, hc, q _ Hf H .refl c (.int _)⟩⟩
theorem o2_B0 {f : Value → Value → Sem Value} {g : Int → Int → Bool} (ho : OpR X f (rI0 fun i j => .bl (g i j))) {i j : Int} : Op2 X f E (.val (.int i)) (.val (.int j)) (.bool (g i j)) :=
  ⟨_, ho, fun ps σ B Hf H va vb c h1 h2 Q q => by cases h1; cases h2; exact ⟨i, j, rfl, rfl, q _ Hf H .refl c (.bl _)⟩⟩
theorem o_add {i j : Int} : Op2 X (binaryOp .Add) E (.val (.int i)) (.val (.int j)) (.int (i + j)) := o2_I0 op_add
theorem o_sub {i j : Int} : Op2 X (binaryOp .Sub) E (.val (.int i)) (.val (.int j)) (.int (i - j)) := o2_I0 op_sub
theorem o_mul {i j : Int} (h : CMulW i j) : Op2 X (binaryOp .Mult) E (.val (.int i)) (.val (.int j)) (.int (i * j)) := o2_I op_mulW h
theorem o_fdiv {i j : Int} (h : CDivW i j) : Op2 X (binaryOp .FloorDiv) E (.val (.int i)) (.val (.int j)) (.int (i / j)) := o2_I op_fdivW h
theorem o_mod {i j : Int} (h : 0 < j) : Op2 X (binaryOp .Mod) E (.val (.int i)) (.val (.int j)) (.int (i % j)) := o2_I op_mod h
theorem o_pow {i j : Int} (h : CPow i j) : Op2 X (binaryOp .Pow) E (.val (.int i)) (.val (.int j)) (.int (i ^ j.toNat)) := o2_I op_pow h
theorem o_lt {i j : Int} : Op2 X (compareOp .Lt) E (.val (.int i)) (.val (.int j)) (.bool (decide (i < j))) := o2_B0 op_lt
theorem o_le {i j : Int} : Op2 X (compareOp .LtE) E (.val (.int i)) (.val (.int j)) (.bool (decide (i ≤ j))) := o2_B0 op_le
theorem o_gt {i j : Int} : Op2 X (compareOp .Gt) E (.val (.int i)) (.val (.int j)) (.bool (decide (j < i))) := o2_B0 op_gt
theorem o_ge {i j : Int} : Op2 X (compareOp .GtE) E (.val (.int i)) (.val (.int j)) (.bool (decide (j ≤ i))) := o2_B0 op_ge
theorem dec_inj {i j : Int} : decide (V.int i = V.int j) = decide (i = j) := by
  rw [dec_int]
  exact Bool.beq_eq_decide_eq _ _
theorem o_eq {i j : Int} : Op2 X (compareOp .Eq) E (.val (.int i)) (.val (.int j)) (.bool (decide (i = j))) :=
  ⟨_, op_eq, fun ps σ B Hf H va vb c h1 h2 Q q => by cases h1; cases h2; exact ⟨rfl, q _ Hf H .refl c (by rw [dec_inj]; exact .bl _)⟩⟩
theorem o_ne {i j : Int} : Op2 X (compareOp .NotEq) E (.val (.int i)) (.val (.int j)) (.bool (!decide (i = j))) :=
  ⟨_, op_ne, fun ps σ B Hf H va vb c h1 h2 Q q => by cases h1; cases h2; exact ⟨rfl, q _ Hf H .refl c (by rw [dec_inj]; exact .bl _)⟩⟩
theorem o_eqB {i j : Bool} : Op2 X (compareOp .Eq) E (.val (.bool i)) (.val (.bool j)) (.bool (decide (i = j))) :=
  ⟨_, op_eq, fun ps σ B Hf H va vb c h1 h2 Q q => by cases h1; cases h2; exact ⟨rfl, q _ Hf H .refl c (by rw [dec_bl, Bool.beq_eq_decide_eq]; exact .bl _)⟩⟩
theorem o_neB {i j : Bool} : Op2 X (compareOp .NotEq) E (.val (.bool i)) (.val (.bool j)) (.bool (!decide (i = j))) :=
  ⟨_, op_ne, fun ps σ B Hf H va vb c h1 h2 Q q => by cases h1; cases h2; exact ⟨rfl, q _ Hf H .refl c (by rw [dec_bl, Bool.beq_eq_decide_eq]; exact .bl _)⟩⟩
theorem o_eqS {i j : Str} : Op2 X (compareOp .Eq) E (.val (.str i)) (.val (.str j)) (.bool (decide (i = j))) :=
  ⟨_, op_eq, fun ps σ B Hf H va vb c h1 h2 Q q => by cases h1; cases h2; exact ⟨rfl, q _ Hf H .refl c (by rw [dec_str, Bool.beq_eq_decide_eq]; exact .bl _)⟩⟩
theorem o_neS {i j : Str} : Op2 X (compareOp .NotEq) E (.val (.str i)) (.val (.str j)) (.bool (!decide (i = j))) :=
  ⟨_, op_ne, fun ps σ B Hf H va vb c h1 h2 Q q => by cases h1; cases h2; exact ⟨rfl, q _ Hf H .refl c (by rw [dec_str, Bool.beq_eq_decide_eq]; exact .bl _)⟩⟩
/-- what r is, as data -/
def lkD (E : En) : RD → Option PyData
  | .val d => some d
  | .own ds => some (.list ds)
  | .loc i => (sdO E[i]?).map .list
theorem Rv.dp {K : PySem.W.Frag} {ps : Nat → Addr} {σ : St} {B Hf H : Hp} {v : V} (c : Cc E ps σ Hf H) (h : Rv E ps B Hf H v r) {d : PyData} (l : lkD E r = some d) : Dp K H v d := by
  cases r with
  | val d' =>
    obtain rfl := Option.some.inj l
    exact dq_dp _ _ (dp_mono c.sub _ _ h)
  | own es =>
    obtain rfl := Option.some.inj l
    obtain ⟨p, vs, rfl, b, f, l, q, n⟩ := h
    exact .lst (SqL.of l) (dqs_dps _ _ (dps_mono c.sub _ _ q))
  | loc i =>
    obtain ⟨rfl, es, z⟩ := h
    have l' : some (PyData.list es) = some d := by
      have l2 : (sdO E[i]?).map PyData.list = some d := l
      rw [z] at l2
      exact l2
    obtain rfl := Option.some.inj l'
    obtain ⟨_, _, vs, hv, hd⟩ := c.own i es z
    exact .lst (SqL.of hv) (dqs_dps _ _ (dps_mono c.sub _ _ hd))
theorem o_eqD {d d' : PyData} (hu : X.A.units + 64 < cLine) (l1 : lkD E ra = some d) (l2 : lkD E rb = some d') (s1 : SeqAt.shaped d = true) (s2 : SeqAt.shaped d' = true) : Op2 X (compareOp .Eq) E ra rb (.bool (PyData.eqv d d')) :=
  ⟨_, op_eqD hu, fun ps σ B Hf H va vb c h1 h2 Q q => ⟨d, d', h1.dp c l1, h2.dp c l2, s1, s2, q _ Hf H .refl c (.bl _)⟩⟩
theorem o_neD {d d' : PyData} (hu : X.A.units + 64 < cLine) (l1 : lkD E ra = some d) (l2 : lkD E rb = some d') (s1 : SeqAt.shaped d = true) (s2 : SeqAt.shaped d' = true) : Op2 X (compareOp .NotEq) E ra rb (.bool (!PyData.eqv d d')) :=
  ⟨_, op_neD hu, fun ps σ B Hf H va vb c h1 h2 Q q => ⟨d, d', h1.dp c l1, h2.dp c l2, s1, s2, q _ Hf H .refl c (.bl _)⟩⟩
theorem dq_non {H : Hp} {v : V} {d : PyData} (h : Dq H v d) : decide (v = .non) = (match d with | .none => true | _ => false) := by
  cases h <;> rfl
def isNon : PyData → Bool
  | .none => true
  | _ => false
theorem dq_isNon {H : Hp} {v : V} {d : PyData} (h : Dq H v d) : decide (v = .non) = isNon d := by
  cases h <;> rfl
theorem o_isN {d : PyData} : Op2 X (compareOp .Is) E (.val d) (.val .none) (.bool (isNon d)) :=
  ⟨_, op_isN, fun ps σ B Hf H va vb c h1 h2 Q q => by cases h2; exact ⟨rfl, by rw [dq_isNon h1]; exact q _ Hf H .refl c (.bl _)⟩⟩
theorem o_notN {d : PyData} : Op2 X (compareOp .IsNot) E (.val d) (.val .none) (.bool (!isNon d)) :=
  ⟨_, op_notN, fun ps σ B Hf H va vb c h1 h2 Q q => by cases h2; exact ⟨rfl, by rw [dq_isNon h1]; exact q _ Hf H .refl c (.bl _)⟩⟩

/-! ### one place -/
theorem ex_neg {i : Int} (ha : EX X a E E1 (.val (.int i))) : EX X (.UnaryOp .USub a pos) E E1 (.val (.int (-i))) := fun ps σ Hf H c Q q =>
  le_o (pe_un un_neg pe_o) (ha ps σ Hf H c _ fun v Hf1 H1 s1 c1 r1 => by cases r1; exact ⟨i, rfl, q _ Hf1 H1 s1 c1 (.int _)⟩)
theorem ex_not {x : Bool} (ha : EX X a E E1 (.val (.bool x))) : EX X (.UnaryOp .Not a pos) E E1 (.val (.bool (!x))) := fun ps σ Hf H c Q q =>
  le_o (pe_not pe_o) (ha ps σ Hf H c _ fun v Hf1 H1 s1 c1 r1 => by cases r1; exact ⟨x, rfl, q _ Hf1 H1 s1 c1 (.bl _)⟩)

/-! ### tests -/
theorem et_val {x : Bool} (ha : EX X e E E1 (.val (.bool x))) (he : ∀ whole, isTrue e X.env whole = (do let v ← whole; standAt e.pos; holding [v] (truthy v)) := by intro _; rfl) : ET X e E E1 x := fun ps σ Hf H c Q q =>
  le_t (pt_val pe_o he) (ha ps σ Hf H c _ fun v Hf1 H1 s1 c1 r1 => by cases r1; exact ⟨x, rfl, q Hf1 H1 s1 c1⟩)
theorem et_not {x : Bool} (ha : ET X a E E1 x) : ET X (.UnaryOp .Not a pos) E E1 (!x) := fun ps σ Hf H c Q q =>
  le_t (pt_not pt_o) (ha ps σ Hf H c _ fun Hf1 H1 s1 c1 => q Hf1 H1 s1 c1)
/-- and, or: no test changes anything -/
theorem ew_and1 {x : Bool} (ha : ET X a E E x) : EW X (.BoolOp .And [a] pos) E E x := fun ps σ Hf H c Q q => le_w (pw_and1 pt_o) (ha ps σ Hf H c _ q)
theorem ew_or1 {x : Bool} (ha : ET X a E E x) : EW X (.BoolOp .Or [a] pos) E E x := fun ps σ Hf H c Q q => le_w (pw_or1 pt_o) (ha ps σ Hf H c _ q)
theorem ew_and {rest : List Expr} {x y : Bool} (ha : ET X a E E x) (hb : x = true → EW X (.BoolOp .And (b :: rest) pos) E E y) : EW X (.BoolOp .And (a :: b :: rest) pos) E E (x && y) := fun ps σ Hf H c Q q =>
  le_w (pw_and pt_o pw_o) (ha ps σ Hf H c _ fun Hf1 H1 s1 c1 => by
    cases x with
    | true => exact (show tW X _ σ H1 Q from hb rfl ps σ Hf1 H1 c1 Q fun Hf2 H2 s2 c2 => q Hf2 H2 (s1.trans s2) c2)
    | false => exact (show Q false H1 from q Hf1 H1 s1 c1))
theorem ew_or {rest : List Expr} {x y : Bool} (ha : ET X a E E x) (hb : x = false → EW X (.BoolOp .Or (b :: rest) pos) E E y) : EW X (.BoolOp .Or (a :: b :: rest) pos) E E (x || y) := fun ps σ Hf H c Q q =>
  le_w (pw_or pt_o pw_o) (ha ps σ Hf H c _ fun Hf1 H1 s1 c1 => by
    cases x with
    | true => exact (show Q true H1 from q Hf1 H1 s1 c1)
    | false => exact (show tW X _ σ H1 Q from hb rfl ps σ Hf1 H1 c1 Q fun Hf2 H2 s2 c2 => q Hf2 H2 (s1.trans s2) c2))
theorem et_w {x : Bool} (h : EW X e E E1 x) : ET X e E E1 x := fun ps σ Hf H c Q q => le_t pw_o.pt (h ps σ Hf H c Q q)
theorem ex_one {op : PySem.BoolOp} (ha : EX X a E E1 r) : EX X (.BoolOp op [a] pos) E E1 r := fun ps σ Hf H c Q q => le_o (pe_one pe_o) (ha ps σ Hf H c Q q)
theorem ex_and {rest : List Expr} {x y : Bool} (ha : EX X a E E (.val (.bool x))) (hb : x = true → EX X (.BoolOp .And (b :: rest) pos) E E (.val (.bool y))) : EX X (.BoolOp .And (a :: b :: rest) pos) E E (.val (.bool (x && y))) := fun ps σ Hf H c Q q =>
  le_o (pe_and pe_o pe_o) (ha ps σ Hf H c _ fun v Hf1 H1 s1 c1 r1 => by
    cases r1
    refine ⟨x, rfl, ?_⟩
    cases x with
    | true => exact (show tO X _ σ H1 Q from hb rfl ps σ Hf1 H1 c1 Q fun v Hf2 H2 s2 c2 r2 => q v Hf2 H2 (s1.trans s2) c2 r2)
    | false => exact (show Q (.bl false) H1 from q _ Hf1 H1 s1 c1 (.bl _)))
theorem ex_or {rest : List Expr} {x y : Bool} (ha : EX X a E E (.val (.bool x))) (hb : x = false → EX X (.BoolOp .Or (b :: rest) pos) E E (.val (.bool y))) : EX X (.BoolOp .Or (a :: b :: rest) pos) E E (.val (.bool (x || y))) := fun ps σ Hf H c Q q =>
  le_o (pe_or pe_o pe_o) (ha ps σ Hf H c _ fun v Hf1 H1 s1 c1 r1 => by
    cases r1
    refine ⟨x, rfl, ?_⟩
    cases x with
    | true => exact (show Q (.bl true) H1 from q _ Hf1 H1 s1 c1 (.bl _))
    | false => exact (show tO X _ σ H1 Q from hb rfl ps σ Hf1 H1 c1 Q fun v Hf2 H2 s2 c2 r2 => q v Hf2 H2 (s1.trans s2) c2 r2))
theorem ex_if {t : Expr} {x : Bool} {d d' : PyData} (ht : ET X t E E x) (ha : x = true → EX X a E E (.val d)) (hb : x = false → EX X b E E (.val d')) : EX X (.IfExp t a b pos) E E (.val (if x then d else d')) := fun ps σ Hf H c Q q =>
  le_o (pe_ifExp pt_o pe_o pe_o) (ht ps σ Hf H c _ fun Hf1 H1 s1 c1 => by
    cases x with
    | true => exact (show tO X a σ H1 Q from ha rfl ps σ Hf1 H1 c1 Q fun v Hf2 H2 s2 c2 r2 => q v Hf2 H2 (s1.trans s2) c2 r2)
    | false => exact (show tO X b σ H1 Q from hb rfl ps σ Hf1 H1 c1 Q fun v Hf2 H2 s2 c2 r2 => q v Hf2 H2 (s1.trans s2) c2 r2))
theorem ex_cast {d d' : PyData} (h : EX X e E E1 (.val d)) (q : d = d') : EX X e E E1 (.val d') := q ▸ h
theorem ex_castO {d d' : List PyData} (h : EX X e E E1 (.own d)) (q : d = d') : EX X e E E1 (.own d') := q ▸ h
theorem et_cast {x y : Bool} (h : ET X e E E1 x) (q : x = y) : ET X e E E1 y := q ▸ h

/-! ### arguments, displays -/
theorem ea_nil : EA X [] E E [] := fun ps σ Hf H c Q q => le_a pa_nil (q [] Hf H .refl c .nil)
theorem Paired.to {α β : Type} {F G : α → β → Prop} (k : ∀ a b, F a b → G a b) : ∀ {l₁ : List α} {l₂ : List β}, Paired F l₁ l₂ → Paired G l₁ l₂
  | _, _, .nil => .nil
  | _, _, .cons h t => .cons (k _ _ h) (Paired.to k t)
theorem ea_cons {rs : List RD} (h : EX X e E E1 r) (hs : EA X es E1 E2 rs) (lv : Live E2 r) (he : starEach (e :: es) X.env = (false, eval e X.env) :: starEach es X.env := by rfl) : EA X (e :: es) E E2 (r :: rs) := fun ps σ Hf H c Q q =>
  le_a (pa_cons pe_o pa_o he) (h ps σ Hf H c _ fun v Hf1 H1 s1 c1 r1 => hs ps σ Hf1 H1 c1 _ fun vs Hf2 H2 s2 c2 r2 =>
    q (v :: vs) Hf2 H2 (s1.trans s2) c2 (.cons (r1.step s2 lv.loc) (Paired.to (fun v r z => Rv.from (fun p y => s1.back y) z) r2)))
def vals : List RD → Option (List PyData)
  | [] => some []
  | .val d :: rs => (vals rs).map (d :: ·)
  | _ :: _ => none
theorem paired_vals {ps : Nat → Addr} {B Hf H : Hp} : ∀ {rs : List RD} {vs : List V} {ds : List PyData}, vals rs = some ds → Paired (fun v r => Rv E ps B Hf H v r) vs rs → DqAll Hf vs ds
  | [], _, _, e, h => by
    cases h
    cases e
    exact .nil
  | .val d :: rs, _, _, e, h => by
    cases h with
    | cons h t =>
      unfold vals at e
      obtain ⟨ds, e1, rfl⟩ := Option.map_eq_some_iff.mp e
      exact .cons h (paired_vals e1 t)
  | .own _ :: _, _, _, e, _ => by cases e
  | .loc _ :: _, _, _, e, _ => by cases e
theorem Paired.len {α β : Type} {F : α → β → Prop} : ∀ {l₁ : List α} {l₂ : List β}, Paired F l₁ l₂ → l₁.length = l₂.length
  | _, _, .nil => rfl
  | _, _, .cons _ t => congrArg (· + 1) (Paired.len t)
theorem ex_tuple {x1} {rs : List RD} {ds : List PyData} (h : EA X es E E1 rs) (hv : vals rs = some ds) (hl : ds.length ≤ 1000) : EX X (.Tuple es x1 pos) E E1 (.val (.tuple ds)) := fun ps σ Hf H c Q q =>
  le_o (pe_tup pa_o) (h ps σ Hf H c _ fun vs Hf1 H1 s1 c1 r1 => by
    have dq := paired_vals hv r1
    have hl2 := dps_len dq
    refine ⟨Nat.le_of_lt (small1000 (by omega)), fun p hp => ?_⟩
    have sm : Same Hf1 (upd Hf1 p (.tup vs)) := fun b x z => by rw [upd_ne (ne_of_none z (c1.frz_none hp))]; exact z
    exact q _ _ _ (s1.trans (.new c1 hp)) (c1.new hp) (.tup (.of upd_same) (dps_mono sm _ _ dq)))
theorem ex_list {rs : List RD} {ds : List PyData} (h : EA X es E E1 rs) (hv : vals rs = some ds) (hl : ds.length ≤ 1000) : EX X (.List es pos) E E1 (.own ds) := fun ps σ Hf H c Q q =>
  le_o (pe_lst pa_o) (h ps σ Hf H c _ fun vs Hf1 H1 s1 c1 r1 => by
    have dq := paired_vals hv r1
    have hl2 := dps_len dq
    refine ⟨Nat.le_of_lt (small1000 (by omega)), fun p hp => ?_⟩
    exact q _ _ _ (s1.trans (.newO c1 hp)) (c1.newO hp) ⟨p, vs, rfl, s1.back hp, c1.frz_none hp, upd_same, dq, c1.none_ne hp⟩)

/-! ### items -/
theorem atI_dq {H : Hp} {vs : List V} {ds : List PyData} {k : Int} {d : PyData} (h : DqAll H vs ds) (l : atI ds k = some d) : ∃ v, atI vs k = some v ∧ Dq H v d := by
  unfold atI at l ⊢
  rw [dps_len h]
  cases e : ixN ds.length k with
  | none => rw [e] at l; cases l
  | some j =>
    rw [e] at l
    exact dps_get h l
theorem ex_ix {k : Int} {ds : List PyData} {d : PyData} (ha : EX X a E E1 ra) (hb : EX X b E1 E2 (.val (.int k))) (lv : Live E2 ra) (l : lkL E2 ra = some ds) (h : atI ds k = some d) (hs : PlainIx b := by exact fun _ _ => rfl) : EX X (.Subscript a b pos) E E2 (.val d) := fun ps σ Hf H c Q q =>
  le_o (pe_ix ix_list pe_o pe_o hs) (ex_two ha hb lv c fun va vb Hf2 H2 st c2 r1 r2 => by
    obtain ⟨p, vs, rfl, hl, dq⟩ := r1.list c2 l
    cases r2
    obtain ⟨v, e1, e2⟩ := atI_dq dq h
    exact ⟨p, vs, k, v, rfl, rfl, .inl hl, e1, q v Hf2 H2 st c2 e2⟩)
theorem ex_ixT {k : Int} {ds : List PyData} {d : PyData} (ha : EX X a E E1 (.val (.tuple ds))) (hb : EX X b E1 E2 (.val (.int k))) (h : atI ds k = some d) (hs : PlainIx b := by exact fun _ _ => rfl) : EX X (.Subscript a b pos) E E2 (.val d) := fun ps σ Hf H c Q q =>
  le_o (pe_ix ix_tup pe_o pe_o hs) (ex_two ha hb trivial c fun va vb Hf2 H2 st c2 r1 r2 => by
    cases r1 with
    | tup hl dq =>
      cases r2
      obtain ⟨v, e1, e2⟩ := atI_dq dq h
      exact ⟨_, _, k, v, rfl, rfl, .inl (rd_mono c2.sub hl), e1, q v Hf2 H2 st c2 e2⟩)

/-! ### slices of lists -/
def EO (X : Cx) (o : Option Expr) (E E' : En) (k : Option Int) : Prop := match o with
  | none => E' = E ∧ k = none
  | some e => ∃ i, k = some i ∧ EX X e E E' (.val (.int i))
theorem eo_none : EO X none E E none := ⟨rfl, rfl⟩
theorem eo_some {i : Int} (h : EX X e E E1 (.val (.int i))) : EO X (some e) E E1 (some i) := ⟨i, rfl, h⟩
theorem eo_to {o : Option Expr} {k : Option Int} (h : EO X o E E1 k) : ∃ t : TO, PO X o t ∧ ∀ ps σ Hf H, Cc E ps σ Hf H → ∀ Q : Option Int → Hp → Prop, (∀ Hf' H', Stp E E1 ps Hf H Hf' H' → Cc E1 ps σ Hf' H' → Q k H') → t σ H Q := by
  cases o with
  | none =>
    obtain ⟨rfl, rfl⟩ := h
    exact ⟨_, po_none, fun ps σ Hf H c Q q => q Hf H .refl c⟩
  | some e =>
    obtain ⟨i, rfl, h⟩ := h
    exact ⟨_, po_some pe_o, fun ps σ Hf H c Q q => h ps σ Hf H c _ fun v Hf1 H1 s1 c1 r1 => by cases r1; exact ⟨i, rfl, q Hf1 H1 s1 c1⟩⟩
def cutL {α : Type} (xs : List α) (lo hi : Option Int) : List α := (xs.drop (HT.sIx xs.length 0 lo)).take (HT.sIx xs.length xs.length hi - HT.sIx xs.length 0 lo)
theorem cutL_map {α β : Type} (f : α → β) (xs : List α) (lo hi : Option Int) : cutL (xs.map f) lo hi = (cutL xs lo hi).map f := by
  unfold cutL
  rw [List.length_map, List.map_take, List.map_drop]
theorem ex_slice {lo hi : Option Expr} {k1 k2 : Option Int} {ds : List PyData} {p2} (ha : EX X a E E1 ra) (h1 : EO X lo E1 E2 k1) (h2 : EO X hi E2 E3 k2) (lv1 : Live E2 ra) (lv2 : Live E3 ra) (l : lkL E3 ra = some ds) :
    EX X (.Subscript a (.Slice lo hi none p2) pos) E E3 (.own (cutL ds k1 k2)) := fun ps σ Hf H c Q q => by
  obtain ⟨t1, q1, w1⟩ := eo_to h1
  obtain ⟨t2, q2, w2⟩ := eo_to h2
  refine le_o (pe_slice sl_list pe_o q1 q2) (ha ps σ Hf H c _ fun v Hf1 H1 s1 c1 r1 => w1 ps σ Hf1 H1 c1 _ fun Hf2 H2 s2 c2 => w2 ps σ Hf2 H2 c2 _ fun Hf3 H3 s3 c3 => ?_)
  obtain ⟨p, vs, rfl, hl, dq⟩ := ((r1.step s2 lv1.loc).step s3 lv2.loc).list c3 l
  refine ⟨p, vs, rfl, .inl hl, fun p' hp => ?_⟩
  have st := (s1.trans s2).trans s3
  refine q _ _ _ (st.trans (.newO c3 hp)) (c3.newO hp) ⟨p', _, rfl, st.back hp, c3.frz_none hp, upd_same, ?_, c3.none_ne hp⟩
  unfold cutV cutL
  rw [dps_len dq]
  exact dps_take _ (dps_drop _ dq)

/-! ### list + list -/
theorem op_catR : OpR X (binaryOp .Add) (fun x y H Q => ∃ l b xs zs, x = .ref l ∧ y = .ref b ∧ Rd H l (.lst xs) ∧ Rd H b (.lst zs) ∧ xs.length + zs.length ≤ sizeLine ∧ ∀ p, H p = none → Q (.ref p) (upd H p (.lst (xs ++ zs)))) := by
  intro pins s σ H x y v u Q I rx ry h
  obtain ⟨l, b, xs, zs, rfl, rfl, hH, hB, hz, q⟩ := h
  cases rx
  cases ry
  obtain ⟨z, its, n, r, e⟩ := hH.ok I.hok
  obtain ⟨z2, its2, n2, r2, e2⟩ := hB.ok I.hok
  have hl := r.length
  have hl2 := r2.length
  refine PySem.P.add_list e e2 ?_ (by rw [List.size_toArray, List.size_toArray]; omega)
  have ea : its.toArray ++ its2.toArray = (its ++ its2).toArray := by simp
  rw [ea]
  exact ⟨.ref _, _, I.lnew (t' := s.toks) (r.append r2) (by rw [List.length_append]; omega), rfl, q _ I.fresh⟩
theorem o_cat {ds es : List PyData} (l1 : lkL E ra = some ds) (l2 : lkL E rb = some es) (hz : ds.length + es.length ≤ 1000000) : Op2L X (binaryOp .Add) E ra rb (ds ++ es) :=
  ⟨_, op_catR, fun ps σ B Hf H va vb c h1 h2 Q q => by
    obtain ⟨p, vs, rfl, hl, dq⟩ := h1.list c l1
    obtain ⟨p', vs', rfl, hl', dq'⟩ := h2.list c l2
    refine ⟨p, p', vs, vs', rfl, rfl, hl, hl', ?_, fun p2 hp => ?_⟩
    · rw [dps_len dq, dps_len dq']
      exact Nat.le_trans hz (by decide)
    · exact q _ _ _ (.newO c hp) (c.newO hp) ⟨p2, _, rfl, hp, c.frz_none hp, upd_same, dps_app dq dq', c.none_ne hp⟩⟩
end
end L2.DL

namespace L2.DL
open PySem PySem.Spec PyProof.Rows

/-! ### calls of what is built in -/
structure Ca (X : Cx) (f : Value) (E E' : En) (rs : List RD) (r : RD) : Prop where
  run : ∃ rr : List V → Hp → VK → Prop, CallR X f rr ∧ ∀ ps σ B Hf H vs, Cc E ps σ Hf H → Paired (fun v r => Rv E ps B Hf H v r) vs rs →
    ∀ Q : VK, (∀ v Hf' H', Stp E E' ps Hf H Hf' H' → Cc E' ps σ Hf' H' → Rv E' ps H Hf' H' v r → Q v H') → rr vs H Q
section
variable {X : Cx} {E E1 E2 E3 E4 : En} {a b e : Expr} {es : List Expr} {pos p : Pos} {ra rb r : RD} {rs : List RD} {x : Str} {idn T : String}
theorem ex_callB (h : EA X (e :: es) E E1 rs) (hc : Ca X (.builtin idn) E1 E2 rs r) (hg : Gl X x) (hm : X.mg x = none) (hv : bootBuiltins x = some (.builtin idn)) (hn : x ≠ "__name__" := by decide) (hdb : (x == ("__debug__" : Str)) = false := by decide)
    (he : starEach (e :: es) X.env = (false, eval e X.env) :: starEach es X.env := by rfl) (hpl : (backTo pos (starEach es X.env)).any (·.1) = false := by rfl) : EX X (.Call (.Name x p) (e :: es) [] pos) E E2 r := fun ps σ Hf H c Q q => by
  obtain ⟨rr, h1, h2⟩ := hc.run
  exact le_o (pe_callB h1 hg hm hv pa_o hn hdb he hpl) (h ps σ Hf H c _ fun vs Hf1 H1 s1 c1 r1 => h2 ps σ H Hf1 H1 vs c1 r1 Q fun v Hf2 H2 s2 c2 r2 => q v Hf2 H2 (s1.trans s2) c2 (r2.from fun p z => s1.back z))
theorem ex_callT (h : EA X (e :: es) E E1 rs) (hc : Ca X (.type T) E1 E2 rs r) (hg : Gl X x) (hm : X.mg x = none) (hv : bootBuiltins x = some (.type T)) (hn : x ≠ "__name__" := by decide) (hdb : (x == ("__debug__" : Str)) = false := by decide)
    (he : starEach (e :: es) X.env = (false, eval e X.env) :: starEach es X.env := by rfl) (hpl : (backTo pos (starEach es X.env)).any (·.1) = false := by rfl) : EX X (.Call (.Name x p) (e :: es) [] pos) E E2 r := fun ps σ Hf H c Q q => by
  obtain ⟨rr, h1, h2⟩ := hc.run
  exact le_o (pe_callTy h1 hg hm hv pa_o hn hdb he hpl) (h ps σ Hf H c _ fun vs Hf1 H1 s1 c1 r1 => h2 ps σ H Hf1 H1 vs c1 r1 Q fun v Hf2 H2 s2 c2 r2 => q v Hf2 H2 (s1.trans s2) c2 (r2.from fun p z => s1.back z))
theorem pr1 {ps : Nat → Addr} {B Hf H : Hp} {vs : List V} {r : RD} (h : Paired (fun v r => Rv E ps B Hf H v r) vs [r]) : ∃ v, vs = [v] ∧ Rv E ps B Hf H v r := by
  cases h with
  | cons h t => cases t; exact ⟨_, rfl, h⟩
theorem pr2 {ps : Nat → Addr} {B Hf H : Hp} {vs : List V} {r r' : RD} (h : Paired (fun v r => Rv E ps B Hf H v r) vs [r, r']) : ∃ v v', vs = [v, v'] ∧ Rv E ps B Hf H v r ∧ Rv E ps B Hf H v' r' := by
  cases h with
  | cons h t =>
    cases t with
    | cons h2 t => cases t; exact ⟨_, _, rfl, h, h2⟩
theorem ca_len {ds : List PyData} (l : lkL E r = some ds) : Ca X (.builtin "len") E E [r] (.val (.int (ds.length : Nat))) :=
  ⟨_, call_len_seq, fun ps σ B Hf H vs c h Q q => by
    obtain ⟨v, rfl, h1⟩ := pr1 h
    obtain ⟨p, vs, rfl, hl, dq⟩ := h1.list c l
    exact ⟨p, vs, rfl, .inl (.inl hl), by rw [dps_len dq]; exact q _ Hf H .refl c (.int _)⟩⟩
theorem ca_lenT {ds : List PyData} : Ca X (.builtin "len") E E [.val (.tuple ds)] (.val (.int (ds.length : Nat))) :=
  ⟨_, call_len_seq, fun ps σ B Hf H vs c h Q q => by
    obtain ⟨v, rfl, h1⟩ := pr1 h
    cases h1 with
    | tup hl dq => exact ⟨_, _, rfl, .inr (.inl (rd_mono c.sub hl)), by rw [dps_len dq]; exact q _ Hf H .refl c (.int _)⟩⟩
theorem ca_lenS {z : Str} (h : z.length ≤ 1000000) : Ca X (.builtin "len") E E [.val (.str z)] (.val (.int (z.length : Nat))) :=
  ⟨_, call_len_str, fun ps σ B Hf H vs c h' Q q => by
    obtain ⟨v, rfl, h1⟩ := pr1 h'
    cases h1
    exact ⟨z, rfl, Nat.le_trans h (by decide), q _ Hf H .refl c (.int _)⟩⟩
theorem ca_abs {i : Int} : Ca X (.builtin "abs") E E [.val (.int i)] (.val (.int (if i < 0 then -i else i))) :=
  ⟨_, call_abs, fun ps σ B Hf H vs c h' Q q => by
    obtain ⟨v, rfl, h1⟩ := pr1 h'
    cases h1
    exact ⟨i, rfl, q _ Hf H .refl c (.int _)⟩⟩
theorem ca_max2 (hc : X.calm = true) {i j : Int} : Ca X (.builtin "max") E E [.val (.int i), .val (.int j)] (.val (.int (if j > i then j else i))) :=
  ⟨_, call_max2 hc, fun ps σ B Hf H vs c h' Q q => by
    obtain ⟨v, v', rfl, h1, h2⟩ := pr2 h'
    cases h1
    cases h2
    exact ⟨i, j, rfl, q _ Hf H .refl c (.int _)⟩⟩
theorem ca_min2 (hc : X.calm = true) {i j : Int} : Ca X (.builtin "min") E E [.val (.int i), .val (.int j)] (.val (.int (if j < i then j else i))) :=
  ⟨_, call_min2 hc, fun ps σ B Hf H vs c h' Q q => by
    obtain ⟨v, v', rfl, h1, h2⟩ := pr2 h'
    cases h1
    cases h2
    exact ⟨i, j, rfl, q _ Hf H .refl c (.int _)⟩⟩
theorem ca_sum (hc : X.calm = true) {ns : List Int} (l : lkL E r = some (ns.map .int)) : Ca X (.builtin "sum") E E [r] (.val (.int ns.sum)) :=
  ⟨_, cr_sum hc, fun ps σ B Hf H vs c h Q q => by
    obtain ⟨v, rfl, h1⟩ := pr1 h
    obtain ⟨p, vs, rfl, hl, dq⟩ := h1.list c l
    rw [dps_ints dq] at hl
    exact ⟨p, ns, rfl, .inl hl, q _ Hf H .refl c (.int _)⟩⟩
theorem ca_min (hc : X.calm = true) {ns : List Int} {m : Int} (l : lkL E r = some (ns.map .int)) (h1 : m ∈ ns) (h2 : ∀ y ∈ ns, m ≤ y) : Ca X (.builtin "min") E E [r] (.val (.int m)) :=
  ⟨_, cr_min hc, fun ps σ B Hf H vs c h Q q => by
    obtain ⟨v, rfl, h3⟩ := pr1 h
    obtain ⟨p, vs, rfl, hl, dq⟩ := h3.list c l
    rw [dps_ints dq] at hl
    refine ⟨p, ns, rfl, .inl hl, List.length_pos_of_mem h1, fun m' g1 g2 => ?_⟩
    obtain rfl : m' = m := Int.le_antisymm (g2 m h1) (h2 m' g1)
    exact q _ Hf H .refl c (.int _)⟩
theorem ca_max (hc : X.calm = true) {ns : List Int} {m : Int} (l : lkL E r = some (ns.map .int)) (h1 : m ∈ ns) (h2 : ∀ y ∈ ns, y ≤ m) : Ca X (.builtin "max") E E [r] (.val (.int m)) :=
  ⟨_, cr_max hc, fun ps σ B Hf H vs c h Q q => by
    obtain ⟨v, rfl, h3⟩ := pr1 h
    obtain ⟨p, vs, rfl, hl, dq⟩ := h3.list c l
    rw [dps_ints dq] at hl
    refine ⟨p, ns, rfl, .inl hl, List.length_pos_of_mem h1, fun m' g1 g2 => ?_⟩
    obtain rfl : m' = m := Int.le_antisymm (h2 m' g1) (g2 m h1)
    exact q _ Hf H .refl c (.int _)⟩
theorem ca_all (hc : X.calm = true) {bs : List Bool} (l : lkL E r = some (bs.map .bool)) : Ca X (.builtin "all") E E [r] (.val (.bool (bs.all id))) :=
  ⟨_, cr_all hc, fun ps σ B Hf H vs c h Q q => by
    obtain ⟨v, rfl, h1⟩ := pr1 h
    obtain ⟨p, vs, rfl, hl, dq⟩ := h1.list c l
    rw [dps_bls dq] at hl
    exact ⟨p, bs, rfl, .inl hl, q _ Hf H .refl c (.bl _)⟩⟩
theorem ca_any (hc : X.calm = true) {bs : List Bool} (l : lkL E r = some (bs.map .bool)) : Ca X (.builtin "any") E E [r] (.val (.bool (bs.any id))) :=
  ⟨_, cr_any hc, fun ps σ B Hf H vs c h Q q => by
    obtain ⟨v, rfl, h1⟩ := pr1 h
    obtain ⟨p, vs, rfl, hl, dq⟩ := h1.list c l
    rw [dps_bls dq] at hl
    exact ⟨p, bs, rfl, .inl hl, q _ Hf H .refl c (.bl _)⟩⟩
theorem ca_list {ds : List PyData} (l : lkL E r = some ds) : Ca X (.type "list") E E [r] (.own ds) :=
  ⟨_, call_list_of, fun ps σ B Hf H vs c h Q q => by
    obtain ⟨v, rfl, h1⟩ := pr1 h
    obtain ⟨p, vs, rfl, hl, dq⟩ := h1.list c l
    exact ⟨p, vs, rfl, .inl (.inl hl), fun p' hp => q _ _ _ (.newO c hp) (c.newO hp) ⟨p', vs, rfl, hp, c.frz_none hp, upd_same, dq, c.none_ne hp⟩⟩⟩
theorem ca_listT {ds : List PyData} : Ca X (.type "list") E E [.val (.tuple ds)] (.own ds) :=
  ⟨_, call_list_of, fun ps σ B Hf H vs c h Q q => by
    obtain ⟨v, rfl, h1⟩ := pr1 h
    cases h1 with
    | tup hl dq => exact ⟨_, _, rfl, .inr (.inl (rd_mono c.sub hl)), fun p' hp => q _ _ _ (.newO c hp) (c.newO hp) ⟨p', _, rfl, hp, c.frz_none hp, upd_same, dq, c.none_ne hp⟩⟩⟩
theorem ca_tuple {ds : List PyData} (l : lkL E r = some ds) : Ca X (.type "tuple") E E [r] (.val (.tuple ds)) :=
  ⟨_, call_tuple_of, fun ps σ B Hf H vs c h Q q => by
    obtain ⟨v, rfl, h1⟩ := pr1 h
    obtain ⟨p, vs, rfl, hl, dq⟩ := h1.list c l
    refine ⟨p, vs, rfl, .inl ⟨.inl hl, fun p' hp => ?_⟩⟩
    have sm : Same Hf (upd Hf p' (.tup vs)) := fun b x z => by rw [upd_ne (ne_of_none z (c.frz_none hp))]; exact z
    exact q _ _ _ (.new c hp) (c.new hp) (.tup (.of upd_same) (dps_mono sm _ _ dq))⟩
theorem ca_intB {b : Bool} : Ca X (.type "int") E E [.val (.bool b)] (.val (.int (if b then 1 else 0))) :=
  ⟨_, call_int1, fun ps σ B Hf H vs c h Q q => by
    obtain ⟨v, rfl, h1⟩ := pr1 h
    cases h1
    exact .inr ⟨b, rfl, q _ Hf H .refl c (.int _)⟩⟩
theorem ca_str {i : Int} (hl : i.natAbs.log2 < 1920) : Ca X (.type "str") E E [.val (.int i)] (.val (.str (toString i))) :=
  ⟨_, call_str_int, fun ps σ B Hf H vs c h Q q => by
    obtain ⟨v, rfl, h1⟩ := pr1 h
    cases h1
    exact ⟨i, rfl, hl, q _ Hf H .refl c (.str _)⟩⟩

/-! ### in, not in: ints in a list -/
theorem flat_ints (ns : List Int) : (ns.map V.int).all flatV = true := by
  induction ns with
  | nil => rfl
  | cons n r ih => exact ih
theorem inV_ints (k : Int) (ns : List Int) : inV (.int k) (ns.map V.int) = decide (k ∈ ns) := by
  unfold inV
  induction ns with
  | nil => rfl
  | cons n r ih =>
    rw [List.map_cons, List.any_cons, ih]
    have e : eqV (.int n) (.int k) = decide (n = k) := by
      show (n == k) = decide (n = k)
      exact Bool.beq_eq_decide_eq _ _
    rw [e]
    by_cases h : n = k
    · subst h; simp
    · have h' : ¬ k = n := fun z => h z.symm
      simp [h, h']
theorem o_in {k : Int} {ns : List Int} (l : lkL E rb = some (ns.map .int)) : Op2 X (compareOp .In) E (.val (.int k)) rb (.bool (decide (k ∈ ns))) :=
  ⟨_, op_in_seq, fun ps σ B Hf H va vb c h1 h2 Q q => by
    cases h1
    obtain ⟨p, vs, rfl, hl, dq⟩ := h2.list c l
    rw [dps_ints dq] at hl
    refine ⟨p, _, rfl, .inl (.inl hl), rfl, flat_ints ns, ?_⟩
    show Q (.bl (inV _ _)) H
    rw [inV_ints]
    exact q _ Hf H .refl c (.bl _)⟩
theorem o_nin {k : Int} {ns : List Int} (l : lkL E rb = some (ns.map .int)) : Op2 X (compareOp .NotIn) E (.val (.int k)) rb (.bool (!decide (k ∈ ns))) :=
  ⟨_, op_notIn_seq, fun ps σ B Hf H va vb c h1 h2 Q q => by
    cases h1
    obtain ⟨p, vs, rfl, hl, dq⟩ := h2.list c l
    rw [dps_ints dq] at hl
    refine ⟨p, _, rfl, .inl (.inl hl), rfl, flat_ints ns, ?_⟩
    show Q (.bl (!inV _ _)) H
    rw [inV_ints]
    exact q _ Hf H .refl c (.bl _)⟩

/-! ### methods of own lists -/
theorem ex_append {i : Nat} {ds : List PyData} {d : PyData} {apos : Pos} (ha : EX X a E E1 (.loc i)) (hb : EX X b E1 E2 (.val d)) (l : E2[i]? = some (SD.own ds)) (hz : ds.length ≤ 1000000)
    (he : starEach [b] X.env = (false, eval b X.env) :: starEach [] X.env := by rfl)
    (ho : PE X (.Call (.Attribute a "append" apos) [b] [] pos) (tBM X.K "list" rAppend (tO X a) (tA X [b])) := by exact pe_bm PySem.F.plainAttrs_list PySem.F.slot_list_append PySem.F.type_list_append mt_append pe_o pa_o) :
    EX X (.Call (.Attribute a "append" apos) [b] [] pos) E (E2.set i (.own (ds ++ [d]))) (.val .none) := fun ps σ Hf H c Q q =>
  le_o ho (ha ps σ Hf H c _ fun v Hf1 H1 s1 c1 r1 => by
    obtain ⟨rfl, es, z⟩ := r1
    obtain ⟨_, _, ws, hw, _⟩ := c1.own i es z
    refine ⟨.inl ⟨rfl, _, .inl (.inl hw)⟩, ?_⟩
    refine (ea_cons (X := X) hb ea_nil trivial he) ps σ Hf1 H1 c1 _ fun vs Hf2 H2 s2 c2 r2 => ?_
    obtain ⟨v, rfl, h1⟩ := pr1 r2
    obtain ⟨_, e2, vs, hv, dq⟩ := c2.own i ds l
    refine ⟨_, vs, v, rfl, rfl, hv, ?_, ?_⟩
    · rw [dps_len dq]
      exact Nat.lt_of_le_of_lt hz (by decide)
    · exact q _ _ _ ((s1.trans s2).trans (.mut c2 l)) (c2.mut l (dps_app dq (.cons h1 .nil))) .non)
theorem ex_pop {i : Nat} {ds : List PyData} {d : PyData} {apos : Pos} (ha : EX X a E E1 (.loc i)) (l : E1[i]? = some (SD.own ds)) (hd : ds[ds.length - 1]? = some d)
    (ho : PE X (.Call (.Attribute a "pop" apos) [] [] pos) (tBM0 X.K "list" rPop (tO X a)) := by exact pe_bm0 PySem.F.plainAttrs_list PySem.F.slot_list_pop PySem.F.type_list_pop mt_pop pe_o) :
    EX X (.Call (.Attribute a "pop" apos) [] [] pos) E (E1.set i (.own ds.dropLast)) (.val d) := fun ps σ Hf H c Q q =>
  le_o ho (ha ps σ Hf H c _ fun v Hf1 H1 s1 c1 r1 => by
    obtain ⟨rfl, es, z⟩ := r1
    obtain ⟨_, e2, vs, hv, dq⟩ := c1.own i ds l
    obtain ⟨y, hy, dy⟩ := dps_get dq hd
    refine ⟨.inl ⟨rfl, _, .inl (.inl hv)⟩, _, vs, y, rfl, rfl, hv, by rw [dps_len dq]; exact hy, ?_⟩
    exact q _ _ _ (s1.trans (.mut c1 l)) (c1.mut l (dps_dropLast dq)) dy)
theorem ex_clear {i : Nat} {ds : List PyData} {apos : Pos} (ha : EX X a E E1 (.loc i)) (l : E1[i]? = some (SD.own ds))
    (ho : PE X (.Call (.Attribute a "clear" apos) [] [] pos) (tBM0 X.K "list" rClear (tO X a)) := by exact pe_bm0 PySem.F.plainAttrs_list PySem.F.slot_list_clear PySem.F.type_list_clear mt_clear pe_o) :
    EX X (.Call (.Attribute a "clear" apos) [] [] pos) E (E1.set i (.own [])) (.val .none) := fun ps σ Hf H c Q q =>
  le_o ho (ha ps σ Hf H c _ fun v Hf1 H1 s1 c1 r1 => by
    obtain ⟨rfl, es, z⟩ := r1
    obtain ⟨_, e2, vs, hv, dq⟩ := c1.own i ds l
    exact ⟨.inl ⟨rfl, _, .inl (.inl hv)⟩, _, vs, rfl, rfl, hv, q _ _ _ (s1.trans (.mut c1 l)) (c1.mut l .nil) .non⟩)
theorem ex_extend {i : Nat} {ds fs : List PyData} {apos : Pos} (ha : EX X a E E1 (.loc i)) (hb : EX X b E1 E2 (.own fs)) (l : E2[i]? = some (SD.own ds)) (hz : ds.length + fs.length ≤ 1000000)
    (he : starEach [b] X.env = (false, eval b X.env) :: starEach [] X.env := by rfl)
    (ho : PE X (.Call (.Attribute a "extend" apos) [b] [] pos) (tBM X.K "list" rExtend (tO X a) (tA X [b])) := by exact pe_bm PySem.F.plainAttrs_list PySem.F.slot_list_extend PySem.F.type_list_extend mt_extend pe_o pa_o) :
    EX X (.Call (.Attribute a "extend" apos) [b] [] pos) E (E2.set i (.own (ds ++ fs))) (.val .none) := fun ps σ Hf H c Q q =>
  le_o ho (ha ps σ Hf H c _ fun v Hf1 H1 s1 c1 r1 => by
    obtain ⟨rfl, es, z⟩ := r1
    obtain ⟨_, _, ws, hw, _⟩ := c1.own i es z
    refine ⟨.inl ⟨rfl, _, .inl (.inl hw)⟩, ?_⟩
    refine (ea_cons (X := X) hb ea_nil trivial he) ps σ Hf1 H1 c1 _ fun vs Hf2 H2 s2 c2 r2 => ?_
    obtain ⟨v, rfl, p, us, rfl, b, f, hu, dqu, n⟩ := pr1 r2
    obtain ⟨_, e2, vs, hv, dq⟩ := c2.own i ds l
    refine ⟨_, p, vs, us, rfl, rfl, hv, hu, ?_, ?_⟩
    · rw [dps_len dq, dps_len dqu]
      exact Nat.le_trans hz (by decide)
    · exact q _ _ _ ((s1.trans s2).trans (.mut c2 l)) (c2.mut l (dps_app dq dqu)) .non)

/-! ### targets -/
def setS : St → List Nat → List V → St
  | σ, j :: js, v :: vs => setS (σ.set j (some v)) js vs
  | σ, _, _ => σ
def setE : En → List Nat → List PyData → En
  | E, j :: js, d :: ds => setE (E.set j (.val d)) js ds
  | E, _, _ => E
structure TD (g : TG) (d : PyData) (js : List Nat) (es : List PyData) : Prop where
  run : ∀ (v : V) (σ : St) (Hf H : Hp) (Q : St → Hp → Prop), Same Hf H → Dq Hf v d → (∀ vs, DqAll Hf vs es → Q (setS σ js vs) H) → g v σ H Q
structure TDs (g : TGs) (ds : List PyData) (js : List Nat) (es : List PyData) : Prop where
  run : ∀ (us : List V) (σ : St) (Hf H : Hp) (Q : St → Hp → Prop), Same Hf H → DqAll Hf us ds → (∀ vs, DqAll Hf vs es → Q (setS σ js vs) H) → g us σ H Q
  len : js.length = es.length
theorem setS_app : ∀ {js js' : List Nat} {vs vs' : List V} {σ : St}, js.length = vs.length → setS σ (js ++ js') (vs ++ vs') = setS (setS σ js vs) js' vs'
  | [], _, [], _, _, _ => rfl
  | j :: js, _, v :: vs, _, σ, h => setS_app (js := js) (vs := vs) (Nat.succ.inj h)
theorem td_name (j : Nat) {d : PyData} : TD (gName j) d [j] [d] := ⟨fun v σ Hf H Q _ h q => q [v] (.cons h .nil)⟩
theorem tds_nil : TDs gNil [] [] [] := ⟨fun us σ Hf H Q _ h q => by cases h; exact ⟨rfl, q [] .nil⟩, rfl⟩
theorem tds_cons {t : TG} {u : TGs} {d : PyData} {ds es es' : List PyData} {js js' : List Nat} (h : TD t d js es) (hl : js.length = es.length) (hs : TDs u ds js' es') : TDs (gCons t u) (d :: ds) (js ++ js') (es ++ es') :=
  ⟨fun us σ Hf H Q sm hu q => by
    cases hu with
    | cons h1 h2 => exact ⟨_, _, rfl, h.run _ σ Hf H _ sm h1 fun vs d1 => hs.run _ _ Hf H _ sm h2 fun ws d2 => by
        rw [← setS_app (by rw [dps_len d1]; exact hl)]
        exact q _ (dps_app d1 d2)⟩, by rw [List.length_append, List.length_append, hl, hs.len]⟩
theorem td_tup {K : PySem.W.Frag} {u : TGs} {ds es : List PyData} {js : List Nat} {n : Nat} (h : TDs u ds js es) (hn : ds.length = n) : TD (gTup K n u) (.tuple ds) js es :=
  ⟨fun v σ Hf H Q sm hv q => by
    cases hv with
    | tup hl dq => exact ⟨_, _, rfl, .inl (rd_mono sm hl), by rw [dps_len dq]; exact hn, h.run _ σ Hf H Q sm dq q⟩⟩
theorem Cc.set {E : En} {ps : Nat → Addr} {σ : St} {Hf H : Hp} (c : Cc E ps σ Hf H) {j : Nat} {d : PyData} {v : V} (h : Dq Hf v d) : Cc (E.set j (.val d)) ps (σ.set j (some v)) Hf H := by
  have get : ∀ (k : Nat) (s : SD), (E.set j (.val d))[k]? = some s → (k = j ∧ s = .val d ∧ j < E.length) ∨ (k ≠ j ∧ E[k]? = some s) := fun k s h => by
    by_cases hk : k = j
    · subst hk
      by_cases hl : k < E.length
      · rw [List.getElem?_set_self hl] at h
        exact .inl ⟨rfl, (Option.some.inj h).symm, hl⟩
      · rw [List.getElem?_eq_none (by rw [List.length_set]; omega)] at h
        cases h
    · rw [List.getElem?_set_ne (Ne.symm hk)] at h
      exact .inr ⟨hk, h⟩
  have own : ∀ (m : Nat) (gs : List PyData), (E.set j (.val d))[m]? = some (SD.own gs) → m ≠ j ∧ E[m]? = some (SD.own gs) := fun m gs h => by
    rcases get m _ h with ⟨_, h, _⟩ | h
    · cases h
    · exact h
  refine ⟨c.sub, by rw [List.length_set, List.length_set]; exact c.len, fun k d' h' => ?_, fun k ds h' => ?_, fun k m es fs h1 h2 z => c.inj k m _ _ (own _ _ h1).2 (own _ _ h2).2 z⟩
  · rcases get k _ h' with ⟨rfl, h', hl⟩ | ⟨hk, h'⟩
    · cases h'
      exact ⟨v, by rw [List.getElem?_set_self (by rw [c.len]; exact hl)], h⟩
    · rw [List.getElem?_set_ne (Ne.symm hk)]
      exact c.val k d' h'
  · obtain ⟨hk, h'⟩ := own _ _ h'
    rw [List.getElem?_set_ne (Ne.symm hk)]
    exact c.own k ds h'
theorem Cc.setS {ps : Nat → Addr} {Hf H : Hp} : ∀ {js : List Nat} {es : List PyData} {vs : List V} {E : En} {σ : St}, Cc E ps σ Hf H → DqAll Hf vs es → Cc (setE E js es) ps (DL.setS σ js vs) Hf H
  | [], _, _, _, _, c, _ => c
  | j :: js, _, _, _, _, c, .nil => c
  | j :: js, _, _, _, _, c, .cons h t => Cc.setS (js := js) (c.set h) t
theorem own_setE : ∀ {js : List Nat} {es : List PyData} {E : En} {i : Nat} {ds : List PyData}, (setE E js es)[i]? = some (SD.own ds) → E[i]? = some (SD.own ds)
  | [], _, _, _, _, h => h
  | _ :: _, [], _, _, _, h => h
  | j :: js, e :: es, E, i, ds, h => by
    have h' := own_setE (js := js) (es := es) h
    by_cases hk : i = j
    · subst hk
      by_cases hl : i < E.length
      · rw [List.getElem?_set_self hl] at h'
        cases h'
      · rw [List.getElem?_eq_none (by rw [List.length_set]; omega)] at h'
        cases h'
    · rw [List.getElem?_set_ne (Ne.symm hk)] at h'
      exact h'

/-! ### what is walked -/
structure Wk (J : It) (items : List PyData) (Hf : Hp) : Prop where
  run : ∃ Y, Walk J items.length (fun H => Same Hf H) Y ∧ ∀ i H x H', Y i H x H' → ∃ d, items[i]? = some d ∧
    ((H' = H ∧ Dq Hf x d) ∨ ∃ T xs ds, x = .ref T ∧ H T = none ∧ H' = upd H T (.tup xs) ∧ d = .tuple ds ∧ DqAll Hf xs ds)
def EI (X : Cx) (tg iter : Expr) (E E' : En) (items : List PyData) : Prop := ∃ wi : TI, PI X tg iter wi ∧ ∀ ps σ Hf H, Cc E ps σ Hf H → ∀ R : It → Hp → Prop,
  (∀ J Hf' H', Stp E E' ps Hf H Hf' H' → Cc E' ps σ Hf' H' → Wk J items Hf' → R J H') → wi σ H R
variable {tg : Expr}
theorem dps_at {H : Hp} {vs : List V} {ds : List PyData} {i : Nat} {v : V} (h : DqAll H vs ds) (e : vs[i]? = some v) : ∃ d, ds[i]? = some d ∧ Dq H v d := dps_get' h e
theorem ei_list {ds : List PyData} (h : EX X e E E1 (.val (.list ds))) : EI X tg e E E1 ds :=
  ⟨_, pi_list pe_o, fun ps σ Hf H c R q => h ps σ Hf H c _ fun v Hf1 H1 s1 c1 r1 => by
    cases r1 with
    | lst hl dq =>
      rename_i p vs
      refine ⟨p, rfl, ⟨vs, .inl (rd_mono c1.sub hl)⟩, q _ Hf1 H1 s1 c1 ⟨YAt vs, ?_, fun i H x H' y => ?_⟩⟩
      · rw [← dps_len dq]
        exact (walk_list (K := X.K) (a := p) (xs := vs)).mono (fun H sm => .inl (rd_mono sm hl)) fun i H x H' _ _ y => y
      · obtain ⟨d, e1, e2⟩ := dps_at dq y.2
        exact ⟨d, e1, .inl ⟨y.1, e2⟩⟩⟩
theorem ei_tup {ds : List PyData} (h : EX X e E E1 (.val (.tuple ds))) : EI X tg e E E1 ds :=
  ⟨_, pi_tup pe_o, fun ps σ Hf H c R q => h ps σ Hf H c _ fun v Hf1 H1 s1 c1 r1 => by
    cases r1 with
    | tup hl dq =>
      rename_i p vs
      refine ⟨p, rfl, ⟨vs, .inl (rd_mono c1.sub hl)⟩, q _ Hf1 H1 s1 c1 ⟨YAt vs, ?_, fun i H x H' y => ?_⟩⟩
      · rw [← dps_len dq]
        exact (walk_tup (K := X.K) (a := p) (xs := vs)).mono (fun H sm => .inl (rd_mono sm hl)) fun i H x H' _ _ y => y
      · obtain ⟨d, e1, e2⟩ := dps_at dq y.2
        exact ⟨d, e1, .inl ⟨y.1, e2⟩⟩⟩
theorem map_at {α : Type} {n : Nat} {f : Nat → α} {i : Nat} (h : i < n) : ((List.range n).map f)[i]? = some (f i) := by
  rw [List.getElem?_map, List.getElem?_range h]
  rfl
theorem wk_range {lo : Int} {n : Nat} {Hf : Hp} : Wk (Itr lo n) ((List.range n).map fun i => .int (lo + (i : Nat))) Hf := by
  refine ⟨fun i H x H' => i < n ∧ H' = H ∧ x = .int (lo + i), ?_, fun i H x H' y => ⟨_, map_at y.1, .inl ⟨y.2.1, by rw [y.2.2]; exact .int _⟩⟩⟩
  rw [List.length_map, List.length_range]
  exact (walk_range (lo := lo) (n := n)).mono (fun _ _ => trivial) fun i H x H' hi _ y => ⟨hi, y⟩
theorem ei_range1 {n : Int} {p2 : Pos} (h : EX X a E E1 (.val (.int n))) (hn : n < 1000000000) (hg : Gl X "range") (hm : X.mg "range" = none) (h0 : -1000000000 < n := by omega) (hs : starEach [a] X.env = [(false, eval a X.env)] := by rfl) :
    EI X tg (.Call (.Name "range" p) [a] [] p2) E E1 ((List.range n.toNat).map fun i => .int (0 + (i : Nat))) :=
  ⟨_, pi_range1 hg hm pa_o hs, fun ps σ Hf H c R q => (ea_cons (X := X) h ea_nil trivial hs) ps σ Hf H c _ fun vs Hf1 H1 s1 c1 r1 => by
    obtain ⟨v, rfl, h1⟩ := pr1 r1
    cases h1
    exact ⟨n, rfl, by omega, by omega, q _ Hf1 H1 s1 c1 wk_range⟩⟩
theorem ei_range2 {n m : Int} {p2 : Pos} (ha : EX X a E E1 (.val (.int m))) (hb : EX X b E1 E2 (.val (.int n))) (hn : n < 1000000000 ∧ -1000000000 < m ∧ m < 1000000000 ∧ -1000000000 < n) (hg : Gl X "range") (hm : X.mg "range" = none)
    (hs : starEach [a, b] X.env = [(false, eval a X.env), (false, eval b X.env)] := by rfl) (hs2 : starEach [b] X.env = [(false, eval b X.env)] := by rfl) :
    EI X tg (.Call (.Name "range" p) [a, b] [] p2) E E2 ((List.range (n - m).toNat).map fun i => .int (m + (i : Nat))) :=
  ⟨_, pi_range2 hg hm pa_o hs hs2, fun ps σ Hf H c R q => (ea_cons (X := X) ha (ea_cons (X := X) hb ea_nil trivial hs2) trivial (hs.trans (by rw [hs2]))) ps σ Hf H c _ fun vs Hf1 H1 s1 c1 r1 => by
    obtain ⟨v, v', rfl, h1, h2⟩ := pr2 r1
    cases h1
    cases h2
    exact ⟨m, n, rfl, ⟨by omega, by omega, by omega, by omega⟩, q _ Hf1 H1 s1 c1 wk_range⟩⟩
/-- (i, item) for each item -/
def enumL (ds : List PyData) : List PyData := (List.range ds.length).map fun i => .tuple [.int (i : Nat), ds.getD i .none]
theorem enumL_at {ds : List PyData} {i : Nat} {d : PyData} (h : ds[i]? = some d) : (enumL ds)[i]? = some (.tuple [.int (i : Nat), d]) := by
  have hi := (List.getElem?_eq_some_iff.mp h).1
  unfold enumL
  rw [map_at hi, List.getD_eq_getElem?_getD, h]
  rfl
theorem ei_enum {ds : List PyData} {elts : List Expr} {kk : Nat} {tpos p2 : Pos} (h : EX X e E E1 (.val (.list ds))) (hg : Gl X "enumerate") (hm : X.mg "enumerate" = none) (hs : starEach [e] X.env = [(false, eval e X.env)] := by rfl) :
    EI X (.Tuple elts kk tpos) (.Call (.Name "enumerate" p) [e] [] p2) E E1 (enumL ds) :=
  ⟨_, pi_enum hg hm pa_o hs, fun ps σ Hf H c R q => (ea_cons (X := X) h ea_nil trivial hs) ps σ Hf H c _ fun vs Hf1 H1 s1 c1 r1 => by
    obtain ⟨v, rfl, h1⟩ := pr1 r1
    cases h1 with
    | lst hl dq =>
      rename_i p vs
      refine ⟨p, vs, rfl, .inl (rd_mono c1.sub hl), q _ Hf1 H1 s1 c1 ⟨_, (?_ : Walk _ _ _ (YPair (fun i => some (.int (i : Nat))) (fun i => vs[i]?))), fun i H x H' y => ?_⟩⟩
      · rw [show (enumL ds).length = vs.length by unfold enumL; rw [List.length_map, List.length_range, dps_len dq]]
        exact (walk_enum (K := X.K) (a := p) (xs := vs)).mono (fun H sm => .inl (rd_mono sm hl)) fun i H x H' _ _ y => y
      · obtain ⟨T, x, y, rfl, hT, rfl, e1, e2⟩ := y
        cases e1
        obtain ⟨d, f1, f2⟩ := dps_at dq e2
        exact ⟨_, enumL_at f1, .inr ⟨T, _, _, rfl, hT, rfl, rfl, .cons (.int _) (.cons f2 .nil)⟩⟩⟩
def zipL (ds es : List PyData) : List PyData := (List.range (min ds.length es.length)).map fun i => .tuple [ds.getD i .none, es.getD i .none]
theorem zipL_at {ds es : List PyData} {i : Nat} {d e : PyData} (h : ds[i]? = some d) (h' : es[i]? = some e) : (zipL ds es)[i]? = some (.tuple [d, e]) := by
  have hi := (List.getElem?_eq_some_iff.mp h).1
  have hj := (List.getElem?_eq_some_iff.mp h').1
  unfold zipL
  rw [map_at (by omega), List.getD_eq_getElem?_getD, h, List.getD_eq_getElem?_getD, h']
  rfl
theorem ei_zip {ds fs : List PyData} {elts : List Expr} {kk : Nat} {tpos p2 : Pos} (ha : EX X a E E1 (.val (.list ds))) (hb : EX X b E1 E2 (.val (.list fs))) (hg : Gl X "zip") (hm : X.mg "zip" = none)
    (hs : starEach [a, b] X.env = (false, eval a X.env) :: starEach [b] X.env := by rfl) (hs2 : starEach [b] X.env = (false, eval b X.env) :: starEach [] X.env := by rfl) (hpl : (backTo p2 (starEach [b] X.env)).any (·.1) = false := by rfl) :
    EI X (.Tuple elts kk tpos) (.Call (.Name "zip" p) [a, b] [] p2) E E2 (zipL ds fs) :=
  ⟨_, pi_zip hg hm pa_o hs hpl, fun ps σ Hf H c R q => (ea_cons (X := X) ha (ea_cons (X := X) hb ea_nil trivial hs2) trivial hs) ps σ Hf H c _ fun vs Hf1 H1 s1 c1 r1 => by
    obtain ⟨v, v', rfl, h1, h2⟩ := pr2 r1
    cases h1 with
    | lst hl dq =>
      cases h2 with
      | lst hl2 dq2 =>
        rename_i p vs p' vs'
        refine ⟨p, p', vs, vs', rfl, .inl (rd_mono c1.sub hl), .inl (rd_mono c1.sub hl2), q _ Hf1 H1 s1 c1 ⟨_, (?_ : Walk _ _ _ (YPair (fun i => vs[i]?) (fun i => vs'[i]?))), fun i H x H' y => ?_⟩⟩
        · exact (walk_zip (K := X.K) (a := p) (b := p') (xs := vs) (ys := vs') (by unfold zipL; rw [List.length_map, List.length_range, dps_len dq, dps_len dq2])).mono (fun H sm => ⟨.inl (rd_mono sm hl), .inl (rd_mono sm hl2)⟩) fun i H x H' _ _ y => y
        · obtain ⟨T, x, y, rfl, hT, rfl, e1, e2⟩ := y
          obtain ⟨d, f1, f2⟩ := dps_at dq e1
          obtain ⟨d', f1', f2'⟩ := dps_at dq2 e2
          exact ⟨_, zipL_at f1 f1', .inr ⟨T, _, _, rfl, hT, rfl, rfl, .cons f2 (.cons f2' .nil)⟩⟩⟩
theorem ei_str {z : Str} (h : EX X e E E1 (.val (.str z))) : EI X tg e E E1 (z.cps.toList.map fun c => .str ⟨#[c]⟩) :=
  ⟨_, pi_str pe_o, fun ps σ Hf H c R q => h ps σ Hf H c _ fun v Hf1 H1 s1 c1 r1 => by
    cases r1
    refine ⟨z, rfl, q _ Hf1 H1 s1 c1 ⟨_, (?_ : Walk _ _ _ (fun i H v H' => H' = H ∧ ∃ c, z.cps[i]? = some c ∧ v = .str ⟨#[c]⟩)), fun i H x H' y => ?_⟩⟩
    · rw [List.length_map, Array.length_toList]
      exact (walk_str (z := z)).mono (fun _ _ => trivial) fun i H x H' _ _ y => y
    · obtain ⟨rfl, c, e1, rfl⟩ := y
      refine ⟨.str ⟨#[c]⟩, ?_, .inl ⟨rfl, .str _⟩⟩
      rw [List.getElem?_map, Array.getElem?_toList, e1]
      rfl⟩
end
end L2.DL

namespace L2.DL
open PySem PySem.Spec PyProof.Rows
/-! ### comprehensions -/
def wipeE (E : En) : List Nat → En
  | [] => E
  | v :: vs => (wipeE E vs).set v .any
theorem wipe_get {σ : St} {i : Nat} : ∀ {vs : List Nat}, (wipe σ vs)[i]? = if i ∈ vs then (σ[i]?).map fun _ => none else σ[i]?
  | [] => by rw [if_neg (by simp)]; rfl
  | v :: vs => by
    unfold wipe
    by_cases h : v = i
    · subst h
      rw [if_pos List.mem_cons_self]
      by_cases hl : v < σ.length
      · rw [List.getElem?_set_self (by rw [wipe_length]; exact hl), List.getElem?_eq_getElem hl]
        rfl
      · rw [List.getElem?_eq_none (by rw [List.length_set, wipe_length]; omega), List.getElem?_eq_none (by omega)]
        rfl
    · rw [List.getElem?_set_ne h, wipe_get (vs := vs)]
      by_cases h2 : i ∈ vs
      · rw [if_pos h2, if_pos (List.mem_cons_of_mem _ h2)]
      · rw [if_neg h2, if_neg (by simp only [List.mem_cons, not_or]; exact ⟨fun e => h e.symm, h2⟩)]
theorem wipe_set {σ : St} {j : Nat} {x : Option V} {vs : List Nat} (h : j ∈ vs) : wipe (σ.set j x) vs = wipe σ vs := by
  refine List.ext_getElem? fun i => ?_
  rw [wipe_get, wipe_get]
  by_cases hi : i ∈ vs
  · rw [if_pos hi, if_pos hi]
    by_cases hj : j = i
    · subst hj
      by_cases hl : j < σ.length
      · rw [List.getElem?_set_self hl, List.getElem?_eq_getElem hl]
        rfl
      · rw [List.getElem?_eq_none (by rw [List.length_set]; omega), List.getElem?_eq_none (by omega)]
    · rw [List.getElem?_set_ne hj]
  · rw [if_neg hi, if_neg hi, List.getElem?_set_ne (fun e => hi (by rw [← e]; exact h))]
theorem wipe_setS {vs : List Nat} : ∀ {js : List Nat} {us : List V} {σ : St}, (∀ j ∈ js, j ∈ vs) → wipe (setS σ js us) vs = wipe σ vs
  | [], _, _, _ => rfl
  | _ :: _, [], _, _ => rfl
  | j :: js, u :: us, σ, h => by
    show wipe (setS (σ.set j (some u)) js us) vs = _
    rw [wipe_setS (js := js) fun k hk => h k (List.mem_cons_of_mem _ hk), wipe_set (h j List.mem_cons_self)]
theorem wipe_wipe {σ : St} {vs : List Nat} : wipe (wipe σ vs) vs = wipe σ vs := by
  refine List.ext_getElem? fun i => ?_
  rw [wipe_get, wipe_get]
  by_cases hi : i ∈ vs
  · rw [if_pos hi, if_pos hi]
    cases σ[i]? <;> rfl
  · rw [if_neg hi, if_neg hi]
section
variable {E E1 E2 : En} {ps : Nat → Addr} {σ : St} {Hf H Hf0 H0 : Hp}
theorem wipeE_get {i : Nat} {s : SD} : ∀ {vs : List Nat}, (wipeE E vs)[i]? = some s → s = .any ∨ (i ∉ vs ∧ E[i]? = some s)
  | [], h => .inr ⟨by simp, h⟩
  | v :: vs, h => by
    unfold wipeE at h
    by_cases hv : v = i
    · subst hv
      by_cases hl : v < (wipeE E vs).length
      · rw [List.getElem?_set_self hl] at h
        exact .inl (Option.some.inj h).symm
      · rw [List.getElem?_eq_none (by rw [List.length_set]; omega)] at h
        cases h
    · rw [List.getElem?_set_ne hv] at h
      rcases wipeE_get h with h | ⟨h1, h2⟩
      · exact .inl h
      · exact .inr ⟨by simp only [List.mem_cons, not_or]; exact ⟨fun e => hv e.symm, h1⟩, h2⟩
theorem wipeE_len : ∀ {vs : List Nat}, (wipeE E vs).length = E.length
  | [] => rfl
  | v :: vs => by unfold wipeE; rw [List.length_set, wipeE_len]
theorem Cc.wipe (c : Cc E ps σ Hf H) (vs : List Nat) : Cc (wipeE E vs) ps (L2.wipe σ vs) Hf H := by
  have own : ∀ (m : Nat) (gs : List PyData), (wipeE E vs)[m]? = some (SD.own gs) → m ∉ vs ∧ E[m]? = some (SD.own gs) := fun m gs h => by
    rcases wipeE_get h with h | h
    · cases h
    · exact h
  refine ⟨c.sub, by rw [wipe_length, wipeE_len]; exact c.len, fun i d h => ?_, fun i ds h => ?_, fun i j ds es h1 h2 z => c.inj i j _ _ (own _ _ h1).2 (own _ _ h2).2 z⟩
  · rcases wipeE_get h with h | ⟨h1, h2⟩
    · cases h
    · rw [wipe_get, if_neg h1]
      exact c.val i d h2
  · obtain ⟨h1, h2⟩ := own _ _ h
    rw [wipe_get, if_neg h1]
    exact c.own i ds h2
/-- back to the slots as they were: nothing is known of the wiped ones -/
theorem Cc.unwipe (c : Cc (wipeE E vs) ps (L2.wipe σ vs) Hf H) : Cc (wipeE E vs) ps σ Hf H := by
  refine ⟨c.sub, by rw [← c.len, wipe_length], fun i d h => ?_, fun i ds h => ?_, c.inj⟩
  · obtain ⟨v, e, q⟩ := c.val i d h
    exact ⟨v, (wipe_some e).1, q⟩
  · obtain ⟨e, q⟩ := c.own i ds h
    exact ⟨(wipe_some e).1, q⟩
theorem Stp.wipe (s : Stp E E1 ps Hf0 H0 Hf H) {vs : List Nat} : Stp E (wipeE E1 vs) ps Hf0 H0 Hf H := ⟨s.frz, s.keep, s.dom, fun i ds h => by
  rcases wipeE_get h with h | ⟨_, h⟩
  · cases h
  · exact s.own i ds h⟩
/-- an object that is neither frozen nor owned changes -/
theorem Cc.other (c : Cc E ps σ Hf H) {p : Addr} {o : HO} (hf : Hf p = none) (n : ∀ (i : Nat) (es : List PyData), E[i]? = some (SD.own es) → ps i ≠ p) : Cc E ps σ Hf (upd H p o) := by
  refine ⟨fun b x e => ?_, c.len, c.val, fun i ds e => ?_, c.inj⟩
  · rw [upd_ne (ne_of_none e hf)]
    exact c.sub b x e
  · obtain ⟨e1, e2, vs, e3, e4⟩ := c.own i ds e
    exact ⟨e1, e2, vs, by rw [upd_ne (n i ds e)]; exact e3, e4⟩
theorem Stp.other (s : Stp E E1 ps Hf0 H0 Hf H) {p : Addr} {o : HO} (h : H0 p = none) : Stp E E1 ps Hf0 H0 Hf (upd H p o) := by
  refine ⟨s.frz, fun q x e n => ?_, fun q x e => ?_, s.own⟩
  · obtain ⟨e1, e2⟩ := s.keep q x e n
    exact ⟨by rw [upd_ne (ne_of_none e h)]; exact e1, e2⟩
  · rw [upd_ne (ne_of_none e h)]
    exact s.dom q x e
end
def tTs (X : Cx) (ifs : List Expr) : TT := fun σ H Q => ∀ pins s, Inv X pins σ H s →
    wpAny (model X.prog X.w) X.A (forIn ifs true fun c r => if r = true then do let ok ← isTrue c X.env (eval c X.env); pure (ForInStep.yield ok) else pure (ForInStep.yield r)) (TP X pins σ Q) X.xe s
theorem pts_o {X : Cx} {ifs : List Expr} : PTs X ifs (tTs X ifs) := ⟨fun pins s σ H Q I h => h pins s I⟩
theorem le_ts {X : Cx} {ifs : List Expr} {t : TT} {σ : St} {H : Hp} {Q : Bool → Hp → Prop} (h : PTs X ifs t) (q : t σ H Q) : tTs X ifs σ H Q := fun pins s I => h.run pins s σ H Q I q
def ETs (X : Cx) (ifs : List Expr) (E : En) (b : Bool) : Prop := ∀ ps σ Hf H, Cc E ps σ Hf H → ∀ Q : Bool → Hp → Prop,
  (∀ Hf' H', Stp E E ps Hf H Hf' H' → Cc E ps σ Hf' H' → Q b H') → tTs X ifs σ H Q
theorem ets_nil {X : Cx} {E : En} : ETs X [] E true := fun ps σ Hf H c Q q => le_ts pts_nil (q Hf H .refl c)
theorem ets_one {X : Cx} {E : En} {e : Expr} {b : Bool} (h : ET X e E E b) : ETs X [e] E b := fun ps σ Hf H c Q q => le_ts (pts_one pt_o) (h ps σ Hf H c Q q)
section
variable {X : Cx} {E E1 E2 : En} {elt tg iter : Expr} {ifs : List Expr} {scope : Scope} {own : List (Str × Nat)} {pos : Pos} {g : TG} {items : List PyData}
/-- a property of every block of the comprehension -/
abbrev AllB (X : Cx) (scope : Scope) (P : Cx → Prop) : Prop := ∀ (s : Shared) (H : Hp) (C : Addr) (cl : List (Str × Addr)) (fp : List Addr), P (X.blk s H scope (compEnvC scope cl C X.env) fp)
structure LC (X : Cx) (scope : Scope) (vs : List Nat) (g : TG) (ifs : List Expr) (elt : Expr) (items : List PyData) (I : Nat → En) (res : Nat → List PyData) : Prop where
  r0 : res 0 = []
  small : ∀ i, (res i).length ≤ 1000000
  step : ∀ (i : Nat) (d : PyData), items[i]? = some d → ∃ js es b, TD g d js es ∧ (∀ j ∈ js, j ∈ vs) ∧ AllB X scope (fun Y => ETs Y ifs (setE (I i) js es) b) ∧
    (b = true → ∃ Ee y, AllB X scope (fun Y => EX Y elt (setE (I i) js es) Ee (.val y)) ∧ wipeE Ee vs = I (i + 1) ∧ res (i + 1) = res i ++ [y]) ∧
    (b = false → wipeE (setE (I i) js es) vs = I (i + 1) ∧ res (i + 1) = res i)
theorem Stp.setE {E E1 : En} {ps : Nat → Addr} {Hf H Hf0 H0 : Hp} (s : Stp E E1 ps Hf0 H0 Hf H) {js : List Nat} {es : List PyData} : Stp E (setE E1 js es) ps Hf0 H0 Hf H := ⟨s.frz, s.keep, s.dom, fun i ds h => s.own i ds (own_setE h)⟩
theorem lc_run {wi : TI} {vs : List Nat} {I : Nat → En} {res : Nat → List PyData} (hi : ∀ ps σ Hf H, Cc E ps σ Hf H → ∀ R : It → Hp → Prop, (∀ J Hf' H', Stp E E1 ps Hf H Hf' H' → Cc E1 ps σ Hf' H' → Wk J items Hf' → R J H') → wi σ H R)
    (h0 : wipeE E1 vs = I 0) (L : LC X scope vs g ifs elt items I res) {ps : Nat → Addr} {σ : St} {Hf H : Hp} (c : Cc E ps σ Hf H) {Q : VK}
    (q : ∀ v Hf' H', Stp E (wipeE (I items.length) vs) ps Hf H Hf' H' → Cc (wipeE (I items.length) vs) ps σ Hf' H' → Rv (wipeE (I items.length) vs) ps H Hf' H' v (.own (res items.length)) → Q v H') :
    tLc wi g (fun σ H Q => AllB X scope fun Y => tTs Y ifs σ H Q) (fun σ H Q => AllB X scope fun Y => tO Y elt σ H Q) vs σ H Q := by
  refine hi ps σ Hf H c _ fun J Hf1 H1 s1 c1 w => ?_
  obtain ⟨Y, wk, hy⟩ := w.run
  intro D hD
  have hD0 : H D = none := s1.back hD
  refine lc_it (g := g) (tt := fun σ H Q => AllB X scope fun Y => tTs Y ifs σ H Q) (te := fun σ H Q => AllB X scope fun Y => tO Y elt σ H Q) (vs := vs) (σ := σ) (H1 := H1) (D := D) (Qd := fun H => Q (.ref D) H) wk (fun i H' => ∃ Hf', Cc (I i) ps (wipe σ vs) Hf' H' ∧ Stp E (I i) ps Hf H Hf' H' ∧ Same Hf1 Hf' ∧ Rv (I i) ps H Hf' H' (.ref D) (.own (res i))) ?_ (fun i H' _ ⟨Hf', c', _, sm, _⟩ => sm.trans c'.sub) (fun i x H' H'' hlt ⟨Hf', c', s', sm, r'⟩ y => ?_) (fun H' ⟨Hf', c', s', sm, r'⟩ => ?_)
  · have c2 := (c1.newO (o := .lst []) hD).wipe vs
    rw [h0] at c2
    refine ⟨Hf1, c2, ?_, .refl _, D, [], rfl, hD0, c1.frz_none hD, upd_same, by rw [L.r0]; exact .nil, ?_⟩
    · rw [← h0]
      exact (s1.trans (.newO c1 hD)).wipe
    · intro i es z
      rw [← h0] at z
      rcases wipeE_get z with z | ⟨_, z⟩
      · cases z
      · exact c1.none_ne hD i es z
  · obtain ⟨d, hd, hc⟩ := hy i H' x H'' y
    obtain ⟨js, es, b, td, hjs, ht, h1, h2⟩ := L.step i d hd
    -- the item's heap
    obtain ⟨Hf2, c2, s2, sm2, r2, dx⟩ : ∃ Hf2, Cc (I i) ps (wipe σ vs) Hf2 H'' ∧ Stp E (I i) ps Hf H Hf2 H'' ∧ Same Hf1 Hf2 ∧ Rv (I i) ps H Hf2 H'' (.ref D) (.own (res i)) ∧ Dq Hf2 x d := by
      rcases hc with ⟨rfl, dx⟩ | ⟨T, xs, ds, rfl, hT, rfl, rfl, dxs⟩
      · exact ⟨Hf', c', s', sm, r', dp_mono sm _ _ dx⟩
      · have st : Stp (I i) (I i) ps Hf' H' (upd Hf' T (.tup xs)) (upd H' T (.tup xs)) := .new c' hT
        exact ⟨upd Hf' T (.tup xs), c'.new hT, s'.trans st, sm.trans st.frz, r'.step st (fun _ z => by cases z), .tup (.of upd_same) (dps_mono (sm.trans st.frz) _ _ dxs)⟩
    refine td.run x (wipe σ vs) Hf2 H'' _ c2.sub dx fun us hus => ?_
    have c3 := c2.setS (js := js) hus
    refine ⟨by rw [wipe_setS hjs, wipe_wipe], ?_⟩
    refine fun s H0 C cl fp => ht s H0 C cl fp ps _ Hf2 H'' c3 _ fun Hf3 H3 s3 c3' => ?_
    have s3' : Stp E (setE (I i) js es) ps Hf H Hf3 H3 := (s2.setE).trans s3
    have r2' : Rv (setE (I i) js es) ps H Hf2 H'' (.ref D) (.own (res i)) := by
      obtain ⟨p, ws, e, b, f, l, dq, n⟩ := r2
      exact ⟨p, ws, e, b, f, l, dq, fun k fs z => n k fs (own_setE z)⟩
    have r3 := r2'.step s3 (fun _ z => by cases z)
    cases b with
    | true =>
      obtain ⟨Ee, yv, he, hw, hr⟩ := h1 rfl
      refine (if_pos rfl).mpr ?_
      refine fun s H0 C cl fp => he s H0 C cl fp ps _ Hf3 H3 c3' _ fun v Hf4 H4 s4 c4 r4 => ?_
      have r5 := r3.step s4 (fun _ z => by cases z)
      have s5 := s3'.trans s4
      obtain ⟨p, acc, e, b, f, l, dq, n⟩ := r5
      obtain rfl := V.ref.inj e
      refine ⟨acc, l, ?_, Hf4, ?_, ?_, (sm2.trans s3.frz).trans s4.frz, D, _, rfl, b, f, upd_same, ?_, ?_⟩
      · rw [dps_len dq]
        exact Nat.lt_of_le_of_lt (L.small i) (by decide)
      · have c6 := (c4.other (o := .lst (acc ++ [v])) f n).wipe vs
        rw [hw, wipe_setS hjs, wipe_wipe] at c6
        exact c6
      · rw [← hw]
        exact (s5.other b).wipe
      · rw [hr]
        exact dps_app dq (.cons r4 .nil)
      · intro k fs z
        rw [← hw] at z
        rcases wipeE_get z with z | ⟨_, z⟩
        · cases z
        · exact n k fs z
    | false =>
      obtain ⟨hw, hr⟩ := h2 rfl
      refine (if_neg Bool.false_ne_true).mpr ?_
      have c6 := c3'.wipe vs
      rw [hw, wipe_setS hjs, wipe_wipe] at c6
      refine ⟨Hf3, c6, by rw [← hw]; exact s3'.wipe, sm2.trans s3.frz, ?_⟩
      obtain ⟨p, acc, e, b, f, l, dq, n⟩ := r3
      refine ⟨p, acc, e, b, f, l, by rw [hr]; exact dq, fun k fs z => ?_⟩
      rw [← hw] at z
      rcases wipeE_get z with z | ⟨_, z⟩
      · cases z
      · exact n k fs z
  · have c2 := (c'.wipe vs)
    rw [wipe_wipe] at c2
    refine q _ Hf' H' s'.wipe c2.unwipe ?_
    obtain ⟨p, acc, e, b, f, l, dq, n⟩ := r'
    refine ⟨p, acc, e, b, f, l, dq, fun k fs z => ?_⟩
    rcases wipeE_get z with z | ⟨_, z⟩
    · cases z
    · exact n k fs z
theorem ex_lc {I : Nat → En} {res : Nat → List PyData} (hc : X.calm = true) (hN : X.N.Nodup) (hi : EI X tg iter E E1 items) (ok : BlkOk X.N X.env.scope scope own) (hg : AllB X scope fun Y => PG Y tg g)
    (h0 : wipeE E1 (own.map (·.2)) = I 0) (L : LC X scope (own.map (·.2)) g ifs elt items I res) (hE : wipeE (I items.length) (own.map (·.2)) = E2) (hs : ∀ x, foldedSetIterable iter X.env x = pure x := by intro _; rfl) :
    EX X (.ListComp elt [⟨tg, iter, ifs, 0⟩] scope pos) E E2 (.own (res items.length)) := by
  obtain ⟨wi, h1, h2⟩ := hi
  subst hE
  exact fun ps σ Hf H c Q q => le_o (pe_lc hc hN h1 ok hg (tt := fun σ H Q => AllB X scope fun Y => tTs Y ifs σ H Q) (te := fun σ H Q => AllB X scope fun Y => tO Y elt σ H Q)
    (fun s H C cl fp => ⟨fun pins s' σ H' Q I h => h s H C cl fp pins s' I⟩) (fun s H C cl fp => ⟨fun pins s' σ H' Q I h => h s H C cl fp pins s' I⟩) hs) (lc_run h2 h0 L c q)
/-- nothing changes: over typed items -/
theorem lc_plain {α : Type} {vs : List Nat} (l : List α) (ι : α → PyData) (p : α → Bool) (y : α → PyData) (js : List Nat) (es : α → List PyData) (hz : l.length ≤ 1000000) (hjs : ∀ j ∈ js, j ∈ vs) (td : ∀ x ∈ l, TD g (ι x) js (es x)) (F : En)
    (hw : ∀ x ∈ l, wipeE (setE F js (es x)) vs = F)
    (ht : ∀ x ∈ l, AllB X scope fun Y => ETs Y ifs (setE F js (es x)) (p x)) (he : ∀ x ∈ l, p x = true → AllB X scope fun Y => EX Y elt (setE F js (es x)) (setE F js (es x)) (.val (y x))) :
    LC X scope vs g ifs elt (l.map ι) (fun _ => F) (fun i => ((l.take i).filter p).map y) where
  r0 := by rw [List.take_zero]; rfl
  small := fun i => by
    rw [List.length_map]
    refine Nat.le_trans (List.length_filter_le _ _) ?_
    rw [List.length_take]
    omega
  step := fun i d h => by
    rw [List.getElem?_map] at h
    obtain ⟨x, hx, rfl⟩ := Option.map_eq_some_iff.mp h
    have hm := List.mem_of_getElem? hx
    have tk : l.take (i + 1) = l.take i ++ [x] := by rw [List.take_add_one, hx]; rfl
    refine ⟨js, es x, p x, td x hm, hjs, ht x hm, fun hp => ⟨_, y x, he x hm hp, hw x hm, ?_⟩, fun hp => ⟨hw x hm, ?_⟩⟩
    · rw [tk, List.filter_append, List.map_append]
      simp [hp]
    · rw [tk, List.filter_append]
      simp [hp]
theorem ex_lc0 {α : Type} {F : En} (l : List α) {ι : α → PyData} (p : α → Bool) (y : α → PyData) (js : List Nat) (es : α → List PyData) (hc : X.calm = true) (hN : X.N.Nodup) (hi : EI X tg iter E E1 items) (hl : items = l.map ι) (ok : BlkOk X.N X.env.scope scope own) (hg : AllB X scope fun Y => PG Y tg g)
    (hz : l.length ≤ 1000000) (hjs : ∀ j ∈ js, j ∈ own.map (·.2)) (td : ∀ x ∈ l, TD g (ι x) js (es x)) (hF : wipeE E1 (own.map (·.2)) = F) (hF2 : wipeE F (own.map (·.2)) = F) (hw : ∀ x ∈ l, wipeE (setE F js (es x)) (own.map (·.2)) = F)
    (ht : ∀ x ∈ l, AllB X scope fun Y => ETs Y ifs (setE F js (es x)) (p x)) (he : ∀ x ∈ l, p x = true → AllB X scope fun Y => EX Y elt (setE F js (es x)) (setE F js (es x)) (.val (y x)))
    (hs : ∀ x, foldedSetIterable iter X.env x = pure x := by intro _; rfl) :
    EX X (.ListComp elt [⟨tg, iter, ifs, 0⟩] scope pos) E F (.own ((l.filter p).map y)) := by
  subst hl
  have h := ex_lc (I := fun _ => F) hc hN hi ok hg (pos := pos) hF (lc_plain l ι p y js es hz hjs td F hw ht he) hF2 hs
  rw [List.length_map, List.take_length] at h
  exact h
end
end L2.DL

namespace L2.DL
open PySem PySem.Spec PyProof.Rows
/-! ### what a def promises, in data -/
abbrev DSp := En → (RD → En → Prop) → Prop
def FD (P : DSp) (np : Nat) : Sp := fun vs H Q _ => vs.length = np ∧ ∃ ps Hf E, Cc E ps (vs.map some) Hf H ∧
  P E (fun r E' => ∀ v Hf' H', Stp E E' ps Hf H Hf' H' → Cc E' ps (vs.map some) Hf' H' → Rv E' ps H Hf' H' v r → Q v H')

/-! ### calls -/
def isVal : RD → Bool
  | .val _ => true
  | _ => false
/-- at most one argument is a list of one's own -/
def oneNV : List RD → Bool
  | [] => true
  | .val _ :: r => oneNV r
  | _ :: r => r.all isVal
def sdS : Option (List PyData) → SD
  | some ds => .own ds
  | none => .any
theorem sdS_val {o : Option (List PyData)} {d : PyData} (h : SD.val d = sdS o) : False := by cases o <;> cases h
def calS (E : En) : RD → SD
  | .val d => .val d
  | .own ds => .own ds
  | .loc i => sdS (sdO E[i]?)
def cal (E : En) (rs : List RD) : En := rs.map (calS E)
def bak (E : En) : List RD → En → En
  | .loc i :: _, s :: _ => E.set i s
  | _ :: rs, _ :: ss => bak E rs ss
  | _, _ => E
theorem oneNV_cases : ∀ {rs : List RD}, oneNV rs = true → (∀ (j : Nat) (r : RD), rs[j]? = some r → isVal r = true) ∨ ∃ j0 r0, rs[j0]? = some r0 ∧ isVal r0 = false ∧ ∀ (j : Nat) (r : RD), rs[j]? = some r → j ≠ j0 → isVal r = true
  | [], _ => .inl fun j r h => by simp at h
  | .val d :: rs, h => by
    rcases oneNV_cases (rs := rs) h with k | ⟨j0, r0, h1, h2, h3⟩
    · refine .inl fun j r e => ?_
      cases j with
      | zero => cases e; rfl
      | succ j => exact k j r e
    · refine .inr ⟨j0 + 1, r0, h1, h2, fun j r e ne => ?_⟩
      cases j with
      | zero => cases e; rfl
      | succ j => exact h3 j r e fun z => ne (by rw [z])
  | .own ds :: rs, h => .inr ⟨0, _, rfl, rfl, fun j r e ne => by
      cases j with
      | zero => exact absurd rfl ne
      | succ j => exact List.all_eq_true.mp (show rs.all isVal = true from h) r (List.mem_of_getElem? e)⟩
  | .loc i :: rs, h => .inr ⟨0, _, rfl, rfl, fun j r e ne => by
      cases j with
      | zero => exact absurd rfl ne
      | succ j => exact List.all_eq_true.mp (show rs.all isVal = true from h) r (List.mem_of_getElem? e)⟩
theorem bak_val {E : En} : ∀ {rs : List RD} {ss : En}, (∀ (j : Nat) (i : Nat), rs[j]? ≠ some (RD.loc i)) → bak E rs ss = E
  | [], _, _ => rfl
  | .val _ :: rs, [], _ => rfl
  | .val _ :: rs, _ :: ss, h => bak_val (rs := rs) (ss := ss) fun j i => h (j + 1) i
  | .own _ :: rs, [], _ => rfl
  | .own _ :: rs, _ :: ss, h => bak_val (rs := rs) (ss := ss) fun j i => h (j + 1) i
  | .loc i :: rs, _, h => absurd rfl (h 0 i)
theorem bak_loc {E : En} {i : Nat} {s : SD} : ∀ {rs : List RD} {ss : En} {j0 : Nat}, rs[j0]? = some (RD.loc i) → ss[j0]? = some s → (∀ (j : Nat) (r : RD), rs[j]? = some r → j ≠ j0 → isVal r = true) → bak E rs ss = E.set i s
  | [], _, _, h, _, _ => by simp at h
  | _ :: _, [], _, _, h, _ => by simp at h
  | r :: rs, s' :: ss, 0, h1, h2, _ => by
    cases h1
    cases h2
    rfl
  | .val _ :: rs, s' :: ss, j0 + 1, h1, h2, h3 => bak_loc (rs := rs) (ss := ss) (j0 := j0) h1 h2 fun j r e ne => h3 (j + 1) r e fun z => ne (Nat.succ.inj z)
  | .own _ :: rs, s' :: ss, j0 + 1, h1, h2, h3 => absurd (h3 0 _ rfl (by omega)) (by simp [isVal])
  | .loc _ :: rs, s' :: ss, j0 + 1, h1, h2, h3 => absurd (h3 0 _ rfl (by omega)) (by simp [isVal])
theorem paired_get {α β : Type} {F : α → β → Prop} : ∀ {l₁ : List α} {l₂ : List β} {j : Nat} {b : β}, Paired F l₁ l₂ → l₂[j]? = some b → ∃ a, l₁[j]? = some a ∧ F a b
  | _, _, _, _, .nil, h => by simp at h
  | _, _, 0, _, .cons h _, e => ⟨_, rfl, Option.some.inj e ▸ h⟩
  | _, _, j + 1, _, .cons _ t, e => paired_get (j := j) t e
def refOf : Option V → Addr
  | some (.ref p) => p
  | _ => 0
section
variable {E E1 E2 Ec : En} {ps psc : Nat → Addr} {σ : St} {B Hf H Hf1 H1 Hf2 H2 : Hp} {vs : List V} {rs : List RD}
theorem cal_get {j : Nat} {s : SD} (h : (cal E rs)[j]? = some s) : ∃ r, rs[j]? = some r ∧ s = calS E r := by
  unfold cal at h
  rw [List.getElem?_map] at h
  obtain ⟨r, e, rfl⟩ := Option.map_eq_some_iff.mp h
  exact ⟨r, e, rfl⟩
/-- the callee's beginning -/
theorem Cc.cal (c : Cc E ps σ Hf H) (hv : Paired (fun v r => Rv E ps B Hf H v r) vs rs) (h1 : oneNV rs = true) : Cc (cal E rs) (fun j => refOf vs[j]?) (vs.map some) Hf H := by
  refine ⟨c.sub, by unfold DL.cal; rw [List.length_map, List.length_map, Paired.len hv], fun j d h => ?_, fun j ds h => ?_, fun j k ds es h2 h3 _ => ?_⟩
  · obtain ⟨r, e, q⟩ := cal_get h
    obtain ⟨v, ev, rv⟩ := paired_get hv e
    cases r with
    | val d' =>
      cases q
      exact ⟨v, by rw [List.getElem?_map, ev]; rfl, rv⟩
    | own _ => cases q
    | loc i => exact (sdS_val q).elim
  · obtain ⟨r, e, q⟩ := cal_get h
    obtain ⟨v, ev, rv⟩ := paired_get hv e
    cases r with
    | val _ => cases q
    | own es =>
      cases q
      obtain ⟨p, ws, rfl, _, f, l, dq, _⟩ := rv
      refine ⟨by rw [List.getElem?_map, ev]; rfl, by rw [ev]; exact f, ws, by rw [ev]; exact l, dq⟩
    | loc i =>
      obtain ⟨rfl, es, z⟩ := rv
      have q' : SD.own ds = .own es := by
        have q2 : SD.own ds = sdS (sdO E[i]?) := q
        rw [z] at q2
        exact q2
      cases q'
      obtain ⟨_, f, ws, l, dq⟩ := c.own i _ z
      exact ⟨by rw [List.getElem?_map, ev]; rfl, by rw [ev]; exact f, ws, by rw [ev]; exact l, dq⟩
  · have nv : ∀ (m : Nat) (fs : List PyData), (DL.cal E rs)[m]? = some (SD.own fs) → ∃ r, rs[m]? = some r ∧ isVal r = false := fun m fs h => by
      obtain ⟨r, e, q⟩ := cal_get h
      refine ⟨r, e, ?_⟩
      cases r with
      | val _ => cases q
      | _ => rfl
    obtain ⟨r, e1, n1⟩ := nv j ds h2
    obtain ⟨r', e2, n2⟩ := nv k es h3
    rcases oneNV_cases h1 with a | ⟨j0, r0, _, _, a⟩
    · rw [a j r e1] at n1
      cases n1
    · by_cases hj : j = j0
      · by_cases hk : k = j0
        · rw [hj, hk]
        · rw [a k r' e2 hk] at n2
          cases n2
      · rw [a j r e1 hj] at n1
        cases n1
/-- whose address the callee may change -/
theorem cal_own (hv : Paired (fun v r => Rv E ps B Hf H v r) vs rs) {j : Nat} {ds : List PyData} (h : (cal E rs)[j]? = some (SD.own ds)) :
    (∃ i, rs[j]? = some (RD.loc i) ∧ refOf vs[j]? = ps i ∧ E[i]? = some (SD.own ds)) ∨ ((∃ es, rs[j]? = some (RD.own es)) ∧ B (refOf vs[j]?) = none ∧ ∀ (i : Nat) (es : List PyData), E[i]? = some (SD.own es) → ps i ≠ refOf vs[j]?) := by
  obtain ⟨r, e, q⟩ := cal_get h
  obtain ⟨v, ev, rv⟩ := paired_get hv e
  cases r with
  | val _ => cases q
  | own es =>
    obtain ⟨p, ws, rfl, b, f, l, dq, n⟩ := rv
    exact .inr ⟨⟨es, e⟩, by rw [ev]; exact b, by rw [ev]; exact n⟩
  | loc i =>
    obtain ⟨rfl, es, z⟩ := rv
    have q' : SD.own ds = .own es := by
      have q2 : SD.own ds = sdS (sdO E[i]?) := q
      rw [z] at q2
      exact q2
    cases q'
    exact .inl ⟨i, e, by rw [ev]; rfl, z⟩
theorem Cc.set_any {s : SD} (c : Cc E ps σ Hf H) {i : Nat} (hv : ∀ d, s = .val d → ∃ v, σ[i]? = some (some v) ∧ Dq Hf v d)
    (ho : ∀ ds, s = .own ds → (σ[i]? = some (some (.ref (ps i))) ∧ Hf (ps i) = none ∧ ∃ vs, H (ps i) = some (.lst vs) ∧ DqAll Hf vs ds) ∧ ∃ es, E[i]? = some (SD.own es)) : Cc (E.set i s) ps σ Hf H := by
  have get : ∀ (k : Nat) (t : SD), (E.set i s)[k]? = some t → (k = i ∧ t = s) ∨ (k ≠ i ∧ E[k]? = some t) := fun k t h => by
    by_cases hk : k = i
    · subst hk
      by_cases hl : k < E.length
      · rw [List.getElem?_set_self hl] at h
        exact .inl ⟨rfl, (Option.some.inj h).symm⟩
      · rw [List.getElem?_eq_none (by rw [List.length_set]; omega)] at h
        cases h
    · rw [List.getElem?_set_ne (Ne.symm hk)] at h
      exact .inr ⟨hk, h⟩
  have was : ∀ (k : Nat) (ds : List PyData), (E.set i s)[k]? = some (SD.own ds) → ∃ es, E[k]? = some (SD.own es) := fun k ds h => by
    rcases get k _ h with ⟨rfl, h'⟩ | ⟨_, h⟩
    · exact (ho ds h'.symm).2
    · exact ⟨ds, h⟩
  refine ⟨c.sub, by rw [List.length_set]; exact c.len, fun k d h => ?_, fun k ds h => ?_, fun k m ds es h1 h2 z => ?_⟩
  · rcases get k _ h with ⟨rfl, h'⟩ | ⟨_, h⟩
    · exact hv d h'.symm
    · exact c.val k d h
  · rcases get k _ h with ⟨rfl, h'⟩ | ⟨_, h⟩
    · exact (ho ds h'.symm).1
    · exact c.own k ds h
  · obtain ⟨_, h1⟩ := was k ds h1
    obtain ⟨_, h2⟩ := was m es h2
    exact c.inj k m _ _ h1 h2 z
/-- the caller behind the call -/
theorem Cc.bak (c : Cc E ps σ Hf H) (hB : ∀ p o, H p = some o → ∃ o', B p = some o' ∨ True) (hv : Paired (fun v r => Rv E ps B Hf H v r) vs rs) (h1 : oneNV rs = true)
    (st : Stp (DL.cal E rs) Ec (fun j => refOf vs[j]?) Hf H Hf2 H2) (c2 : Cc Ec (fun j => refOf vs[j]?) (vs.map some) Hf2 H2) : Cc (bak E rs Ec) ps σ Hf2 H2 ∧ ∀ (i : Nat) (ds : List PyData), (DL.bak E rs Ec)[i]? = some (SD.own ds) → ∃ es, E[i]? = some (SD.own es) := by
  have hlen : Ec.length = rs.length := by
    have := c2.len
    rw [List.length_map, Paired.len hv] at this
    exact this.symm
  -- what is not given to the callee is as it was
  have kept : ∀ (i : Nat) (ds : List PyData), E[i]? = some (SD.own ds) → (∀ j, rs[j]? ≠ some (RD.loc i)) → Hf2 (ps i) = none ∧ ∃ ws, H2 (ps i) = some (.lst ws) ∧ DqAll Hf2 ws ds := fun i ds e ni => by
    obtain ⟨_, f, ws, l, dq⟩ := c.own i ds e
    obtain ⟨l2, f2⟩ := st.keep (ps i) _ l fun j es hj => by
      rcases cal_own hv hj with ⟨k, e1, e2, e3⟩ | ⟨_, _, n⟩
      · intro z
        have : k = i := c.inj k i _ _ e3 e (e2.symm.trans z)
        subst this
        exact ni j e1
      · exact (n i ds e).symm
    exact ⟨f2 f, ws, l2, dps_mono st.frz _ _ dq⟩
  rcases oneNV_cases h1 with a | ⟨j0, r0, e0, n0, a⟩
  · have nl : ∀ (j i : Nat), rs[j]? ≠ some (RD.loc i) := fun j i z => by
      have := a j _ z
      cases this
    rw [bak_val nl]
    refine ⟨⟨c2.sub, c.len, fun i d h => ?_, fun i ds h => ⟨(c.own i ds h).1, kept i ds h fun j => nl j i⟩, c.inj⟩, fun i ds h => ⟨ds, h⟩⟩
    obtain ⟨v, e1, e2⟩ := c.val i d h
    exact ⟨v, e1, dp_mono st.frz _ _ e2⟩
  · cases r0 with
    | val _ => cases n0
    | own es =>
      have nl : ∀ (j i : Nat), rs[j]? ≠ some (RD.loc i) := fun j i z => by
        by_cases hj : j = j0
        · rw [hj, e0] at z
          cases z
        · have := a j _ z hj
          cases this
      rw [bak_val nl]
      refine ⟨⟨c2.sub, c.len, fun i d h => ?_, fun i ds h => ⟨(c.own i ds h).1, kept i ds h fun j => nl j i⟩, c.inj⟩, fun i ds h => ⟨ds, h⟩⟩
      obtain ⟨v, e1, e2⟩ := c.val i d h
      exact ⟨v, e1, dp_mono st.frz _ _ e2⟩
    | loc i0 =>
      have hj0 : j0 < Ec.length := by
        rw [hlen]
        exact (List.getElem?_eq_some_iff.mp e0).1
      rw [bak_loc e0 (List.getElem?_eq_getElem hj0) a]
      obtain ⟨v0, ev, rv⟩ := paired_get hv e0
      obtain ⟨rfl, fs, zf⟩ := rv
      have only : ∀ j i, rs[j]? = some (RD.loc i) → i = i0 := fun j i z => by
        by_cases hj : j = j0
        · rw [hj, e0] at z
          cases z
          rfl
        · have := a j _ z hj
          cases this
      -- the others, with slot i0 forgotten
      have base : Cc (E.set i0 .any) ps σ Hf2 H2 := by
        have get : ∀ (k : Nat) (t : SD), (E.set i0 .any)[k]? = some t → t = .any ∨ (k ≠ i0 ∧ E[k]? = some t) := fun k t h => by
          by_cases hk : k = i0
          · subst hk
            by_cases hl : k < E.length
            · rw [List.getElem?_set_self hl] at h
              exact .inl (Option.some.inj h).symm
            · rw [List.getElem?_eq_none (by rw [List.length_set]; omega)] at h
              cases h
          · rw [List.getElem?_set_ne (Ne.symm hk)] at h
            exact .inr ⟨hk, h⟩
        have was : ∀ (k : Nat) (ds : List PyData), (E.set i0 .any)[k]? = some (SD.own ds) → k ≠ i0 ∧ E[k]? = some (SD.own ds) := fun k ds h => by
          rcases get k _ h with h | h
          · cases h
          · exact h
        refine ⟨c2.sub, by rw [List.length_set]; exact c.len, fun k d h => ?_, fun k ds h => ?_, fun k m ds es h1 h2 z => c.inj k m _ _ (was _ _ h1).2 (was _ _ h2).2 z⟩
        · rcases get k _ h with h | ⟨_, h⟩
          · cases h
          · obtain ⟨v, e1, e2⟩ := c.val k d h
            exact ⟨v, e1, dp_mono st.frz _ _ e2⟩
        · obtain ⟨hk, h⟩ := was _ _ h
          exact ⟨(c.own k ds h).1, kept k ds h fun j z => hk (only j k z)⟩
      have own0 := c.own i0 fs zf
      have hs : (vs.map some)[j0]? = some (some (V.ref (ps i0))) := by
        rw [List.getElem?_map, ev]
        rfl
      have hp : refOf vs[j0]? = ps i0 := by rw [ev]; rfl
      have hset : E.set i0 Ec[j0] = (E.set i0 .any).set i0 Ec[j0] := by rw [List.set_set]
      refine ⟨?_, fun i ds h => ?_⟩
      · have get : ∀ (k : Nat) (t : SD), (E.set i0 Ec[j0])[k]? = some t → (k = i0 ∧ t = Ec[j0]) ∨ (k ≠ i0 ∧ (E.set i0 .any)[k]? = some t) := fun k t h => by
          by_cases hk : k = i0
          · subst hk
            by_cases hl : k < E.length
            · rw [List.getElem?_set_self hl] at h
              exact .inl ⟨rfl, (Option.some.inj h).symm⟩
            · rw [List.getElem?_eq_none (by rw [List.length_set]; omega)] at h
              cases h
          · rw [List.getElem?_set_ne (Ne.symm hk)] at h ⊢
            exact .inr ⟨hk, h⟩
        have ec : Ec[j0]? = some Ec[j0] := List.getElem?_eq_getElem hj0
        have was : ∀ (k : Nat) (ds : List PyData), (E.set i0 Ec[j0])[k]? = some (SD.own ds) → ∃ es, E[k]? = some (SD.own es) := fun k ds h => by
          rcases get k _ h with ⟨rfl, _⟩ | ⟨hk, h⟩
          · exact ⟨fs, zf⟩
          · rw [List.getElem?_set_ne (Ne.symm hk)] at h
            exact ⟨ds, h⟩
        refine ⟨base.sub, by rw [List.length_set]; exact c.len, fun k d h => ?_, fun k ds h => ?_, fun k m ds es h1 h2 z => ?_⟩
        · rcases get k _ h with ⟨rfl, h'⟩ | ⟨_, h⟩
          · obtain ⟨v, e1, e2⟩ := c2.val j0 d (by rw [ec, ← h'])
            rw [hs] at e1
            cases e1
            exact ⟨_, own0.1, e2⟩
          · exact base.val k d h
        · rcases get k _ h with ⟨rfl, h'⟩ | ⟨_, h⟩
          · obtain ⟨_, f, ws, l, dq⟩ := c2.own j0 ds (by rw [ec, ← h'])
            rw [hp] at f l
            exact ⟨own0.1, f, ws, l, dq⟩
          · exact base.own k ds h
        · obtain ⟨_, h1⟩ := was k ds h1
          obtain ⟨_, h2⟩ := was m es h2
          exact c.inj k m _ _ h1 h2 z
      · by_cases hi : i = i0
        · rw [hi]
          exact ⟨fs, zf⟩
        · rw [List.getElem?_set_ne (Ne.symm hi)] at h
          exact ⟨ds, h⟩
end
section
variable {X : Cx} {E E1 E2 Ec : En} {e : Expr} {es : List Expr} {pos p : Pos} {r : RD} {rs : List RD} {x : Str} {f : Addr} {fd : FuncData} {pn : List Str} {k np : Nat} {Pc : DSp}
def notLoc : RD → Bool
  | .loc _ => false
  | _ => true
/-- what comes of e is known by a property alone -/
def EXs (X : Cx) (e : Expr) (E : En) (Post : RD → En → Prop) : Prop := ∀ ps σ Hf H, Cc E ps σ Hf H → ∀ Q : VK,
  (∀ r E' v Hf' H', Post r E' → Stp E E' ps Hf H Hf' H' → Cc E' ps σ Hf' H' → Rv E' ps H Hf' H' v r → Q v H') → tO X e σ H Q
theorem ex_of {E' : En} (h : EXs X e E fun r' E2 => r' = r ∧ E2 = E') : EX X e E E' r := fun ps σ Hf H c Q q => h ps σ Hf H c Q fun r' E2 v Hf' H' z a b d => by
  obtain ⟨rfl, rfl⟩ := z
  exact q v Hf' H' a b d
theorem exs_call {Good : RD → En → Prop} (hnl : ∀ r Ec, Good r Ec → notLoc r = true) (G : FnOk X.prog X.w X.K X.mg X.base CX0 k f fd pn (FD Pc np)) (hr : Room k X.A) (hg : Gl X x) (hm : X.mg x = some (.ref f)) (hk : PySem.W.keepIn X.K (.ref f) = true) (hb : Binds X.K fd pn []) (h : EA X (e :: es) E E1 rs) (h1 : oneNV rs = true) (hl : rs.length = np)
    (hp : ∀ K' : RD → En → Prop, (∀ r Ec, Good r Ec → K' r Ec) → Pc (cal E1 rs) K')
    (hdb : (x == ("__debug__" : Str)) = false := by decide) (he : starEach (e :: es) X.env = (false, eval e X.env) :: starEach es X.env := by rfl) (hpl : (backTo pos (starEach es X.env)).any (·.1) = false := by rfl) :
    EXs X (.Call (.Name x p) (e :: es) [] pos) E (fun r E2 => ∃ Ec, Good r Ec ∧ E2 = bak E1 rs Ec) := fun ps σ Hf H c Q q => by
  refine le_o (pe_call (E := E0) G hr hg hm hk hb .nil pass0 pa_o hdb he hpl) (h ps σ Hf H c _ fun vs Hf1 H1 s1 c1 hv => ?_)
  have hvl : vs.length = np := by rw [← hl]; exact Paired.len hv
  refine ⟨by rw [List.append_nil]; exact hvl, fun j => refOf vs[j]?, Hf1, cal E1 rs, ?_, hp _ fun r Ec hG v Hf2 H2 st c2 rv => ?_⟩
  · rw [List.append_nil]
    exact c1.cal hv h1
  · rw [List.append_nil] at c2
    obtain ⟨c3, ow⟩ := c1.bak (fun p o _ => ⟨o, .inr trivial⟩) hv h1 st c2
    have st' : Stp E (bak E1 rs Ec) ps Hf H Hf2 H2 := by
      refine ⟨s1.frz.trans st.frz, fun p o hpo n => ?_, fun p o hpo => ?_, fun i ds hi => ?_⟩
      · obtain ⟨e1, f1⟩ := s1.keep p o hpo n
        obtain ⟨e2, f2⟩ := st.keep p o e1 fun j ds hj => by
          rcases cal_own hv hj with ⟨i, _, z2, z3⟩ | ⟨_, b, _⟩
          · rw [z2]
            obtain ⟨es', z4⟩ := s1.own i ds z3
            exact n i es' z4
          · intro z
            rw [z, hpo] at b
            cases b
        exact ⟨e2, fun z => f2 (f1 z)⟩
      · obtain ⟨o', e1⟩ := s1.dom p o hpo
        exact st.dom p o' e1
      · obtain ⟨es', z⟩ := ow i ds hi
        exact s1.own i es' z
    cases r with
    | val d => exact q (.val d) _ v Hf2 H2 ⟨Ec, hG, rfl⟩ st' c3 rv
    | own ds =>
      refine q (.own ds) _ v Hf2 H2 ⟨Ec, hG, rfl⟩ st' c3 ?_
      obtain ⟨p, ws, rfl, b, f, l, dq, n⟩ := rv
      refine ⟨p, ws, rfl, s1.back b, f, l, dq, fun i es' z => ?_⟩
      obtain ⟨fs, z'⟩ := ow i es' z
      exact c1.none_ne b i fs z'
    | loc i => exact absurd (hnl (.loc i) Ec hG) (by simp [notLoc])
theorem ex_call (G : FnOk X.prog X.w X.K X.mg X.base CX0 k f fd pn (FD Pc np)) (hr : Room k X.A) (hg : Gl X x) (hm : X.mg x = some (.ref f)) (hk : PySem.W.keepIn X.K (.ref f) = true) (hb : Binds X.K fd pn []) (h : EA X (e :: es) E E1 rs) (h1 : oneNV rs = true) (hl : rs.length = np)
    (hp : ∀ K' : RD → En → Prop, K' r Ec → Pc (cal E1 rs) K') (hn : notLoc r = true) (hE : bak E1 rs Ec = E2)
    (hdb : (x == ("__debug__" : Str)) = false := by decide) (he : starEach (e :: es) X.env = (false, eval e X.env) :: starEach es X.env := by rfl) (hpl : (backTo pos (starEach es X.env)).any (·.1) = false := by rfl) :
    EX X (.Call (.Name x p) (e :: es) [] pos) E E2 r := by
  subst hE
  refine ex_of fun ps σ Hf H c Q q => exs_call (Good := fun r' E' => r' = r ∧ E' = Ec) (fun r' E' z => by rw [z.1]; exact hn) G hr hg hm hk hb h h1 hl (fun K' k => hp K' (k _ _ ⟨rfl, rfl⟩)) hdb he hpl ps σ Hf H c Q fun r' E' v Hf' H' ⟨Ec', ⟨a, b⟩, d⟩ => q r' E' v Hf' H' ⟨a, by rw [d, b]⟩
end
end L2.DL

namespace L2.DL
open PySem PySem.Spec PyProof.Rows
/-! ### the state of a body that runs -/
def isOwn : Option SD → Bool
  | some (.own _) => true
  | _ => false
structure Gh where
  E0 : En
  ps0 : Nat → Addr
  Hf0 : Hp
  H0 : Hp
structure Run (g : Gh) (E : En) (ps : Nat → Addr) (σ : St) (Hf H : Hp) : Prop where
  cc : Cc E ps σ Hf H
  frz : Same g.Hf0 Hf
  keep : ∀ p o, g.H0 p = some o → (∀ (i : Nat) (ds : List PyData), g.E0[i]? = some (SD.own ds) → g.ps0 i ≠ p) → H p = some o ∧ (g.Hf0 p = none → Hf p = none)
  dom : ∀ p o, g.H0 p = some o → ∃ o', H p = some o'
  own : ∀ (j : Nat) (ds : List PyData), E[j]? = some (SD.own ds) → (isOwn g.E0[j]? = true ∧ ps j = g.ps0 j) ∨ (isOwn g.E0[j]? = false ∧ g.H0 (ps j) = none)
section
variable {g : Gh} {E E' E1 : En} {ps : Nat → Addr} {σ : St} {Hf H Hf' H' : Hp}
theorem Run.back (R : Run g E ps σ Hf H) {p : Addr} (h : H p = none) : g.H0 p = none := by
  cases q : g.H0 p with
  | none => rfl
  | some o =>
    obtain ⟨o', h'⟩ := R.dom p o q
    rw [h] at h'
    cases h'
theorem isOwn_get {o : Option SD} (h : isOwn o = true) : ∃ ds, o = some (.own ds) := by
  cases o with
  | none => cases h
  | some s => cases s with
    | own ds => exact ⟨ds, rfl⟩
    | val _ => cases h
    | any => cases h
theorem Run.step (R : Run g E ps σ Hf H) (s : Stp E E' ps Hf H Hf' H') (c : Cc E' ps σ Hf' H') : Run g E' ps σ Hf' H' := by
  refine ⟨c, R.frz.trans s.frz, fun p o h n => ?_, fun p o h => ?_, fun j ds h => ?_⟩
  · obtain ⟨h1, f1⟩ := R.keep p o h n
    obtain ⟨h2, f2⟩ := s.keep p o h1 fun j ds hj z => by
      rcases R.own j ds hj with ⟨a, b⟩ | ⟨_, b⟩
      · obtain ⟨es, e⟩ := isOwn_get a
        exact n j es e (b.symm.trans z)
      · rw [z, h] at b
        cases b
    exact ⟨h2, fun z => f2 (f1 z)⟩
  · obtain ⟨o1, h1⟩ := R.dom p o h
    exact s.dom p o1 h1
  · obtain ⟨es, e⟩ := s.own j ds h
    exact R.own j es e
theorem Run.sub (R : Run g E ps σ Hf H) {σ' : St} (c : Cc E' ps σ' Hf H) (h : ∀ (j : Nat) (ds : List PyData), E'[j]? = some (SD.own ds) → ∃ es, E[j]? = some (SD.own es)) : Run g E' ps σ' Hf H :=
  ⟨c, R.frz, R.keep, R.dom, fun j ds e => by
    obtain ⟨es, e'⟩ := h j ds e
    exact R.own j es e'⟩
theorem Run.setS (R : Run g E ps σ Hf H) {js : List Nat} {es : List PyData} {vs : List V} (h : DqAll Hf vs es) : Run g (setE E js es) ps (DL.setS σ js vs) Hf H :=
  R.sub (R.cc.setS h) fun j ds e => ⟨ds, own_setE e⟩
theorem Run.set (R : Run g E ps σ Hf H) {j : Nat} {d : PyData} {v : V} (h : Dq Hf v d) : Run g (E.set j (.val d)) ps (σ.set j (some v)) Hf H :=
  R.setS (js := [j]) (es := [d]) (vs := [v]) (.cons h .nil)
def newA (ps : Nat → Addr) (j : Nat) (p : Addr) : Nat → Addr := fun i => if i = j then p else ps i
theorem Run.setO (R : Run g E ps σ Hf H) {j : Nat} {ds : List PyData} {v : V} {B : Hp} (hB : ∀ p, B p = none → g.H0 p = none) (h : Rv E ps B Hf H v (.own ds)) (hj : isOwn g.E0[j]? = false) : ∃ ps', Run g (E.set j (.own ds)) ps' (σ.set j (some v)) Hf H := by
  obtain ⟨p, vs, rfl, b, f, l, dq, n⟩ := h
  have c := R.cc
  have get : ∀ (k : Nat) (t : SD), (E.set j (.own ds))[k]? = some t → (k = j ∧ t = .own ds ∧ j < E.length) ∨ (k ≠ j ∧ E[k]? = some t) := fun k t h => by
    by_cases hk : k = j
    · subst hk
      by_cases hl : k < E.length
      · rw [List.getElem?_set_self hl] at h
        exact .inl ⟨rfl, (Option.some.inj h).symm, hl⟩
      · rw [List.getElem?_eq_none (by rw [List.length_set]; omega)] at h
        cases h
    · rw [List.getElem?_set_ne (Ne.symm hk)] at h
      exact .inr ⟨hk, h⟩
  have at1 : newA ps j p j = p := if_pos rfl
  have at2 : ∀ k, k ≠ j → newA ps j p k = ps k := fun k hk => if_neg hk
  refine ⟨newA ps j p, ⟨c.sub, by rw [List.length_set, List.length_set]; exact c.len, fun k d h => ?_, fun k es h => ?_, fun k m es fs h1 h2 z => ?_⟩, R.frz, R.keep, R.dom, fun k es h => ?_⟩
  · rcases get k _ h with ⟨_, h', _⟩ | ⟨hk, h⟩
    · cases h'
    · rw [List.getElem?_set_ne (Ne.symm hk)]
      exact c.val k d h
  · rcases get k _ h with ⟨rfl, h', hl⟩ | ⟨hk, h⟩
    · cases h'
      rw [at1]
      exact ⟨by rw [List.getElem?_set_self (by rw [c.len]; exact hl)], f, vs, l, dq⟩
    · rw [List.getElem?_set_ne (Ne.symm hk), at2 k hk]
      exact c.own k es h
  · rcases get k _ h1 with ⟨hk, _, _⟩ | ⟨hk, g1⟩
    · rcases get m _ h2 with ⟨hm, _, _⟩ | ⟨hm, g2⟩
      · rw [hk, hm]
      · rw [hk, at1, at2 m hm] at z
        exact absurd z.symm (n m fs g2)
    · rcases get m _ h2 with ⟨hm, _, _⟩ | ⟨hm, g2⟩
      · rw [hm, at1, at2 k hk] at z
        exact absurd z (n k es g1)
      · rw [at2 k hk, at2 m hm] at z
        exact c.inj k m es fs g1 g2 z
  · rcases get k _ h with ⟨rfl, _, _⟩ | ⟨hk, h⟩
    · rw [at1]
      exact .inr ⟨hj, hB p b⟩
    · rw [at2 k hk]
      exact R.own k es h
end

/-! ### what is wanted behind a statement -/
structure DE where
  nx : En → Prop
  rt : RD → En → Prop
  bk : En → Prop := fun _ => False
  ct : En → Prop := fun _ => False
structure Sim (g : Gh) (Hf : Hp) (D : DE) (D' : Ends) : Prop where
  nx : ∀ E ps σ Hf' H', D.nx E → Run g E ps σ Hf' H' → Same Hf Hf' → D'.nx σ H'
  rt : ∀ r E ps σ Hf' H' v, D.rt r E → Run g E ps σ Hf' H' → Same Hf Hf' → Rv E ps g.H0 Hf' H' v r → D'.rt v H'
  bk : ∀ E ps σ Hf' H', D.bk E → Run g E ps σ Hf' H' → Same Hf Hf' → D'.bk σ H'
  ct : ∀ E ps σ Hf' H', D.ct E → Run g E ps σ Hf' H' → Same Hf Hf' → D'.ct σ H'
theorem Sim.later {g : Gh} {Hf Hf1 : Hp} {D : DE} {D' : Ends} (S : Sim g Hf D D') (h : Same Hf Hf1) : Sim g Hf1 D D' :=
  ⟨fun E ps σ Hf' H' a b c => S.nx E ps σ Hf' H' a b (h.trans c), fun r E ps σ Hf' H' v a b c => S.rt r E ps σ Hf' H' v a b (h.trans c), fun E ps σ Hf' H' a b c => S.bk E ps σ Hf' H' a b (h.trans c), fun E ps σ Hf' H' a b c => S.ct E ps σ Hf' H' a b (h.trans c)⟩
def GS (X : Cx) (E0 : En) (st : Stmt) (E : En) (D : DE) : Prop := ∀ (g : Gh) ps σ Hf H, g.E0 = E0 → Run g E ps σ Hf H → ∀ D', Sim g Hf D D' → tS X st D' σ H
def GO (X : Cx) (E0 : En) (sts : List Stmt) (E : En) (D : DE) : Prop := ∀ (g : Gh) ps σ Hf H, g.E0 = E0 → Run g E ps σ Hf H → ∀ D', Sim g Hf D D' → tSs X sts D' σ H
section
variable {X : Cx} {E0 E E1 E2 E3 : En} {D : DE} {st : Stmt} {sts : List Stmt} {e a b : Expr} {pos pos' : Pos} {r : RD} {x : Str}
theorem go_nil (h : D.nx E) : GO X E0 [] E D := fun g ps σ Hf H hg R D' S => le_ss pss_nil (S.nx E ps σ Hf H h R (.refl _))
theorem go_cons (h : GS X E0 st E { D with nx := fun E' => GO X E0 sts E' D }) : GO X E0 (st :: sts) E D := fun g ps σ Hf H hg R D' S =>
  le_ss (pss_cons ps_o pss_o) (h g ps σ Hf H hg R _ ⟨fun E ps σ Hf' H' k R' sm => k g ps σ Hf' H' hg R' D' (S.later sm), S.rt, S.bk, S.ct⟩)
theorem go_one (h : GS X E0 st E D) : GO X E0 [st] E D := fun g ps σ Hf H hg R D' S => le_ss (pss_one ps_o) (h g ps σ Hf H hg R D' S)
theorem go_imp {D2 : DE} (h : GO X E0 sts E D) (k1 : ∀ E, D.nx E → D2.nx E) (k2 : ∀ r E, D.rt r E → D2.rt r E) (k3 : ∀ E, D.bk E → D2.bk E) (k4 : ∀ E, D.ct E → D2.ct E) : GO X E0 sts E D2 := fun g ps σ Hf H hg R D' S =>
  h g ps σ Hf H hg R D' ⟨fun E ps σ Hf' H' q => S.nx E ps σ Hf' H' (k1 E q), fun r E ps σ Hf' H' v q => S.rt r E ps σ Hf' H' v (k2 r E q), fun E ps σ Hf' H' q => S.bk E ps σ Hf' H' (k3 E q), fun E ps σ Hf' H' q => S.ct E ps σ Hf' H' (k4 E q)⟩
/-- a list of one's own is frozen, or forgotten, between two statements -/
theorem go_freeze {i : Nat} {ds : List PyData} (l : E[i]? = some (SD.own ds)) (h : GO X E0 sts (E.set i (.val (.list ds))) D) : GO X E0 sts E D := fun g ps σ Hf H hg R D' S => by
  obtain ⟨Hf', c', s', _⟩ := R.cc.freeze l
  exact h g ps σ Hf' H hg (R.step s' c') D' (S.later s'.frz)
theorem run_forget {g : Gh} {ps : Nat → Addr} {σ : St} {Hf H : Hp} (R : Run g E ps σ Hf H) (h : ∀ (i : Nat) (s : SD), E1[i]? = some s → s ≠ .any → E[i]? = some s) (hl : E1.length = E.length) : Run g E1 ps σ Hf H := by
  have own : ∀ (j : Nat) (ds : List PyData), E1[j]? = some (SD.own ds) → E[j]? = some (SD.own ds) := fun j ds e => h j _ e (by intro z; cases z)
  exact R.sub ⟨R.cc.sub, by rw [hl]; exact R.cc.len, fun i d e => R.cc.val i d (h i _ e (by intro z; cases z)), fun i ds e => R.cc.own i ds (own i ds e), fun i j ds es h1 h2 z => R.cc.inj i j ds es (own _ _ h1) (own _ _ h2) z⟩ fun j ds e => ⟨ds, own j ds e⟩
/-- E1 says no more than E -/
def fewer : En → En → Prop
  | [], [] => True
  | s :: r, t :: r' => (t = .any ∨ s = t) ∧ fewer r r'
  | _, _ => False
theorem fewer_get : ∀ {E E1 : En}, fewer E E1 → E1.length = E.length ∧ ∀ (i : Nat) (s : SD), E1[i]? = some s → s ≠ .any → E[i]? = some s
  | [], [], _ => ⟨rfl, fun i s h => by simp at h⟩
  | [], _ :: _, h => h.elim
  | _ :: _, [], h => h.elim
  | s :: r, t :: r', h => by
    obtain ⟨h1, h2⟩ := h
    obtain ⟨l, k⟩ := fewer_get h2
    refine ⟨congrArg (· + 1) l, fun i u e n => ?_⟩
    cases i with
    | zero =>
      cases e
      rcases h1 with rfl | rfl
      · exact absurd rfl n
      · rfl
    | succ i => exact k i u e n
theorem go_forget (E1 : En) (l : fewer E E1) (h : GO X E0 sts E1 D) : GO X E0 sts E D := fun g ps σ Hf H hg R D' S =>
  h g ps σ Hf H hg (run_forget R (fewer_get l).2 (fewer_get l).1) D' S

/-! ### statements -/
theorem gs_set (i : Nat) {d : PyData} (he : EX X e E E1 (.val d)) (k : D.nx (E1.set i (.val d))) (hN : X.N.Nodup) (hi : X.N[i]? = some x) (hx : Loc X.env.scope x) (hs : swapsWith e (some (.Name x pos')) pos.line X.env = pure false := by rfl)
    (hf : X.fn x = true ∨ X.env.scope.names.lookup x = some .local := by first | exact .inl rfl | exact .inr rfl | assumption) : GS X E0 (.Assign [.Name x pos'] e pos) E D := fun g ps σ Hf H hg R D' S =>
  le_s (ps_set (i := i) hN hi hx pe_o hs hf) (he ps σ Hf H R.cc _ fun v Hf1 H1 s1 c1 r1 => S.nx _ ps _ Hf1 H1 k ((R.step s1 c1).set r1) s1.frz)
theorem gs_setO (i : Nat) {ds : List PyData} (he : EX X e E E1 (.own ds)) (k : D.nx (E1.set i (.own ds))) (h0 : isOwn E0[i]? = false) (hN : X.N.Nodup) (hi : X.N[i]? = some x) (hx : Loc X.env.scope x) (hs : swapsWith e (some (.Name x pos')) pos.line X.env = pure false := by rfl)
    (hf : X.fn x = true ∨ X.env.scope.names.lookup x = some .local := by first | exact .inl rfl | exact .inr rfl | assumption) : GS X E0 (.Assign [.Name x pos'] e pos) E D := fun g ps σ Hf H hg R D' S =>
  le_s (ps_set (i := i) hN hi hx pe_o hs hf) (he ps σ Hf H R.cc _ fun v Hf1 H1 s1 c1 r1 => by
    obtain ⟨ps', R'⟩ := (R.step s1 c1).setO (j := i) (fun p z => R.back z) r1 (by rw [hg]; exact h0)
    exact S.nx _ ps' _ Hf1 H1 k R' s1.frz)
/-- to any targets -/
theorem gs_asg {tg : Expr} {t : TG} {d : PyData} {js : List Nat} {es : List PyData} (he : EX X e E E1 (.val d)) (ht : PG X tg t) (td : TD t d js es) (k : D.nx (setE E1 js es)) (hs : swapsWithSole [tg] e pos.line X.env = pure false := by rfl) (hw : swappedStores [tg] e X.env = pure none := by rfl)
    (h1 : (assignEach [tg] X.env).map (·.2) = [assign tg X.env] := by rfl) : GS X E0 (.Assign [tg] e pos) E D := fun g ps σ Hf H hg R D' S =>
  le_s (ps_asg pe_o ht hs hw h1) (he ps σ Hf H R.cc _ fun v Hf1 H1 s1 c1 r1 => td.run v σ Hf1 H1 _ c1.sub r1 fun vs dq => S.nx _ ps _ Hf1 H1 k ((R.step s1 c1).setS dq) s1.frz)
/-- a list comprehension to a name on one line -/
theorem gs_lc (i : Nat) {elt tg iter : Expr} {ifs : List Expr} {scope : Scope} {own : List (Str × Nat)} {spos : Pos} {t : TG} {items : List PyData} {I : Nat → En} {res : Nat → List PyData} (hc : X.calm = true) (hN : X.N.Nodup) (hi : EI X tg iter E E1 items) (ok : BlkOk X.N X.env.scope scope own) (hg : AllB X scope fun Y => PG Y tg t)
    (h0 : wipeE E1 (own.map (·.2)) = I 0) (L : LC X scope (own.map (·.2)) t ifs elt items I res) (hE : wipeE (I items.length) (own.map (·.2)) = E2) (h00 : isOwn E0[i]? = false) (k : D.nx (E2.set i (.own (res items.length))))
    (hy : X.N[i]? = some x) (hyl : X.env.scope.names.lookup x = some .local) (hsw : swapsWith (.ListComp elt [⟨tg, iter, ifs, 0⟩] scope pos) (some (.Name x pos')) spos.line X.env = pure true) (hs : ∀ x, foldedSetIterable iter X.env x = pure x := by intro _; rfl) :
    GS X E0 (.Assign [.Name x pos'] (.ListComp elt [⟨tg, iter, ifs, 0⟩] scope pos) spos) E D := fun g ps σ Hf H hg0 R D' S => by
  obtain ⟨wi, h1, h2⟩ := hi
  subst hE
  refine le_s (ps_setLc hc hN hy hyl hsw h1 ok hg (tt := fun σ H Q => AllB X scope fun Y => tTs Y ifs σ H Q) (te := fun σ H Q => AllB X scope fun Y => tO Y elt σ H Q)
    (fun s H C cl fp => ⟨fun pins s' σ H' Q I h => h s H C cl fp pins s' I⟩) (fun s H C cl fp => ⟨fun pins s' σ H' Q I h => h s H C cl fp pins s' I⟩) hs) ?_
  refine lc_run h2 h0 L R.cc fun v Hf1 H1 s1 c1 r1 => ?_
  obtain ⟨ps', R'⟩ := (R.step s1 c1).setO (j := i) (fun p z => R.back z) r1 (by rw [hg0]; exact h00)
  exact S.nx _ ps' _ Hf1 H1 k R' s1.frz
theorem gs_lc0 {α : Type} {F : En} (i : Nat) (l : List α) {ι : α → PyData} (p : α → Bool) (y : α → PyData) (js : List Nat) (es : α → List PyData) {elt tg iter : Expr} {ifs : List Expr} {scope : Scope} {own : List (Str × Nat)} {spos : Pos} {t : TG} {items : List PyData}
    (hc : X.calm = true) (hN : X.N.Nodup) (hi : EI X tg iter E E1 items) (hl : items = l.map ι) (ok : BlkOk X.N X.env.scope scope own) (hg : AllB X scope fun Y => PG Y tg t)
    (hz : l.length ≤ 1000000) (hjs : ∀ j ∈ js, j ∈ own.map (·.2)) (td : ∀ x ∈ l, TD t (ι x) js (es x)) (hF : wipeE E1 (own.map (·.2)) = F) (hF2 : wipeE F (own.map (·.2)) = F) (hw : ∀ x ∈ l, wipeE (setE F js (es x)) (own.map (·.2)) = F)
    (ht : ∀ x ∈ l, AllB X scope fun Y => ETs Y ifs (setE F js (es x)) (p x)) (he : ∀ x ∈ l, p x = true → AllB X scope fun Y => EX Y elt (setE F js (es x)) (setE F js (es x)) (.val (y x))) (h00 : isOwn E0[i]? = false) (k : D.nx (F.set i (.own ((l.filter p).map y))))
    (hy : X.N[i]? = some x) (hyl : X.env.scope.names.lookup x = some .local) (hsw : swapsWith (.ListComp elt [⟨tg, iter, ifs, 0⟩] scope pos) (some (.Name x pos')) spos.line X.env = pure true) (hs : ∀ x, foldedSetIterable iter X.env x = pure x := by intro _; rfl) :
    GS X E0 (.Assign [.Name x pos'] (.ListComp elt [⟨tg, iter, ifs, 0⟩] scope pos) spos) E D := by
  subst hl
  refine gs_lc (I := fun _ => F) i hc hN hi ok hg hF (lc_plain l ι p y js es hz hjs td F hw ht he) hF2 h00 ?_ hy hyl hsw hs
  show D.nx (F.set i (.own ((((l.take (l.map ι).length).filter p).map y))))
  rw [List.length_map, List.take_length]
  exact k
theorem gs_aug {i : Nat} {m n : Int} {f : Int → Int → Int} {op : Operator} (l : E[i]? = some (.val (.int m))) (he : EX X e E E (.val (.int n))) (ho : PIp X op (ipI f)) (k : D.nx (E.set i (.val (.int (f m n))))) (hN : X.N.Nodup) (hi : X.N[i]? = some x) (hx : Loc X.env.scope x)
    (hf : X.fn x = true ∨ X.env.scope.names.lookup x = some .local := by first | exact .inl rfl | exact .inr rfl | assumption) : GS X E0 (.AugAssign (.Name x pos') op e pos) E D := fun g ps σ Hf H hg R D' S => by
  obtain ⟨v, e1, e2⟩ := R.cc.val i _ l
  cases e2
  refine le_s (ps_aug (i := i) hN hi hx pe_o ho hf) ⟨_, e1, he ps σ Hf H R.cc _ fun w Hf1 H1 s1 c1 r1 => ?_⟩
  cases r1
  exact ⟨m, n, rfl, rfl, S.nx _ ps _ Hf1 H1 k ((R.step s1 c1).set (.int _)) s1.frz⟩
theorem gs_par {i j : Nat} {d d' : PyData} (ha : EA X [a, b] E E1 [.val d, .val d']) (k : D.nx ((E1.set i (.val d)).set j (.val d')))
    (hps : ∀ ta : TA, PA X [a, b] ta → PS X st (tPar i j ta)) : GS X E0 st E D := fun g ps σ Hf H hg R D' S =>
  le_s (hps _ pa_o) (ha ps σ Hf H R.cc _ fun vs Hf1 H1 s1 c1 r1 => by
    obtain ⟨v, w, rfl, h1, h2⟩ := pr2 r1
    exact ⟨v, w, rfl, S.nx _ ps _ Hf1 H1 k (((R.step s1 c1).set h1).set h2) s1.frz⟩)
theorem gs_expr (he : EX X e E E1 r) (k : D.nx E1) (hs : swapsWith e none pos.line X.env = pure false := by rfl) : GS X E0 (.Expr e pos) E D := fun g ps σ Hf H hg R D' S =>
  le_s (ps_expr pe_o hs) (he ps σ Hf H R.cc _ fun v Hf1 H1 s1 c1 r1 => S.nx _ ps _ Hf1 H1 k (R.step s1 c1) s1.frz)
theorem gs_ret (he : EX X e E E1 r) (hn : notLoc r = true) (k : D.rt r E1) : GS X E0 (.Return (some e) pos) E D := fun g ps σ Hf H hg R D' S =>
  le_s (ps_ret pe_o) (he ps σ Hf H R.cc _ fun v Hf1 H1 s1 c1 r1 => S.rt r _ ps σ Hf1 H1 v k (R.step s1 c1) s1.frz (by
    cases r with
    | loc _ => cases hn
    | val d => exact r1
    | own ds => exact Rv.from (fun p z => R.back z) r1))
/-- a local list is handed back: it is the caller's own from there on -/
theorem gs_retO {i : Nat} {ds : List PyData} (he : EX X e E E1 (.loc i)) (l : E1[i]? = some (SD.own ds)) (h0 : isOwn E0[i]? = false) (k : D.rt (.own ds) (E1.set i .any)) : GS X E0 (.Return (some e) pos) E D := fun g ps σ Hf H hg R D' S =>
  le_s (ps_ret pe_o) (he ps σ Hf H R.cc _ fun v Hf1 H1 s1 c1 r1 => by
    obtain ⟨rfl, _⟩ := r1
    have R1 := R.step s1 c1
    obtain ⟨_, f, vs, lv, dq⟩ := c1.own i ds l
    have get : ∀ (m : Nat) (s : SD), (E1.set i .any)[m]? = some s → s ≠ .any → m ≠ i ∧ E1[m]? = some s := fun m s h n => by
      by_cases hm : m = i
      · subst hm
        by_cases hl : m < E1.length
        · rw [List.getElem?_set_self hl] at h
          exact absurd (Option.some.inj h).symm n
        · rw [List.getElem?_eq_none (by rw [List.length_set]; omega)] at h
          cases h
      · rw [List.getElem?_set_ne (Ne.symm hm)] at h
        exact ⟨hm, h⟩
    have R2 : Run g (E1.set i .any) ps σ Hf1 H1 := run_forget R1 (fun m s h n => (get m s h n).2) (by rw [List.length_set])
    refine S.rt (.own ds) _ ps σ Hf1 H1 _ k R2 s1.frz ⟨_, vs, rfl, ?_, f, lv, dq, fun m es h z => ?_⟩
    · rcases R1.own i ds l with ⟨q, _⟩ | ⟨_, q⟩
      · rw [hg, h0] at q
        cases q
      · exact q
    · obtain ⟨hm, h⟩ := get m _ h (by intro z; cases z)
      exact hm (c1.inj m i _ _ h l z))
theorem gs_retN (k : D.rt (.val .none) E) : GS X E0 (.Return none pos) E D := fun g ps σ Hf H hg R D' S => le_s ps_retN (S.rt _ E ps σ Hf H _ k R (.refl _) .non)
theorem gs_if {c : Expr} {sa sb : List Stmt} {x : Bool} (hc : ET X c E E1 x) (ha : x = true → GO X E0 sa E1 D) (hb : x = false → GO X E0 sb E1 D) : GS X E0 (.If c sa sb pos) E D := fun g ps σ Hf H hg R D' S =>
  le_s (ps_if pt_o pss_o pss_o) (hc ps σ Hf H R.cc _ fun Hf1 H1 s1 c1 => by
    cases x with
    | true => exact (if_pos rfl).mpr (ha rfl g ps σ Hf1 H1 hg (R.step s1 c1) D' (S.later s1.frz))
    | false => exact (if_neg Bool.false_ne_true).mpr (hb rfl g ps σ Hf1 H1 hg (R.step s1 c1) D' (S.later s1.frz)))
theorem gs_break (k : D.bk E) : GS X E0 (.Break pos) E D := fun g ps σ Hf H hg R D' S => le_s ps_break (S.bk E ps σ Hf H k R (.refl _))
theorem gs_continue (k : D.ct E) : GS X E0 (.Continue pos) E D := fun g ps σ Hf H hg R D' S => le_s ps_continue (S.ct E ps σ Hf H k R (.refl _))
theorem gs_pass (k : D.nx E) : GS X E0 (.Pass pos) E D := fun g ps σ Hf H hg R D' S => le_s ps_pass (S.nx E ps σ Hf H k R (.refl _))
/-- x[k] = e of a list of one's own -/
theorem gs_item {i : Nat} {ds : List PyData} {d : PyData} {j : Nat} {z : Int} {o ix : Expr} (he : EX X e E E1 (.val d)) (ho : EX X o E1 E1 (.loc i)) (hi : EX X ix E1 E1 (.val (.int z))) (l : E1[i]? = some (SD.own ds)) (hz : ixN ds.length z = some j) (kk : D.nx (E1.set i (.own (ds.set j d))))
    (hps : ∀ (te to ti : TE), PE X e te → PE X o to → PE X ix ti → PS X st (tAsg te (gSub to ti rSetL))) : GS X E0 st E D := fun g ps σ Hf H hg R D' S =>
  le_s (hps _ _ _ pe_o pe_o pe_o) (he ps σ Hf H R.cc _ fun v Hf1 H1 s1 c1 r1 => ho ps σ Hf1 H1 c1 _ fun v2 Hf2 H2 s2 c2 r2 => hi ps σ Hf2 H2 c2 _ fun v3 Hf3 H3 s3 c3 r3 => by
    obtain ⟨rfl, _⟩ := r2
    cases r3
    obtain ⟨_, f, vs, lv, dq⟩ := c3.own i ds l
    refine ⟨_, vs, z, j, rfl, rfl, lv, by rw [dps_len dq]; exact hz, ?_⟩
    have st := (s1.trans s2).trans s3
    have dv : Dq Hf3 v d := dp_mono (s2.trans s3).frz _ _ r1
    exact S.nx _ ps σ Hf3 _ kk (R.step (st.trans (.mut c3 l)) (c3.mut l (dps_set dv j dq))) st.frz)
/-- for -/
theorem gs_for {tg iter : Expr} {body : List Stmt} {items : List PyData} {t : TG} (Pv : Nat → En → Prop) (hi : EI X tg iter E E1 items) (hg : PG X tg t) (h0 : Pv 0 E1)
    (hs : ∀ (i : Nat) (d : PyData) (E' : En), items[i]? = some d → Pv i E' → ∃ js es, TD t d js es ∧ GO X E0 body (setE E' js es) { D with nx := Pv (i + 1), ct := Pv (i + 1), bk := D.nx }) (hd : ∀ E', Pv items.length E' → D.nx E')
    (hp : PassesOwn (model X.prog X.w) X.A X.env X.xe := by exact PassesOwn.never) (hc : X.calm = true := by rfl) (hfs : ∀ x, foldedSetIterable iter X.env x = pure x := by intro _; rfl) : GS X E0 (.For tg iter body [] pos) E D := fun g ps σ Hf H hg0 R D' S => by
  obtain ⟨wi, h1, h2⟩ := hi
  refine le_s (ps_for hp hc h1 hg pss_o hfs) (h2 ps σ Hf H R.cc _ fun J Hf1 H1 s1 c1 w => ?_)
  obtain ⟨Y, wk, hy⟩ := w.run
  have S1 := S.later s1.frz
  refine for_it wk (fun i σ' H' => ∃ E' ps' Hf', Pv i E' ∧ Run g E' ps' σ' Hf' H' ∧ Same Hf1 Hf') ⟨E1, ps, Hf1, h0, R.step s1 c1, .refl _⟩ (fun i σ' H' _ ⟨E', ps', Hf', _, R', sm⟩ => sm.trans R'.cc.sub) (fun i x σ' H' H'' hlt ⟨E', ps', Hf', k, R', sm⟩ y => ?_)
    (fun σ' H' ⟨E', ps', Hf', k, R', sm⟩ => S1.nx E' ps' σ' Hf' H' (hd E' k) R' sm)
  obtain ⟨d, hd, hc⟩ := hy i H' x H'' y
  obtain ⟨js, es, td, body⟩ := hs i d E' hd k
  obtain ⟨Hf2, R2, sm2, dx⟩ : ∃ Hf2, Run g E' ps' σ' Hf2 H'' ∧ Same Hf1 Hf2 ∧ Dq Hf2 x d := by
    rcases hc with ⟨rfl, dx⟩ | ⟨T, xs, ds, rfl, hT, rfl, rfl, dxs⟩
    · exact ⟨Hf', R', sm, dp_mono sm _ _ dx⟩
    · have st : Stp E' E' ps' Hf' H' (upd Hf' T (.tup xs)) (upd H' T (.tup xs)) := .new R'.cc hT
      exact ⟨upd Hf' T (.tup xs), R'.step st (R'.cc.new hT), sm.trans st.frz, .tup (.of upd_same) (dps_mono (sm.trans st.frz) _ _ dxs)⟩
  refine td.run x σ' Hf2 H'' _ R2.cc.sub dx fun us hus => ?_
  refine body g ps' _ Hf2 H'' hg0 (R2.setS hus) _ ⟨fun E3 ps3 σ3 Hf3 H3 k3 R3 sm3 => ⟨E3, ps3, Hf3, k3, R3, sm2.trans sm3⟩, fun r E3 ps3 σ3 Hf3 H3 v k3 R3 sm3 rv => S1.rt r E3 ps3 σ3 Hf3 H3 v k3 R3 (sm2.trans sm3) rv,
    fun E3 ps3 σ3 Hf3 H3 k3 R3 sm3 => S1.nx E3 ps3 σ3 Hf3 H3 k3 R3 (sm2.trans sm3), fun E3 ps3 σ3 Hf3 H3 k3 R3 sm3 => ⟨E3, ps3, Hf3, k3, R3, sm2.trans sm3⟩⟩
/-- while -/
theorem gs_while {c : Expr} {body : List Stmt} (Pv : Nat → En → Prop) (m0 : Nat) (h0 : Pv m0 E)
    (hs : ∀ (m : Nat) (E' : En), Pv m E' → ∃ b, ET X c E' E' b ∧ (b = true → GO X E0 body E' { D with nx := fun E2 => ∃ m', m' < m ∧ Pv m' E2, ct := fun E2 => ∃ m', m' < m ∧ Pv m' E2, bk := D.nx }) ∧ (b = false → D.nx E'))
    (hp : PassesOwn (model X.prog X.w) X.A X.env X.xe := by exact PassesOwn.never) : GS X E0 (.While c body [] pos) E D := fun g ps σ Hf H hg0 R D' S => by
  refine le_s (ps_while hp pt_o pss_o) ⟨fun m σ' H' => ∃ E' ps' Hf', Pv m E' ∧ Run g E' ps' σ' Hf' H' ∧ Same Hf Hf', ⟨m0, E, ps, Hf, h0, R, .refl _⟩, ?_⟩
  rintro m σ' H' ⟨E', ps', Hf', k, R', sm⟩
  obtain ⟨b, hb, ht, hf⟩ := hs m E' k
  refine hb ps' σ' Hf' H' R'.cc _ fun Hf1 H1 s1 c1 => ?_
  have R1 := R'.step s1 c1
  have sm1 := sm.trans s1.frz
  cases b with
  | true =>
    refine ⟨fun σ2 H2 => ∃ m', m' < m ∧ ∃ E2 ps2 Hf2, Pv m' E2 ∧ Run g E2 ps2 σ2 Hf2 H2 ∧ Same Hf Hf2, fun σ2 H2 h => h, ?_⟩
    exact ht rfl g ps' σ' Hf1 H1 hg0 R1 _ ⟨fun E3 ps3 σ3 Hf3 H3 ⟨m', l, k3⟩ R3 sm3 => ⟨m', l, E3, ps3, Hf3, k3, R3, sm1.trans sm3⟩, fun r E3 ps3 σ3 Hf3 H3 v k3 R3 sm3 rv => S.rt r E3 ps3 σ3 Hf3 H3 v k3 R3 (sm1.trans sm3) rv,
      fun E3 ps3 σ3 Hf3 H3 k3 R3 sm3 => S.nx E3 ps3 σ3 Hf3 H3 k3 R3 (sm1.trans sm3), fun E3 ps3 σ3 Hf3 H3 ⟨m', l, k3⟩ R3 sm3 => ⟨m', l, E3, ps3, Hf3, k3, R3, sm1.trans sm3⟩⟩
  | false => exact S.nx E' ps' σ' Hf1 H1 (hf rfl) R1 sm1
end
end L2.DL

namespace L2.DL
open PySem PySem.Spec PyProof.Rows
/-! ### a def keeps its promise -/
/-- the parameters at the end: what was handed in as data is as it was -/
def fin1 : SD → Option SD → SD
  | .own _, some (.own ds) => .own ds
  | .own _, _ => .any
  | s, _ => s
def finE : En → En → En
  | [], _ => []
  | s :: r, E => fin1 s E.head? :: finE r E.tail
theorem fin1_val {s : SD} {o : Option SD} {d : PyData} (h : fin1 s o = .val d) : s = .val d := by
  cases s with
  | val _ => exact h
  | any => cases h
  | own _ =>
    cases o with
    | none => cases h
    | some t => cases t <;> cases h
theorem fin1_own {s : SD} {o : Option SD} {ds : List PyData} (h : fin1 s o = .own ds) : (∃ es, s = .own es) ∧ o = some (.own ds) := by
  cases s with
  | val _ => cases h
  | any => cases h
  | own es =>
    cases o with
    | none => cases h
    | some t =>
      cases t with
      | own fs =>
        cases h
        exact ⟨⟨_, rfl⟩, rfl⟩
      | val _ => cases h
      | any => cases h
theorem finE_get : ∀ {E0 E : En} {i : Nat} {s : SD}, (finE E0 E)[i]? = some s → ∃ t, E0[i]? = some t ∧ s = fin1 t E[i]?
  | [], _, _, _, h => by simp [finE] at h
  | t :: r, E, 0, s, h => by
    have h' : some (fin1 t E.head?) = some s := h
    refine ⟨t, rfl, ?_⟩
    rw [← Option.some.inj h']
    cases E <;> rfl
  | t :: r, E, i + 1, s, h => by
    obtain ⟨u, e1, e2⟩ := finE_get (E0 := r) (E := E.tail) (i := i) h
    refine ⟨u, e1, ?_⟩
    rw [e2]
    cases E <;> rfl
theorem finE_len : ∀ {E0 E : En}, (finE E0 E).length = E0.length
  | [], _ => rfl
  | s :: r, E => congrArg (· + 1) (finE_len (E0 := r) (E := E.tail))
def bodyD (E : En) (K : RD → En → Prop) : DE := { nx := fun E' => K (.val .none) (finE E E'), rt := fun r E' => notLoc r = true ∧ K r (finE E E') }
/-- the end of a body, at the caller's -/
theorem fin_ok {E E' : En} {ps ps' : Nat → Addr} {vs : List V} {σ : St} {Hf H Hf' H' : Hp} (c : Cc E ps (vs.map some) Hf H) (R : Run ⟨E, ps, Hf, H⟩ E' ps' σ Hf' H') :
    Stp E (finE E E') ps Hf H Hf' H' ∧ Cc (finE E E') ps (vs.map some) Hf' H' ∧ ∀ v r, notLoc r = true → Rv E' ps' H Hf' H' v r → Rv (finE E E') ps H Hf' H' v r := by
  have own : ∀ (i : Nat) (ds : List PyData), (finE E E')[i]? = some (SD.own ds) → (∃ es, E[i]? = some (SD.own es)) ∧ E'[i]? = some (SD.own ds) ∧ ps' i = ps i := fun i ds h => by
    obtain ⟨t, a, e⟩ := finE_get h
    obtain ⟨⟨es, rfl⟩, b⟩ := fin1_own e.symm
    refine ⟨⟨es, a⟩, b, ?_⟩
    rcases R.own i ds b with ⟨_, q⟩ | ⟨q, _⟩
    · exact q
    · have q' : isOwn E[i]? = false := q
      rw [a] at q'
      cases q'
  refine ⟨⟨R.frz, R.keep, R.dom, fun i ds h => (own i ds h).1⟩, ⟨R.cc.sub, by rw [finE_len]; exact c.len, fun i d h => ?_, fun i ds h => ?_, fun i j ds es h1 h2 z => ?_⟩, fun v r hn h => ?_⟩
  · obtain ⟨t, a, e⟩ := finE_get h
    obtain rfl := fin1_val e.symm
    obtain ⟨v, e1, e2⟩ := c.val i d a
    exact ⟨v, e1, dp_mono R.frz _ _ e2⟩
  · obtain ⟨⟨es, e⟩, b, q⟩ := own i ds h
    obtain ⟨_, f, ws, l, dq⟩ := R.cc.own i ds b
    rw [q] at f l
    exact ⟨(c.own i es e).1, f, ws, l, dq⟩
  · obtain ⟨⟨_, e1⟩, _⟩ := own i ds h1
    obtain ⟨⟨_, e2⟩, _⟩ := own j es h2
    exact c.inj i j _ _ e1 e2 z
  · cases r with
    | val d => exact h
    | own ds =>
      obtain ⟨p, ws, e, b, f, l, dq, n⟩ := h
      refine ⟨p, ws, e, b, f, l, dq, fun i es z => ?_⟩
      obtain ⟨_, b', q⟩ := own i es z
      rw [← q]
      exact n i es b'
    | loc i => cases hn
def bX (P : Program) (w : World) (K : PySem.W.Frag) (mg : Str → Option Value) (base : Heap) (N : List Str) (qual : Str) (sc : Scope) (f : Addr) (cdv : Value) (A : Around) (outer : List Env) (s : Shared) (H : Hp) : Cx :=
  (cxOf CX0 P w K mg base N qual sc f cdv A outer s H E0).nox
section
variable {P : Program} {w : World} {K : PySem.W.Frag} {mg : Str → Option Value} {base : Heap}
theorem fn_ok {x qual : Str} {st : Stmt} {f : Addr} {fd : FuncData} {N pn : List Str} {k np : Nat} {Pd : DSp} (F : Fun K x qual st f fd) (S : FnScope N pn (defScope st)) (hnp : pn.length = np)
    (hbody : ∀ (cdv : Value) (A : Around) (outer : List Env) (s : Shared) (H : Hp), Room k (bX P w K mg base N qual (defScope st) f cdv A outer s H).A → ∀ (E : En) (K' : RD → En → Prop), E.length = np → Pd E K' →
      GO (bX P w K mg base N qual (defScope st) f cdv A outer s H) E (defBody st) (E ++ List.replicate (N.length - np) .any) (bodyD E K')) : FnOk P w K mg base CX0 (k + 1) f fd pn (FD Pd np) := by
  subst hnp
  have hpl : pn.length ≤ N.length := by
    have := congrArg List.length S.pre
    rw [List.length_take] at this
    omega
  refine F.ok S (fun vs H Q E h => h.1) fun cdv A outer s H vs Q E hr h => ?_
  obtain ⟨hvl, ps, Hf, En, c, hP⟩ := h
  have hEl : En.length = pn.length := by
    rw [← c.len, List.length_map, hvl]
  have g0 := hbody cdv A outer s H hr En _ hEl hP ⟨En, ps, Hf, H⟩ ps (start N vs) Hf H rfl
  have own : ∀ (i : Nat) (ds : List PyData), (En ++ List.replicate (N.length - pn.length) SD.any)[i]? = some (SD.own ds) → En[i]? = some (SD.own ds) := fun i ds h => by
    by_cases hi : i < En.length
    · rw [List.getElem?_append_left hi] at h
      exact h
    · rw [List.getElem?_append_right (by omega), List.getElem?_replicate] at h
      split at h <;> cases h
  have val : ∀ (i : Nat) (d : PyData), (En ++ List.replicate (N.length - pn.length) SD.any)[i]? = some (SD.val d) → En[i]? = some (SD.val d) := fun i ds h => by
    by_cases hi : i < En.length
    · rw [List.getElem?_append_left hi] at h
      exact h
    · rw [List.getElem?_append_right (by omega), List.getElem?_replicate] at h
      split at h <;> cases h
  have hst : ∀ (i : Nat) (y : Option V), (vs.map some)[i]? = some y → (start N vs)[i]? = some y := fun i y h => by
    unfold start
    rw [List.getElem?_append_left (List.getElem?_eq_some_iff.mp h).1]
    exact h
  refine ⟨tSs (bX P w K mg base N qual (defScope st) f cdv A outer s H) (defBody st), pss_o, g0 ⟨⟨c.sub, ?_, fun i d h => ?_, fun i ds h => ?_, fun i j ds es h1 h2 z => c.inj i j _ _ (own _ _ h1) (own _ _ h2) z⟩, .refl _, fun p o h _ => ⟨h, fun z => z⟩, fun p o h => ⟨o, h⟩, fun j ds h => .inl ⟨?_, rfl⟩⟩ _
    ⟨fun E' ps' σ' Hf' H' k1 R' _ => ?_, fun r E' ps' σ' Hf' H' v k1 R' _ rv => ?_, fun _ _ _ _ _ h _ _ => h.elim, fun _ _ _ _ _ h _ _ => h.elim⟩⟩
  · unfold start
    rw [List.length_append, List.length_append, List.length_map, List.length_replicate, List.length_replicate, hvl, hEl]
  · obtain ⟨v, e1, e2⟩ := c.val i d (val i d h)
    exact ⟨v, hst i _ e1, e2⟩
  · obtain ⟨e1, e2⟩ := c.own i ds (own i ds h)
    exact ⟨hst i _ e1, e2⟩
  · show isOwn En[j]? = true
    rw [own j ds h]
    rfl
  · obtain ⟨s1, c1, rk⟩ := fin_ok c R'
    exact k1 .non Hf' H' s1 c1 .non
  · obtain ⟨s1, c1, rk⟩ := fin_ok c R'
    exact k1.2 v Hf' H' s1 c1 (rk v r k1.1 rv)

/-! ### the law's own def -/
def PLaw : DSp := fun E Q => ∃ ns : List Int, ns.length ≤ 63 ∧ E = [.val (.list (ns.map .int))] ∧ ∀ E', Q (.val (.bool true)) E'
def noLists (K : PySem.W.Frag) : Bool := K.all fun p => match p.2.cls with
  | .type n => n != "list"
  | _ => true
theorem mem_lk {a : Addr} {o : Obj} : ∀ {l : List (Addr × Obj)}, l.lookup a = some o → ∃ b, (b, o) ∈ l
  | [], h => by cases h
  | (b, u) :: r, h => by
    rw [List.lookup_cons] at h
    split at h
    · cases h
      exact ⟨b, List.mem_cons_self⟩
    · obtain ⟨c, hc⟩ := mem_lk h
      exact ⟨c, List.mem_cons_of_mem _ hc⟩
theorem noLists_ok (h : noLists K = true) {a : Addr} {o : Obj} (e : K.lookup a = some o) : o.cls ≠ .type "list" := fun z => by
  obtain ⟨b, hb⟩ := mem_lk e
  have q := List.all_eq_true.mp h (b, o) hb
  simp only [z] at q
  exact absurd q (by decide)
theorem law_sp (hK : noLists K = true) {H : Hp} {a : Addr} {ns : List Int} (hl : ns.length ≤ 63) (h : SqL K H a (ns.map V.int)) : FD PLaw 1 [.ref a] H (fun v _ => v = .bl true) fun _ _ _ => False := by
  have rd : Rd H a (.lst (ns.map V.int)) := by
    rcases h with h | ⟨o, its, n, e, hc, _⟩
    · exact h
    · exact absurd hc (noLists_ok hK e)
  refine ⟨rfl, fun _ => 0, H, [.val (.list (ns.map .int))], ⟨.refl _, rfl, fun i d e => ?_, fun i ds e => ?_, fun i j ds es e => ?_⟩, ns, hl, rfl, fun E' v Hf' H' _ _ rv => ?_⟩
  · cases i with
    | zero =>
      cases e
      exact ⟨_, rfl, .lst rd (dps_of_ints ns)⟩
    | succ i => cases e
  · cases i with
    | zero => cases e
    | succ i => cases e
  · cases i with
    | zero => cases e
    | succ i => cases e
  · cases rv
    rfl
end
end L2.DL

namespace L2.DL
open PySem PySem.Spec PyProof.Rows
/-! ### isinstance of data and a built-in class -/
def tyD : PyData → String
  | .none => "NoneType"
  | .bool _ => "bool"
  | .int _ => "int"
  | .str _ => "str"
  | .list _ => "list"
  | .tuple _ => "tuple"
  | .dict _ => "dict"
section
variable {X : Cx} {E E1 E2 : En} {a e : Expr} {es : List Expr} {pos p p1 p2 : Pos} {r : RD} {rs : List RD} {x : Str}
theorem dq_ty {K : PySem.W.Frag} {Hf H : Hp} {v : V} {d : PyData} (sm : Same Hf H) (h : Dq Hf v d) : TyX K H v (.type (tyD d)) := by
  cases h with
  | non => exact .base .non
  | bl b => exact .base (.bl b)
  | int i => exact .base (.int i)
  | str s => exact .base (.str s)
  | lst hl _ =>
    rcases rd_mono sm hl with h | ⟨o, h⟩
    · exact .base (.lst h)
    · exact .base (.frz h)
  | tup hl _ =>
    rcases rd_mono sm hl with h | ⟨o, h⟩
    · exact .base (.tup h)
    · exact .fTuple h
theorem rv_ty {K : PySem.W.Frag} {ps : Nat → Addr} {σ : St} {B Hf H : Hp} {v : V} {d : PyData} (c : Cc E ps σ Hf H) (h : Rv E ps B Hf H v r) (l : lkD E r = some d) : TyX K H v (.type (tyD d)) := by
  cases r with
  | val d' =>
    obtain rfl := Option.some.inj l
    exact dq_ty c.sub h
  | own es =>
    obtain rfl := Option.some.inj l
    obtain ⟨p, vs, rfl, b, f, l, q, n⟩ := h
    exact .base (.lst l)
  | loc i =>
    obtain ⟨rfl, es, z⟩ := h
    have l2 : (sdO E[i]?).map PyData.list = some d := l
    rw [z] at l2
    obtain rfl := Option.some.inj l2
    obtain ⟨_, _, vs, hv, hd⟩ := c.own i es z
    exact .base (.lst hv)
theorem ex_isi {T : Str} {Tn : String} {d : PyData} {b : Bool} (ha : EX X a E E1 r) (l : lkD E1 r = some d) (hk : kitB (tyD d) Tn = some b) (hgT : Gl X T) (hmT : X.mg T = none) (hvT : bootBuiltins T = some (.type Tn)) (hg : Gl X "isinstance") (hm : X.mg "isinstance" = none)
    (hnT : T ≠ "__name__" := by decide) (hdT : (T == ("__debug__" : Str)) = false := by decide)
    (he : starEach [a, .Name T p1] X.env = (false, eval a X.env) :: starEach [.Name T p1] X.env := by rfl) (he2 : starEach [.Name T p1] X.env = (false, eval (.Name T p1) X.env) :: starEach [] X.env := by rfl)
    (hpl : (backTo pos (starEach [.Name T p1] X.env)).any (·.1) = false := by rfl) : EX X (.Call (.Name "isinstance" p) [a, .Name T p1] [] pos) E E1 (.val (.bool b)) := fun ps σ Hf H c Q q =>
  le_o (pe_callB call_isi hg hm PyProof.Rows.boot_isinstance (pa_cons pe_o (pa_cons (pe_bltn (v := .ty Tn) hgT hmT hvT rfl hnT hdT) pa_nil he2) he) (by decide) (by decide) he hpl)
    (ha ps σ Hf H c _ fun v Hf1 H1 s1 c1 r1 => ⟨v, .ty Tn, _, _, b, rfl, .ty Tn, rv_ty c1 r1 l, kit_ty hk, q _ Hf1 H1 s1 c1 (.bl b)⟩)

/-! ### an item of a typed list -/
theorem atI_map {α : Type} [Inhabited α] (ι : α → PyData) (l : List α) (k : Int) (h0 : 0 ≤ k) (h1 : k < l.length) : atI (l.map ι) k = some (ι (l.getD k.toNat default)) := by
  have hk : k.toNat < l.length := by omega
  have e : (l.map ι)[k.toNat]? = some (ι (l.getD k.toNat default)) := by
    rw [List.getElem?_map, List.getD_eq_getElem?_getD, List.getElem?_eq_getElem hk]
    rfl
  have e2 := atI_nat e
  rw [Int.toNat_of_nonneg h0] at e2
  exact e2
theorem atI_back {α : Type} [Inhabited α] (ι : α → PyData) (l : List α) (h1 : 0 < l.length) : atI (l.map ι) (-1) = some (ι (l.getD (l.length - 1) default)) := by
  unfold atI ixN
  rw [List.length_map, if_neg (by omega), if_pos (by omega)]
  show (l.map ι)[(-1 + (l.length : Int)).toNat]? = _
  rw [show (-1 + (l.length : Int)).toNat = l.length - 1 by omega, List.getElem?_map, List.getD_eq_getElem?_getD, List.getElem?_eq_getElem (by omega)]
  rfl
theorem ex_ixG {α : Type} [Inhabited α] {ι : α → PyData} {l : List α} {b : Expr} {k : Int} (ha : EX X a E E1 r) (hb : EX X b E1 E2 (.val (.int k))) (lv : Live E2 r) (hl : lkL E2 r = some (l.map ι)) (h0 : 0 ≤ k) (h1 : k < l.length) (hs : PlainIx b := by exact fun _ _ => rfl) :
    EX X (.Subscript a b pos) E E2 (.val (ι (l.getD k.toNat default))) := ex_ix ha hb lv hl (atI_map ι l k h0 h1) hs
theorem ex_ixB {α : Type} [Inhabited α] {ι : α → PyData} {l : List α} {b : Expr} (ha : EX X a E E1 r) (hb : EX X b E1 E2 (.val (.int (-1)))) (lv : Live E2 r) (hl : lkL E2 r = some (l.map ι)) (h1 : 0 < l.length) (hs : PlainIx b := by exact fun _ _ => rfl) :
    EX X (.Subscript a b pos) E E2 (.val (ι (l.getD (l.length - 1) default))) := ex_ix ha hb lv hl (atI_back ι l h1) hs

/-! ### a def of the text, as its callers see it -/
structure Cal (P : Program) (w : World) (K : PySem.W.Frag) (mg : Str → Option Value) (base : Heap) (x : Str) (pn : List Str) (np k : Nat) (Pd : DSp) : Prop where
  ok : ∃ f fd, FnOk P w K mg base CX0 k f fd pn (FD Pd np) ∧ mg x = some (.ref f) ∧ PySem.W.keepIn K (.ref f) = true ∧ Binds K fd pn []
theorem ex_callC {pn : List Str} {k np : Nat} {Pc : DSp} {Ec : En} (G : Cal X.prog X.w X.K X.mg X.base x pn np k Pc) (hr : Room k X.A) (hg : Gl X x) (h : EA X (e :: es) E E1 rs) (h1 : oneNV rs = true) (hl : rs.length = np)
    (hp : ∀ K' : RD → En → Prop, K' r Ec → Pc (cal E1 rs) K') (hn : notLoc r = true) (hE : bak E1 rs Ec = E2)
    (hdb : (x == ("__debug__" : Str)) = false := by decide) (he : starEach (e :: es) X.env = (false, eval e X.env) :: starEach es X.env := by rfl) (hpl : (backTo pos (starEach es X.env)).any (·.1) = false := by rfl) :
    EX X (.Call (.Name x p) (e :: es) [] pos) E E2 r := by
  obtain ⟨f, fd, G, hm, hk, hb⟩ := G.ok
  exact ex_call G hr hg hm hk hb h h1 hl hp hn hE hdb he hpl
end

section
variable {X : Cx} {E0 E E1 E2 : En} {D : DE} {e : Expr} {es : List Expr} {pos p pos' : Pos} {rs : List RD} {x y : Str}
theorem exs_callC {Good : RD → En → Prop} {pn : List Str} {k np : Nat} {Pc : DSp} (G : Cal X.prog X.w X.K X.mg X.base x pn np k Pc) (hr : Room k X.A) (hg : Gl X x) (h : EA X (e :: es) E E1 rs) (h1 : oneNV rs = true) (hl : rs.length = np)
    (hp : ∀ K' : RD → En → Prop, (∀ r Ec, Good r Ec → K' r Ec) → Pc (cal E1 rs) K') (hnl : ∀ r Ec, Good r Ec → notLoc r = true)
    (hdb : (x == ("__debug__" : Str)) = false := by decide) (he : starEach (e :: es) X.env = (false, eval e X.env) :: starEach es X.env := by rfl) (hpl : (backTo pos (starEach es X.env)).any (·.1) = false := by rfl) :
    EXs X (.Call (.Name x p) (e :: es) [] pos) E (fun r E2 => ∃ Ec, Good r Ec ∧ E2 = bak E1 rs Ec) := by
  obtain ⟨f, fd, G, hm, hk, hb⟩ := G.ok
  exact exs_call hnl G hr hg hm hk hb h h1 hl hp hdb he hpl
/-- x = e, of which a property alone is known -/
theorem gs_sets (i : Nat) {Post : RD → En → Prop} (he : EXs X e E Post) (k : ∀ r E1, Post r E1 → match r with
    | .val d => D.nx (E1.set i (.val d))
    | .own ds => isOwn E0[i]? = false ∧ D.nx (E1.set i (.own ds))
    | .loc _ => False) (hN : X.N.Nodup) (hi : X.N[i]? = some y) (hx : Loc X.env.scope y) (hs : swapsWith e (some (.Name y pos')) pos.line X.env = pure false := by rfl)
    (hf : X.fn y = true ∨ X.env.scope.names.lookup y = some .local := by first | exact .inl rfl | exact .inr rfl | assumption) : GS X E0 (.Assign [.Name y pos'] e pos) E D := fun g ps σ Hf H hg R D' S =>
  le_s (ps_set (i := i) hN hi hx pe_o hs hf) (he ps σ Hf H R.cc _ fun r E1 v Hf1 H1 hp s1 c1 r1 => by
    have q := k r E1 hp
    cases r with
    | val d => exact S.nx _ ps _ Hf1 H1 q ((R.step s1 c1).set r1) s1.frz
    | own ds =>
      obtain ⟨ps', R'⟩ := (R.step s1 c1).setO (j := i) (fun p z => R.back z) r1 (by rw [hg]; exact q.1)
      exact S.nx _ ps' _ Hf1 H1 q.2 R' s1.frz
    | loc _ => exact q.elim)
end

/-! ### sizes of ints -/
theorem lt_two_pow {i : Int} {n : Nat} (h0 : -(2 ^ n : Int) < i) (h1 : i < 2 ^ n) : i.natAbs < 2 ^ n := by
  have e : ((2 ^ n : Nat) : Int) = (2 : Int) ^ n := by simp
  omega
/-- an int of at most so many bits -/
structure Bits (n : Nat) (i : Int) : Prop where
  lt : i.natAbs < 2 ^ n
theorem Bits.mono {m n : Nat} {i : Int} (h : Bits m i) (l : m ≤ n) : Bits n i := ⟨Nat.lt_of_lt_of_le h.lt (Nat.pow_le_pow_right (by decide) l)⟩
theorem Bits.le {n : Nat} {i j : Int} (h : Bits n j) (h0 : 0 ≤ i) (h1 : i ≤ j) : Bits n i := ⟨Nat.lt_of_le_of_lt (by omega) h.lt⟩
theorem Bits.mul {m n : Nat} {i j : Int} (h : Bits m i) (h2 : Bits n j) : Bits (m + n) (i * j) := ⟨wide_lt h.lt h2.lt⟩
theorem Bits.add {n : Nat} {i j : Int} (h : Bits n i) (h2 : Bits n j) : Bits (n + 1) (i + j) := by
  have a := h.lt
  have b := h2.lt
  refine ⟨?_⟩
  rw [Nat.pow_succ]
  omega
theorem Bits.sub {n : Nat} {i j : Int} (h : Bits n i) (h2 : Bits n j) : Bits (n + 1) (i - j) := by
  have a := h.lt
  have b := h2.lt
  refine ⟨?_⟩
  rw [Nat.pow_succ]
  omega
theorem Bits.addM {m n : Nat} {i j : Int} (h : Bits m i) (h2 : Bits n j) : Bits (max m n + 1) (i + j) := (h.mono (Nat.le_max_left _ _)).add (h2.mono (Nat.le_max_right _ _))
theorem Bits.subM {m n : Nat} {i j : Int} (h : Bits m i) (h2 : Bits n j) : Bits (max m n + 1) (i - j) := (h.mono (Nat.le_max_left _ _)).sub (h2.mono (Nat.le_max_right _ _))
theorem Bits.mod {n : Nat} {i j : Int} (h : Bits n j) (h0 : 0 < j) : Bits n (i % j) :=
  h.le (Int.emod_nonneg i (by omega)) (Int.le_of_lt (Int.emod_lt_of_pos i h0))
theorem Bits.div {n : Nat} {i j : Int} (h : Bits n i) (hi : 0 ≤ i) (h0 : 0 < j) : Bits n (i / j) :=
  h.le (Int.ediv_nonneg hi (by omega)) (Int.ediv_le_self _ hi)
theorem mulB {m n : Nat} {i j : Int} (h : Bits m i) (h2 : Bits n j) (h0 : 0 < m := by decide) (h1 : 0 < n := by decide) (hl : m + n ≤ 1000000 := by decide) : CMulW i j := wide_mul h.lt h2.lt h0 h1 hl
theorem divB {n : Nat} {i j : Int} (h : Bits n j) (h0 : 0 < j) (h1 : 0 < n := by decide) (hl : n ≤ 9000 := by decide) : CDivW i j := wide_div h0 h.lt h1 hl
theorem bits64 {i : Int} (h0 : -18446744073709551616 < i) (h1 : i < 18446744073709551616) : Bits 64 i := by
  have : (2 : Nat) ^ 64 = 18446744073709551616 := by decide
  exact ⟨by omega⟩
theorem bits320 {i : Int} (h0 : 0 ≤ i) (h1 : i < 10 ^ 90) : Bits 320 i := by
  have : (10 : Nat) ^ 90 < 2 ^ 320 := by decide
  have e : ((10 ^ 90 : Nat) : Int) = (10 : Int) ^ 90 := by decide
  exact ⟨by omega⟩
end L2.DL

namespace L2.DL
open PySem PySem.Spec PyProof.Rows
section
variable {X : Cx} {E0 E E1 E2 F : En} {D : DE} {elt tg iter a b e : Expr} {ifs : List Expr} {scope : Scope} {own : List (Str × Nat)} {pos p : Pos} {t : TG} {items : List PyData} {x : Str}
/-! ### a <= b < c of ints -/
section
variable {X : Cx} {E : En} {a b c : Expr} {pos : Pos} {op op' : CmpOp} {f g : Int → Int → Bool} {i j k : Int}
theorem ex_chain (ho : OpR X (compareOp op) (rI0 fun i j => .bl (f i j))) (ho' : OpR X (compareOp op') (rI0 fun i j => .bl (g i j))) (ha : EX X a E E (.val (.int i))) (hb : EX X b E E (.val (.int j))) (hc : EX X c E E (.val (.int k)))
    (hm : lastMarks [op, op'] [b, c] = false := by with_unfolding_all rfl) : EX X (.Compare a [op, op'] [b, c] pos) E E (.val (.bool (f i j && g j k))) := fun ps σ Hf H cc Q q =>
  le_o (pe_chain ho ho' pe_o pe_o pe_o hm) (ha ps σ Hf H cc _ fun va Hf1 H1 s1 c1 r1 => hb ps σ Hf1 H1 c1 _ fun vb Hf2 H2 s2 c2 r2 => by
    cases r1
    cases r2
    refine ⟨i, j, rfl, rfl, _, rfl, ?_⟩
    cases h : f i j with
    | false =>
      refine (if_neg Bool.false_ne_true).mpr (q _ Hf2 H2 (s1.trans s2) c2 ?_)
      rw [h]
      exact .bl _
    | true =>
      refine (if_pos rfl).mpr (hc ps σ Hf2 H2 c2 _ fun vc Hf3 H3 s3 c3 r3 => ?_)
      cases r3
      refine ⟨j, k, rfl, rfl, q _ Hf3 H3 ((s1.trans s2).trans s3) c3 ?_⟩
      rw [h]
      exact .bl _)
theorem et_chain (ho : OpR X (compareOp op) (rI0 fun i j => .bl (f i j))) (ho' : OpR X (compareOp op') (rI0 fun i j => .bl (g i j))) (ha : EX X a E E (.val (.int i))) (hb : EX X b E E (.val (.int j))) (hc : EX X c E E (.val (.int k)))
    (hm : lastMarks [op, op'] [b, c] = false := by with_unfolding_all rfl) : ET X (.Compare a [op, op'] [b, c] pos) E E (f i j && g j k) := fun ps σ Hf H cc Q q =>
  le_t (pt_chain ho ho' pe_o pe_o pe_o hm) (ha ps σ Hf H cc _ fun va Hf1 H1 s1 c1 r1 => hb ps σ Hf1 H1 c1 _ fun vb Hf2 H2 s2 c2 r2 => by
    cases r1
    cases r2
    refine ⟨i, j, rfl, rfl, _, rfl, ?_⟩
    cases h : f i j with
    | false =>
      rw [h] at q
      exact (if_neg Bool.false_ne_true).mpr ⟨_, rfl, q Hf2 H2 (s1.trans s2) c2⟩
    | true =>
      rw [h] at q
      refine (if_pos rfl).mpr (hc ps σ Hf2 H2 c2 _ fun vc Hf3 H3 s3 c3 r3 => ?_)
      cases r3
      exact ⟨j, k, rfl, rfl, _, rfl, q Hf3 H3 ((s1.trans s2).trans s3) c3⟩)
end
/-! ### slices in plain words -/
theorem cutL_le {α : Type} (xs : List α) (lo hi : Option Int) : (cutL xs lo hi).length ≤ xs.length := by
  unfold cutL
  rw [List.length_take, List.length_drop]
  omega
theorem cut_hi {α : Type} (xs : List α) {k : Int} (h : 0 ≤ k) : cutL xs none (some k) = xs.take k.toNat := by
  obtain ⟨n, rfl⟩ := Int.eq_ofNat_of_zero_le h
  unfold cutL
  rw [show HT.sIx xs.length xs.length (some (n : Int)) = min n xs.length from HT.sIx_nat _ _ _, HT.sIx_none]
  show (xs.drop 0).take (min n xs.length - 0) = xs.take n
  rw [List.drop_zero, Nat.sub_zero]
  by_cases q : n ≤ xs.length
  · rw [Nat.min_eq_left q]
  · rw [Nat.min_eq_right (by omega), List.take_of_length_le (Nat.le_refl _), List.take_of_length_le (by omega)]
theorem cut_lo {α : Type} (xs : List α) {k : Int} (h : 0 ≤ k) : cutL xs (some k) none = xs.drop k.toNat := by
  obtain ⟨n, rfl⟩ := Int.eq_ofNat_of_zero_le h
  unfold cutL
  rw [show HT.sIx xs.length 0 (some (n : Int)) = min n xs.length from HT.sIx_nat _ _ _, HT.sIx_none]
  show (xs.drop (min n xs.length)).take (xs.length - min n xs.length) = xs.drop n
  by_cases q : n ≤ xs.length
  · rw [Nat.min_eq_left q, List.take_of_length_le (by rw [List.length_drop]; exact Nat.le_refl _)]
  · rw [Nat.min_eq_right (by omega), Nat.sub_self, List.drop_of_length_le (Nat.le_refl _), List.drop_of_length_le (by omega)]
    rfl
theorem cut_both {α : Type} (xs : List α) {a b : Int} (h : 0 ≤ a) (h2 : 0 ≤ b) : cutL xs (some a) (some b) = (xs.take b.toNat).drop a.toNat := by
  obtain ⟨m, rfl⟩ := Int.eq_ofNat_of_zero_le h
  obtain ⟨n, rfl⟩ := Int.eq_ofNat_of_zero_le h2
  unfold cutL
  rw [show HT.sIx xs.length xs.length (some (n : Int)) = min n xs.length from HT.sIx_nat _ _ _, show HT.sIx xs.length 0 (some (m : Int)) = min m xs.length from HT.sIx_nat _ _ _]
  show (xs.drop (min m xs.length)).take (min n xs.length - min m xs.length) = (xs.take n).drop m
  refine List.ext_getElem? fun i => ?_
  simp only [List.getElem?_take, List.getElem?_drop]
  by_cases q : m ≤ xs.length
  · rw [Nat.min_eq_left q]
    by_cases q2 : n ≤ xs.length
    · rw [Nat.min_eq_left q2]
      by_cases q3 : m + i < n
      · rw [if_pos q3, if_pos (by omega)]
      · rw [if_neg q3, if_neg (by omega)]
    · rw [Nat.min_eq_right (by omega)]
      by_cases q3 : m + i < n
      · rw [if_pos q3]
        by_cases q4 : i < xs.length - m
        · rw [if_pos q4]
        · rw [if_neg q4, List.getElem?_eq_none (by omega)]
      · rw [if_neg q3, if_neg (by omega)]
  · rw [Nat.min_eq_right (by omega : xs.length ≤ m), if_neg (by omega)]
    by_cases q3 : m + i < n
    · rw [if_pos q3, List.getElem?_eq_none (by omega)]
    · rw [if_neg q3]
theorem map_app1 {α : Type} (ι : α → PyData) (l : List α) (x : α) : l.map ι ++ [ι x] = (l ++ [x]).map ι := by rw [List.map_append]; rfl
theorem map_set1 {α : Type} (ι : α → PyData) (l : List α) (i : Nat) (x : α) : (l.map ι).set i (ι x) = (l.set i x).map ι := by rw [List.map_set]
theorem ixN_of {n : Nat} {k : Int} (h0 : 0 ≤ k) (h1 : k < n) : ixN n k = some k.toNat := by
  unfold ixN
  rw [if_pos h0, if_pos h1]
/-! ### typed walks -/
theorem enumL_typed {α : Type} (ι : α → PyData) (l : List α) : enumL (l.map ι) = l.zipIdx.map fun p => .tuple [.int (p.2 : Nat), ι p.1] := by
  refine List.ext_getElem? fun i => ?_
  cases h : l[i]? with
  | none =>
    have hl : l.length ≤ i := List.getElem?_eq_none_iff.mp h
    unfold enumL
    rw [List.getElem?_eq_none (by rw [List.length_map, List.length_range, List.length_map]; exact hl), List.getElem?_eq_none (by rw [List.length_map, List.length_zipIdx]; exact hl)]
  | some y =>
    rw [enumL_at (d := ι y) (by rw [List.getElem?_map, h]; rfl), List.getElem?_map, List.getElem?_zipIdx, h]
    simp
theorem zipL_typed {α β : Type} (ι : α → PyData) (κ : β → PyData) (l : List α) (m : List β) : zipL (l.map ι) (m.map κ) = (l.zip m).map fun p => .tuple [ι p.1, κ p.2] := by
  refine List.ext_getElem? fun i => ?_
  by_cases hi : i < min l.length m.length
  · have h1 : i < l.length := by omega
    have h2 : i < m.length := by omega
    rw [zipL_at (d := ι l[i]) (e := κ m[i]) (by rw [List.getElem?_map, List.getElem?_eq_getElem h1]; rfl) (by rw [List.getElem?_map, List.getElem?_eq_getElem h2]; rfl), List.getElem?_map]
    rw [List.getElem?_eq_getElem (by rw [List.length_zip]; exact hi)]
    simp
  · unfold zipL
    rw [List.getElem?_eq_none (by rw [List.length_map, List.length_range, List.length_map, List.length_map]; omega), List.getElem?_eq_none (by rw [List.length_map, List.length_zip]; omega)]
theorem ei_cast {js : List PyData} (h : EI X tg iter E E1 items) (q : items = js) : EI X tg iter E E1 js := q ▸ h
theorem ei_enumT {α : Type} {ι : α → PyData} {l : List α} {elts : List Expr} {kk : Nat} {tpos p2 : Pos} (h : EX X e E E1 (.val (.list (l.map ι)))) (hg : Gl X "enumerate") (hm : X.mg "enumerate" = none) (hs : starEach [e] X.env = [(false, eval e X.env)] := by rfl) :
    EI X (.Tuple elts kk tpos) (.Call (.Name "enumerate" p) [e] [] p2) E E1 (l.zipIdx.map fun p => .tuple [.int (p.2 : Nat), ι p.1]) := ei_cast (ei_enum h hg hm hs) (enumL_typed ι l)
theorem ei_zipT {α β : Type} {ι : α → PyData} {κ : β → PyData} {l : List α} {m : List β} {elts : List Expr} {kk : Nat} {tpos p2 : Pos} (ha : EX X a E E1 (.val (.list (l.map ι)))) (hb : EX X b E1 E2 (.val (.list (m.map κ)))) (hg : Gl X "zip") (hm : X.mg "zip" = none)
    (hs : starEach [a, b] X.env = (false, eval a X.env) :: starEach [b] X.env := by rfl) (hs2 : starEach [b] X.env = (false, eval b X.env) :: starEach [] X.env := by rfl) (hpl : (backTo p2 (starEach [b] X.env)).any (·.1) = false := by rfl) :
    EI X (.Tuple elts kk tpos) (.Call (.Name "zip" p) [a, b] [] p2) E E2 ((l.zip m).map fun p => .tuple [ι p.1, κ p.2]) := ei_cast (ei_zip ha hb hg hm hs hs2 hpl) (zipL_typed ι κ l m)
theorem ei_rangeT {n : Int} {p2 : Pos} (h : EX X a E E1 (.val (.int n))) (hn : n < 1000000000) (hg : Gl X "range") (hm : X.mg "range" = none) (h0 : -1000000000 < n) (hs : starEach [a] X.env = [(false, eval a X.env)] := by rfl) :
    EI X tg (.Call (.Name "range" p) [a] [] p2) E E1 ((List.range n.toNat).map fun i => .int ((i : Nat) : Int)) :=
  ei_cast (ei_range1 h hn hg hm h0 hs) (by refine List.map_congr_left fun i _ => ?_; rw [Int.zero_add])

/-! ### comprehensions, typed -/
/-- no test -/
theorem ex_lcM {α : Type} {l : List α} {ι : α → PyData} {y : α → PyData} (js : List Nat) {es : α → List PyData} (hc : X.calm = true) (hN : X.N.Nodup) (hi : EI X tg iter E E1 (l.map ι)) (ok : BlkOk X.N X.env.scope scope own) (hg : AllB X scope fun Y => PG Y tg t)
    (hz : l.length ≤ 1000000) (hjs : ∀ j ∈ js, j ∈ own.map (·.2)) (td : ∀ x, TD t (ι x) js (es x)) (hF : wipeE E1 (own.map (·.2)) = F) (hF2 : wipeE F (own.map (·.2)) = F) (hw : ∀ x, wipeE (setE F js (es x)) (own.map (·.2)) = F)
    (he : ∀ x ∈ l, AllB X scope fun Y => EX Y elt (setE F js (es x)) (setE F js (es x)) (.val (y x)))
    (hs : ∀ x, foldedSetIterable iter X.env x = pure x := by intro _; rfl) :
    EX X (.ListComp elt [⟨tg, iter, [], 0⟩] scope pos) E F (.own (l.map y)) := by
  have h := ex_lc0 (pos := pos) (ifs := []) l (fun _ => true) y js es hc hN hi rfl ok hg hz hjs (fun x _ => td x) hF hF2 (fun x _ => hw x) (fun x _ _ _ _ _ _ => ets_nil) (fun x hx _ => he x hx) hs
  rw [List.filter_eq_self.mpr (fun _ _ => rfl)] at h
  exact h
/-- one test -/
theorem ex_lcF {α : Type} {l : List α} {ι : α → PyData} {c : Expr} {q : α → Bool} {y : α → PyData} (js : List Nat) {es : α → List PyData} (hc : X.calm = true) (hN : X.N.Nodup) (hi : EI X tg iter E E1 (l.map ι)) (ok : BlkOk X.N X.env.scope scope own) (hg : AllB X scope fun Y => PG Y tg t)
    (hz : l.length ≤ 1000000) (hjs : ∀ j ∈ js, j ∈ own.map (·.2)) (td : ∀ x, TD t (ι x) js (es x)) (hF : wipeE E1 (own.map (·.2)) = F) (hF2 : wipeE F (own.map (·.2)) = F) (hw : ∀ x, wipeE (setE F js (es x)) (own.map (·.2)) = F)
    (ht : ∀ x ∈ l, AllB X scope fun Y => ET Y c (setE F js (es x)) (setE F js (es x)) (q x)) (he : ∀ x ∈ l, q x = true → AllB X scope fun Y => EX Y elt (setE F js (es x)) (setE F js (es x)) (.val (y x)))
    (hs : ∀ x, foldedSetIterable iter X.env x = pure x := by intro _; rfl) :
    EX X (.ListComp elt [⟨tg, iter, [c], 0⟩] scope pos) E F (.own ((l.filter q).map y)) :=
  ex_lc0 (pos := pos) (ifs := [c]) l q y js es hc hN hi rfl ok hg hz hjs (fun x _ => td x) hF hF2 (fun x _ => hw x) (fun x hx s H C cl fp => ets_one (ht x hx s H C cl fp)) he hs
/-- the same to a name -/
theorem gs_lcM {α : Type} {l : List α} {ι : α → PyData} {y : α → PyData} {spos pos' : Pos} (i : Nat) (js : List Nat) {es : α → List PyData} (hc : X.calm = true) (hN : X.N.Nodup) (hi : EI X tg iter E E1 (l.map ι)) (ok : BlkOk X.N X.env.scope scope own) (hg : AllB X scope fun Y => PG Y tg t)
    (hz : l.length ≤ 1000000) (hjs : ∀ j ∈ js, j ∈ own.map (·.2)) (td : ∀ x, TD t (ι x) js (es x)) (hF : wipeE E1 (own.map (·.2)) = F) (hF2 : wipeE F (own.map (·.2)) = F) (hw : ∀ x, wipeE (setE F js (es x)) (own.map (·.2)) = F)
    (he : ∀ x ∈ l, AllB X scope fun Y => EX Y elt (setE F js (es x)) (setE F js (es x)) (.val (y x)))
    (h00 : isOwn E0[i]? = false) (k : D.nx (F.set i (.own (l.map y)))) (hy : X.N[i]? = some x) (hyl : X.env.scope.names.lookup x = some .local) (hsw : swapsWith (.ListComp elt [⟨tg, iter, [], 0⟩] scope pos) (some (.Name x pos')) spos.line X.env = pure true) (hs : ∀ x, foldedSetIterable iter X.env x = pure x := by intro _; rfl) :
    GS X E0 (.Assign [.Name x pos'] (.ListComp elt [⟨tg, iter, [], 0⟩] scope pos) spos) E D := by
  refine gs_lc0 (ifs := []) i l (fun _ => true) y js es hc hN hi rfl ok hg hz hjs (fun x _ => td x) hF hF2 (fun x _ => hw x) (fun x _ _ _ _ _ _ => ets_nil) (fun x hx _ => he x hx) h00 ?_ hy hyl hsw hs
  rw [List.filter_eq_self.mpr (fun _ _ => rfl)]
  exact k
theorem gs_lcF {α : Type} {l : List α} {ι : α → PyData} {c : Expr} {q : α → Bool} {y : α → PyData} {spos pos' : Pos} (i : Nat) (js : List Nat) {es : α → List PyData} (hc : X.calm = true) (hN : X.N.Nodup) (hi : EI X tg iter E E1 (l.map ι)) (ok : BlkOk X.N X.env.scope scope own) (hg : AllB X scope fun Y => PG Y tg t)
    (hz : l.length ≤ 1000000) (hjs : ∀ j ∈ js, j ∈ own.map (·.2)) (td : ∀ x, TD t (ι x) js (es x)) (hF : wipeE E1 (own.map (·.2)) = F) (hF2 : wipeE F (own.map (·.2)) = F) (hw : ∀ x, wipeE (setE F js (es x)) (own.map (·.2)) = F)
    (ht : ∀ x ∈ l, AllB X scope fun Y => ET Y c (setE F js (es x)) (setE F js (es x)) (q x)) (he : ∀ x ∈ l, q x = true → AllB X scope fun Y => EX Y elt (setE F js (es x)) (setE F js (es x)) (.val (y x)))
    (h00 : isOwn E0[i]? = false) (k : D.nx (F.set i (.own ((l.filter q).map y)))) (hy : X.N[i]? = some x) (hyl : X.env.scope.names.lookup x = some .local) (hsw : swapsWith (.ListComp elt [⟨tg, iter, [c], 0⟩] scope pos) (some (.Name x pos')) spos.line X.env = pure true) (hs : ∀ x, foldedSetIterable iter X.env x = pure x := by intro _; rfl) :
    GS X E0 (.Assign [.Name x pos'] (.ListComp elt [⟨tg, iter, [c], 0⟩] scope pos) spos) E D :=
  gs_lc0 (ifs := [c]) i l q y js es hc hN hi rfl ok hg hz hjs (fun x _ => td x) hF hF2 (fun x _ => hw x) (fun x hx s H C cl fp => ets_one (ht x hx s H C cl fp)) he h00 k hy hyl hsw hs
/-- over a range, each turn may change what is one's own: I i the slots ahead of turn i (the block's own ones wiped) -/
theorem ex_lcR {n : Nat} {y : Nat → PyData} (j : Nat) (I : Nat → En) (hc : X.calm = true) (hN : X.N.Nodup) (hi : EI X tg iter E E1 ((List.range n).map fun i => .int ((i : Nat) : Int))) (ok : BlkOk X.N X.env.scope scope own) (hg : AllB X scope fun Y => PG Y tg (gName j))
    (hz : n ≤ 1000000) (hj : j ∈ own.map (·.2)) (h0 : wipeE E1 (own.map (·.2)) = I 0) (hE : wipeE (I n) (own.map (·.2)) = E2)
    (he : ∀ i, i < n → ∃ Ee, AllB X scope (fun Y => EX Y elt ((I i).set j (.val (.int ((i : Nat) : Int)))) Ee (.val (y i))) ∧ wipeE Ee (own.map (·.2)) = I (i + 1))
    (hs : ∀ x, foldedSetIterable iter X.env x = pure x := by intro _; rfl) :
    EX X (.ListComp elt [⟨tg, iter, [], 0⟩] scope pos) E E2 (.own ((List.range n).map y)) := by
  have h := ex_lc (pos := pos) (ifs := []) (elt := elt) (I := I) (res := fun i => ((List.range n).take i).map y) (E2 := E2) hc hN hi ok hg h0 ⟨rfl, fun i => ?_, fun i d hd => ?_⟩ ?_ hs
  · rw [List.length_map, List.length_range] at h
    have e : (List.range n).take n = List.range n := List.take_of_length_le (by rw [List.length_range]; exact Nat.le_refl _)
    rw [e] at h
    exact h
  · rw [List.length_map, List.length_take, List.length_range]
    omega
  · rw [List.getElem?_map] at hd
    obtain ⟨x, hx, rfl⟩ := Option.map_eq_some_iff.mp hd
    have hi2 : i < n := by
      have := (List.getElem?_eq_some_iff.mp hx).1
      rw [List.length_range] at this
      exact this
    have hxi : x = i := by
      rw [List.getElem?_range hi2] at hx
      exact (Option.some.inj hx).symm
    subst hxi
    obtain ⟨Ee, h1, h2⟩ := he x hi2
    refine ⟨[j], [_], true, td_name j, fun k hk => by rw [List.mem_singleton.mp hk]; exact hj, fun s H C cl fp => ets_nil, fun _ => ⟨Ee, _, h1, h2, ?_⟩, fun z => by cases z⟩
    show ((List.range n).take (x + 1)).map y = ((List.range n).take x).map y ++ [y x]
    rw [List.take_add_one, List.getElem?_range hi2, List.map_append]
    rfl
  · rw [List.length_map, List.length_range]
    exact hE

/-- an if whose ways meet again -/
theorem gs_ifJ {c : Expr} {sa sb : List Stmt} {z : Bool} (Mid : En → Prop) (hc : ET X c E E1 z) (ha : z = true → GO X E0 sa E1 { D with nx := Mid }) (hb : z = false → GO X E0 sb E1 { D with nx := Mid }) (k : ∀ E', Mid E' → D.nx E') : GS X E0 (.If c sa sb pos) E D :=
  gs_if hc (fun h => go_imp (ha h) k (fun _ _ q => q) (fun _ q => q) fun _ q => q) (fun h => go_imp (hb h) k (fun _ _ q => q) (fun _ q => q) fun _ q => q)
/-! ### typed fors -/
theorem gs_forM {α : Type} {body : List Stmt} {l : List α} {ι : α → PyData} (Pv : Nat → En → Prop) (js : List Nat) {es : α → List PyData} (hi : EI X tg iter E E1 (l.map ι)) (hg : PG X tg t) (td : ∀ x, TD t (ι x) js (es x)) (h0 : Pv 0 E1)
    (hs : ∀ (i : Nat) (x : α) (E' : En), l[i]? = some x → Pv i E' → GO X E0 body (setE E' js (es x)) { D with nx := Pv (i + 1), ct := Pv (i + 1), bk := D.nx }) (hd : ∀ E', Pv l.length E' → D.nx E')
    (hp : PassesOwn (model X.prog X.w) X.A X.env X.xe := by exact PassesOwn.never) (hc : X.calm = true := by rfl) (hfs : ∀ x, foldedSetIterable iter X.env x = pure x := by intro _; rfl) : GS X E0 (.For tg iter body [] pos) E D :=
  gs_for Pv hi hg h0 (fun i d E' h k => by
    rw [List.getElem?_map] at h
    obtain ⟨x, hx, rfl⟩ := Option.map_eq_some_iff.mp h
    exact ⟨js, es x, td x, hs i x E' hx k⟩) (fun E' k => hd E' (by rw [List.length_map] at k; exact k)) hp hc hfs
theorem gs_forR {body : List Stmt} {n : Int} (Pv : Nat → En → Prop) (j : Nat) (hi : EI X tg iter E E1 ((List.range n.toNat).map fun i => .int ((i : Nat) : Int))) (hg : PG X tg (gName j)) (h0 : Pv 0 E1)
    (hs : ∀ (i : Nat) (E' : En), i < n.toNat → Pv i E' → GO X E0 body (E'.set j (.val (.int ((i : Nat) : Int)))) { D with nx := Pv (i + 1), ct := Pv (i + 1), bk := D.nx }) (hd : ∀ E', Pv n.toNat E' → D.nx E')
    (hp : PassesOwn (model X.prog X.w) X.A X.env X.xe := by exact PassesOwn.never) (hc : X.calm = true := by rfl) (hfs : ∀ x, foldedSetIterable iter X.env x = pure x := by intro _; rfl) : GS X E0 (.For tg iter body [] pos) E D :=
  gs_forM (es := fun i => [.int ((i : Nat) : Int)]) Pv [j] hi hg (fun _ => td_name j) h0 (fun i x E' h k => by
    have hi2 : i < n.toNat := by
      have := (List.getElem?_eq_some_iff.mp h).1
      rw [List.length_range] at this
      exact this
    have hxi : x = i := by
      rw [List.getElem?_range hi2] at h
      exact (Option.some.inj h).symm
    subst hxi
    exact hs x E' hi2 k) (fun E' k => hd E' (by rw [List.length_range] at k; exact k)) hp hc hfs
end
end L2.DL

namespace L2.DL
open PySem PySem.Spec PyProof.Rows
/-! ### == of typed data -/
structure Nice {α : Type} [DecidableEq α] (ι : α → PyData) (k : Nat) : Prop where
  lay : ∀ x, (ι x).canLay0 = true
  dep : ∀ x, (ι x).depth ≤ k
  eqv : ∀ x y, PyData.eqv (ι x) (ι y) = decide (x = y)
theorem nice_int : Nice PyData.int 0 := ⟨fun x => by simp only [PyData.canLay0], fun x => by simp only [PyData.depth]; exact Nat.le_refl 0, fun x y => by
  simp only [PyData.eqv]
  exact Bool.beq_eq_decide_eq _ _⟩
theorem nice_bool : Nice PyData.bool 0 := ⟨fun x => by simp only [PyData.canLay0], fun x => by simp only [PyData.depth]; exact Nat.le_refl 0, fun x y => by
  simp only [PyData.eqv]
  exact Bool.beq_eq_decide_eq _ _⟩
section
variable {α β γ : Type} [DecidableEq α] [DecidableEq β] [DecidableEq γ] {ι : α → PyData} {κ : β → PyData} {μ : γ → PyData} {j k m : Nat}
theorem lay_all (n : Nice ι k) : ∀ l : List α, PyData.canLayAll0 (l.map ι) = true
  | [] => by simp only [List.map_nil, PyData.canLayAll0]
  | x :: r => by simp only [List.map_cons, PyData.canLayAll0, n.lay x, lay_all n r, Bool.and_self]
theorem dep_all (n : Nice ι k) : ∀ l : List α, PyData.depthAll (l.map ι) ≤ k
  | [] => by simp only [List.map_nil, PyData.depthAll]; exact Nat.zero_le _
  | x :: r => by
    have h1 := n.dep x
    have h2 := dep_all n r
    simp only [List.map_cons, PyData.depthAll]
    omega
theorem eqv_all (n : Nice ι k) : ∀ l m : List α, PyData.eqvAll (l.map ι) (m.map ι) = decide (l = m)
  | [], [] => by simp [PyData.eqvAll]
  | [], _ :: _ => by simp [PyData.eqvAll]
  | _ :: _, [] => by simp [PyData.eqvAll]
  | x :: r, y :: s => by
    simp only [List.map_cons, PyData.eqvAll, n.eqv x y, eqv_all n r s]
    by_cases h1 : x = y
    · by_cases h2 : r = s
      · simp [h1, h2]
      · simp [h1, h2]
    · simp [h1]
theorem nice_list (n : Nice ι k) : Nice (fun l : List α => PyData.list (l.map ι)) (k + 1) :=
  ⟨fun l => by simp only [PyData.canLay0]; exact lay_all n l, fun l => by simp only [PyData.depth]; exact Nat.succ_le_succ (dep_all n l), fun l m => by simp only [PyData.eqv]; exact eqv_all n l m⟩
theorem nice_tupV (n : Nice ι k) : Nice (fun l : List α => PyData.tuple (l.map ι)) (k + 1) :=
  ⟨fun l => by simp only [PyData.canLay0]; exact lay_all n l, fun l => by simp only [PyData.depth]; exact Nat.succ_le_succ (dep_all n l), fun l m => by simp only [PyData.eqv]; exact eqv_all n l m⟩
theorem nice_pair (a : Nice ι j) (b : Nice κ k) : Nice (fun p : α × β => PyData.tuple [ι p.1, κ p.2]) (max j k + 1) :=
  ⟨fun p => by simp only [PyData.canLay0, PyData.canLayAll0, a.lay, b.lay, Bool.and_self], fun p => by
    have h1 := a.dep p.1
    have h2 := b.dep p.2
    simp only [PyData.depth, PyData.depthAll]
    omega, fun p q => by
    obtain ⟨p1, p2⟩ := p
    obtain ⟨q1, q2⟩ := q
    simp only [PyData.eqv, PyData.eqvAll, a.eqv, b.eqv, Bool.and_true, Prod.mk.injEq]
    by_cases h1 : p1 = q1
    · by_cases h2 : p2 = q2
      · simp [h1, h2]
      · simp [h1, h2]
    · simp [h1]⟩
theorem nice_three (a : Nice ι j) (b : Nice κ k) (c : Nice μ m) : Nice (fun p : α × β × γ => PyData.tuple [ι p.1, κ p.2.1, μ p.2.2]) (max j (max k m) + 1) :=
  ⟨fun p => by simp only [PyData.canLay0, PyData.canLayAll0, a.lay, b.lay, c.lay, Bool.and_self], fun p => by
    have h1 := a.dep p.1
    have h2 := b.dep p.2.1
    have h3 := c.dep p.2.2
    simp only [PyData.depth, PyData.depthAll]
    omega, fun p q => by
    obtain ⟨p1, p2, p3⟩ := p
    obtain ⟨q1, q2, q3⟩ := q
    simp only [PyData.eqv, PyData.eqvAll, a.eqv, b.eqv, c.eqv, Bool.and_true, Prod.mk.injEq]
    by_cases h1 : p1 = q1
    · by_cases h2 : p2 = q2
      · by_cases h3 : p3 = q3
        · simp [h1, h2, h3]
        · simp [h1, h2, h3]
      · simp [h1, h2]
    · simp [h1]⟩
theorem Nice.shaped (n : Nice ι k) (h : k ≤ 64) (x : α) : SeqAt.shaped (ι x) = true := by
  unfold SeqAt.shaped
  rw [n.lay x, decide_eq_true (Nat.le_trans (n.dep x) h)]
  rfl
variable {X : Cx} {E : En} {ra rb : RD}
theorem o_eqG (n : Nice ι k) (hu : X.A.units + 64 < cLine) {x y : α} (l1 : lkD E ra = some (ι x)) (l2 : lkD E rb = some (ι y)) (h : k ≤ 64) : Op2 X (compareOp .Eq) E ra rb (.bool (decide (x = y))) := by
  rw [← n.eqv x y]
  exact o_eqD hu l1 l2 (n.shaped h x) (n.shaped h y)
theorem o_neG (n : Nice ι k) (hu : X.A.units + 64 < cLine) {x y : α} (l1 : lkD E ra = some (ι x)) (l2 : lkD E rb = some (ι y)) (h : k ≤ 64) : Op2 X (compareOp .NotEq) E ra rb (.bool (!decide (x = y))) := by
  rw [← n.eqv x y]
  exact o_neD hu l1 l2 (n.shaped h x) (n.shaped h y)
end
section
variable {X : Cx} {E : En} {r : RD}
/-! ### least, greatest -/
def minI : List Int → Int
  | [] => 0
  | [x] => x
  | x :: y :: r => min x (minI (y :: r))
def maxI : List Int → Int
  | [] => 0
  | [x] => x
  | x :: y :: r => max x (maxI (y :: r))
theorem minI_mem : ∀ {l : List Int}, 0 < l.length → minI l ∈ l
  | [], h => by simp at h
  | [x], _ => by simp [minI]
  | x :: y :: r, _ => by
    have ih := minI_mem (l := y :: r) (by simp)
    unfold minI
    rcases Int.le_total x (minI (y :: r)) with h | h
    · rw [Int.min_eq_left h]; exact List.mem_cons_self
    · rw [Int.min_eq_right h]; exact List.mem_cons_of_mem _ ih
theorem minI_le : ∀ {l : List Int} {y : Int}, y ∈ l → minI l ≤ y
  | [], _, h => by simp at h
  | [x], y, h => by
    rw [List.mem_singleton.mp h]
    exact Int.le_refl _
  | x :: z :: r, y, h => by
    unfold minI
    rcases List.mem_cons.mp h with rfl | h
    · exact Int.min_le_left _ _
    · exact Int.le_trans (Int.min_le_right _ _) (minI_le h)
theorem maxI_mem : ∀ {l : List Int}, 0 < l.length → maxI l ∈ l
  | [], h => by simp at h
  | [x], _ => by simp [maxI]
  | x :: y :: r, _ => by
    have ih := maxI_mem (l := y :: r) (by simp)
    unfold maxI
    rcases Int.le_total x (maxI (y :: r)) with h | h
    · rw [Int.max_eq_right h]; exact List.mem_cons_of_mem _ ih
    · rw [Int.max_eq_left h]; exact List.mem_cons_self
theorem le_maxI : ∀ {l : List Int} {y : Int}, y ∈ l → y ≤ maxI l
  | [], _, h => by simp at h
  | [x], y, h => by
    rw [List.mem_singleton.mp h]
    exact Int.le_refl _
  | x :: z :: r, y, h => by
    unfold maxI
    rcases List.mem_cons.mp h with rfl | h
    · exact Int.le_max_left _ _
    · exact Int.le_trans (le_maxI h) (Int.le_max_right _ _)
theorem ca_minL (hc : X.calm = true) {ns : List Int} (l : lkL E r = some (ns.map .int)) (h : 0 < ns.length) : Ca X (.builtin "min") E E [r] (.val (.int (minI ns))) := ca_min hc l (minI_mem h) fun _ => minI_le
theorem ca_maxL (hc : X.calm = true) {ns : List Int} (l : lkL E r = some (ns.map .int)) (h : 0 < ns.length) : Ca X (.builtin "max") E E [r] (.val (.int (maxI ns))) := ca_max hc l (maxI_mem h) fun _ => le_maxI
theorem o_and {i j : Int} : Op2 X (binaryOp .BitAnd) E (.val (.int i)) (.val (.int j)) (.int (Builtin.bitAnd i j)) := o2_I0 op_and
/-! ### an own list's last item -/
def lastI (ds : List Int) : Int := ds.getD (ds.length - 1) 0
theorem lastI_at {ds : List Int} (h : ds ≠ []) : (ds.map PyData.int)[(ds.map PyData.int).length - 1]? = some (.int (lastI ds)) := by
  have hl : 0 < ds.length := List.length_pos_iff.mpr h
  rw [List.length_map, List.getElem?_map, List.getElem?_eq_getElem (by omega)]
  unfold lastI
  rw [List.getD_eq_getElem?_getD, List.getElem?_eq_getElem (by omega)]
  rfl
theorem map_dropLast1 {α : Type} (ι : α → PyData) (l : List α) : (l.map ι).dropLast = l.dropLast.map ι := by rw [List.dropLast_eq_take, List.dropLast_eq_take, List.length_map, List.map_take]
end
end L2.DL

namespace L2.DL
open PySem PySem.Spec PyProof.Rows
section
variable {X : Cx} {E : En}
/-! ### a list so many times -/
theorem dps_rep {H : Hp} {vs : List V} {ds : List PyData} (h : DqAll H vs ds) : ∀ n : Nat, DqAll H (List.replicate n vs).flatten (List.replicate n ds).flatten
  | 0 => .nil
  | n + 1 => by
    rw [List.replicate_succ, List.replicate_succ, List.flatten_cons, List.flatten_cons]
    exact dps_app h (dps_rep h n)
theorem o_rep {ds : List PyData} {k : Int} (h1 : -1000000000 < k) (h2 : k < 1000000000) (hz : ds.length * k.toNat ≤ 1000000) : Op2L X (binaryOp .Mult) E (.own ds) (.val (.int k)) (List.replicate k.toNat ds).flatten :=
  ⟨_, op_rep, fun ps σ B Hf H va vb c h h' Q q => by
    obtain ⟨p, vs, rfl, _, f, l, dq, n⟩ := h
    cases h'
    refine ⟨p, k, vs, rfl, rfl, l, by omega, by omega, ?_, fun p2 hp => ?_⟩
    · rw [dps_len dq]
      exact Nat.le_trans hz (by decide)
    · exact q _ _ _ (.newO c hp) (c.newO hp) ⟨p2, _, rfl, hp, c.frz_none hp, upd_same, dps_rep dq _, c.none_ne hp⟩⟩
theorem rep_one {α : Type} (ι : α → PyData) (x : α) : ∀ n : Nat, (List.replicate n [ι x]).flatten = (List.replicate n x).map ι
  | 0 => rfl
  | n + 1 => by
    rw [List.replicate_succ, List.replicate_succ, List.flatten_cons, rep_one ι x n]
    rfl
end
/-! ### a list of two kinds -/
section
variable {α β : Type} [DecidableEq α] [DecidableEq β] {ι : α → PyData} {κ : β → PyData} {j k : Nat}
theorem nice_lpair (a : Nice ι j) (b : Nice κ k) : Nice (fun p : α × β => PyData.list [ι p.1, κ p.2]) (max j k + 1) :=
  ⟨fun p => by simp only [PyData.canLay0, PyData.canLayAll0, a.lay, b.lay, Bool.and_self], fun p => by
    have h1 := a.dep p.1
    have h2 := b.dep p.2
    simp only [PyData.depth, PyData.depthAll]
    omega, fun p q => by
    obtain ⟨p1, p2⟩ := p
    obtain ⟨q1, q2⟩ := q
    simp only [PyData.eqv, PyData.eqvAll, a.eqv, b.eqv, Bool.and_true, Prod.mk.injEq]
    by_cases h1 : p1 = q1
    · by_cases h2 : p2 = q2
      · simp [h1, h2]
      · simp [h1, h2]
    · simp [h1]⟩
end
/-! ### three numbers in a row -/
abbrev T3 := Int × Int × Int
abbrev ι3 (t : T3) : PyData := .tuple [.int t.1, .int t.2.1, .int t.2.2]
theorem zip_at {α β : Type} : ∀ {l : List α} {m : List β} {i : Nat} {p : α × β}, (l.zip m)[i]? = some p → l[i]? = some p.1 ∧ m[i]? = some p.2
  | [], _, _, _, h => by simp at h
  | _ :: _, [], _, _, h => by simp at h
  | a :: l, b :: m, 0, p, h => by
    simp only [List.zip_cons_cons, List.getElem?_cons_zero, Option.some.injEq] at h
    subst h
    exact ⟨rfl, rfl⟩
  | a :: l, b :: m, i + 1, p, h => by
    simp only [List.zip_cons_cons, List.getElem?_cons_succ] at h
    exact zip_at (l := l) (m := m) h
theorem zipIdx_at {α : Type} {l : List α} {i : Nat} {p : α × Nat} (h : l.zipIdx[i]? = some p) : l[i]? = some p.1 ∧ p.2 = i := by
  rw [List.getElem?_zipIdx] at h
  obtain ⟨a, ha, rfl⟩ := Option.map_eq_some_iff.mp h
  exact ⟨ha, by simp⟩
theorem getD_at {α : Type} [Inhabited α] {l : List α} {i : Nat} (h : i < l.length) : l[i]? = some (l.getD i default) := by
  rw [List.getD_eq_getElem?_getD, List.getElem?_eq_getElem h]
  rfl
theorem getD_mem {α : Type} [Inhabited α] {l : List α} {i : Nat} (h : i < l.length) : l.getD i default ∈ l := List.mem_of_getElem? (getD_at h)
/-! ### a def that calls itself: the promise that nobody can ask for -/
theorem fn_none {P : Program} {w : World} {K : PySem.W.Frag} {mg : Str → Option Value} {base : Heap} {f : Addr} {fd : FuncData} {pn : List Str} {np k : Nat} {Pd : DSp} (h : ∀ E Q, ¬ Pd E Q) : FnOk P w K mg base CX0 k f fd pn (FD Pd np) :=
  ⟨fun vs H Q E q => by obtain ⟨_, ps, Hf, En, _, hp⟩ := q; exact (h _ _ hp).elim, fun A outer s H args us vs Q E _ _ _ _ q => by obtain ⟨_, ps, Hf, En, _, hp⟩ := q; exact (h _ _ hp).elim⟩
end L2.DL

namespace L2.DL
open PySem PySem.Spec PyProof.Rows RZ
section
variable {X : Cx} {E0 E E1 E2 : En} {D : DE} {elt tg iter a b e : Expr} {scope : Scope} {own : List (Str × Nat)} {pos p : Pos} {t : TG} {x : Str}
/-! ### tuple + tuple -/
theorem o_catT {ds es : List PyData} (hz : ds.length + es.length ≤ 1000000) : Op2 X (binaryOp .Add) E (.val (.tuple ds)) (.val (.tuple es)) (.tuple (ds ++ es)) :=
  ⟨_, op_catA, fun ps σ B Hf H va vb c h1 h2 Q q => by
    cases h1 with
    | tup hl dq =>
      cases h2 with
      | tup hl2 dq2 =>
        rename_i p vs p' vs'
        refine ⟨p, p', vs, vs', rfl, rfl, .inl (rd_mono c.sub hl), .inl (rd_mono c.sub hl2), ?_, fun z => ?_, fun z z' => ?_, fun z z' p2 hp => ?_⟩
        · rw [dps_len dq, dps_len dq2]
          exact Nat.le_trans hz (by decide)
        · subst z
          cases dq
          exact q _ Hf H .refl c (.tup hl2 dq2)
        · subst z'
          cases dq2
          exact q _ Hf H .refl c (by rw [List.append_nil]; exact .tup hl dq)
        · have st := Stp.new c (o := .tup (vs ++ vs')) hp
          exact q _ _ _ st (c.new hp) (.tup (Rd.of upd_same) (dps_mono st.frz _ _ (dps_app dq dq2)))⟩
/-! ### zip of two tuples -/
theorem walk_zipT {K : PySem.W.Frag} {a b : Addr} {xs ys : List V} {n : Nat} (hn : n = min xs.length ys.length) : Walk (ItzT K a b) n (fun H => SqT K H a xs ∧ SqT K H b ys) (YPair (fun i => xs[i]?) (fun i => ys[i]?)) := by
  subst hn
  refine ⟨fun i _ hi q => ?_, fun _ q => ⟨xs, ys, q.1, q.2, by omega⟩, fun i H v H' _ q y => ?_⟩
  · have h1 : i < xs.length := by omega
    have h2 : i < ys.length := by omega
    exact ⟨xs, ys, xs[i], ys[i], q.1, q.2, by simp [h1], by simp [h2]⟩
  · obtain ⟨T, x, z, h1, h2, h3, h4, h5⟩ := y
    exact ⟨T, x, z, h1, h2, h3, h4 xs q.1, h5 ys q.2⟩
theorem ei_zipV {ds fs : List PyData} {elts : List Expr} {kk : Nat} {tpos p2 : Pos} (ha : EX X a E E1 (.val (.tuple ds))) (hb : EX X b E1 E2 (.val (.tuple fs))) (hg : Gl X "zip") (hm : X.mg "zip" = none)
    (hs : starEach [a, b] X.env = (false, eval a X.env) :: starEach [b] X.env := by rfl) (hs2 : starEach [b] X.env = (false, eval b X.env) :: starEach [] X.env := by rfl) (hpl : (backTo p2 (starEach [b] X.env)).any (·.1) = false := by rfl) :
    EI X (.Tuple elts kk tpos) (.Call (.Name "zip" p) [a, b] [] p2) E E2 (zipL ds fs) :=
  ⟨_, pi_zipA hg hm pa_o hs hpl, fun ps σ Hf H c R q => (ea_cons (X := X) ha (ea_cons (X := X) hb ea_nil trivial hs2) trivial hs) ps σ Hf H c _ fun vs Hf1 H1 s1 c1 r1 => by
    obtain ⟨v, v', rfl, h1, h2⟩ := pr2 r1
    cases h1 with
    | tup hl dq =>
      cases h2 with
      | tup hl2 dq2 =>
        rename_i p vs p' vs'
        refine ⟨p, p', vs, vs', rfl, .inr ⟨.inl (rd_mono c1.sub hl), .inl (rd_mono c1.sub hl2), q _ Hf1 H1 s1 c1 ⟨_, (?_ : Walk _ _ _ (YPair (fun i => vs[i]?) (fun i => vs'[i]?))), fun i H x H' y => ?_⟩⟩⟩
        · exact (walk_zipT (K := X.K) (a := p) (b := p') (xs := vs) (ys := vs') (by unfold zipL; rw [List.length_map, List.length_range, dps_len dq, dps_len dq2])).mono (fun H sm => ⟨.inl (rd_mono sm hl), .inl (rd_mono sm hl2)⟩) fun i H x H' _ _ y => y
        · obtain ⟨T, x, y, rfl, hT, rfl, e1, e2⟩ := y
          obtain ⟨d, f1, f2⟩ := dps_at dq e1
          obtain ⟨d', f1', f2'⟩ := dps_at dq2 e2
          exact ⟨_, zipL_at f1 f1', .inr ⟨T, _, _, rfl, hT, rfl, rfl, .cons f2 (.cons f2' .nil)⟩⟩⟩
theorem ei_zipTV {α β : Type} {ι : α → PyData} {κ : β → PyData} {l : List α} {m : List β} {elts : List Expr} {kk : Nat} {tpos p2 : Pos} (ha : EX X a E E1 (.val (.tuple (l.map ι)))) (hb : EX X b E1 E2 (.val (.tuple (m.map κ)))) (hg : Gl X "zip") (hm : X.mg "zip" = none)
    (hs : starEach [a, b] X.env = (false, eval a X.env) :: starEach [b] X.env := by rfl) (hs2 : starEach [b] X.env = (false, eval b X.env) :: starEach [] X.env := by rfl) (hpl : (backTo p2 (starEach [b] X.env)).any (·.1) = false := by rfl) :
    EI X (.Tuple elts kk tpos) (.Call (.Name "zip" p) [a, b] [] p2) E E2 ((l.zip m).map fun p => .tuple [ι p.1, κ p.2]) := ei_cast (ei_zipV ha hb hg hm hs hs2 hpl) (zipL_typed ι κ l m)
/-! ### comprehensions whose turns change what is one's own: I i the slots ahead of turn i (the block's own ones wiped) -/
theorem lc_eff {α : Type} {vs : List Nat} {l : List α} {ι : α → PyData} {y : Nat → PyData} {js : List Nat} {es : α → List PyData} {I : Nat → En} (hz : l.length ≤ 1000000) (hjs : ∀ j ∈ js, j ∈ vs) (td : ∀ x, TD t (ι x) js (es x))
    (he : ∀ i x, l[i]? = some x → ∃ Ee, AllB X scope (fun Y => EX Y elt (setE (I i) js (es x)) Ee (.val (y i))) ∧ wipeE Ee vs = I (i + 1)) : LC X scope vs t [] elt (l.map ι) I (fun i => ((List.range l.length).take i).map y) :=
  ⟨rfl, fun i => by rw [List.length_map, List.length_take, List.length_range]; omega, fun i d hd => by
    rw [List.getElem?_map] at hd
    obtain ⟨x, hx, rfl⟩ := Option.map_eq_some_iff.mp hd
    have hi := (List.getElem?_eq_some_iff.mp hx).1
    obtain ⟨Ee, h1, h2⟩ := he i x hx
    refine ⟨js, es x, true, td x, hjs, fun s H C cl fp => ets_nil, fun _ => ⟨Ee, _, h1, h2, ?_⟩, fun z => by cases z⟩
    show ((List.range l.length).take (i + 1)).map y = ((List.range l.length).take i).map y ++ [y i]
    rw [List.take_add_one, List.getElem?_range hi, List.map_append]
    rfl⟩
theorem take_all {α : Type} {l : List α} {ι : α → PyData} {y : Nat → PyData} : ((List.range l.length).take (l.map ι).length).map y = (List.range l.length).map y := by
  rw [List.length_map, List.take_of_length_le (by rw [List.length_range]; exact Nat.le_refl _)]
theorem ex_lcE {α : Type} {l : List α} {ι : α → PyData} (y : Nat → PyData) (js : List Nat) {es : α → List PyData} (I : Nat → En) (hc : X.calm = true) (hN : X.N.Nodup) (hi : EI X tg iter E E1 (l.map ι)) (ok : BlkOk X.N X.env.scope scope own) (hg : AllB X scope fun Y => PG Y tg t)
    (hz : l.length ≤ 1000000) (hjs : ∀ j ∈ js, j ∈ own.map (·.2)) (td : ∀ x, TD t (ι x) js (es x)) (h0 : wipeE E1 (own.map (·.2)) = I 0) (hE : wipeE (I l.length) (own.map (·.2)) = E2)
    (he : ∀ i x, l[i]? = some x → ∃ Ee, AllB X scope (fun Y => EX Y elt (setE (I i) js (es x)) Ee (.val (y i))) ∧ wipeE Ee (own.map (·.2)) = I (i + 1))
    (hs : ∀ x, foldedSetIterable iter X.env x = pure x := by intro _; rfl) :
    EX X (.ListComp elt [⟨tg, iter, [], 0⟩] scope pos) E E2 (.own ((List.range l.length).map y)) := by
  have h := ex_lc (pos := pos) (ifs := []) (elt := elt) (I := I) (E2 := E2) hc hN hi ok hg h0 (lc_eff hz hjs td he) (by rw [List.length_map]; exact hE) hs
  rw [take_all] at h
  exact h
theorem gs_lcE {α : Type} {l : List α} {ι : α → PyData} {spos pos' : Pos} (i : Nat) (y : Nat → PyData) (js : List Nat) {es : α → List PyData} (I : Nat → En) (hc : X.calm = true) (hN : X.N.Nodup) (hi : EI X tg iter E E1 (l.map ι)) (ok : BlkOk X.N X.env.scope scope own) (hg : AllB X scope fun Y => PG Y tg t)
    (hz : l.length ≤ 1000000) (hjs : ∀ j ∈ js, j ∈ own.map (·.2)) (td : ∀ x, TD t (ι x) js (es x)) (h0 : wipeE E1 (own.map (·.2)) = I 0) (hE : wipeE (I l.length) (own.map (·.2)) = E2)
    (he : ∀ i x, l[i]? = some x → ∃ Ee, AllB X scope (fun Y => EX Y elt (setE (I i) js (es x)) Ee (.val (y i))) ∧ wipeE Ee (own.map (·.2)) = I (i + 1))
    (h00 : isOwn E0[i]? = false) (k : D.nx (E2.set i (.own ((List.range l.length).map y)))) (hy : X.N[i]? = some x) (hyl : X.env.scope.names.lookup x = some .local) (hsw : swapsWith (.ListComp elt [⟨tg, iter, [], 0⟩] scope pos) (some (.Name x pos')) spos.line X.env = pure true) (hs : ∀ x, foldedSetIterable iter X.env x = pure x := by intro _; rfl) :
    GS X E0 (.Assign [.Name x pos'] (.ListComp elt [⟨tg, iter, [], 0⟩] scope pos) spos) E D := by
  refine gs_lc (ifs := []) (I := I) (E2 := E2) i hc hN hi ok hg h0 (lc_eff (y := y) hz hjs td he) (by rw [List.length_map]; exact hE) h00 ?_ hy hyl hsw hs
  rw [take_all]
  exact k
/-! ### items handed out one by one from the end -/
def dropN : Nat → List Int → List Int
  | 0, ds => ds
  | n + 1, ds => (dropN n ds).dropLast
end
end L2.DL
namespace L2.DL
open PySem PySem.Spec PyProof.Rows RZ
theorem ex_ixV {X : Cx} {E E1 E2 : En} {a b : Expr} {pos : Pos} {α : Type} [Inhabited α] {ι : α → PyData} {l : List α} {k : Int} (ha : EX X a E E1 (.val (.tuple (l.map ι)))) (hb : EX X b E1 E2 (.val (.int k))) (h0 : 0 ≤ k) (h1 : k < l.length) (hs : PlainIx b := by exact fun _ _ => rfl) :
    EX X (.Subscript a b pos) E E2 (.val (ι (l.getD k.toNat default))) := ex_ixT ha hb (atI_map ι l k h0 h1) hs
end L2.DL

namespace L2.DL
open PySem PySem.Spec PyProof.Rows

def topS (i : Nat) : Stmt := PySem.Challenge.pw_windround_k04_better_and_worse.main.body.getD i (.Pass ⟨0, 0, 0, 0⟩)
abbrev s_none_less : Stmt := topS 1
theorem sc_none_less : FnScope ["ones", "others", "one", "other"] ["ones", "others"] (defScope s_none_less) := ⟨rfl, rfl, rfl, by decide +kernel, rfl, by decide +kernel, by decide +kernel⟩
abbrev s_no_worse : Stmt := topS 2
theorem sc_no_worse : FnScope ["one", "other"] ["one", "other"] (defScope s_no_worse) := ⟨rfl, rfl, rfl, by decide +kernel, rfl, by decide +kernel, by decide +kernel⟩
abbrev s_no_tighter : Stmt := topS 3
theorem sc_no_tighter : FnScope ["one", "other"] ["one", "other"] (defScope s_no_tighter) := ⟨rfl, rfl, rfl, by decide +kernel, rfl, by decide +kernel, by decide +kernel⟩
abbrev s_law_mix : Stmt := topS 5
theorem sc_law_mix : FnScope ["_law_cell", "_law_turn", "_law_number"] ["_law_cell", "_law_turn"] (defScope s_law_mix) := ⟨rfl, rfl, rfl, by decide +kernel, rfl, by decide +kernel, by decide +kernel⟩
abbrev s_law_draws : Stmt := topS 6
theorem sc_law_draws : FnScope ["_law_script", "_law_turn", "_law_many", "_law_cells", "_law_found", "_law_k", "_law_at", "_law_number", "_law_cell"] ["_law_script", "_law_turn", "_law_many"] (defScope s_law_draws) := ⟨rfl, rfl, rfl, by decide +kernel, rfl, by decide +kernel, by decide +kernel⟩
abbrev s_law_pop : Stmt := topS 7
theorem sc_law_pop : FnScope ["_law_draws_here"] ["_law_draws_here"] (defScope s_law_pop) := ⟨rfl, rfl, rfl, by decide +kernel, rfl, by decide +kernel, by decide +kernel⟩
abbrev s_law_town : Stmt := topS 8
theorem sc_law_town : FnScope ["_law_draws_here", "_law_most", "_law_number", "_law_k", "_law_hands", "_law_left", "_law_spans", "_law_one"] ["_law_draws_here", "_law_most"] (defScope s_law_town) := ⟨rfl, rfl, rfl, by decide +kernel, rfl, by decide +kernel, by decide +kernel⟩
abbrev s_law_standing : Stmt := topS 9
theorem sc_law_standing : FnScope ["_law_town_here", "_law_draws_here", "_law_lefts", "_law_lean", "_law_span", "_law_number", "_law_some"] ["_law_town_here", "_law_draws_here"] (defScope s_law_standing) := ⟨rfl, rfl, rfl, by decide +kernel, rfl, by decide +kernel, by decide +kernel⟩
abbrev s_law_turned : Stmt := topS 10
theorem sc_law_turned : FnScope ["_law_numbers", "_law_spans", "_law_draws_here", "_law_found", "_law_k", "_law_turn"] ["_law_numbers", "_law_spans", "_law_draws_here"] (defScope s_law_turned) := ⟨rfl, rfl, rfl, by decide +kernel, rfl, by decide +kernel, by decide +kernel⟩
abbrev s_law_other_town : Stmt := topS 11
theorem sc_law_other_town : FnScope ["_law_town_here", "_law_draws_here", "_law_number", "_law_spans", "_law_hands", "_law_span", "_law_hand"] ["_law_town_here", "_law_draws_here"] (defScope s_law_other_town) := ⟨rfl, rfl, rfl, by decide +kernel, rfl, by decide +kernel, by decide +kernel⟩
abbrev s_law_less : Stmt := topS 12
theorem sc_law_less : FnScope ["_law_ones", "_law_others", "_law_k"] ["_law_ones", "_law_others"] (defScope s_law_less) := ⟨rfl, rfl, rfl, by decide +kernel, rfl, by decide +kernel, by decide +kernel⟩
abbrev s_law : Stmt := topS 13
theorem sc_law : FnScope ["_law_script", "_law_town_here", "_law_draws_here", "_law_one", "_law_other", "_law_number", "_law_pair", "_law_due", "_law_found", "_law_second"] ["_law_script"] (defScope s_law) := ⟨rfl, rfl, rfl, by decide +kernel, rfl, by decide +kernel, by decide +kernel⟩
local macro_rules | `(tactic| walk_at "pos") => `(tactic| first | decide | assumption | omega | (simp only [List.length_map, List.length_append, List.length_cons, List.length_nil]; omega) | solve_by_elim | (fail "side goal"))
local macro_rules | `(tactic| walk_at "bits") => `(tactic| first | assumption | exact bits64 (by omega) (by omega) | ((with_reducible apply Bits.mul) <;> walk_at "bits") | ((with_reducible apply Bits.addM) <;> walk_at "bits") | ((with_reducible apply Bits.subM) <;> walk_at "bits") | (with_reducible apply Bits.mod; (focus walk_at "bits"); (walk_at "pos")) | solve_by_elim | (fail "side goal"))
local macro_rules | `(tactic| walk_at "div") => `(tactic| first | exact ⟨by decide, by decide⟩ | exact divB (by walk_at "bits") (by walk_at "pos") | solve_by_elim | (fail "side goal"))
local macro_rules | `(tactic| walk_at "mul") => `(tactic| first | exact mulB (by walk_at "bits") (by walk_at "bits") | solve_by_elim | (fail "side goal"))
local macro_rules | `(tactic| walk_at "len") => `(tactic| first | decide | omega | (refine Nat.le_trans (Nat.add_le_add (cutL_le _ _ _) (Nat.le_refl _)) ?_; simp only [List.length_map, List.length_cons, List.length_nil]; omega) | (simp only [List.length_map, List.length_append, List.length_cons, List.length_nil, List.length_range, List.length_set, List.length_take, List.length_drop, List.length_dropLast]; omega) | solve_by_elim | (fail "side goal"))
local macro_rules | `(tactic| walk_at "ix0") => `(tactic| first | decide | omega | solve_by_elim | (fail "side goal"))
local macro_rules | `(tactic| walk_at "ix1") => `(tactic| first | decide | omega | (simp only [List.length_map, List.length_append, List.length_cons, List.length_nil, List.length_range, List.length_set, List.length_take, List.length_drop, List.length_dropLast]; omega) | solve_by_elim | (fail "side goal"))
local macro_rules | `(tactic| walk_at "ixn") => `(tactic| first | exact ixN_of (by walk_at "ix0") (by walk_at "ix1") | solve_by_elim | (fail "side goal"))
local macro_rules | `(tactic| walk_at "pre") => `(tactic| first | assumption | decide | omega | exact Int.le_of_lt (of_decide_eq_true (by assumption)) | exact of_decide_eq_true (by assumption) | solve_by_elim | (fail "side goal"))
local macro_rules | `(tactic| walk_at "rng") => `(tactic| first | decide | omega | (simp only [List.length_map, List.length_append, List.length_cons, List.length_nil, List.length_range, List.length_set, List.length_take, List.length_drop, List.length_dropLast]; omega) | solve_by_elim | (fail "side goal"))
local macro_rules | `(tactic| walk_at "isi") => `(tactic| first | rfl | decide +kernel | solve_by_elim | (fail "side goal"))
local macro_rules | `(tactic| walk_at "shp") => `(tactic| first | assumption | rfl | decide | solve_by_elim | (fail "side goal"))

def allGe (a b : List Int) : Bool := ((a.zip b).map fun x => decide (x.2 ≤ x.1)).all id
def P_none_less : DSp := fun E Q => (∃ a b : List Int, E = [.val (.list (a.map .int)), .val (.list (b.map .int))] ∧ a.length ≤ 1000 ∧ Q (.val (.bool (allGe a b))) E) ∨ (∃ a b : List Int, E = [.val (.tuple (a.map .int)), .val (.tuple (b.map .int))] ∧ a.length ≤ 1000 ∧ Q (.val (.bool (allGe a b))) E)

set_option maxHeartbeats 4000000 in
theorem ok_none_less {P : Program} {w : World} {K : PySem.W.Frag} {mg : Str → Option Value} {base : Heap} {f : Addr} {fd : FuncData} (F : Fun K "none_less" "none_less" s_none_less f fd)  (m_all : mg "all" = none) (m_zip : mg "zip" = none) : FnOk P w K mg base CX0 1 f fd ["ones", "others"] (FD P_none_less 2) := by
  refine fn_ok F sc_none_less rfl fun cdv A outer s H hr E K' hE hP => ?_
  have nd := sc_none_less.nd
  have hu := hr.units
  rcases hP with ⟨a, b, rfl, hl, k⟩ | ⟨a, b, rfl, hl, k⟩
  · show GO _ _ _ [_, _, SD.any, SD.any] _
    
    have hlen : (a.zip b).length ≤ 1000000 := by rw [List.length_zip]; omega
    have hmm : (a.zip b).map (fun x => PyData.bool (decide (x.2 ≤ x.1))) = ((a.zip b).map fun x => decide (x.2 ≤ x.1)).map .bool := by rw [List.map_map]; rfl
    refine go_cons (gs_ret (ex_callB (ea_cons (ex_castO (ex_lcM [2, 3] (by rfl) nd (ei_zipT (ex_name 0 rfl rfl (.inl rfl)) (ex_name 1 rfl rfl (.inl rfl)) (by rfl) m_zip) (blkOk_by (own := [("one", 2), ("other", 3)]) (N := ["ones", "others", "one", "other"]) (sc := defScope s_none_less) (by decide +kernel)) (fun _ _ _ _ _ => (pg_tup (n := 2) (by rfl) (pgs_cons (pg_name (i := 2) nd rfl (.inl rfl)) (pgs_cons (pg_name (i := 3) nd rfl (.inl rfl)) pgs_nil)))) (by walk_at "len") (by decide) (fun _ => (td_tup (tds_cons (td_name 2) rfl (tds_cons (td_name 3) rfl tds_nil)) rfl)) rfl rfl (fun _ => rfl) (fun x hx _ _ _ _ _ => (ex_cmp o_ge (ex_name 2 rfl rfl (.inl rfl)) (ex_name 3 rfl rfl (.inl rfl)) trivial (nomark _)))) hmm) ea_nil trivial) (ca_all (by rfl) rfl) (by rfl) m_all (by decide +kernel)) rfl ⟨rfl, ?_⟩)
    exact k
  · show GO _ _ _ [_, _, SD.any, SD.any] _
    
    have hlen : (a.zip b).length ≤ 1000000 := by rw [List.length_zip]; omega
    have hmm : (a.zip b).map (fun x => PyData.bool (decide (x.2 ≤ x.1))) = ((a.zip b).map fun x => decide (x.2 ≤ x.1)).map .bool := by rw [List.map_map]; rfl
    refine go_cons (gs_ret (ex_callB (ea_cons (ex_castO (ex_lcM [2, 3] (by rfl) nd (ei_zipTV (ex_name 0 rfl rfl (.inl rfl)) (ex_name 1 rfl rfl (.inl rfl)) (by rfl) m_zip) (blkOk_by (own := [("one", 2), ("other", 3)]) (N := ["ones", "others", "one", "other"]) (sc := defScope s_none_less) (by decide +kernel)) (fun _ _ _ _ _ => (pg_tup (n := 2) (by rfl) (pgs_cons (pg_name (i := 2) nd rfl (.inl rfl)) (pgs_cons (pg_name (i := 3) nd rfl (.inl rfl)) pgs_nil)))) (by walk_at "len") (by decide) (fun _ => (td_tup (tds_cons (td_name 2) rfl (tds_cons (td_name 3) rfl tds_nil)) rfl)) rfl rfl (fun _ => rfl) (fun x hx _ _ _ _ _ => (ex_cmp o_ge (ex_name 2 rfl rfl (.inl rfl)) (ex_name 3 rfl rfl (.inl rfl)) trivial (nomark _)))) hmm) ea_nil trivial) (ca_all (by rfl) rfl) (by rfl) m_all (by decide +kernel)) rfl ⟨rfl, ?_⟩)
    exact k
def P_no_worse : DSp := fun E Q => ∃ (d : Int) (l : List Int) (d' : Int) (l' : List Int), E = [.val (.tuple [.int d, .tuple (l.map .int)]), .val (.tuple [.int d', .tuple (l'.map .int)])] ∧ l.length ≤ 1000 ∧ Q (.val (.bool (decide (d = d') && allGe l l'))) E

set_option maxHeartbeats 4000000 in
theorem ok_no_worse {P : Program} {w : World} {K : PySem.W.Frag} {mg : Str → Option Value} {base : Heap} {f : Addr} {fd : FuncData} (F : Fun K "no_worse" "no_worse" s_no_worse f fd) (C_none_less : Cal P w K mg base "none_less" ["ones", "others"] 2 1 P_none_less)  : FnOk P w K mg base CX0 2 f fd ["one", "other"] (FD P_no_worse 2) := by
  refine fn_ok F sc_no_worse rfl fun cdv A outer s H hr E K' hE hP => ?_
  have nd := sc_no_worse.nd
  have hu := hr.units
  obtain ⟨d, l, d', l', rfl, hl, k⟩ := hP
  show GO _ _ _ [_, _] _
  refine go_cons (gs_ret (ex_and (ex_cmp o_eq (ex_ixT (ex_name 0 rfl rfl (.inl rfl)) ex_int rfl) (ex_ixT (ex_name 1 rfl rfl (.inl rfl)) ex_int rfl) trivial (nomark _)) (fun hx => (ex_one (ex_callC C_none_less (hr.mono (by decide)) (by rfl) (ea_cons (ex_ixT (ex_name 0 rfl rfl (.inl rfl)) ex_int rfl) (ea_cons (ex_ixT (ex_name 1 rfl rfl (.inl rfl)) ex_int rfl) ea_nil trivial) trivial) rfl rfl (fun K' k => .inr ⟨_, _, rfl, by walk_at "pre", k⟩) rfl rfl)))) rfl ⟨rfl, ?_⟩)
  exact k
def tightB (a b c d : List Int) : Bool := decide (a.length = c.length ∧ b.length = d.length) && (allGe a c && allGe b d)
def P_no_tighter : DSp := fun E Q => ∃ (a b c d : List Int), E = [.val (.tuple [.list (a.map .int), .list (b.map .int)]), .val (.tuple [.list (c.map .int), .list (d.map .int)])] ∧ a.length ≤ 1000 ∧ b.length ≤ 1000 ∧ Q (.val (.bool (tightB a b c d))) E

set_option maxHeartbeats 4000000 in
theorem ok_no_tighter {P : Program} {w : World} {K : PySem.W.Frag} {mg : Str → Option Value} {base : Heap} {f : Addr} {fd : FuncData} (F : Fun K "no_tighter" "no_tighter" s_no_tighter f fd) (C_none_less : Cal P w K mg base "none_less" ["ones", "others"] 2 1 P_none_less) (m_len : mg "len" = none) : FnOk P w K mg base CX0 2 f fd ["one", "other"] (FD P_no_tighter 2) := by
  refine fn_ok F sc_no_tighter rfl fun cdv A outer s H hr E K' hE hP => ?_
  have nd := sc_no_tighter.nd
  have hu := hr.units
  obtain ⟨a, b, c, d, rfl, hl, hl2, k⟩ := hP
  show GO _ _ _ [_, _] _
  unfold tightB at k
  refine go_cons (gs_if (et_w (ew_or (et_cmp o_ne (ex_callB (ea_cons (ex_ixT (ex_name 0 rfl rfl (.inl rfl)) ex_int rfl) ea_nil trivial) (ca_len rfl) (by rfl) m_len (by decide +kernel)) (ex_callB (ea_cons (ex_ixT (ex_name 1 rfl rfl (.inl rfl)) ex_int rfl) ea_nil trivial) (ca_len rfl) (by rfl) m_len (by decide +kernel)) trivial (nomark _)) (fun hx => (ew_or1 (et_cmp o_ne (ex_callB (ea_cons (ex_ixT (ex_name 0 rfl rfl (.inl rfl)) ex_int rfl) ea_nil trivial) (ca_len rfl) (by rfl) m_len (by decide +kernel)) (ex_callB (ea_cons (ex_ixT (ex_name 1 rfl rfl (.inl rfl)) ex_int rfl) ea_nil trivial) (ca_len rfl) (by rfl) m_len (by decide +kernel)) trivial (nomark _)))))) (fun ht => ?_) (fun hf => go_nil ?_))
  · have h0 : ¬ (a.length = c.length ∧ b.length = d.length) := fun h => by simp [h.1, h.2] at ht
    refine go_cons (gs_ret ex_bl rfl ⟨rfl, ?_⟩)
    rw [decide_eq_false h0] at k
    exact k
  · have h0 : a.length = c.length ∧ b.length = d.length := by
      simp at hf
      omega
    refine go_cons (gs_ret (ex_and (ex_callC C_none_less (hr.mono (by decide)) (by rfl) (ea_cons (ex_ixT (ex_name 0 rfl rfl (.inl rfl)) ex_int rfl) (ea_cons (ex_ixT (ex_name 1 rfl rfl (.inl rfl)) ex_int rfl) ea_nil trivial) trivial) rfl rfl (fun K' k => .inl ⟨_, _, rfl, by walk_at "pre", k⟩) rfl rfl) (fun hx => (ex_one (ex_callC C_none_less (hr.mono (by decide)) (by rfl) (ea_cons (ex_ixT (ex_name 0 rfl rfl (.inl rfl)) ex_int rfl) (ea_cons (ex_ixT (ex_name 1 rfl rfl (.inl rfl)) ex_int rfl) ea_nil trivial) trivial) rfl rfl (fun K' k => .inl ⟨_, _, rfl, by walk_at "pre", k⟩) rfl rfl)))) rfl ⟨rfl, ?_⟩)
    rw [decide_eq_true h0] at k
    exact k
def mixF (c t : Int) : Int := ((c % 2147483647 + t * t * 7919 + 104729) * 48271 % 2147483647 * ((c % 2147483647 + t * t * 7919 + 104729) * 48271 % 2147483647) + 69621 * t) % 2147483629
theorem mixF_ok (c t : Int) : 0 ≤ mixF c t ∧ mixF c t < 2147483629 := ⟨Int.emod_nonneg _ (by decide), Int.emod_lt_of_pos _ (by decide)⟩
def P_law_mix : DSp := fun E Q => ∃ c t : Int, E = [.val (.int c), .val (.int t)] ∧ 0 ≤ t ∧ t ≤ 1000000 ∧ Q (.val (.int (mixF c t))) E

set_option maxHeartbeats 4000000 in
theorem ok_law_mix {P : Program} {w : World} {K : PySem.W.Frag} {mg : Str → Option Value} {base : Heap} {f : Addr} {fd : FuncData} (F : Fun K "_law_mix" "_law_mix" s_law_mix f fd)   : FnOk P w K mg base CX0 1 f fd ["_law_cell", "_law_turn"] (FD P_law_mix 2) := by
  refine fn_ok F sc_law_mix rfl fun cdv A outer s H hr E K' hE hP => ?_
  have nd := sc_law_mix.nd
  have hu := hr.units
  obtain ⟨c, t, rfl, h0, h1, k⟩ := hP
  show GO _ _ _ [_, _, SD.any] _
  have b1 : Bits 64 (c % 2147483647) := bits64 (by omega) (by omega)
  have b2 : Bits 64 t := bits64 (by omega) (by omega)
  refine go_cons (gs_set 2 (ex_op (o_mod (by walk_at "pos")) (ex_op (o_mul (by walk_at "mul")) (ex_op o_add (ex_op o_add (ex_op (o_mod (by walk_at "pos")) (ex_name 0 rfl rfl (.inl rfl)) ex_int trivial) (ex_op (o_mul (by walk_at "mul")) (ex_op (o_mul (by walk_at "mul")) (ex_name 1 rfl rfl (.inl rfl)) (ex_name 1 rfl rfl (.inl rfl)) trivial) ex_int trivial) trivial) ex_int trivial) ex_int trivial) ex_int trivial) ?_ nd rfl (.inl rfl))
  try dsimp only [List.set_cons_zero, List.set_cons_succ, setE, bak, wipeE, List.map_cons, List.map_nil]
  have k2 : mixF c t = ((c % 2147483647 + t * t * 7919 + 104729) * 48271 % 2147483647 * ((c % 2147483647 + t * t * 7919 + 104729) * 48271 % 2147483647) + 69621 * t) % 2147483629 := rfl
  rw [k2] at k
  have q0 := Int.emod_nonneg ((c % 2147483647 + t * t * 7919 + 104729) * 48271) (show (2147483647 : Int) ≠ 0 by decide)
  have q1 := Int.emod_lt_of_pos ((c % 2147483647 + t * t * 7919 + 104729) * 48271) (show (0 : Int) < 2147483647 by decide)
  generalize (c % 2147483647 + t * t * 7919 + 104729) * 48271 % 2147483647 = n at *
  refine go_cons (gs_ret (ex_op (o_mod (by walk_at "pos")) (ex_op o_add (ex_op (o_mul (by walk_at "mul")) (ex_name 2 rfl rfl (.inl rfl)) (ex_name 2 rfl rfl (.inl rfl)) trivial) (ex_op (o_mul (by walk_at "mul")) ex_int (ex_name 1 rfl rfl (.inl rfl)) trivial) trivial) ex_int trivial) rfl ⟨rfl, ?_⟩)
  exact k
/-- one turn of the drawing from cells: the cells, what is found -/
def drawA (st : List Int × List Int) (k : Nat) : List Int × List Int :=
  let at0 := ((k : Int) % (st.1.length : Int)).toNat
  (st.1.set at0 (st.1.getD at0 default / 1000003), st.2 ++ [st.1.getD at0 default % 1000003])
def drawB (t : Int) (n : Int) (p : Int × Nat) : Int := (n * 31 + mixF p.1 (((p.2 : Nat) : Int) + t)) % 2147483629
def drawsD (ns : List Int) (t m : Int) : List Int :=
  let cells := ns ++ [t]
  if cells.getD 0 default / 50000 % 2 = 1 then ((List.range (t / 4 + m).toNat).foldl drawA (cells, [])).2.drop (t / 4).toNat
  else (List.range m.toNat).map fun k => mixF (cells.getD (((k : Nat) : Int) % (cells.length : Int)).toNat default) (cells.zipIdx.foldl (drawB t) t % 1009 + ((k : Nat) : Int) + t)
theorem drawA_fold (cells : List Int) : ∀ n : Nat, ((List.range n).foldl drawA (cells, [])).1.length = cells.length ∧ ((List.range n).foldl drawA (cells, [])).2.length = n ∧ ∀ d ∈ ((List.range n).foldl drawA (cells, [])).2, 0 ≤ d ∧ d < 2147483629
  | 0 => ⟨rfl, rfl, fun d h => by cases h⟩
  | n + 1 => by
    obtain ⟨a, b, c⟩ := drawA_fold cells n
    rw [List.range_succ, List.foldl_append]
    refine ⟨?_, ?_, fun d hd => ?_⟩
    · show (List.set _ _ _).length = _
      rw [List.length_set]
      exact a
    · show (_ ++ [_]).length = _
      rw [List.length_append, b]
      rfl
    · rcases List.mem_append.mp hd with hd | hd
      · exact c d hd
      · rw [List.mem_singleton.mp hd]
        have h0 := Int.emod_nonneg (((List.range n).foldl drawA (cells, [])).1.getD ((n : Int) % ((((List.range n).foldl drawA (cells, [])).1.length : Nat) : Int)).toNat default) (show (1000003 : Int) ≠ 0 by decide)
        have h1 := Int.emod_lt_of_pos (((List.range n).foldl drawA (cells, [])).1.getD ((n : Int) % ((((List.range n).foldl drawA (cells, [])).1.length : Nat) : Int)).toNat default) (show (0 : Int) < 1000003 by decide)
        omega
theorem drawsD_ok (ns : List Int) (t m : Int) : ∀ d ∈ drawsD ns t m, 0 ≤ d ∧ d < 2147483629 := fun d hd => by
  unfold drawsD at hd
  dsimp only at hd
  split at hd
  · exact (drawA_fold _ _).2.2 d (List.mem_of_mem_drop hd)
  · obtain ⟨k, _, rfl⟩ := List.mem_map.mp hd
    exact mixF_ok _ _
def P_law_draws : DSp := fun E Q => ∃ (ns : List Int) (t m : Int), E = [.val (.list (ns.map .int)), .val (.int t), .val (.int m)] ∧ ns.length ≤ 63 ∧ 0 ≤ t ∧ t ≤ 1000 ∧ 0 ≤ m ∧ m ≤ 1000 ∧ Q (.own ((drawsD ns t m).map .int)) E

set_option maxHeartbeats 4000000 in
theorem ok_law_draws {P : Program} {w : World} {K : PySem.W.Frag} {mg : Str → Option Value} {base : Heap} {f : Addr} {fd : FuncData} (F : Fun K "_law_draws" "_law_draws" s_law_draws f fd) (C_law_mix : Cal P w K mg base "_law_mix" ["_law_cell", "_law_turn"] 2 1 P_law_mix) (m_enumerate : mg "enumerate" = none) (m_len : mg "len" = none) (m_range : mg "range" = none) : FnOk P w K mg base CX0 2 f fd ["_law_script", "_law_turn", "_law_many"] (FD P_law_draws 3) := by
  refine fn_ok F sc_law_draws rfl fun cdv A outer s H hr E K' hE hP => ?_
  have nd := sc_law_draws.nd
  have hu := hr.units
  obtain ⟨ns, t, m, rfl, hl, ht0, ht1, hm0, hm1, k⟩ := hP
  show GO _ _ _ [_, _, _, SD.any, SD.any, SD.any, SD.any, SD.any, SD.any] _
  refine go_cons (gs_setO 3 (ex_castO (ex_opL (o_cat rfl rfl (by walk_at "len")) (ex_slice (ex_name 0 rfl rfl (.inl rfl)) eo_none (eo_some ex_int) trivial trivial rfl) (ex_list (ea_cons (ex_name 1 rfl rfl (.inr (.inl rfl))) ea_nil trivial) rfl (by walk_at "len")) trivial) (show _ = (ns ++ [t]).map .int from (by rw [cut_hi _ (by decide), List.take_of_length_le (by rw [List.length_map]; exact hl), List.map_append]; rfl))) ?_ rfl nd rfl (.inr rfl))
  try dsimp only [List.set_cons_zero, List.set_cons_succ, setE, bak, wipeE, List.map_cons, List.map_nil]
  unfold drawsD at k
  dsimp only at k
  have hc : (ns ++ [t]).length = ns.length + 1 := by rw [List.length_append]; rfl
  generalize ns ++ [t] = cells at *
  refine go_cons (gs_if (et_cmp o_eq (ex_op (o_mod (by walk_at "pos")) (ex_op (o_fdiv (by walk_at "div")) (ex_ixG (ex_own 3 rfl rfl (.inr (.inl rfl))) ex_int ⟨_, rfl⟩ rfl (by walk_at "ix0") (by walk_at "ix1")) ex_int trivial) ex_int trivial) ex_int trivial (nomark _)) (fun ht => ?_) (fun hf => go_nil ?_))
  · have h0 : cells.getD 0 default / 50000 % 2 = 1 := by simpa using ht
    rw [if_pos h0] at k
    refine go_cons (gs_setO 4 (ex_list ea_nil rfl (by walk_at "len")) ?_ rfl nd rfl (.inl rfl))
    try dsimp only [List.set_cons_zero, List.set_cons_succ, setE, bak, wipeE, List.map_cons, List.map_nil]
    refine go_cons (gs_forR (fun i E' => ∃ (s5 s6 s7 s8 : SD), E' = [.val (.list (ns.map .int)), .val (.int t), .val (.int m), .own (((List.range i).foldl drawA (cells, [])).1.map .int), .own (((List.range i).foldl drawA (cells, [])).2.map .int), s5, s6, s7, s8]) 5 (ei_rangeT (ex_op o_add (ex_op (o_fdiv (by walk_at "div")) (ex_name 1 rfl rfl (.inr (.inl rfl))) ex_int trivial) (ex_name 2 rfl rfl (.inl rfl)) trivial) (by walk_at "rng") (by rfl) m_range (by walk_at "rng")) (pg_name (i := 5) nd rfl (.inl rfl)) ?_ ?_ ?_)
    · exact ⟨_, _, _, _, rfl⟩
    · rintro i E' hi ⟨s5, s6, s7, s8, rfl⟩
      dsimp only [List.set_cons_zero, List.set_cons_succ]
      obtain ⟨a, b, c⟩ := drawA_fold cells i
      have hnext : (List.range (i + 1)).foldl drawA (cells, []) = drawA ((List.range i).foldl drawA (cells, [])) i := by rw [List.range_succ, List.foldl_append]; rfl
      generalize (List.range i).foldl drawA (cells, []) = st at *
      obtain ⟨left, found⟩ := st
      dsimp only at *
      have p1 : 0 < (((left.map PyData.int).length : Nat) : Int) := by rw [List.length_map]; omega
      refine go_cons (gs_set 6 (ex_op (o_mod (by walk_at "pos")) (ex_name 5 rfl rfl (.inl rfl)) (ex_callB (ea_cons (ex_own 3 rfl rfl (.inr (.inl rfl))) ea_nil ⟨_, rfl⟩) (ca_len rfl) (by rfl) m_len (by decide +kernel)) trivial) ?_ nd rfl (.inl rfl))
      try dsimp only [List.set_cons_zero, List.set_cons_succ, setE, bak, wipeE, List.map_cons, List.map_nil]
      have h1 : (0 : Int) ≤ (i : Int) % (((left.map PyData.int).length : Nat) : Int) := Int.emod_nonneg _ (by omega)
      have h2 : (i : Int) % (((left.map PyData.int).length : Nat) : Int) < (left.length : Int) := by
        rw [List.length_map]
        exact Int.emod_lt_of_pos _ (by omega)
      have he : (i : Int) % (((left.map PyData.int).length : Nat) : Int) = (i : Int) % (left.length : Int) := by rw [List.length_map]
      rw [he] at h1 h2 ⊢
      refine go_cons (gs_expr (ex_append (ex_own 4 rfl rfl (.inl rfl)) (ex_op (o_mod (by walk_at "pos")) (ex_ixG (ex_own 3 rfl rfl (.inr (.inl rfl))) (ex_name 6 rfl rfl (.inl rfl)) ⟨_, rfl⟩ rfl (by walk_at "ix0") (by walk_at "ix1")) ex_int trivial) rfl (by walk_at "len")) ?_)
      try dsimp only [List.set_cons_zero, List.set_cons_succ, setE, bak, wipeE, List.map_cons, List.map_nil]
      refine go_cons (gs_item (ex_op (o_fdiv (by walk_at "div")) (ex_ixG (ex_own 3 rfl rfl (.inr (.inl rfl))) (ex_name 6 rfl rfl (.inl rfl)) ⟨_, rfl⟩ rfl (by walk_at "ix0") (by walk_at "ix1")) ex_int trivial) (ex_own 3 rfl rfl (.inr (.inl rfl))) (ex_name 6 rfl rfl (.inl rfl)) rfl (by walk_at "ixn") ?_ (fun _ _ _ he ho hi => ps_asg he (pg_sub ho hi set_list)))
      try dsimp only [List.set_cons_zero, List.set_cons_succ, setE, bak, wipeE, List.map_cons, List.map_nil]
      refine go_nil ⟨.val (.int (i : Int)), .val (.int ((i : Int) % (left.length : Int))), s7, s8, ?_⟩
      rw [hnext]
      unfold drawA
      simp only [List.map_append, List.map_set]
      rfl
    · rintro E' ⟨s5, s6, s7, s8, rfl⟩
      have e : cutL (((List.range (t / 4 + m).toNat).foldl drawA (cells, [])).2.map PyData.int) (some (t / 4)) none = (((List.range (t / 4 + m).toNat).foldl drawA (cells, [])).2.drop (t / 4).toNat).map .int := by
        rw [cut_lo _ (by omega), List.map_drop]
      refine go_cons (gs_ret (ex_slice (ex_own 4 rfl rfl (.inl rfl)) (eo_some (ex_op (o_fdiv (by walk_at "div")) (ex_name 1 rfl rfl (.inr (.inl rfl))) ex_int trivial)) eo_none ⟨_, rfl⟩ ⟨_, rfl⟩ rfl) rfl ⟨rfl, ?_⟩)
      rw [e]
      exact k
  · have h0 : ¬ cells.getD 0 default / 50000 % 2 = 1 := by simpa using hf
    rw [if_neg h0] at k
    refine go_freeze (i := 3) rfl ?_
    try dsimp only [List.set_cons_zero, List.set_cons_succ, setE, bak, wipeE, List.map_cons, List.map_nil]
    refine go_cons (gs_set 7 (ex_name 1 rfl rfl (.inr (.inl rfl))) ?_ nd rfl (.inr rfl))
    try dsimp only [List.set_cons_zero, List.set_cons_succ, setE, bak, wipeE, List.map_cons, List.map_nil]
    refine go_cons (gs_forM (es := fun s => [.int ((s.2 : Nat) : Int), .int s.1]) (fun i E' => ∃ (s5 s8 : SD), E' = [.val (.list (ns.map .int)), .val (.int t), .val (.int m), .val (.list (cells.map .int)), .any, s5, .any, .val (.int ((cells.zipIdx.take i).foldl (drawB t) t)), s8] ∧ 0 ≤ (cells.zipIdx.take i).foldl (drawB t) t ∧ (cells.zipIdx.take i).foldl (drawB t) t < 2147483629) [5, 8] (ei_enumT (ex_name 3 rfl rfl (.inr (.inl rfl))) (by rfl) m_enumerate) (pg_tup (n := 2) (by rfl) (pgs_cons (pg_name (i := 5) nd rfl (.inl rfl)) (pgs_cons (pg_name (i := 8) nd rfl (.inl rfl)) pgs_nil))) (fun _ => (td_tup (tds_cons (td_name 5) rfl (tds_cons (td_name 8) rfl tds_nil)) rfl)) ?_ ?_ ?_)
    · exact ⟨_, _, rfl, by show 0 ≤ t; omega, by show t < _; omega⟩
    · rintro i x E' hi ⟨s5, s8, rfl, n0, n1⟩
      dsimp only [List.set_cons_zero, List.set_cons_succ, setE]
      obtain ⟨z1, z2⟩ := zipIdx_at hi
      have hil := (List.getElem?_eq_some_iff.mp z1).1
      have hnext : (cells.zipIdx.take (i + 1)).foldl (drawB t) t = drawB t ((cells.zipIdx.take i).foldl (drawB t) t) x := by
        rw [List.take_add_one, hi, List.foldl_append]
        rfl
      generalize (cells.zipIdx.take i).foldl (drawB t) t = n at *
      obtain ⟨c, j⟩ := x
      dsimp only at *
      have p0 : (0 : Int) ≤ ((j : Nat) : Int) + t := by omega
      have p1 : ((j : Nat) : Int) + t ≤ 1000000 := by omega
      have bn : Bits 64 n := bits64 (by omega) (by omega)
      refine go_cons (gs_set 7 (ex_op (o_mod (by walk_at "pos")) (ex_op o_add (ex_op (o_mul (by walk_at "mul")) (ex_name 7 rfl rfl (.inr (.inl rfl))) ex_int trivial) (ex_callC C_law_mix (hr.mono (by decide)) (by rfl) (ea_cons (ex_name 8 rfl rfl (.inl rfl)) (ea_cons (ex_op o_add (ex_name 5 rfl rfl (.inl rfl)) (ex_name 1 rfl rfl (.inr (.inl rfl))) trivial) ea_nil trivial) trivial) rfl rfl (fun K' k => ⟨_, _, rfl, by walk_at "pre", by walk_at "pre", k⟩) rfl rfl) trivial) ex_int trivial) ?_ nd rfl (.inr rfl))
      try dsimp only [List.set_cons_zero, List.set_cons_succ, setE, bak, wipeE, List.map_cons, List.map_nil]
      refine go_nil ⟨_, _, by rw [hnext]; rfl, ?_, ?_⟩
      · rw [hnext]
        exact Int.emod_nonneg _ (by decide)
      · rw [hnext]
        exact Int.emod_lt_of_pos _ (by decide)
    rintro E' ⟨s5, s8, rfl, n0, n1⟩
    rw [List.take_of_length_le (Nat.le_refl _)]
    generalize cells.zipIdx.foldl (drawB t) t = n at *
    have q0 := Int.emod_nonneg n (show (1009 : Int) ≠ 0 by decide)
    have q1 := Int.emod_lt_of_pos n (show (0 : Int) < 1009 by decide)
    have p1 : 0 < (((cells.map PyData.int).length : Nat) : Int) := by rw [List.length_map]; omega
    have f0 : ∀ x ∈ List.range m.toNat, (0 : Int) ≤ ((x : Nat) : Int) % (((cells.map PyData.int).length : Nat) : Int) := fun x _ => Int.emod_nonneg _ (by omega)
    have f1 : ∀ x ∈ List.range m.toNat, ((x : Nat) : Int) % (((cells.map PyData.int).length : Nat) : Int) < (cells.length : Int) := fun x _ => by
      rw [List.length_map]
      exact Int.emod_lt_of_pos _ (by omega)
    have f2 : ∀ x ∈ List.range m.toNat, (0 : Int) ≤ n % 1009 + ((x : Nat) : Int) + t := fun x _ => by omega
    have f3 : ∀ x ∈ List.range m.toNat, n % 1009 + ((x : Nat) : Int) + t ≤ 1000000 := fun x hx => by
      have := List.mem_range.mp hx
      omega
    refine go_cons (gs_ret (ex_lcM [5] (by rfl) nd (ei_rangeT (ex_name 2 rfl rfl (.inl rfl)) (by walk_at "rng") (by rfl) m_range (by walk_at "rng")) (blkOk_by (own := [("_law_k", 5)]) (N := ["_law_script", "_law_turn", "_law_many", "_law_cells", "_law_found", "_law_k", "_law_at", "_law_number", "_law_cell"]) (sc := defScope s_law_draws) (by decide +kernel)) (fun _ _ _ _ _ => (pg_name (i := 5) nd rfl (.inl rfl))) (by walk_at "len") (by decide) (fun _ => (td_name 5)) rfl rfl (fun _ => rfl) (fun x hx _ _ _ _ _ => (ex_callC C_law_mix (hr.mono (by decide)) (by rfl) (ea_cons (ex_ixG (ex_name 3 rfl rfl (.inr (.inl rfl))) (ex_op (o_mod (by walk_at "pos")) (ex_name 5 rfl rfl (.inl rfl)) (ex_callB (ea_cons (ex_name 3 rfl rfl (.inr (.inl rfl))) ea_nil trivial) (ca_len rfl) (by rfl) m_len (by decide +kernel)) trivial) trivial rfl (by walk_at "ix0") (by walk_at "ix1")) (ea_cons (ex_op o_add (ex_op o_add (ex_op (o_mod (by walk_at "pos")) (ex_name 7 rfl rfl (.inr (.inl rfl))) ex_int trivial) (ex_name 5 rfl rfl (.inl rfl)) trivial) (ex_name 1 rfl rfl (.inr (.inl rfl))) trivial) ea_nil trivial) trivial) rfl rfl (fun K' k => ⟨_, _, rfl, by walk_at "pre", by walk_at "pre", k⟩) rfl rfl))) rfl ⟨rfl, ?_⟩)
    rw [List.map_map] at k
    simp only [List.length_map]
    exact k
def P_law_pop : DSp := fun E Q => ∃ ds : List Int, E = [.own (ds.map .int)] ∧ Q (.val (.int (lastI ds))) [.own (ds.dropLast.map .int)]

set_option maxHeartbeats 4000000 in
theorem ok_law_pop {P : Program} {w : World} {K : PySem.W.Frag} {mg : Str → Option Value} {base : Heap} {f : Addr} {fd : FuncData} (F : Fun K "_law_pop" "_law_pop" s_law_pop f fd)   : FnOk P w K mg base CX0 1 f fd ["_law_draws_here"] (FD P_law_pop 1) := by
  refine fn_ok F sc_law_pop rfl fun cdv A outer s H hr E K' hE hP => ?_
  have nd := sc_law_pop.nd
  have hu := hr.units
  obtain ⟨ds, rfl, k⟩ := hP
  show GO _ _ _ [_] _
  refine go_cons (gs_if (et_cmp (o_eqG (x := _) (y := []) (nice_list nice_int) hu rfl rfl (by decide)) (ex_own 0 rfl rfl (.inl rfl)) (ex_list ea_nil rfl (by walk_at "len")) ⟨_, rfl⟩ (nomark _)) (fun ht => ?_) (fun hf => go_nil ?_))
  · have h0 : ds = [] := by simpa using ht
    subst h0
    refine go_cons (gs_ret ex_int rfl ⟨rfl, ?_⟩)
    exact k
  · have h0 : ds ≠ [] := by simpa using hf
    refine go_cons (gs_ret (ex_pop (ex_own 0 rfl rfl (.inl rfl)) rfl (lastI_at h0)) rfl ⟨rfl, ?_⟩)
    rw [map_dropLast1]
    exact k
/-- n numbers below q from the end -/
def pops (n : Nat) (ds : List Int) (q : Int) : List Int := (List.range n).map fun i => lastI (dropN i ds) % q
theorem pops_data (n : Nat) (ds : List Int) (q : Int) : (List.range n).map (fun i => PyData.int (lastI (dropN i ds) % q)) = (pops n ds q).map .int := by unfold pops; rw [List.map_map]; rfl
theorem pops_len (n : Nat) (ds : List Int) (q : Int) : (pops n ds q).length = n := by unfold pops; rw [List.length_map, List.length_range]
theorem pops_ok {n : Nat} {ds : List Int} {q : Int} (hq : 0 < q) : ∀ x ∈ pops n ds q, 0 ≤ x ∧ x < q := fun x hx => by
  obtain ⟨i, _, rfl⟩ := List.mem_map.mp hx
  exact ⟨Int.emod_nonneg _ (by omega), Int.emod_lt_of_pos _ hq⟩
def handsF (number : Int) (ds : List Int) : List Int × List Int :=
  if number / 9 % 9 = 4 then (pops (1 + number / 81 % 6).toNat (dropN (1 + number % 3).toNat ds) 7, dropN (1 + number / 81 % 6).toNat (dropN (1 + number % 3).toNat ds))
  else (if 0 < number / 3 % 3 then (pops (1 + number % 3).toNat ds 3).map (1 + · % 2) else pops (1 + number % 3).toNat ds 3, dropN (1 + number % 3).toNat ds)
theorem handsF_ok (number : Int) (ds : List Int) : 0 < (handsF number ds).1.length ∧ (handsF number ds).1.length ≤ 6 ∧ ∀ h ∈ (handsF number ds).1, 0 ≤ h ∧ h ≤ 6 := by
  have a0 := Int.emod_nonneg number (show (3 : Int) ≠ 0 by decide)
  have a1 := Int.emod_lt_of_pos number (show (0 : Int) < 3 by decide)
  have b0 := Int.emod_nonneg (number / 81) (show (6 : Int) ≠ 0 by decide)
  have b1 := Int.emod_lt_of_pos (number / 81) (show (0 : Int) < 6 by decide)
  unfold handsF
  split
  · refine ⟨by rw [pops_len]; omega, by rw [pops_len]; omega, fun h hh => ?_⟩
    have := pops_ok (show (0 : Int) < 7 by decide) h hh
    omega
  · dsimp only
    split
    · refine ⟨by rw [List.length_map, pops_len]; omega, by rw [List.length_map, pops_len]; omega, fun h hh => ?_⟩
      obtain ⟨x, _, rfl⟩ := List.mem_map.mp hh
      have c0 := Int.emod_nonneg x (show (2 : Int) ≠ 0 by decide)
      have c1 := Int.emod_lt_of_pos x (show (0 : Int) < 2 by decide)
      omega
    · refine ⟨by rw [pops_len]; omega, by rw [pops_len]; omega, fun h hh => ?_⟩
      have := pops_ok (show (0 : Int) < 3 by decide) h hh
      omega
/-- the spans so far, what is left, the draws -/
def townStep (s : List Int × Int × List Int) : List Int × Int × List Int :=
  (s.1 ++ [1 + lastI s.2.2 % (if s.2.1 < 12 then s.2.1 else 12)], s.2.1 / (1 + lastI s.2.2 % (if s.2.1 < 12 then s.2.1 else 12)), s.2.2.dropLast)
def townMany (number : Int) (ds : List Int) : Nat := (1 + lastI ds % [(3 : Int), 4, 6].getD (number / 27 % 3).toNat default).toNat
def townFold (n : Nat) (left : Int) (ds : List Int) : List Int × Int × List Int := (List.range n).foldl (fun s _ => townStep s) ([], left, ds)
/-- the town, the rest of the draws -/
def townF (ds : List Int) (most : Int) : (List Int × List Int) × List Int :=
  let h := handsF (lastI ds) ds.dropLast
  let s := townFold (townMany (lastI ds) h.2) (most / (h.1.length : Int)) h.2.dropLast
  ((s.1, h.1), s.2.2)
theorem townStep_ok {s : List Int × Int × List Int} (h : 1 ≤ s.2.1) : 1 ≤ 1 + lastI s.2.2 % (if s.2.1 < 12 then s.2.1 else 12) ∧ 1 + lastI s.2.2 % (if s.2.1 < 12 then s.2.1 else 12) ≤ 12 ∧ 1 ≤ s.2.1 / (1 + lastI s.2.2 % (if s.2.1 < 12 then s.2.1 else 12)) := by
  have hq : 1 ≤ (if s.2.1 < 12 then s.2.1 else 12) ∧ (if s.2.1 < 12 then s.2.1 else 12) ≤ 12 ∧ (if s.2.1 < 12 then s.2.1 else 12) ≤ s.2.1 := by split <;> omega
  generalize (if s.2.1 < 12 then s.2.1 else 12) = q at *
  have c0 := Int.emod_nonneg (lastI s.2.2) (show q ≠ 0 by omega)
  have c1 := Int.emod_lt_of_pos (lastI s.2.2) (show 0 < q by omega)
  refine ⟨by omega, by omega, ?_⟩
  exact (Int.le_ediv_iff_mul_le (by omega)).mpr (by omega)
theorem townFold_ok {left : Int} (ds : List Int) (h : 1 ≤ left) : ∀ n : Nat, (townFold n left ds).1.length = n ∧ (∀ s ∈ (townFold n left ds).1, 1 ≤ s ∧ s ≤ 12) ∧ 1 ≤ (townFold n left ds).2.1 ∧ (townFold n left ds).2.1 ≤ left
  | 0 => ⟨rfl, fun s hs => (by cases hs), h, Int.le_refl _⟩
  | n + 1 => by
    obtain ⟨a, b, c, d⟩ := townFold_ok ds h n
    have e : townFold (n + 1) left ds = townStep (townFold n left ds) := by unfold townFold; rw [List.range_succ, List.foldl_append]; rfl
    rw [e]
    obtain ⟨p, q, r⟩ := townStep_ok c
    refine ⟨?_, fun s hs => ?_, r, ?_⟩
    · show (_ ++ [_]).length = _
      rw [List.length_append, a]
      rfl
    · rcases List.mem_append.mp hs with hs | hs
      · exact b s hs
      · rw [List.mem_singleton.mp hs]
        exact ⟨p, q⟩
    · exact Int.le_trans (Int.ediv_le_self _ (by omega)) d
theorem get346 (number : Int) : 3 ≤ [(3 : Int), 4, 6].getD (number / 27 % 3).toNat default ∧ [(3 : Int), 4, 6].getD (number / 27 % 3).toNat default ≤ 6 := by
  have c0 := Int.emod_nonneg (number / 27) (show (3 : Int) ≠ 0 by decide)
  have c1 := Int.emod_lt_of_pos (number / 27) (show (0 : Int) < 3 by decide)
  have key : ∀ i : Nat, i < 3 → 3 ≤ [(3 : Int), 4, 6].getD i default ∧ [(3 : Int), 4, 6].getD i default ≤ 6 := fun i hi => by
    match i, hi with
    | 0, _ => decide
    | 1, _ => decide
    | 2, _ => decide
  exact key _ (by omega)
theorem townMany_ok (number : Int) (ds : List Int) : 1 ≤ townMany number ds ∧ townMany number ds ≤ 6 := by
  obtain ⟨g0, g1⟩ := get346 number
  unfold townMany
  generalize [(3 : Int), 4, 6].getD (number / 27 % 3).toNat default = g at *
  have c0 := Int.emod_nonneg (lastI ds) (show g ≠ 0 by omega)
  have c1 := Int.emod_lt_of_pos (lastI ds) (show 0 < g by omega)
  omega
structure TownOk (t : List Int × List Int) : Prop where
  l0 : 0 < t.1.length
  l1 : t.1.length ≤ 6
  h0 : 0 < t.2.length
  h1 : t.2.length ≤ 6
  sp : ∀ s ∈ t.1, 1 ≤ s ∧ s ≤ 12
  hd : ∀ h ∈ t.2, 0 ≤ h ∧ h ≤ 6
theorem townF_ok (ds : List Int) {most : Int} (hm : 6 ≤ most) : TownOk (townF ds most).1 := by
  obtain ⟨a, b, c⟩ := handsF_ok (lastI ds) ds.dropLast
  have hl : 1 ≤ most / ((handsF (lastI ds) ds.dropLast).1.length : Int) := (Int.le_ediv_iff_mul_le (by omega)).mpr (by omega)
  obtain ⟨p, q, _⟩ := townFold_ok (handsF (lastI ds) ds.dropLast).2.dropLast hl (townMany (lastI ds) (handsF (lastI ds) ds.dropLast).2)
  obtain ⟨m0, m1⟩ := townMany_ok (lastI ds) (handsF (lastI ds) ds.dropLast).2
  exact ⟨by unfold townF; dsimp only; rw [p]; omega, by unfold townF; dsimp only; rw [p]; omega, a, b, q, c⟩
abbrev townP (t : List Int × List Int) : PyData := .tuple [.list (t.1.map .int), .list (t.2.map .int)]
theorem ix_last {α : Type} [Inhabited α] (l : List α) (x : α) : (l ++ [x]).getD ((l ++ [x]).length - 1) default = x := by
  rw [List.getD_eq_getElem?_getD, List.length_append]
  simp
def P_law_town : DSp := fun E Q => ∃ (ds : List Int) (most : Int), E = [.own (ds.map .int), .val (.int most)] ∧ 6 ≤ most ∧ most ≤ 2000 ∧ Q (.val (townP (townF ds most).1)) [.own ((townF ds most).2.map .int), .val (.int most)]

set_option maxHeartbeats 4000000 in
theorem ok_law_town {P : Program} {w : World} {K : PySem.W.Frag} {mg : Str → Option Value} {base : Heap} {f : Addr} {fd : FuncData} (F : Fun K "_law_town" "_law_town" s_law_town f fd) (C_law_pop : Cal P w K mg base "_law_pop" ["_law_draws_here"] 1 1 P_law_pop) (m_len : mg "len" = none) (m_min : mg "min" = none) (m_range : mg "range" = none) : FnOk P w K mg base CX0 2 f fd ["_law_draws_here", "_law_most"] (FD P_law_town 2) := by
  refine fn_ok F sc_law_town rfl fun cdv A outer s H hr E K' hE hP => ?_
  have nd := sc_law_town.nd
  have hu := hr.units
  obtain ⟨ds, most, rfl, hm0, hm1, k⟩ := hP
  show GO _ _ _ [_, _, SD.any, SD.any, SD.any, SD.any, SD.any, SD.any] _
  unfold townF at k
  dsimp only at k
  refine go_cons (gs_set 2 (ex_callC C_law_pop (hr.mono (by decide)) (by rfl) (ea_cons (ex_own 0 rfl rfl (.inr (.inl rfl))) ea_nil ⟨_, rfl⟩) rfl rfl (fun K' k => ⟨_, rfl, k⟩) rfl rfl) ?_ nd rfl (.inl rfl))
  try dsimp only [List.set_cons_zero, List.set_cons_succ, setE, bak, wipeE, List.map_cons, List.map_nil]
  generalize lastI ds = number at *
  generalize ds.dropLast = ds1 at *
  obtain ⟨hh0, hh1, hh2⟩ := handsF_ok number ds1
  have a0 := Int.emod_nonneg number (show (3 : Int) ≠ 0 by decide)
  have a1 := Int.emod_lt_of_pos number (show (0 : Int) < 3 by decide)
  have b0 := Int.emod_nonneg (number / 81) (show (6 : Int) ≠ 0 by decide)
  have b1 := Int.emod_lt_of_pos (number / 81) (show (0 : Int) < 6 by decide)
  refine go_cons (gs_lcE 4 (fun i => PyData.int (lastI (dropN i ds1) % 3)) [3] (fun i => [.own ((dropN i ds1).map .int), .val (.int most), .val (.int number), .any, .any, .any, .any, .any]) (by rfl) nd (ei_rangeT (ex_op o_add ex_int (ex_op (o_mod (by walk_at "pos")) (ex_name 2 rfl rfl (.inl rfl)) ex_int trivial) trivial) (by walk_at "rng") (by rfl) m_range (by walk_at "rng")) (blkOk_by (own := [("_law_k", 3)]) (N := ["_law_draws_here", "_law_most", "_law_number", "_law_k", "_law_hands", "_law_left", "_law_spans", "_law_one"]) (sc := defScope s_law_town) (by decide +kernel)) (fun _ _ _ _ _ => (pg_name (i := 3) nd rfl (.inl rfl))) (by walk_at "len") (by decide) (fun _ => (td_name 3)) rfl rfl ?_ rfl ?_ rfl rfl (sw_true rfl rfl rfl (by decide +kernel)))
  · intro i x hx
    dsimp only [setE, List.set_cons_zero, List.set_cons_succ]
    exact ⟨_, fun _ _ _ _ _ => (ex_op (o_mod (by walk_at "pos")) (ex_callC C_law_pop (hr.mono (by decide)) (by rfl) (ea_cons (ex_own 0 rfl rfl (.inr (.inl rfl))) ea_nil ⟨_, rfl⟩) rfl rfl (fun K' k => ⟨_, rfl, k⟩) rfl rfl) ex_int trivial), rfl⟩
  dsimp only [List.set_cons_zero, List.set_cons_succ]
  rw [List.length_range, pops_data]
  have pl := pops_len (1 + number % 3).toNat ds1 3
  have hb0 : (pops (1 + number % 3).toNat ds1 3).length ≤ 1000000 := by omega
  refine go_cons (gs_ifJ (fun E' => E' = [.own ((dropN (1 + number % 3).toNat ds1).map .int), .val (.int most), .val (.int number), .any, .own ((if 0 < number / 3 % 3 then (pops (1 + number % 3).toNat ds1 3).map (1 + · % 2) else pops (1 + number % 3).toNat ds1 3).map .int), .any, .any, .any]) (et_cmp o_gt (ex_op (o_mod (by walk_at "pos")) (ex_op (o_fdiv (by walk_at "div")) (ex_name 2 rfl rfl (.inl rfl)) ex_int trivial) ex_int trivial) ex_int trivial (nomark _)) (fun ht => ?_) (fun hf => go_nil ?_) ?_)
  · have h0 : 0 < number / 3 % 3 := by simpa using ht
    refine go_cons (gs_lcM 4 [7] (by rfl) nd (ei_list (ex_frz_loc (ex_own 4 rfl rfl (.inl rfl)) rfl)) (blkOk_by (own := [("_law_one", 7)]) (N := ["_law_draws_here", "_law_most", "_law_number", "_law_k", "_law_hands", "_law_left", "_law_spans", "_law_one"]) (sc := defScope s_law_town) (by decide +kernel)) (fun _ _ _ _ _ => (pg_name (i := 7) nd rfl (.inl rfl))) (by walk_at "len") (by decide) (fun _ => (td_name 7)) rfl rfl (fun _ => rfl) (fun x hx _ _ _ _ _ => (ex_op o_add ex_int (ex_op (o_mod (by walk_at "pos")) (ex_name 7 rfl rfl (.inl rfl)) ex_int trivial) trivial)) rfl ?_ rfl rfl (sw_true rfl rfl rfl (by decide +kernel)))
    try dsimp only [List.set_cons_zero, List.set_cons_succ, setE, bak, wipeE, List.map_cons, List.map_nil]
    refine go_nil ?_
    rw [if_pos h0, List.map_map]
    rfl
  · have h0 : ¬ 0 < number / 3 % 3 := by simpa using hf
    rw [if_neg h0]
    all_goals rfl
  rintro E' rfl
  
  have hlen2 : (1 + number / 81 % 6).toNat ≤ 1000000 := by omega
  refine go_cons (gs_ifJ (fun E' => ∃ s3 : SD, E' = [.own ((handsF number ds1).2.map .int), .val (.int most), .val (.int number), s3, .own ((handsF number ds1).1.map .int), .any, .any, .any]) (et_cmp o_eq (ex_op (o_mod (by walk_at "pos")) (ex_op (o_fdiv (by walk_at "div")) (ex_name 2 rfl rfl (.inl rfl)) ex_int trivial) ex_int trivial) ex_int trivial (nomark _)) (fun ht => ?_) (fun hf => go_nil ?_) ?_)
  · have h0 : number / 9 % 9 = 4 := by simpa using ht
    refine go_cons (gs_lcE 4 (fun i => PyData.int (lastI (dropN i (dropN (1 + number % 3).toNat ds1)) % 7)) [3] (fun i => [.own ((dropN i (dropN (1 + number % 3).toNat ds1)).map .int), .val (.int most), .val (.int number), .any, .own ((if 0 < number / 3 % 3 then (pops (1 + number % 3).toNat ds1 3).map (1 + · % 2) else pops (1 + number % 3).toNat ds1 3).map .int), .any, .any, .any]) (by rfl) nd (ei_rangeT (ex_op o_add ex_int (ex_op (o_mod (by walk_at "pos")) (ex_op (o_fdiv (by walk_at "div")) (ex_name 2 rfl rfl (.inl rfl)) ex_int trivial) ex_int trivial) trivial) (by walk_at "rng") (by rfl) m_range (by walk_at "rng")) (blkOk_by (own := [("_law_k", 3)]) (N := ["_law_draws_here", "_law_most", "_law_number", "_law_k", "_law_hands", "_law_left", "_law_spans", "_law_one"]) (sc := defScope s_law_town) (by decide +kernel)) (fun _ _ _ _ _ => (pg_name (i := 3) nd rfl (.inl rfl))) (by walk_at "len") (by decide) (fun _ => (td_name 3)) rfl rfl ?_ rfl ?_ rfl rfl (sw_true rfl rfl rfl (by decide +kernel)))
    · intro i x hx
      dsimp only [setE, List.set_cons_zero, List.set_cons_succ]
      exact ⟨_, fun _ _ _ _ _ => (ex_op (o_mod (by walk_at "pos")) (ex_callC C_law_pop (hr.mono (by decide)) (by rfl) (ea_cons (ex_own 0 rfl rfl (.inr (.inl rfl))) ea_nil ⟨_, rfl⟩) rfl rfl (fun K' k => ⟨_, rfl, k⟩) rfl rfl) ex_int trivial), rfl⟩
    dsimp only [List.set_cons_zero, List.set_cons_succ]
    rw [List.length_range, pops_data]
    refine go_nil ⟨.any, ?_⟩
    unfold handsF
    rw [if_pos h0]
    all_goals rfl
  · have h0 : ¬ number / 9 % 9 = 4 := by simpa using hf
    refine ⟨.any, ?_⟩
    unfold handsF
    rw [if_neg h0]
    all_goals rfl
  rintro E' ⟨s3, rfl⟩
  obtain ⟨m0, m1⟩ := townMany_ok number (handsF number ds1).2
  unfold townMany at k m0 m1
  obtain ⟨g0, g1⟩ := get346 number
  generalize (handsF number ds1).1 = hands at *
  generalize (handsF number ds1).2 = ds3 at *
  have p1 : 0 < (((hands.map PyData.int).length : Nat) : Int) := by rw [List.length_map]; omega
  have bl : Bits 64 (((hands.map PyData.int).length : Nat) : Int) := by rw [List.length_map]; exact bits64 (by omega) (by omega)
  refine go_cons (gs_set 5 (ex_op (o_fdiv (by walk_at "div")) (ex_name 1 rfl rfl (.inl rfl)) (ex_callB (ea_cons (ex_own 4 rfl rfl (.inl rfl)) ea_nil ⟨_, rfl⟩) (ca_len rfl) (by rfl) m_len (by decide +kernel)) trivial) ?_ nd rfl (.inl rfl))
  try dsimp only [List.set_cons_zero, List.set_cons_succ, setE, bak, wipeE, List.map_cons, List.map_nil]
  rw [List.length_map]
  have l0 : 1 ≤ most / (hands.length : Int) := (Int.le_ediv_iff_mul_le (by omega)).mpr (by omega)
  have l1 : most / (hands.length : Int) ≤ 2000 := Int.le_trans (Int.ediv_le_self _ (by omega)) hm1
  generalize most / (hands.length : Int) = left at *
  refine go_cons (gs_setO 6 (ex_list ea_nil rfl (by walk_at "len")) ?_ rfl nd rfl (.inl rfl))
  try dsimp only [List.set_cons_zero, List.set_cons_succ, setE, bak, wipeE, List.map_cons, List.map_nil]
  have g0' : 0 < [(3 : Int), 4, 6].getD (number / 27 % 3).toNat default := by omega
  have i0 : 0 ≤ number / 27 % 3 := Int.emod_nonneg _ (by decide)
  have i1 : number / 27 % 3 < (([(3 : Int), 4, 6].length : Nat) : Int) := Int.emod_lt_of_pos _ (by decide)
  have c0 := Int.emod_nonneg (lastI ds3) (show [(3 : Int), 4, 6].getD (number / 27 % 3).toNat default ≠ 0 by omega)
  have c1 := Int.emod_lt_of_pos (lastI ds3) g0'
  refine go_cons (gs_forR (n := 1 + lastI ds3 % [(3 : Int), 4, 6].getD (number / 27 % 3).toNat default) (fun i E' => ∃ s3 : SD, E' = [.own ((townFold i left ds3.dropLast).2.2.map .int), .val (.int most), .val (.int number), s3, .own (hands.map .int), .val (.int (townFold i left ds3.dropLast).2.1), .own ((townFold i left ds3.dropLast).1.map .int), .any]) 3 (ei_rangeT (ex_op o_add ex_int (ex_op (o_mod g0') (ex_callC C_law_pop (hr.mono (by decide)) (by rfl) (ea_cons (ex_own 0 rfl rfl (.inr (.inl rfl))) ea_nil ⟨_, rfl⟩) rfl rfl (fun K' k => ⟨_, rfl, k⟩) rfl rfl) (ex_ixG (ι := PyData.int) (l := [3, 4, 6]) (ex_list (ea_cons ex_int (ea_cons ex_int (ea_cons ex_int ea_nil trivial) trivial) trivial) rfl (by walk_at "len")) (ex_op (o_mod (by walk_at "pos")) (ex_op (o_fdiv (by walk_at "div")) (ex_name 2 rfl rfl (.inl rfl)) ex_int trivial) ex_int trivial) trivial rfl i0 i1) trivial) trivial) (by omega) (by rfl) m_range (by omega)) (pg_name (i := 3) nd rfl (.inl rfl)) ⟨_, rfl⟩ ?_ ?_)
  · rintro i E' hi ⟨s3, rfl⟩
    dsimp only [List.set_cons_zero, List.set_cons_succ]
    obtain ⟨ta, tb, tc, td⟩ := townFold_ok ds3.dropLast l0 i
    obtain ⟨q0, q1, q2⟩ := townStep_ok tc
    have hnext : townFold (i + 1) left ds3.dropLast = townStep (townFold i left ds3.dropLast) := by unfold townFold; rw [List.range_succ, List.foldl_append]; rfl
    unfold townStep at hnext
    generalize townFold i left ds3.dropLast = st at *
    obtain ⟨sp, lf, dr⟩ := st
    dsimp only at *
    have mq : 0 < (if lf < 12 then lf else 12) := by split <;> omega
    have lsp : sp.length + 1 ≤ 1000000 := by omega
    refine go_cons (gs_expr (ex_append (ex_own 6 rfl rfl (.inl rfl)) (ex_op o_add ex_int (ex_op (o_mod (by walk_at "pos")) (ex_callC C_law_pop (hr.mono (by decide)) (by rfl) (ea_cons (ex_own 0 rfl rfl (.inr (.inl rfl))) ea_nil ⟨_, rfl⟩) rfl rfl (fun K' k => ⟨_, rfl, k⟩) rfl rfl) (ex_callB (ea_cons ex_int (ea_cons (ex_name 5 rfl rfl (.inl rfl)) ea_nil trivial) trivial) (ca_min2 (by rfl)) (by rfl) m_min (by decide +kernel)) trivial) trivial) rfl (by walk_at "len")) ?_)
    try dsimp only [List.set_cons_zero, List.set_cons_succ, setE, bak, wipeE, List.map_cons, List.map_nil]
    generalize 1 + lastI dr % (if lf < 12 then lf else 12) = span at *
    rw [map_app1]
    have el := ix_last sp span
    have lpos : 0 < (sp ++ [span]).length := by rw [List.length_append]; show 0 < _ + 1; omega
    have z1 : 0 < (sp ++ [span]).getD ((sp ++ [span]).length - 1) default := by rw [el]; omega
    have z2 : Bits 64 ((sp ++ [span]).getD ((sp ++ [span]).length - 1) default) := by rw [el]; exact bits64 (by omega) (by omega)
    refine go_cons (gs_set 5 (ex_op (o_fdiv (by walk_at "div")) (ex_name 5 rfl rfl (.inl rfl)) (ex_ixB (ex_own 6 rfl rfl (.inl rfl)) (ex_neg ex_int) ⟨_, rfl⟩ rfl (by walk_at "ix1")) trivial) ?_ nd rfl (.inl rfl))
    try dsimp only [List.set_cons_zero, List.set_cons_succ, setE, bak, wipeE, List.map_cons, List.map_nil]
    rw [el]
    exact go_nil ⟨_, by rw [hnext]⟩
  · rintro E' ⟨s3, rfl⟩
    unfold townFold at *
    refine go_cons (gs_ret (ex_tuple (ea_cons (ex_frz_loc (ex_own 6 rfl rfl (.inl rfl)) rfl) (ea_cons (ex_frz_loc (ex_own 4 rfl rfl (.inl rfl)) rfl) ea_nil trivial) trivial) rfl (by walk_at "len")) rfl ⟨rfl, ?_⟩)
    exact k
def leftOf (lean span number : Int) : Int := [1 + number % span, 1 + number % (if 3 < span then 3 else span), span - number % (if 2 < span then 2 else span)].getD lean.toNat default
def standStep (lean : Int) (s : List Int × List Int) (span : Int) : List Int × List Int := (s.1 ++ [leftOf lean span (lastI s.2)], s.2.dropLast)
/-- the day and the lefts, the rest of the draws -/
def standF (t : List Int × List Int) (ds : List Int) : (Int × List Int) × List Int :=
  let s := t.1.foldl (standStep (lastI ds % 3)) ([], ds.dropLast)
  ((lastI s.2 % (t.2.length : Int), s.1), s.2.dropLast)
abbrev standP (s : Int × List Int) : PyData := .tuple [.int s.1, .tuple (s.2.map .int)]
theorem leftOf_ok {lean span number : Int} (h0 : 0 ≤ lean) (h1 : lean < 3) (hs : 1 ≤ span) : 1 ≤ leftOf lean span number ∧ leftOf lean span number ≤ span := by
  unfold leftOf
  have a0 := Int.emod_nonneg number (show span ≠ 0 by omega)
  have a1 := Int.emod_lt_of_pos number (show 0 < span by omega)
  have hb : 1 ≤ (if 3 < span then 3 else span) ∧ (if 3 < span then 3 else span) ≤ span := by split <;> omega
  have hc : 1 ≤ (if 2 < span then 2 else span) ∧ (if 2 < span then 2 else span) ≤ span := by split <;> omega
  generalize (if 3 < span then 3 else span) = b at *
  generalize (if 2 < span then 2 else span) = c at *
  have b0 := Int.emod_nonneg number (show b ≠ 0 by omega)
  have b1 := Int.emod_lt_of_pos number (show 0 < b by omega)
  have c0 := Int.emod_nonneg number (show c ≠ 0 by omega)
  have c1 := Int.emod_lt_of_pos number (show 0 < c by omega)
  have hl : lean.toNat = 0 ∨ lean.toNat = 1 ∨ lean.toNat = 2 := by omega
  rcases hl with h | h | h <;> rw [h]
  · show 1 ≤ 1 + number % span ∧ 1 + number % span ≤ span
    omega
  · show 1 ≤ 1 + number % b ∧ 1 + number % b ≤ span
    omega
  · show 1 ≤ span - number % c ∧ span - number % c ≤ span
    omega
theorem stand_fold {lean : Int} (h0 : 0 ≤ lean) (h1 : lean < 3) : ∀ (spans : List Int) (a b : List Int), (∀ s ∈ spans, 1 ≤ s) → (spans.foldl (standStep lean) (a, b)).1.length = a.length + spans.length ∧ ∀ i, i < spans.length → 1 ≤ (spans.foldl (standStep lean) (a, b)).1.getD (a.length + i) default ∧ (spans.foldl (standStep lean) (a, b)).1.getD (a.length + i) default ≤ spans.getD i default ∧ ∀ i, i < a.length → (spans.foldl (standStep lean) (a, b)).1.getD i default = a.getD i default := by
  intro spans
  have pre : ∀ (spans a b : List Int) (i : Nat), i < a.length → (spans.foldl (standStep lean) (a, b)).1.getD i default = a.getD i default := fun spans => by
    induction spans with
    | nil => intro a b i hi; rfl
    | cons x r ih =>
      intro a b i hi
      show (r.foldl (standStep lean) (a ++ [leftOf lean x (lastI b)], b.dropLast)).1.getD i default = _
      rw [ih _ _ i (by rw [List.length_append]; show i < _ + 1; omega)]
      rw [List.getD_eq_getElem?_getD, List.getD_eq_getElem?_getD, List.getElem?_append_left hi]
  induction spans with
  | nil => intro a b h; exact ⟨rfl, fun i hi => by cases hi⟩
  | cons x r ih =>
    intro a b h
    have hx := h x List.mem_cons_self
    obtain ⟨p, q⟩ := ih (a ++ [leftOf lean x (lastI b)]) b.dropLast fun s hs => h s (List.mem_cons_of_mem _ hs)
    have la : (a ++ [leftOf lean x (lastI b)]).length = a.length + 1 := by rw [List.length_append]; rfl
    have e : (x :: r).foldl (standStep lean) (a, b) = r.foldl (standStep lean) (a ++ [leftOf lean x (lastI b)], b.dropLast) := rfl
    rw [e]
    refine ⟨by rw [p, la, List.length_cons]; omega, fun i hi => ?_⟩
    have pr : ∀ j, j < a.length → (r.foldl (standStep lean) (a ++ [leftOf lean x (lastI b)], b.dropLast)).1.getD j default = a.getD j default := fun j hj => by
      rw [pre _ _ _ j (by omega)]
      rw [List.getD_eq_getElem?_getD, List.getD_eq_getElem?_getD, List.getElem?_append_left hj]
    cases i with
    | zero =>
      have e2 : (r.foldl (standStep lean) (a ++ [leftOf lean x (lastI b)], b.dropLast)).1.getD (a.length + 0) default = leftOf lean x (lastI b) := by
        rw [pre _ _ _ (a.length + 0) (by omega), List.getD_eq_getElem?_getD]
        simp
      rw [e2]
      obtain ⟨u, v⟩ := leftOf_ok (number := lastI b) h0 h1 hx
      exact ⟨u, v, pr⟩
    | succ i =>
      obtain ⟨u, v, _⟩ := q i (by rw [List.length_cons] at hi; omega)
      rw [la, show a.length + 1 + i = a.length + (i + 1) by omega] at u v
      exact ⟨u, v, pr⟩
structure StandOk (t : List Int × List Int) (s : Int × List Int) : Prop where
  d0 : 0 ≤ s.1
  d1 : s.1 < (t.2.length : Int)
  len : s.2.length = t.1.length
  lo : ∀ i, i < t.1.length → 1 ≤ s.2.getD i default
  hi : ∀ i, i < t.1.length → s.2.getD i default ≤ t.1.getD i default
theorem standF_ok {t : List Int × List Int} (h : TownOk t) (ds : List Int) : StandOk t (standF t ds).1 := by
  have h0 := h.h0
  obtain ⟨a, b⟩ := stand_fold (lean := lastI ds % 3) (Int.emod_nonneg _ (by decide)) (Int.emod_lt_of_pos _ (by decide)) t.1 [] ds.dropLast fun s hs => (h.sp s hs).1
  refine ⟨Int.emod_nonneg _ (by omega), Int.emod_lt_of_pos _ (by omega), ?_, fun i hi => ?_, fun i hi => ?_⟩
  · rw [show (standF t ds).1.2 = (t.1.foldl (standStep (lastI ds % 3)) ([], ds.dropLast)).1 from rfl, a]
    show 0 + _ = _
    omega
  · have := (b i hi).1
    rw [show ([] : List Int).length + i = i by show 0 + i = i; omega] at this
    exact this
  · have := (b i hi).2.1
    rw [show ([] : List Int).length + i = i by show 0 + i = i; omega] at this
    exact this
def P_law_standing : DSp := fun E Q => ∃ (t : List Int × List Int) (ds : List Int), E = [.val (.tuple [.list (t.1.map .int), .list (t.2.map .int)]), .own (ds.map .int)] ∧ TownOk t ∧ Q (.val (standP (standF t ds).1)) [.val (.tuple [.list (t.1.map .int), .list (t.2.map .int)]), .own ((standF t ds).2.map .int)]

set_option maxHeartbeats 4000000 in
theorem ok_law_standing {P : Program} {w : World} {K : PySem.W.Frag} {mg : Str → Option Value} {base : Heap} {f : Addr} {fd : FuncData} (F : Fun K "_law_standing" "_law_standing" s_law_standing f fd) (C_law_pop : Cal P w K mg base "_law_pop" ["_law_draws_here"] 1 1 P_law_pop) (m_len : mg "len" = none) (m_min : mg "min" = none) : FnOk P w K mg base CX0 2 f fd ["_law_town_here", "_law_draws_here"] (FD P_law_standing 2) := by
  refine fn_ok F sc_law_standing rfl fun cdv A outer s H hr E K' hE hP => ?_
  have nd := sc_law_standing.nd
  have hu := hr.units
  obtain ⟨t, ds, rfl, ht, k⟩ := hP
  show GO _ _ _ [_, _, SD.any, SD.any, SD.any, SD.any, SD.any] _
  unfold standF at k
  dsimp only at k
  obtain ⟨spans, hands⟩ := t
  obtain ⟨tl0, tl1, th0, th1, tsp, thd⟩ := ht
  dsimp only at *
  refine go_cons (gs_set 2 (ex_tuple ea_nil rfl (by walk_at "len")) ?_ nd rfl (.inl rfl))
  try dsimp only [List.set_cons_zero, List.set_cons_succ, setE, bak, wipeE, List.map_cons, List.map_nil]
  have c0 := Int.emod_nonneg (lastI ds) (show (3 : Int) ≠ 0 by decide)
  have c1 := Int.emod_lt_of_pos (lastI ds) (show (0 : Int) < 3 by decide)
  refine go_cons (gs_set 3 (ex_op (o_mod (by walk_at "pos")) (ex_callC C_law_pop (hr.mono (by decide)) (by rfl) (ea_cons (ex_own 1 rfl rfl (.inl rfl)) ea_nil ⟨_, rfl⟩) rfl rfl (fun K' k => ⟨_, rfl, k⟩) rfl rfl) ex_int trivial) ?_ nd rfl (.inl rfl))
  try dsimp only [List.set_cons_zero, List.set_cons_succ, setE, bak, wipeE, List.map_cons, List.map_nil]
  generalize lastI ds % 3 = lean at *
  generalize ds.dropLast = ds1 at *
  refine go_cons (gs_forM (es := fun s => [.int s]) (fun i E' => ∃ s4 s5 s6 : SD, E' = [.val (.tuple [.list (spans.map .int), .list (hands.map .int)]), .own (((spans.take i).foldl (standStep lean) ([], ds1)).2.map .int), .val (.tuple (((spans.take i).foldl (standStep lean) ([], ds1)).1.map .int)), .val (.int lean), s4, s5, s6]) [4] (ei_list (ex_ixT (ex_name 0 rfl rfl (.inl rfl)) ex_int rfl)) (pg_name (i := 4) nd rfl (.inl rfl)) (fun _ => (td_name 4)) ⟨_, _, _, rfl⟩ ?_ ?_)
  · rintro i span E' hi ⟨s4, s5, s6, rfl⟩
    dsimp only [List.set_cons_zero, List.set_cons_succ, setE]
    have hs := tsp span (List.mem_of_getElem? hi)
    have hil := (List.getElem?_eq_some_iff.mp hi).1
    obtain ⟨fl, _⟩ := stand_fold c0 c1 (spans.take i) [] ds1 fun s hs => (tsp s (List.mem_of_mem_take hs)).1
    have hnext : (spans.take (i + 1)).foldl (standStep lean) ([], ds1) = standStep lean ((spans.take i).foldl (standStep lean) ([], ds1)) span := by
      rw [List.take_add_one, hi, List.foldl_append]
      rfl
    have fl2 : ((spans.take i).foldl (standStep lean) ([], ds1)).1.length ≤ 1000 := by
      rw [fl, List.length_take]
      show 0 + _ ≤ _
      omega
    generalize (spans.take i).foldl (standStep lean) ([], ds1) = st at *
    obtain ⟨lefts, dr⟩ := st
    dsimp only at *
    refine go_cons (gs_set 5 (ex_callC C_law_pop (hr.mono (by decide)) (by rfl) (ea_cons (ex_own 1 rfl rfl (.inl rfl)) ea_nil ⟨_, rfl⟩) rfl rfl (fun K' k => ⟨_, rfl, k⟩) rfl rfl) ?_ nd rfl (.inl rfl))
    try dsimp only [List.set_cons_zero, List.set_cons_succ, setE, bak, wipeE, List.map_cons, List.map_nil]
    have m1 : 0 < span := by omega
    have m2 : 0 < (if span < 3 then span else 3) := by split <;> omega
    have m3 : 0 < (if 3 < span then 3 else span) := by split <;> omega
    have m4 : 0 < (if 2 < span then 2 else span) := by split <;> omega
    refine go_cons (gs_setO 6 (ex_castO (ex_list (ea_cons (ex_op o_add ex_int (ex_op (o_mod (by walk_at "pos")) (ex_name 5 rfl rfl (.inl rfl)) (ex_name 4 rfl rfl (.inl rfl)) trivial) trivial) (ea_cons (ex_op o_add ex_int (ex_op (o_mod (by walk_at "pos")) (ex_name 5 rfl rfl (.inl rfl)) (ex_callB (ea_cons (ex_name 4 rfl rfl (.inl rfl)) (ea_cons ex_int ea_nil trivial) trivial) (ca_min2 (by rfl)) (by rfl) m_min (by decide +kernel)) trivial) trivial) (ea_cons (ex_op o_sub (ex_name 4 rfl rfl (.inl rfl)) (ex_op (o_mod (by walk_at "pos")) (ex_name 5 rfl rfl (.inl rfl)) (ex_callB (ea_cons (ex_name 4 rfl rfl (.inl rfl)) (ea_cons ex_int ea_nil trivial) trivial) (ca_min2 (by rfl)) (by rfl) m_min (by decide +kernel)) trivial) trivial) ea_nil trivial) trivial) trivial) rfl (by walk_at "len")) (show _ = ([1 + lastI dr % span, 1 + lastI dr % (if 3 < span then 3 else span), span - lastI dr % (if 2 < span then 2 else span)] : List Int).map PyData.int from rfl)) ?_ rfl nd rfl (.inl rfl))
    try dsimp only [List.set_cons_zero, List.set_cons_succ, setE, bak, wipeE, List.map_cons, List.map_nil]
    have lx : (lefts.map PyData.int).length + 1 ≤ 1000000 := by rw [List.length_map]; omega
    refine go_cons (gs_set 2 (ex_op (o_catT (by rw [List.length_map]; show _ + 1 ≤ _; omega)) (ex_name 2 rfl rfl (.inl rfl)) (ex_tuple (ea_cons (ex_ixG (ι := PyData.int) (l := [1 + lastI dr % span, 1 + lastI dr % (if 3 < span then 3 else span), span - lastI dr % (if 2 < span then 2 else span)]) (ex_own 6 rfl rfl (.inl rfl)) (ex_name 3 rfl rfl (.inl rfl)) ⟨_, rfl⟩ rfl c0 (by show lean < (3 : Int); omega)) ea_nil trivial) rfl (by walk_at "len")) trivial) ?_ nd rfl (.inl rfl))
    dsimp only [List.set_cons_zero, List.set_cons_succ]
    exact go_nil ⟨.val (.int span), .val (.int (lastI dr)), _, by
      rw [hnext]
      unfold standStep leftOf
      simp only [List.map_append]
      rfl⟩
  rintro E' ⟨s4, s5, s6, rfl⟩
  rw [List.take_of_length_le (Nat.le_refl _)]
  have p1 : 0 < (((hands.map PyData.int).length : Nat) : Int) := by rw [List.length_map]; omega
  generalize spans.foldl (standStep lean) ([], ds1) = st at *
  obtain ⟨lefts, dr⟩ := st
  dsimp only at *
  refine go_cons (gs_ret (ex_tuple (ea_cons (ex_op (o_mod (by walk_at "pos")) (ex_callC C_law_pop (hr.mono (by decide)) (by rfl) (ea_cons (ex_own 1 rfl rfl (.inl rfl)) ea_nil ⟨_, rfl⟩) rfl rfl (fun K' k => ⟨_, rfl, k⟩) rfl rfl) (ex_callB (ea_cons (ex_ixT (ex_name 0 rfl rfl (.inl rfl)) ex_int rfl) ea_nil trivial) (ca_len rfl) (by rfl) m_len (by decide +kernel)) trivial) (ea_cons (ex_name 2 rfl rfl (.inl rfl)) ea_nil trivial) trivial) rfl (by walk_at "len")) rfl ⟨rfl, ?_⟩)
  rw [List.length_map]
  exact k
def turnOf (s n turn : Int) : Int :=
  if (if n + turn < s then n + turn else s) > 1 then (if n + turn < s then n + turn else s) else 1
def turnStep (nums spans : List Int) (st : List Int × List Int) (i : Nat) : List Int × List Int :=
  (st.1 ++ [turnOf (spans.getD (Int.toNat (i : Int)) default) (nums.getD (Int.toNat (i : Int)) default) ([(0 : Int), 0, 1, -1].getD (lastI st.2 % 4).toNat default)], st.2.dropLast)
def turnedF (nums spans ds : List Int) : List Int × List Int := (List.range nums.length).foldl (turnStep nums spans) ([], ds)
theorem turned_len (nums spans ds : List Int) : ∀ n : Nat, ((List.range n).foldl (turnStep nums spans) ([], ds)).1.length = n
  | 0 => rfl
  | n + 1 => by
    rw [List.range_succ, List.foldl_append]
    show (_ ++ [_]).length = _
    rw [List.length_append, turned_len nums spans ds n]
    rfl
def P_law_turned : DSp := fun E Q => ∃ nums spans ds : List Int, E = [.val (.tuple (nums.map .int)), .val (.list (spans.map .int)), .own (ds.map .int)] ∧ nums.length = spans.length ∧ nums.length ≤ 100 ∧
  Q (.val (.tuple ((turnedF nums spans ds).1.map .int))) [.val (.tuple (nums.map .int)), .val (.list (spans.map .int)), .own ((turnedF nums spans ds).2.map .int)]

set_option maxHeartbeats 4000000 in
theorem ok_law_turned {P : Program} {w : World} {K : PySem.W.Frag} {mg : Str → Option Value} {base : Heap} {f : Addr} {fd : FuncData} (F : Fun K "_law_turned" "_law_turned" s_law_turned f fd) (C_law_pop : Cal P w K mg base "_law_pop" ["_law_draws_here"] 1 1 P_law_pop) (m_len : mg "len" = none) (m_max : mg "max" = none) (m_min : mg "min" = none) (m_range : mg "range" = none) : FnOk P w K mg base CX0 2 f fd ["_law_numbers", "_law_spans", "_law_draws_here"] (FD P_law_turned 3) := by
  refine fn_ok F sc_law_turned rfl fun cdv A outer s H hr E K' hE hP => ?_
  have nd := sc_law_turned.nd
  have hu := hr.units
  obtain ⟨nums, spans, ds, rfl, hl, hl2, k⟩ := hP
  show GO _ _ _ [_, _, _, SD.any, SD.any, SD.any] _
  unfold turnedF at k
  refine go_cons (gs_set 3 (ex_tuple ea_nil rfl (by walk_at "len")) ?_ nd rfl (.inl rfl))
  try dsimp only [List.set_cons_zero, List.set_cons_succ, setE, bak, wipeE, List.map_cons, List.map_nil]
  refine go_cons (gs_forR (fun i E' => ∃ (s4 s5 : SD), E' = [.val (.tuple (nums.map .int)), .val (.list (spans.map .int)), .own (((List.range i).foldl (turnStep nums spans) ([], ds)).2.map .int), .val (.tuple (((List.range i).foldl (turnStep nums spans) ([], ds)).1.map .int)), s4, s5]) 4 (ei_rangeT (ex_callB (ea_cons (ex_name 0 rfl rfl (.inl rfl)) ea_nil trivial) ca_lenT (by rfl) m_len (by decide +kernel)) (by walk_at "rng") (by rfl) m_range (by walk_at "rng")) (pg_name (i := 4) nd rfl (.inl rfl)) ⟨_, _, rfl⟩ ?_ ?_)
  · rintro i E' hi ⟨s4, s5, rfl⟩
    dsimp only [List.set_cons_zero, List.set_cons_succ]
    have hi2 : i < nums.length := by rw [List.length_map] at hi; omega
    have hf := turned_len nums spans ds i
    have hnext : (List.range (i + 1)).foldl (turnStep nums spans) ([], ds) = turnStep nums spans ((List.range i).foldl (turnStep nums spans) ([], ds)) i := by rw [List.range_succ, List.foldl_append]; rfl
    generalize (List.range i).foldl (turnStep nums spans) ([], ds) = st at *
    obtain ⟨found, dr⟩ := st
    dsimp only at *
    have x0 : 0 ≤ lastI dr % 4 := Int.emod_nonneg _ (by decide)
    have x1 : lastI dr % 4 < (([(0 : Int), 0, 1, -1].length : Nat) : Int) := Int.emod_lt_of_pos _ (by decide)
    refine go_cons (gs_set 5 (ex_ixG (ι := PyData.int) (l := [0, 0, 1, -1]) (ex_list (ea_cons ex_int (ea_cons ex_int (ea_cons ex_int (ea_cons (ex_neg ex_int) ea_nil trivial) trivial) trivial) trivial) rfl (by walk_at "len")) (ex_op (o_mod (by walk_at "pos")) (ex_callC C_law_pop (hr.mono (by decide)) (by rfl) (ea_cons (ex_own 2 rfl rfl (.inl rfl)) ea_nil ⟨_, rfl⟩) rfl rfl (fun K' k => ⟨_, rfl, k⟩) rfl rfl) ex_int trivial) trivial rfl x0 x1) ?_ nd rfl (.inl rfl))
    dsimp only [List.set_cons_zero, List.set_cons_succ]
    have i0 : (0 : Int) ≤ (i : Int) := by omega
    have i1 : (i : Int) < (nums.length : Int) := by omega
    have i2 : (i : Int) < (spans.length : Int) := by omega
    have lx : (found.map PyData.int).length + 1 ≤ 1000000 := by rw [List.length_map]; omega
    refine go_cons (gs_set 3 (ex_op (o_catT (by walk_at "len")) (ex_name 3 rfl rfl (.inl rfl)) (ex_tuple (ea_cons (ex_callB (ea_cons ex_int (ea_cons (ex_callB (ea_cons (ex_ixG (ex_name 1 rfl rfl (.inl rfl)) (ex_name 4 rfl rfl (.inl rfl)) trivial rfl (by walk_at "ix0") (by walk_at "ix1")) (ea_cons (ex_op o_add (ex_ixV (ex_name 0 rfl rfl (.inl rfl)) (ex_name 4 rfl rfl (.inl rfl)) (by walk_at "ix0") (by walk_at "ix1")) (ex_name 5 rfl rfl (.inl rfl)) trivial) ea_nil trivial) trivial) (ca_min2 (by rfl)) (by rfl) m_min (by decide +kernel)) ea_nil trivial) trivial) (ca_max2 (by rfl)) (by rfl) m_max (by decide +kernel)) ea_nil trivial) rfl (by walk_at "len")) trivial) ?_ nd rfl (.inl rfl))
    try dsimp only [List.set_cons_zero, List.set_cons_succ, setE, bak, wipeE, List.map_cons, List.map_nil]
    rw [map_app1]
    exact go_nil ⟨_, _, by rw [hnext]; rfl⟩
  · rintro E' ⟨s4, s5, rfl⟩
    rw [List.length_map]
    refine go_cons (gs_ret (ex_name 3 rfl rfl (.inl rfl)) rfl ⟨rfl, ?_⟩)
    exact k
def bentOf (lo : Int) (xs ds : List Int) : List Int := (List.range xs.length).map fun i => if lo < xs.getD i default + [(0 : Int), 0, 1, -1].getD (lastI (dropN i ds) % 4).toNat default then xs.getD i default + [(0 : Int), 0, 1, -1].getD (lastI (dropN i ds) % 4).toNat default else lo
def P_law_other_town : DSp := fun E Q => ∃ (t : List Int × List Int) (ds : List Int), E = [.val (.tuple [.list (t.1.map .int), .list (t.2.map .int)]), .own (ds.map .int)] ∧ TownOk t ∧
  ∀ s h rest : List Int, s.length ≤ 10 → h.length ≤ 10 → Q (.val (.tuple [.list (s.map .int), .list (h.map .int)])) [.val (.tuple [.list (t.1.map .int), .list (t.2.map .int)]), .own (rest.map .int)]

set_option maxHeartbeats 4000000 in
theorem ok_law_other_town {P : Program} {w : World} {K : PySem.W.Frag} {mg : Str → Option Value} {base : Heap} {f : Addr} {fd : FuncData} (F : Fun K "_law_other_town" "_law_other_town" s_law_other_town f fd) (C_law_pop : Cal P w K mg base "_law_pop" ["_law_draws_here"] 1 1 P_law_pop) (C_law_town : Cal P w K mg base "_law_town" ["_law_draws_here", "_law_most"] 2 2 P_law_town) (m_max : mg "max" = none) : FnOk P w K mg base CX0 3 f fd ["_law_town_here", "_law_draws_here"] (FD P_law_other_town 2) := by
  refine fn_ok F sc_law_other_town rfl fun cdv A outer s H hr E K' hE hP => ?_
  have nd := sc_law_other_town.nd
  have hu := hr.units
  obtain ⟨t, ds, rfl, ht, k⟩ := hP
  show GO _ _ _ [_, _, SD.any, SD.any, SD.any, SD.any, SD.any] _
  obtain ⟨spans, hands⟩ := t
  obtain ⟨tl0, tl1, th0, th1, tsp, thd⟩ := ht
  dsimp only at *
  refine go_cons (gs_set 2 (ex_callC C_law_pop (hr.mono (by decide)) (by rfl) (ea_cons (ex_own 1 rfl rfl (.inr (.inl rfl))) ea_nil ⟨_, rfl⟩) rfl rfl (fun K' k => ⟨_, rfl, k⟩) rfl rfl) ?_ nd rfl (.inl rfl))
  try dsimp only [List.set_cons_zero, List.set_cons_succ, setE, bak, wipeE, List.map_cons, List.map_nil]
  generalize lastI ds = number at *
  generalize ds.dropLast = ds1 at *
  have x0 : ∀ n : Int, 0 ≤ n % 4 := fun n => Int.emod_nonneg _ (by decide)
  have x1 : ∀ n : Int, n % 4 < (([(0 : Int), 0, 1, -1].length : Nat) : Int) := fun n => Int.emod_lt_of_pos _ (by decide)
  have ls : spans.length ≤ 1000000 := by omega
  have lh : hands.length ≤ 1000000 := by omega
  refine go_cons (gs_lcE 3 (fun i => PyData.int (if 1 < spans.getD i default + [(0 : Int), 0, 1, -1].getD (lastI (dropN i ds1) % 4).toNat default then spans.getD i default + [(0 : Int), 0, 1, -1].getD (lastI (dropN i ds1) % 4).toNat default else 1)) [5] (fun i => [.val (.tuple [.list (spans.map .int), .list (hands.map .int)]), .own ((dropN i ds1).map .int), .val (.int number), .any, .any, .any, .any]) (by rfl) nd (ei_list (ex_ixT (ex_name 0 rfl rfl (.inl rfl)) ex_int rfl)) (blkOk_by (own := [("_law_span", 5)]) (N := ["_law_town_here", "_law_draws_here", "_law_number", "_law_spans", "_law_hands", "_law_span", "_law_hand"]) (sc := defScope s_law_other_town) (by decide +kernel)) (fun _ _ _ _ _ => (pg_name (i := 5) nd rfl (.inl rfl))) (by walk_at "len") (by decide) (fun _ => (td_name 5)) rfl rfl ?_ rfl ?_ rfl rfl (sw_true rfl rfl rfl (by decide +kernel)))
  · intro i x hx
    dsimp only [setE, List.set_cons_zero, List.set_cons_succ]
    obtain rfl : x = spans.getD i default := by
      have := getD_at (List.getElem?_eq_some_iff.mp hx).1
      rw [hx] at this
      exact Option.some.inj this
    exact ⟨_, fun _ _ _ _ _ => (ex_callB (ea_cons ex_int (ea_cons (ex_op o_add (ex_name 5 rfl rfl (.inl rfl)) (ex_ixG (ι := PyData.int) (l := [0, 0, 1, -1]) (ex_list (ea_cons ex_int (ea_cons ex_int (ea_cons ex_int (ea_cons (ex_neg ex_int) ea_nil trivial) trivial) trivial) trivial) rfl (by walk_at "len")) (ex_op (o_mod (by walk_at "pos")) (ex_callC C_law_pop (hr.mono (by decide)) (by rfl) (ea_cons (ex_own 1 rfl rfl (.inr (.inl rfl))) ea_nil ⟨_, rfl⟩) rfl rfl (fun K' k => ⟨_, rfl, k⟩) rfl rfl) ex_int trivial) trivial rfl (x0 _) (x1 _)) trivial) ea_nil trivial) trivial) (ca_max2 (by rfl)) (by rfl) m_max (by decide +kernel)), rfl⟩
  dsimp only [List.set_cons_zero, List.set_cons_succ]
  have e1 : (List.range spans.length).map (fun i => PyData.int (if 1 < spans.getD i default + [(0 : Int), 0, 1, -1].getD (lastI (dropN i ds1) % 4).toNat default then spans.getD i default + [(0 : Int), 0, 1, -1].getD (lastI (dropN i ds1) % 4).toNat default else 1)) = (bentOf 1 spans ds1).map .int := by unfold bentOf; rw [List.map_map]; rfl
  rw [e1]
  have b1 : (bentOf 1 spans ds1).length ≤ 6 := by unfold bentOf; rw [List.length_map, List.length_range]; exact tl1
  generalize bentOf 1 spans ds1 = sp at *
  generalize dropN spans.length ds1 = ds2 at *
  refine go_cons (gs_lcE 4 (fun i => PyData.int (if 0 < hands.getD i default + [(0 : Int), 0, 1, -1].getD (lastI (dropN i ds2) % 4).toNat default then hands.getD i default + [(0 : Int), 0, 1, -1].getD (lastI (dropN i ds2) % 4).toNat default else 0)) [6] (fun i => [.val (.tuple [.list (spans.map .int), .list (hands.map .int)]), .own ((dropN i ds2).map .int), .val (.int number), .own (sp.map .int), .any, .any, .any]) (by rfl) nd (ei_list (ex_ixT (ex_name 0 rfl rfl (.inl rfl)) ex_int rfl)) (blkOk_by (own := [("_law_hand", 6)]) (N := ["_law_town_here", "_law_draws_here", "_law_number", "_law_spans", "_law_hands", "_law_span", "_law_hand"]) (sc := defScope s_law_other_town) (by decide +kernel)) (fun _ _ _ _ _ => (pg_name (i := 6) nd rfl (.inl rfl))) (by walk_at "len") (by decide) (fun _ => (td_name 6)) rfl rfl ?_ rfl ?_ rfl rfl (sw_true rfl rfl rfl (by decide +kernel)))
  · intro i x hx
    dsimp only [setE, List.set_cons_zero, List.set_cons_succ]
    obtain rfl : x = hands.getD i default := by
      have := getD_at (List.getElem?_eq_some_iff.mp hx).1
      rw [hx] at this
      exact Option.some.inj this
    exact ⟨_, fun _ _ _ _ _ => (ex_callB (ea_cons ex_int (ea_cons (ex_op o_add (ex_name 6 rfl rfl (.inl rfl)) (ex_ixG (ι := PyData.int) (l := [0, 0, 1, -1]) (ex_list (ea_cons ex_int (ea_cons ex_int (ea_cons ex_int (ea_cons (ex_neg ex_int) ea_nil trivial) trivial) trivial) trivial) rfl (by walk_at "len")) (ex_op (o_mod (by walk_at "pos")) (ex_callC C_law_pop (hr.mono (by decide)) (by rfl) (ea_cons (ex_own 1 rfl rfl (.inr (.inl rfl))) ea_nil ⟨_, rfl⟩) rfl rfl (fun K' k => ⟨_, rfl, k⟩) rfl rfl) ex_int trivial) trivial rfl (x0 _) (x1 _)) trivial) ea_nil trivial) trivial) (ca_max2 (by rfl)) (by rfl) m_max (by decide +kernel)), rfl⟩
  dsimp only [List.set_cons_zero, List.set_cons_succ]
  have e2 : (List.range hands.length).map (fun i => PyData.int (if 0 < hands.getD i default + [(0 : Int), 0, 1, -1].getD (lastI (dropN i ds2) % 4).toNat default then hands.getD i default + [(0 : Int), 0, 1, -1].getD (lastI (dropN i ds2) % 4).toNat default else 0)) = (bentOf 0 hands ds2).map .int := by unfold bentOf; rw [List.map_map]; rfl
  rw [e2]
  have b2 : (bentOf 0 hands ds2).length ≤ 6 := by unfold bentOf; rw [List.length_map, List.length_range]; exact th1
  generalize bentOf 0 hands ds2 = hd at *
  generalize dropN hands.length ds2 = ds3 at *
  refine go_cons (gs_ifJ (fun E' => ∃ s : List Int, E' = [.val (.tuple [.list (spans.map .int), .list (hands.map .int)]), .own (ds3.map .int), .val (.int number), .own (s.map .int), .own (hd.map .int), .any, .any] ∧ s.length ≤ 10) (et_cmp o_eq (ex_op (o_mod (by walk_at "pos")) (ex_name 2 rfl rfl (.inl rfl)) ex_int trivial) ex_int trivial (nomark _)) (fun ht => ?_) (fun hf => go_nil ⟨sp, rfl, by omega⟩) ?_)
  · refine go_cons (gs_setO 3 (ex_opL (o_cat rfl rfl (by walk_at "len")) (ex_own 3 rfl rfl (.inl rfl)) (ex_list (ea_cons ex_int ea_nil trivial) rfl (by walk_at "len")) ⟨_, rfl⟩) ?_ rfl nd rfl (.inl rfl))
    try dsimp only [List.set_cons_zero, List.set_cons_succ, setE, bak, wipeE, List.map_cons, List.map_nil]
    rw [map_app1]
    exact go_nil ⟨_, rfl, by rw [List.length_append]; show _ + 1 ≤ _; omega⟩
  rintro E' ⟨s, rfl, hs⟩
  refine go_cons (gs_ifJ (fun E' => ∃ h : List Int, E' = [.val (.tuple [.list (spans.map .int), .list (hands.map .int)]), .own (ds3.map .int), .val (.int number), .own (s.map .int), .own (h.map .int), .any, .any] ∧ h.length ≤ 10) (et_cmp o_eq (ex_op (o_mod (by walk_at "pos")) (ex_name 2 rfl rfl (.inl rfl)) ex_int trivial) ex_int trivial (nomark _)) (fun ht => ?_) (fun hf => go_nil ⟨hd, rfl, by omega⟩) ?_)
  · refine go_cons (gs_setO 4 (ex_opL (o_cat rfl rfl (by walk_at "len")) (ex_own 4 rfl rfl (.inl rfl)) (ex_list (ea_cons ex_int ea_nil trivial) rfl (by walk_at "len")) ⟨_, rfl⟩) ?_ rfl nd rfl (.inl rfl))
    try dsimp only [List.set_cons_zero, List.set_cons_succ, setE, bak, wipeE, List.map_cons, List.map_nil]
    rw [map_app1]
    exact go_nil ⟨_, rfl, by rw [List.length_append]; show _ + 1 ≤ _; omega⟩
  rintro E' ⟨h, rfl, hh⟩
  refine go_cons (gs_if (et_cmp o_eq (ex_op (o_mod (by walk_at "pos")) (ex_name 2 rfl rfl (.inl rfl)) ex_int trivial) ex_int trivial (nomark _)) (fun ht => ?_) (fun hf => go_nil ?_))
  · refine go_cons (gs_ret (ex_callC C_law_town (hr.mono (by decide)) (by rfl) (ea_cons (ex_own 1 rfl rfl (.inr (.inl rfl))) (ea_cons ex_int ea_nil trivial) ⟨_, rfl⟩) rfl rfl (fun K' k => ⟨_, _, rfl, by walk_at "pre", by walk_at "pre", k⟩) rfl rfl) rfl ⟨rfl, ?_⟩)
    have tk := townF_ok ds3 (show (6 : Int) ≤ 2000 by decide)
    exact k _ _ _ (by have := tk.l1; omega) (by have := tk.h1; omega)
  · refine go_cons (gs_ret (ex_tuple (ea_cons (ex_frz_loc (ex_own 3 rfl rfl (.inl rfl)) rfl) (ea_cons (ex_frz_loc (ex_own 4 rfl rfl (.inl rfl)) rfl) ea_nil trivial) trivial) rfl (by walk_at "len")) rfl ⟨rfl, ?_⟩)
    exact k _ _ _ hs hh
def lessB (a b : List Int) : Bool := !decide (((List.range a.length).filter fun k => decide (a.getD k default < b.getD k default)).map (fun k : Nat => (k : Int)) = [])
theorem less_ge {a b : List Int} (h : a.length = b.length) : allGe a b = !lessB a b := by
  unfold allGe lessB
  rw [Bool.not_not]
  by_cases q : ∃ k, k < a.length ∧ a.getD k default < b.getD k default
  · obtain ⟨k, hk, hlt⟩ := q
    have h1 : decide (((List.range a.length).filter fun k => decide (a.getD k default < b.getD k default)).map (fun k : Nat => (k : Int)) = []) = false := by
      refine decide_eq_false fun z => ?_
      have hm : ((k : Nat) : Int) ∈ ((List.range a.length).filter fun k => decide (a.getD k default < b.getD k default)).map (fun k : Nat => (k : Int)) := List.mem_map.mpr ⟨k, List.mem_filter.mpr ⟨List.mem_range.mpr hk, decide_eq_true hlt⟩, rfl⟩
      rw [z] at hm
      cases hm
    rw [h1]
    refine Bool.eq_false_iff.mpr fun z => ?_
    have hz : (a.zip b)[k]? = some (a.getD k default, b.getD k default) := by
      rw [List.getElem?_zip_eq_some]
      exact ⟨getD_at hk, getD_at (by omega)⟩
    have := List.all_eq_true.mp z _ (List.mem_map.mpr ⟨_, List.mem_of_getElem? hz, rfl⟩)
    have h3 : b.getD k default ≤ a.getD k default := of_decide_eq_true this
    omega
  · have h1 : decide (((List.range a.length).filter fun k => decide (a.getD k default < b.getD k default)).map (fun k : Nat => (k : Int)) = []) = true := by
      refine decide_eq_true ?_
      have : (List.range a.length).filter (fun k => decide (a.getD k default < b.getD k default)) = [] := by
        refine List.filter_eq_nil_iff.mpr fun k hk z => ?_
        exact q ⟨k, List.mem_range.mp hk, of_decide_eq_true z⟩
      rw [this]
      rfl
    rw [h1]
    refine List.all_eq_true.mpr fun z hz => ?_
    obtain ⟨p, hp, rfl⟩ := List.mem_map.mp hz
    obtain ⟨i, hi, hpi⟩ := List.mem_iff_getElem.mp hp
    have hz2 : (a.zip b)[i]? = some p := by rw [List.getElem?_eq_getElem hi, hpi]
    obtain ⟨u, v⟩ := zip_at hz2
    have hil := (List.getElem?_eq_some_iff.mp u).1
    have e1 := getD_at hil
    have e2 := getD_at (l := b) (i := i) (by omega)
    rw [u] at e1
    rw [v] at e2
    have f1 := Option.some.inj e1
    have f2 := Option.some.inj e2
    have : ¬ a.getD i default < b.getD i default := fun c => q ⟨i, hil, c⟩
    rw [← f1, ← f2] at this
    show id (decide (p.2 ≤ p.1)) = true
    exact decide_eq_true (by omega)
def P_law_less : DSp := fun E Q => (∃ a b : List Int, E = [.val (.list (a.map .int)), .val (.list (b.map .int))] ∧ a.length ≤ 1000 ∧ a.length ≤ b.length ∧ Q (.val (.bool (lessB a b))) E) ∨ (∃ a b : List Int, E = [.val (.tuple (a.map .int)), .val (.tuple (b.map .int))] ∧ a.length ≤ 1000 ∧ a.length ≤ b.length ∧ Q (.val (.bool (lessB a b))) E)

set_option maxHeartbeats 4000000 in
theorem ok_law_less {P : Program} {w : World} {K : PySem.W.Frag} {mg : Str → Option Value} {base : Heap} {f : Addr} {fd : FuncData} (F : Fun K "_law_less" "_law_less" s_law_less f fd)  (m_len : mg "len" = none) (m_range : mg "range" = none) : FnOk P w K mg base CX0 1 f fd ["_law_ones", "_law_others"] (FD P_law_less 2) := by
  refine fn_ok F sc_law_less rfl fun cdv A outer s H hr E K' hE hP => ?_
  have nd := sc_law_less.nd
  have hu := hr.units
  rcases hP with ⟨a, b, rfl, hl, hl2, k⟩ | ⟨a, b, rfl, hl, hl2, k⟩
  · show GO _ _ _ [_, _, SD.any] _
    
    have hn : ((((a.map PyData.int).length : Nat) : Int)).toNat = a.length := by rw [List.length_map]; rfl
    have hlen : (List.range ((((a.map PyData.int).length : Nat) : Int)).toNat).length ≤ 1000000 := by rw [List.length_range, hn]; omega
    have f0 : ∀ x ∈ List.range ((((a.map PyData.int).length : Nat) : Int)).toNat, (0 : Int) ≤ ((x : Nat) : Int) := fun x _ => by omega
    have f1 : ∀ x ∈ List.range ((((a.map PyData.int).length : Nat) : Int)).toNat, ((x : Nat) : Int) < (a.length : Int) := fun x hx => by
      rw [hn] at hx
      have := List.mem_range.mp hx
      omega
    have f2 : ∀ x ∈ List.range ((((a.map PyData.int).length : Nat) : Int)).toNat, ((x : Nat) : Int) < (b.length : Int) := fun x hx => by
      have := f1 x hx
      omega
    have hmm : ((List.range ((((a.map PyData.int).length : Nat) : Int)).toNat).filter fun k => decide (a.getD k default < b.getD k default)).map (fun k => PyData.int ((k : Nat) : Int)) = (((List.range a.length).filter fun k => decide (a.getD k default < b.getD k default)).map (fun k : Nat => (k : Int))).map .int := by rw [hn, List.map_map]; rfl
    refine go_cons (gs_ret (ex_cmp (o_neG (x := ((List.range a.length).filter fun k => decide (a.getD k default < b.getD k default)).map (fun k : Nat => (k : Int))) (y := []) (nice_list nice_int) hu rfl rfl (by decide)) (ex_castO (ex_lcF [2] (by rfl) nd (ei_rangeT (ex_callB (ea_cons (ex_name 0 rfl rfl (.inr (.inl rfl))) ea_nil trivial) (ca_len rfl) (by rfl) m_len (by decide +kernel)) (by walk_at "rng") (by rfl) m_range (by walk_at "rng")) (blkOk_by (own := [("_law_k", 2)]) (N := ["_law_ones", "_law_others", "_law_k"]) (sc := defScope s_law_less) (by decide +kernel)) (fun _ _ _ _ _ => (pg_name (i := 2) nd rfl (.inl rfl))) (by walk_at "len") (by decide) (fun _ => (td_name 2)) rfl rfl (fun _ => rfl) (fun x hx _ _ _ _ _ => (et_cmp o_lt (ex_ixG (ex_name 0 rfl rfl (.inr (.inl rfl))) (ex_name 2 rfl rfl (.inl rfl)) trivial rfl (by walk_at "ix0") (by walk_at "ix1")) (ex_ixG (ex_name 1 rfl rfl (.inr (.inl rfl))) (ex_name 2 rfl rfl (.inl rfl)) trivial rfl (by walk_at "ix0") (by walk_at "ix1")) trivial (nomark _))) (fun x hx hq _ _ _ _ _ => (ex_name 2 rfl rfl (.inl rfl)))) hmm) (ex_list ea_nil rfl (by walk_at "len")) trivial (nomark _)) rfl ⟨rfl, ?_⟩)
    exact k
  · show GO _ _ _ [_, _, SD.any] _
    
    have hn : ((((a.map PyData.int).length : Nat) : Int)).toNat = a.length := by rw [List.length_map]; rfl
    have hlen : (List.range ((((a.map PyData.int).length : Nat) : Int)).toNat).length ≤ 1000000 := by rw [List.length_range, hn]; omega
    have f0 : ∀ x ∈ List.range ((((a.map PyData.int).length : Nat) : Int)).toNat, (0 : Int) ≤ ((x : Nat) : Int) := fun x _ => by omega
    have f1 : ∀ x ∈ List.range ((((a.map PyData.int).length : Nat) : Int)).toNat, ((x : Nat) : Int) < (a.length : Int) := fun x hx => by
      rw [hn] at hx
      have := List.mem_range.mp hx
      omega
    have f2 : ∀ x ∈ List.range ((((a.map PyData.int).length : Nat) : Int)).toNat, ((x : Nat) : Int) < (b.length : Int) := fun x hx => by
      have := f1 x hx
      omega
    have hmm : ((List.range ((((a.map PyData.int).length : Nat) : Int)).toNat).filter fun k => decide (a.getD k default < b.getD k default)).map (fun k => PyData.int ((k : Nat) : Int)) = (((List.range a.length).filter fun k => decide (a.getD k default < b.getD k default)).map (fun k : Nat => (k : Int))).map .int := by rw [hn, List.map_map]; rfl
    refine go_cons (gs_ret (ex_cmp (o_neG (x := ((List.range a.length).filter fun k => decide (a.getD k default < b.getD k default)).map (fun k : Nat => (k : Int))) (y := []) (nice_list nice_int) hu rfl rfl (by decide)) (ex_castO (ex_lcF [2] (by rfl) nd (ei_rangeT (ex_callB (ea_cons (ex_name 0 rfl rfl (.inr (.inl rfl))) ea_nil trivial) ca_lenT (by rfl) m_len (by decide +kernel)) (by walk_at "rng") (by rfl) m_range (by walk_at "rng")) (blkOk_by (own := [("_law_k", 2)]) (N := ["_law_ones", "_law_others", "_law_k"]) (sc := defScope s_law_less) (by decide +kernel)) (fun _ _ _ _ _ => (pg_name (i := 2) nd rfl (.inl rfl))) (by walk_at "len") (by decide) (fun _ => (td_name 2)) rfl rfl (fun _ => rfl) (fun x hx _ _ _ _ _ => (et_cmp o_lt (ex_ixV (ex_name 0 rfl rfl (.inr (.inl rfl))) (ex_name 2 rfl rfl (.inl rfl)) (by walk_at "ix0") (by walk_at "ix1")) (ex_ixV (ex_name 1 rfl rfl (.inr (.inl rfl))) (ex_name 2 rfl rfl (.inl rfl)) (by walk_at "ix0") (by walk_at "ix1")) trivial (nomark _))) (fun x hx hq _ _ _ _ _ => (ex_name 2 rfl rfl (.inl rfl)))) hmm) (ex_list ea_nil rfl (by walk_at "len")) trivial (nomark _)) rfl ⟨rfl, ?_⟩)
    exact k
abbrev ιss (p : (Int × List Int) × (Int × List Int)) : PyData := .tuple [.tuple [.int p.1.1, .tuple (p.1.2.map .int)], .tuple [.int p.2.1, .tuple (p.2.2.map .int)]]
abbrev ιtt (p : (List Int × List Int) × (List Int × List Int)) : PyData := .tuple [.tuple [.list (p.1.1.map .int), .list (p.1.2.map .int)], .tuple [.list (p.2.1.map .int), .list (p.2.2.map .int)]]
abbrev P_law : DSp := PLaw

set_option maxHeartbeats 4000000 in
theorem ok_law {P : Program} {w : World} {K : PySem.W.Frag} {mg : Str → Option Value} {base : Heap} {f : Addr} {fd : FuncData} (F : Fun K "law" "law" s_law f fd) (C_law_draws : Cal P w K mg base "_law_draws" ["_law_script", "_law_turn", "_law_many"] 3 2 P_law_draws) (C_law_less : Cal P w K mg base "_law_less" ["_law_ones", "_law_others"] 2 1 P_law_less) (C_law_other_town : Cal P w K mg base "_law_other_town" ["_law_town_here", "_law_draws_here"] 2 3 P_law_other_town) (C_law_pop : Cal P w K mg base "_law_pop" ["_law_draws_here"] 1 1 P_law_pop) (C_law_standing : Cal P w K mg base "_law_standing" ["_law_town_here", "_law_draws_here"] 2 2 P_law_standing) (C_law_town : Cal P w K mg base "_law_town" ["_law_draws_here", "_law_most"] 2 2 P_law_town) (C_law_turned : Cal P w K mg base "_law_turned" ["_law_numbers", "_law_spans", "_law_draws_here"] 3 2 P_law_turned) (C_no_tighter : Cal P w K mg base "no_tighter" ["one", "other"] 2 2 P_no_tighter) (C_no_worse : Cal P w K mg base "no_worse" ["one", "other"] 2 2 P_no_worse) (m_bool : mg "bool" = none) (m_isinstance : mg "isinstance" = none) (m_len : mg "len" = none) : FnOk P w K mg base CX0 4 f fd ["_law_script"] (FD P_law 1) := by
  refine fn_ok F sc_law rfl fun cdv A outer s H hr E K' hE hP => ?_
  have nd := sc_law.nd
  have hu := hr.units
  obtain ⟨ns, hl, rfl, k⟩ := hP
  show GO _ _ _ [_, SD.any, SD.any, SD.any, SD.any, SD.any, SD.any, SD.any, SD.any, SD.any] _
  have hT := townF_ok (drawsD ns 1 30) (show (6 : Int) ≤ 2000 by decide)
  refine go_cons (gs_set 1 (ex_callC C_law_town (hr.mono (by decide)) (by rfl) (ea_cons (ex_callC C_law_draws (hr.mono (by decide)) (by rfl) (ea_cons (ex_name 0 rfl rfl (.inl rfl)) (ea_cons ex_int (ea_cons ex_int ea_nil trivial) trivial) trivial) rfl rfl (fun K' k => ⟨_, _, _, rfl, by walk_at "pre", by walk_at "pre", by walk_at "pre", by walk_at "pre", by walk_at "pre", k⟩) rfl rfl) (ea_cons ex_int ea_nil trivial) trivial) rfl rfl (fun K' k => ⟨_, _, rfl, by walk_at "pre", by walk_at "pre", k⟩) rfl rfl) ?_ nd rfl (.inl rfl))
  try dsimp only [List.set_cons_zero, List.set_cons_succ, setE, bak, wipeE, List.map_cons, List.map_nil]
  generalize hT0 : (townF (drawsD ns 1 30) 2000).1 = T at *
  refine go_cons (gs_setO 2 (ex_callC C_law_draws (hr.mono (by decide)) (by rfl) (ea_cons (ex_name 0 rfl rfl (.inl rfl)) (ea_cons ex_int (ea_cons ex_int ea_nil trivial) trivial) trivial) rfl rfl (fun K' k => ⟨_, _, _, rfl, by walk_at "pre", by walk_at "pre", by walk_at "pre", by walk_at "pre", by walk_at "pre", k⟩) rfl rfl) ?_ rfl nd rfl (.inl rfl))
  try dsimp only [List.set_cons_zero, List.set_cons_succ, setE, bak, wipeE, List.map_cons, List.map_nil]
  generalize drawsD ns 200 60 = ds at *
  have h1 := (standF_ok hT ds).len
  refine go_cons (gs_set 3 (ex_callC C_law_standing (hr.mono (by decide)) (by rfl) (ea_cons (ex_name 1 rfl rfl (.inl rfl)) (ea_cons (ex_own 2 rfl rfl (.inl rfl)) ea_nil ⟨_, rfl⟩) trivial) rfl rfl (fun K' k => ⟨_, _, rfl, by walk_at "pre", k⟩) rfl rfl) ?_ nd rfl (.inl rfl))
  try dsimp only [List.set_cons_zero, List.set_cons_succ, setE, bak, wipeE, List.map_cons, List.map_nil]
  generalize (standF T ds).1 = s1 at *
  generalize (standF T ds).2 = ds1 at *
  have h2 := (standF_ok hT ds1).len
  refine go_cons (gs_set 4 (ex_callC C_law_standing (hr.mono (by decide)) (by rfl) (ea_cons (ex_name 1 rfl rfl (.inl rfl)) (ea_cons (ex_own 2 rfl rfl (.inl rfl)) ea_nil ⟨_, rfl⟩) trivial) rfl rfl (fun K' k => ⟨_, _, rfl, by walk_at "pre", k⟩) rfl rfl) ?_ nd rfl (.inl rfl))
  try dsimp only [List.set_cons_zero, List.set_cons_succ, setE, bak, wipeE, List.map_cons, List.map_nil]
  generalize (standF T ds1).1 = s2 at *
  generalize (standF T ds1).2 = ds2 at *
  refine go_cons (gs_set 5 (ex_callC C_law_pop (hr.mono (by decide)) (by rfl) (ea_cons (ex_own 2 rfl rfl (.inl rfl)) ea_nil ⟨_, rfl⟩) rfl rfl (fun K' k => ⟨_, rfl, k⟩) rfl rfl) ?_ nd rfl (.inl rfl))
  try dsimp only [List.set_cons_zero, List.set_cons_succ, setE, bak, wipeE, List.map_cons, List.map_nil]
  generalize lastI ds2 = number at *
  generalize ds2.dropLast = ds3 at *
  have hl1 := hT.l1
  have hh0 := hT.h0
  have hh1 := hT.h1
  refine go_cons (gs_ifJ (fun E' => ∃ (s : Int × List Int) (rest : List Int), E' = [.val (.list (ns.map .int)), .val (townP T), .own (rest.map .int), .val (standP s1), .val (standP s), .val (.int number), .any, .any, .any, .any] ∧ s.2.length = T.1.length) (et_cmp o_gt (ex_op (o_mod (by walk_at "pos")) (ex_name 5 rfl rfl (.inl rfl)) ex_int trivial) ex_int trivial (nomark _)) (fun ht => ?_) (fun hf => go_nil ⟨s2, ds3, rfl, h2⟩) ?_)
  · have q : s1.2.length ≤ 100 := by omega
    refine go_cons (gs_set 4 (ex_tuple (ea_cons (ex_ixT (ex_name 3 rfl rfl (.inl rfl)) ex_int rfl) (ea_cons (ex_callC C_law_turned (hr.mono (by decide)) (by rfl) (ea_cons (ex_ixT (ex_name 3 rfl rfl (.inl rfl)) ex_int rfl) (ea_cons (ex_ixT (ex_name 1 rfl rfl (.inl rfl)) ex_int rfl) (ea_cons (ex_own 2 rfl rfl (.inl rfl)) ea_nil ⟨_, rfl⟩) trivial) trivial) rfl rfl (fun K' k => ⟨_, _, _, rfl, by walk_at "pre", by walk_at "pre", k⟩) rfl rfl) ea_nil trivial) trivial) rfl (by walk_at "len")) ?_ nd rfl (.inl rfl))
    try dsimp only [List.set_cons_zero, List.set_cons_succ, setE, bak, wipeE, List.map_cons, List.map_nil]
    exact go_nil ⟨(s1.1, (turnedF s1.2 T.1 ds3).1), _, rfl, by
      show (turnedF s1.2 T.1 ds3).1.length = _
      unfold turnedF
      rw [turned_len]
      exact h1⟩
  rintro E' ⟨s, rest, rfl, h3⟩
  clear h2
  have p1 : 0 < (((T.2.map PyData.int).length : Nat) : Int) := by rw [List.length_map]; omega
  refine go_cons (gs_ifJ (fun E' => ∃ (s : Int × List Int), E' = [.val (.list (ns.map .int)), .val (townP T), .own (rest.map .int), .val (standP s1), .val (standP s), .val (.int number), .any, .any, .any, .any] ∧ s.2.length = T.1.length) (et_cmp o_eq (ex_op (o_mod (by walk_at "pos")) (ex_name 5 rfl rfl (.inl rfl)) ex_int trivial) ex_int trivial (nomark _)) (fun ht => ?_) (fun hf => go_nil ⟨s, rfl, h3⟩) ?_)
  · refine go_cons (gs_set 4 (ex_tuple (ea_cons (ex_op (o_mod (by walk_at "pos")) (ex_op o_add (ex_ixT (ex_name 4 rfl rfl (.inl rfl)) ex_int rfl) ex_int trivial) (ex_callB (ea_cons (ex_ixT (ex_name 1 rfl rfl (.inl rfl)) ex_int rfl) ea_nil trivial) (ca_len rfl) (by rfl) m_len (by decide +kernel)) trivial) (ea_cons (ex_ixT (ex_name 4 rfl rfl (.inl rfl)) ex_int rfl) ea_nil trivial) trivial) rfl (by walk_at "len")) ?_ nd rfl (.inl rfl))
    try dsimp only [List.set_cons_zero, List.set_cons_succ, setE, bak, wipeE, List.map_cons, List.map_nil]
    exact go_nil ⟨(_, s.2), rfl, h3⟩
  rintro E' ⟨s2, rfl, h2⟩
  clear h3
  refine go_cons (gs_forM (l := [(s1, s2), (s2, s1), (s1, s1)]) (ι := ιss) (es := fun x => [ιss x]) (fun i E' => ∃ s6 s7 s8 : SD, E' = [.val (.list (ns.map .int)), .val (townP T), .own (rest.map .int), .val (standP s1), .val (standP s2), .val (.int number), s6, s7, s8, .any]) [6] (ei_cast (ei_list (ex_frz_own (ex_list (ea_cons (ex_tuple (ea_cons (ex_name 3 rfl rfl (.inl rfl)) (ea_cons (ex_name 4 rfl rfl (.inl rfl)) ea_nil trivial) trivial) rfl (by walk_at "len")) (ea_cons (ex_tuple (ea_cons (ex_name 4 rfl rfl (.inl rfl)) (ea_cons (ex_name 3 rfl rfl (.inl rfl)) ea_nil trivial) trivial) rfl (by walk_at "len")) (ea_cons (ex_tuple (ea_cons (ex_name 3 rfl rfl (.inl rfl)) (ea_cons (ex_name 3 rfl rfl (.inl rfl)) ea_nil trivial) trivial) rfl (by walk_at "len")) ea_nil trivial) trivial) trivial) rfl (by walk_at "len")))) rfl) (pg_name (i := 6) nd rfl (.inl rfl)) (fun _ => (td_name 6)) ⟨_, _, _, rfl⟩ ?_ ?_)
  · rintro i x E' hi ⟨s6, s7, s8, rfl⟩
    dsimp only [List.set_cons_zero, List.set_cons_succ, setE]
    have hx : x.1.2.length = T.1.length ∧ x.2.2.length = T.1.length := by
      have hm := List.mem_of_getElem? hi
      simp only [List.mem_cons, List.not_mem_nil, or_false] at hm
      rcases hm with rfl | rfl | rfl
      · exact ⟨h1, h2⟩
      · exact ⟨h2, h1⟩
      · exact ⟨h1, h1⟩
    obtain ⟨x1, x2⟩ := hx
    have q1 : x.1.2.length ≤ 1000 := by omega
    have q2 : x.1.2.length ≤ x.2.2.length := by omega
    have q3 := less_ge (a := x.1.2) (b := x.2.2) (by omega)
    refine go_cons (gs_set 7 (ex_and (ex_cmp o_eq (ex_ixT (ex_ixT (ex_name 6 rfl rfl (.inl rfl)) ex_int rfl) ex_int rfl) (ex_ixT (ex_ixT (ex_name 6 rfl rfl (.inl rfl)) ex_int rfl) ex_int rfl) trivial (nomark _)) (fun hx => (ex_one (ex_not (ex_callC C_law_less (hr.mono (by decide)) (by rfl) (ea_cons (ex_ixT (ex_ixT (ex_name 6 rfl rfl (.inl rfl)) ex_int rfl) ex_int rfl) (ea_cons (ex_ixT (ex_ixT (ex_name 6 rfl rfl (.inl rfl)) ex_int rfl) ex_int rfl) ea_nil trivial) trivial) rfl rfl (fun K' k => .inr ⟨_, _, rfl, by walk_at "pre", by walk_at "pre", k⟩) rfl rfl))))) ?_ nd rfl (.inl rfl))
    try dsimp only [List.set_cons_zero, List.set_cons_succ, setE, bak, wipeE, List.map_cons, List.map_nil]
    refine go_cons (gs_set 8 (ex_callC C_no_worse (hr.mono (by decide)) (by rfl) (ea_cons (ex_ixT (ex_name 6 rfl rfl (.inl rfl)) ex_int rfl) (ea_cons (ex_ixT (ex_name 6 rfl rfl (.inl rfl)) ex_int rfl) ea_nil trivial) trivial) rfl rfl (fun K' k => ⟨_, _, _, _, rfl, by walk_at "pre", k⟩) rfl rfl) ?_ nd rfl (.inl rfl))
    try dsimp only [List.set_cons_zero, List.set_cons_succ, setE, bak, wipeE, List.map_cons, List.map_nil]
    rw [q3]
    refine go_cons (gs_if (et_w (ew_or (et_not (et_val (ex_isi (b := true) (ex_name 8 rfl rfl (.inl rfl)) rfl (by walk_at "isi") (by rfl) m_bool boot_bool (by rfl) m_isinstance))) (fun hx => (ew_or1 (et_cmp o_neB (ex_name 8 rfl rfl (.inl rfl)) (ex_name 7 rfl rfl (.inl rfl)) trivial (nomark _)))))) (fun ht => by simp at ht) (fun hf => go_nil (go_nil ⟨_, _, _, rfl⟩)))
  rintro E' ⟨s6, s7, s8, rfl⟩
  refine go_cons (gs_sets 9 (exs_callC (Good := fun r Ec => ∃ a b rest : List Int, r = .val (.tuple [.list (a.map .int), .list (b.map .int)]) ∧ (a.length ≤ 10 ∧ b.length ≤ 10) ∧ Ec = [.val (townP T), .own (rest.map .int)]) C_law_other_town (hr.mono (by decide)) (by rfl) (ea_cons (ex_name 1 rfl rfl (.inl rfl)) (ea_cons (ex_own 2 rfl rfl (.inl rfl)) ea_nil ⟨_, rfl⟩) trivial) rfl rfl (fun K' kk => ⟨_, _, rfl, hT, fun a b rest ha hb => kk _ _ ⟨a, b, rest, rfl, ⟨ha, hb⟩, rfl⟩⟩) (fun r Ec ⟨_, _, _, h, _⟩ => by rw [h]; rfl)) ?_ nd rfl (.inl rfl))
  rintro r E1 ⟨Ec, ⟨a, b, rest2, rfl, ⟨ha, hb⟩, rfl⟩, rfl⟩
  dsimp only [List.set_cons_zero, List.set_cons_succ, bak]
  
  refine go_cons (gs_forM (l := [(T, (a, b)), ((a, b), T), (T, T)]) (ι := ιtt) (es := fun x => [ιtt x]) (fun i E' => ∃ s6 s7 s8 : SD, E' = [.val (.list (ns.map .int)), .val (townP T), .own (rest2.map .int), .val (standP s1), .val (standP s2), .val (.int number), s6, s7, s8, .val (.tuple [.list (a.map .int), .list (b.map .int)])]) [6] (ei_cast (ei_list (ex_frz_own (ex_list (ea_cons (ex_tuple (ea_cons (ex_name 1 rfl rfl (.inl rfl)) (ea_cons (ex_name 9 rfl rfl (.inl rfl)) ea_nil trivial) trivial) rfl (by walk_at "len")) (ea_cons (ex_tuple (ea_cons (ex_name 9 rfl rfl (.inl rfl)) (ea_cons (ex_name 1 rfl rfl (.inl rfl)) ea_nil trivial) trivial) rfl (by walk_at "len")) (ea_cons (ex_tuple (ea_cons (ex_name 1 rfl rfl (.inl rfl)) (ea_cons (ex_name 1 rfl rfl (.inl rfl)) ea_nil trivial) trivial) rfl (by walk_at "len")) ea_nil trivial) trivial) trivial) rfl (by walk_at "len")))) rfl) (pg_name (i := 6) nd rfl (.inl rfl)) (fun _ => (td_name 6)) ⟨_, _, _, rfl⟩ ?_ ?_)
  · rintro i x E' hi ⟨s6, s7, s8, rfl⟩
    dsimp only [List.set_cons_zero, List.set_cons_succ, setE]
    have hx : x.1.1.length ≤ 1000 ∧ x.1.2.length ≤ 1000 := by
      have hm := List.mem_of_getElem? hi
      simp only [List.mem_cons, List.not_mem_nil, or_false] at hm
      rcases hm with rfl | rfl | rfl <;> constructor <;> dsimp only <;> omega
    obtain ⟨q1, q2⟩ := hx
    refine go_cons (gs_set 7 (ex_and (ex_cmp o_eq (ex_callB (ea_cons (ex_ixT (ex_ixT (ex_name 6 rfl rfl (.inl rfl)) ex_int rfl) ex_int rfl) ea_nil trivial) (ca_len rfl) (by rfl) m_len (by decide +kernel)) (ex_callB (ea_cons (ex_ixT (ex_ixT (ex_name 6 rfl rfl (.inl rfl)) ex_int rfl) ex_int rfl) ea_nil trivial) (ca_len rfl) (by rfl) m_len (by decide +kernel)) trivial (nomark _)) (fun hx => (ex_one (ex_cmp o_eq (ex_callB (ea_cons (ex_ixT (ex_ixT (ex_name 6 rfl rfl (.inl rfl)) ex_int rfl) ex_int rfl) ea_nil trivial) (ca_len rfl) (by rfl) m_len (by decide +kernel)) (ex_callB (ea_cons (ex_ixT (ex_ixT (ex_name 6 rfl rfl (.inl rfl)) ex_int rfl) ex_int rfl) ea_nil trivial) (ca_len rfl) (by rfl) m_len (by decide +kernel)) trivial (nomark _))))) ?_ nd rfl (.inl rfl))
    try dsimp only [List.set_cons_zero, List.set_cons_succ, setE, bak, wipeE, List.map_cons, List.map_nil]
    refine go_cons (gs_ifJ (fun E' => E' = [.val (.list (ns.map .int)), .val (townP T), .own (rest2.map .int), .val (standP s1), .val (standP s2), .val (.int number), .val (ιtt x), .val (.bool (tightB x.1.1 x.1.2 x.2.1 x.2.2)), s8, .val (.tuple [.list (a.map .int), .list (b.map .int)])]) (et_val (ex_name 7 rfl rfl (.inl rfl))) (fun ht => ?_) (fun hf => go_nil ?_) ?_)
    · have h0 : x.1.1.length = x.2.1.length ∧ x.1.2.length = x.2.2.length := by
        simp at ht
        omega
      have q3 := less_ge h0.1
      have q4 := less_ge h0.2
      have q5 : x.1.1.length ≤ x.2.1.length := by omega
      have q6 : x.1.2.length ≤ x.2.2.length := by omega
      refine go_cons (gs_set 7 (ex_and (ex_not (ex_callC C_law_less (hr.mono (by decide)) (by rfl) (ea_cons (ex_ixT (ex_ixT (ex_name 6 rfl rfl (.inl rfl)) ex_int rfl) ex_int rfl) (ea_cons (ex_ixT (ex_ixT (ex_name 6 rfl rfl (.inl rfl)) ex_int rfl) ex_int rfl) ea_nil trivial) trivial) rfl rfl (fun K' k => .inl ⟨_, _, rfl, by walk_at "pre", by walk_at "pre", k⟩) rfl rfl)) (fun hx => (ex_one (ex_not (ex_callC C_law_less (hr.mono (by decide)) (by rfl) (ea_cons (ex_ixT (ex_ixT (ex_name 6 rfl rfl (.inl rfl)) ex_int rfl) ex_int rfl) (ea_cons (ex_ixT (ex_ixT (ex_name 6 rfl rfl (.inl rfl)) ex_int rfl) ex_int rfl) ea_nil trivial) trivial) rfl rfl (fun K' k => .inl ⟨_, _, rfl, by walk_at "pre", by walk_at "pre", k⟩) rfl rfl))))) ?_ nd rfl (.inl rfl))
      try dsimp only [List.set_cons_zero, List.set_cons_succ, setE, bak, wipeE, List.map_cons, List.map_nil]
      refine go_nil ?_
      unfold tightB
      rw [q3, q4, decide_eq_true h0, Bool.true_and]
    · have h0 : ¬ (x.1.1.length = x.2.1.length ∧ x.1.2.length = x.2.2.length) := fun h => by simp [h.1, h.2] at hf
      unfold tightB
      rw [hf, decide_eq_false h0, Bool.false_and]
    rintro E' rfl
    refine go_cons (gs_set 8 (ex_callC C_no_tighter (hr.mono (by decide)) (by rfl) (ea_cons (ex_ixT (ex_name 6 rfl rfl (.inl rfl)) ex_int rfl) (ea_cons (ex_ixT (ex_name 6 rfl rfl (.inl rfl)) ex_int rfl) ea_nil trivial) trivial) rfl rfl (fun K' k => ⟨_, _, _, _, rfl, by walk_at "pre", by walk_at "pre", k⟩) rfl rfl) ?_ nd rfl (.inl rfl))
    try dsimp only [List.set_cons_zero, List.set_cons_succ, setE, bak, wipeE, List.map_cons, List.map_nil]
    refine go_cons (gs_if (et_w (ew_or (et_not (et_val (ex_isi (b := true) (ex_name 8 rfl rfl (.inl rfl)) rfl (by walk_at "isi") (by rfl) m_bool boot_bool (by rfl) m_isinstance))) (fun hx => (ew_or1 (et_cmp o_neB (ex_name 8 rfl rfl (.inl rfl)) (ex_name 7 rfl rfl (.inl rfl)) trivial (nomark _)))))) (fun ht => by simp at ht) (fun hf => go_nil (go_nil ⟨_, _, _, rfl⟩)))
  rintro E' ⟨s6', s7', s8', rfl⟩
  refine go_cons (gs_ret (ex_cmp (o_eqG (x := T) (y := (townF (drawsD ns 1 30) 2000).1) (nice_pair (nice_list nice_int) (nice_list nice_int)) hu rfl rfl (by decide)) (ex_name 1 rfl rfl (.inl rfl)) (ex_callC C_law_town (hr.mono (by decide)) (by rfl) (ea_cons (ex_callC C_law_draws (hr.mono (by decide)) (by rfl) (ea_cons (ex_name 0 rfl rfl (.inl rfl)) (ea_cons ex_int (ea_cons ex_int ea_nil trivial) trivial) trivial) rfl rfl (fun K' k => ⟨_, _, _, rfl, by walk_at "pre", by walk_at "pre", by walk_at "pre", by walk_at "pre", by walk_at "pre", k⟩) rfl rfl) (ea_cons ex_int ea_nil trivial) trivial) rfl rfl (fun K' k => ⟨_, _, rfl, by walk_at "pre", by walk_at "pre", k⟩) rfl rfl) trivial (nomark _)) rfl ⟨rfl, ?_⟩)
  rw [hT0, decide_eq_true (rfl : T = T)]
  exact k _
theorem all_mk {l : PySem.W.OpenLaw} {w : World} {K : PySem.W.Frag} {h : Heap} {mg : Str → Option Value} {fa : Addr} (X : K.In h) (G : h.Ns mainGlobals mg) (hfa : mg "law" = some (.ref fa)) (hK : noLists K = true)
    {f0 : Addr} {od0 an0 : Option Addr} {sl0 : Array (Option Value)} {oc0 kV0 dc0 pm0 cd0 ct0 : Value}
    (a0 : PySem.W.nsIn K mainGlobals "none_less" = some (some (.ref f0))) (l0 : K.lookup f0 = some ⟨oc0, od0, .func (PySem.W.fnOf "none_less" "none_less" (defArgs s_none_less) (defBody s_none_less) (defScope s_none_less) .none kV0 dc0 pm0 an0 cd0 ct0), sl0⟩) (c0 : PySem.W.codeIn K cd0 "none_less" = true) (k0 : PySem.W.keepIn K (.ref f0) = true)
    {f1 : Addr} {od1 an1 : Option Addr} {sl1 : Array (Option Value)} {oc1 kV1 dc1 pm1 cd1 ct1 : Value}
    (a1 : PySem.W.nsIn K mainGlobals "no_worse" = some (some (.ref f1))) (l1 : K.lookup f1 = some ⟨oc1, od1, .func (PySem.W.fnOf "no_worse" "no_worse" (defArgs s_no_worse) (defBody s_no_worse) (defScope s_no_worse) .none kV1 dc1 pm1 an1 cd1 ct1), sl1⟩) (c1 : PySem.W.codeIn K cd1 "no_worse" = true) (k1 : PySem.W.keepIn K (.ref f1) = true)
    {f2 : Addr} {od2 an2 : Option Addr} {sl2 : Array (Option Value)} {oc2 kV2 dc2 pm2 cd2 ct2 : Value}
    (a2 : PySem.W.nsIn K mainGlobals "no_tighter" = some (some (.ref f2))) (l2 : K.lookup f2 = some ⟨oc2, od2, .func (PySem.W.fnOf "no_tighter" "no_tighter" (defArgs s_no_tighter) (defBody s_no_tighter) (defScope s_no_tighter) .none kV2 dc2 pm2 an2 cd2 ct2), sl2⟩) (c2 : PySem.W.codeIn K cd2 "no_tighter" = true) (k2 : PySem.W.keepIn K (.ref f2) = true)
    {f3 : Addr} {od3 an3 : Option Addr} {sl3 : Array (Option Value)} {oc3 kV3 dc3 pm3 cd3 ct3 : Value}
    (a3 : PySem.W.nsIn K mainGlobals "_law_mix" = some (some (.ref f3))) (l3 : K.lookup f3 = some ⟨oc3, od3, .func (PySem.W.fnOf "_law_mix" "_law_mix" (defArgs s_law_mix) (defBody s_law_mix) (defScope s_law_mix) .none kV3 dc3 pm3 an3 cd3 ct3), sl3⟩) (c3 : PySem.W.codeIn K cd3 "_law_mix" = true) (k3 : PySem.W.keepIn K (.ref f3) = true)
    {f4 : Addr} {od4 an4 : Option Addr} {sl4 : Array (Option Value)} {oc4 kV4 dc4 pm4 cd4 ct4 : Value}
    (a4 : PySem.W.nsIn K mainGlobals "_law_draws" = some (some (.ref f4))) (l4 : K.lookup f4 = some ⟨oc4, od4, .func (PySem.W.fnOf "_law_draws" "_law_draws" (defArgs s_law_draws) (defBody s_law_draws) (defScope s_law_draws) .none kV4 dc4 pm4 an4 cd4 ct4), sl4⟩) (c4 : PySem.W.codeIn K cd4 "_law_draws" = true) (k4 : PySem.W.keepIn K (.ref f4) = true)
    {f5 : Addr} {od5 an5 : Option Addr} {sl5 : Array (Option Value)} {oc5 kV5 dc5 pm5 cd5 ct5 : Value}
    (a5 : PySem.W.nsIn K mainGlobals "_law_pop" = some (some (.ref f5))) (l5 : K.lookup f5 = some ⟨oc5, od5, .func (PySem.W.fnOf "_law_pop" "_law_pop" (defArgs s_law_pop) (defBody s_law_pop) (defScope s_law_pop) .none kV5 dc5 pm5 an5 cd5 ct5), sl5⟩) (c5 : PySem.W.codeIn K cd5 "_law_pop" = true) (k5 : PySem.W.keepIn K (.ref f5) = true)
    {f6 : Addr} {od6 an6 : Option Addr} {sl6 : Array (Option Value)} {oc6 kV6 dc6 pm6 cd6 ct6 : Value}
    (a6 : PySem.W.nsIn K mainGlobals "_law_town" = some (some (.ref f6))) (l6 : K.lookup f6 = some ⟨oc6, od6, .func (PySem.W.fnOf "_law_town" "_law_town" (defArgs s_law_town) (defBody s_law_town) (defScope s_law_town) .none kV6 dc6 pm6 an6 cd6 ct6), sl6⟩) (c6 : PySem.W.codeIn K cd6 "_law_town" = true) (k6 : PySem.W.keepIn K (.ref f6) = true)
    {f7 : Addr} {od7 an7 : Option Addr} {sl7 : Array (Option Value)} {oc7 kV7 dc7 pm7 cd7 ct7 : Value}
    (a7 : PySem.W.nsIn K mainGlobals "_law_standing" = some (some (.ref f7))) (l7 : K.lookup f7 = some ⟨oc7, od7, .func (PySem.W.fnOf "_law_standing" "_law_standing" (defArgs s_law_standing) (defBody s_law_standing) (defScope s_law_standing) .none kV7 dc7 pm7 an7 cd7 ct7), sl7⟩) (c7 : PySem.W.codeIn K cd7 "_law_standing" = true) (k7 : PySem.W.keepIn K (.ref f7) = true)
    {f8 : Addr} {od8 an8 : Option Addr} {sl8 : Array (Option Value)} {oc8 kV8 dc8 pm8 cd8 ct8 : Value}
    (a8 : PySem.W.nsIn K mainGlobals "_law_turned" = some (some (.ref f8))) (l8 : K.lookup f8 = some ⟨oc8, od8, .func (PySem.W.fnOf "_law_turned" "_law_turned" (defArgs s_law_turned) (defBody s_law_turned) (defScope s_law_turned) .none kV8 dc8 pm8 an8 cd8 ct8), sl8⟩) (c8 : PySem.W.codeIn K cd8 "_law_turned" = true) (k8 : PySem.W.keepIn K (.ref f8) = true)
    {f9 : Addr} {od9 an9 : Option Addr} {sl9 : Array (Option Value)} {oc9 kV9 dc9 pm9 cd9 ct9 : Value}
    (a9 : PySem.W.nsIn K mainGlobals "_law_other_town" = some (some (.ref f9))) (l9 : K.lookup f9 = some ⟨oc9, od9, .func (PySem.W.fnOf "_law_other_town" "_law_other_town" (defArgs s_law_other_town) (defBody s_law_other_town) (defScope s_law_other_town) .none kV9 dc9 pm9 an9 cd9 ct9), sl9⟩) (c9 : PySem.W.codeIn K cd9 "_law_other_town" = true) (k9 : PySem.W.keepIn K (.ref f9) = true)
    {f10 : Addr} {od10 an10 : Option Addr} {sl10 : Array (Option Value)} {oc10 kV10 dc10 pm10 cd10 ct10 : Value}
    (a10 : PySem.W.nsIn K mainGlobals "_law_less" = some (some (.ref f10))) (l10 : K.lookup f10 = some ⟨oc10, od10, .func (PySem.W.fnOf "_law_less" "_law_less" (defArgs s_law_less) (defBody s_law_less) (defScope s_law_less) .none kV10 dc10 pm10 an10 cd10 ct10), sl10⟩) (c10 : PySem.W.codeIn K cd10 "_law_less" = true) (k10 : PySem.W.keepIn K (.ref f10) = true)
    {f11 : Addr} {od11 an11 : Option Addr} {sl11 : Array (Option Value)} {oc11 kV11 dc11 pm11 cd11 ct11 : Value}
    (a11 : PySem.W.nsIn K mainGlobals "law" = some (some (.ref f11))) (l11 : K.lookup f11 = some ⟨oc11, od11, .func (PySem.W.fnOf "law" "law" (defArgs s_law) (defBody s_law) (defScope s_law) .none kV11 dc11 pm11 an11 cd11 ct11), sl11⟩) (c11 : PySem.W.codeIn K cd11 "law" = true) (k11 : PySem.W.keepIn K (.ref f11) = true)
    (z_all : PySem.W.nsIn K mainGlobals "all" = some none)
    (z_bool : PySem.W.nsIn K mainGlobals "bool" = some none)
    (z_enumerate : PySem.W.nsIn K mainGlobals "enumerate" = some none)
    (z_isinstance : PySem.W.nsIn K mainGlobals "isinstance" = some none)
    (z_len : PySem.W.nsIn K mainGlobals "len" = some none)
    (z_max : PySem.W.nsIn K mainGlobals "max" = some none)
    (z_min : PySem.W.nsIn K mainGlobals "min" = some none)
    (z_range : PySem.W.nsIn K mainGlobals "range" = some none)
    (z_zip : PySem.W.nsIn K mainGlobals "zip" = some none)
    : ∃ fd : FuncData, (∀ (s : Shared) (v : Value), BindsTo s fd ⟨[v], []⟩ [("_law_script", v)]) ∧ ∀ base : Heap, K.In base → base.Ns mainGlobals mg → FnOk l.prog w K mg base CX0 4 fa fd ["_law_script"] (FD PLaw 1) := by
  have e := hfa.symm.trans (PySem.W.mg_of X G a11)
  cases e
  have m_all : mg "all" = none := PySem.W.mg_none_of X G z_all
  have m_bool : mg "bool" = none := PySem.W.mg_none_of X G z_bool
  have m_enumerate : mg "enumerate" = none := PySem.W.mg_none_of X G z_enumerate
  have m_isinstance : mg "isinstance" = none := PySem.W.mg_none_of X G z_isinstance
  have m_len : mg "len" = none := PySem.W.mg_none_of X G z_len
  have m_max : mg "max" = none := PySem.W.mg_none_of X G z_max
  have m_min : mg "min" = none := PySem.W.mg_none_of X G z_min
  have m_range : mg "range" = none := PySem.W.mg_none_of X G z_range
  have m_zip : mg "zip" = none := PySem.W.mg_none_of X G z_zip
  have F0 := fun_mk (st := s_none_less) l0 c0 k0
  have F1 := fun_mk (st := s_no_worse) l1 c1 k1
  have F2 := fun_mk (st := s_no_tighter) l2 c2 k2
  have F3 := fun_mk (st := s_law_mix) l3 c3 k3
  have F4 := fun_mk (st := s_law_draws) l4 c4 k4
  have F5 := fun_mk (st := s_law_pop) l5 c5 k5
  have F6 := fun_mk (st := s_law_town) l6 c6 k6
  have F7 := fun_mk (st := s_law_standing) l7 c7 k7
  have F8 := fun_mk (st := s_law_turned) l8 c8 k8
  have F9 := fun_mk (st := s_law_other_town) l9 c9 k9
  have F10 := fun_mk (st := s_law_less) l10 c10 k10
  have F11 := fun_mk (st := s_law) l11 c11 k11
  refine ⟨PySem.W.fnOf "law" "law" (defArgs s_law) (defBody s_law) (defScope s_law) .none kV11 dc11 pm11 an11 cd11 ct11, fun s v => .of_eq rfl, fun base _ _ => ?_⟩
  have C_none_less : Cal l.prog w K mg base "none_less" ["ones", "others"] 2 1 P_none_less := ⟨f0, _, ok_none_less F0  m_all m_zip, PySem.W.mg_of X G a0, F0.kp, F0.binds (ps := ["ones", "others"]) fun _ _ _ _ _ _ us hl => match us, hl with | [_, _], _ => rfl⟩
  have C_no_worse : Cal l.prog w K mg base "no_worse" ["one", "other"] 2 2 P_no_worse := ⟨f1, _, ok_no_worse F1 C_none_less , PySem.W.mg_of X G a1, F1.kp, F1.binds (ps := ["one", "other"]) fun _ _ _ _ _ _ us hl => match us, hl with | [_, _], _ => rfl⟩
  have C_no_tighter : Cal l.prog w K mg base "no_tighter" ["one", "other"] 2 2 P_no_tighter := ⟨f2, _, ok_no_tighter F2 C_none_less m_len, PySem.W.mg_of X G a2, F2.kp, F2.binds (ps := ["one", "other"]) fun _ _ _ _ _ _ us hl => match us, hl with | [_, _], _ => rfl⟩
  have C_law_mix : Cal l.prog w K mg base "_law_mix" ["_law_cell", "_law_turn"] 2 1 P_law_mix := ⟨f3, _, ok_law_mix F3  , PySem.W.mg_of X G a3, F3.kp, F3.binds (ps := ["_law_cell", "_law_turn"]) fun _ _ _ _ _ _ us hl => match us, hl with | [_, _], _ => rfl⟩
  have C_law_draws : Cal l.prog w K mg base "_law_draws" ["_law_script", "_law_turn", "_law_many"] 3 2 P_law_draws := ⟨f4, _, ok_law_draws F4 C_law_mix m_enumerate m_len m_range, PySem.W.mg_of X G a4, F4.kp, F4.binds (ps := ["_law_script", "_law_turn", "_law_many"]) fun _ _ _ _ _ _ us hl => match us, hl with | [_, _, _], _ => rfl⟩
  have C_law_pop : Cal l.prog w K mg base "_law_pop" ["_law_draws_here"] 1 1 P_law_pop := ⟨f5, _, ok_law_pop F5  , PySem.W.mg_of X G a5, F5.kp, F5.binds (ps := ["_law_draws_here"]) fun _ _ _ _ _ _ us hl => match us, hl with | [_], _ => rfl⟩
  have C_law_town : Cal l.prog w K mg base "_law_town" ["_law_draws_here", "_law_most"] 2 2 P_law_town := ⟨f6, _, ok_law_town F6 C_law_pop m_len m_min m_range, PySem.W.mg_of X G a6, F6.kp, F6.binds (ps := ["_law_draws_here", "_law_most"]) fun _ _ _ _ _ _ us hl => match us, hl with | [_, _], _ => rfl⟩
  have C_law_standing : Cal l.prog w K mg base "_law_standing" ["_law_town_here", "_law_draws_here"] 2 2 P_law_standing := ⟨f7, _, ok_law_standing F7 C_law_pop m_len m_min, PySem.W.mg_of X G a7, F7.kp, F7.binds (ps := ["_law_town_here", "_law_draws_here"]) fun _ _ _ _ _ _ us hl => match us, hl with | [_, _], _ => rfl⟩
  have C_law_turned : Cal l.prog w K mg base "_law_turned" ["_law_numbers", "_law_spans", "_law_draws_here"] 3 2 P_law_turned := ⟨f8, _, ok_law_turned F8 C_law_pop m_len m_max m_min m_range, PySem.W.mg_of X G a8, F8.kp, F8.binds (ps := ["_law_numbers", "_law_spans", "_law_draws_here"]) fun _ _ _ _ _ _ us hl => match us, hl with | [_, _, _], _ => rfl⟩
  have C_law_other_town : Cal l.prog w K mg base "_law_other_town" ["_law_town_here", "_law_draws_here"] 2 3 P_law_other_town := ⟨f9, _, ok_law_other_town F9 C_law_pop C_law_town m_max, PySem.W.mg_of X G a9, F9.kp, F9.binds (ps := ["_law_town_here", "_law_draws_here"]) fun _ _ _ _ _ _ us hl => match us, hl with | [_, _], _ => rfl⟩
  have C_law_less : Cal l.prog w K mg base "_law_less" ["_law_ones", "_law_others"] 2 1 P_law_less := ⟨f10, _, ok_law_less F10  m_len m_range, PySem.W.mg_of X G a10, F10.kp, F10.binds (ps := ["_law_ones", "_law_others"]) fun _ _ _ _ _ _ us hl => match us, hl with | [_, _], _ => rfl⟩
  exact ok_law F11 C_law_draws C_law_less C_law_other_town C_law_pop C_law_standing C_law_town C_law_turned C_no_tighter C_no_worse m_bool m_isinstance m_len
end L2.DL

open PySem PySem.W PyProof.Rows in
set_option maxRecDepth 100000 in
set_option maxHeartbeats 0 in
theorem PySem.Challenge.cw_windround_k04_better_and_worse_holds : PySem.Challenge.rw_windround_k04_better_and_worse.Holds := by
  w_on; o_law; k_head; (case hw => w_witness2)
  k_fill
  refine L2.walk_of (l := PySem.Challenge.rw_windround_k04_better_and_worse) (n := 63) (k := 4) (x := "_law_script") (CX := fun _ => L2.CX0) (sp := fun w => L2.DL.FD L2.DL.PLaw 1) rfl (by decide) rfl ⟨rfl, by decide, by decide⟩ (fun w h Y => PySem.W.kIn_of Y) ?F (fun w _ a ns hl _ hS => L2.DL.law_sp (K := _) ?hK hl hS) (fun _ _ _ _ _ h => h)
  case hK => first | rfl | decide +kernel | kernel_rfl | (trace_state; done)
  case F =>
    intro w mg fa h KX G hmg
    refine' L2.DL.all_mk KX G hmg ?hK2 ?a0 ?l0 ?c0 ?k0 ?a1 ?l1 ?c1 ?k1 ?a2 ?l2 ?c2 ?k2 ?a3 ?l3 ?c3 ?k3 ?a4 ?l4 ?c4 ?k4 ?a5 ?l5 ?c5 ?k5 ?a6 ?l6 ?c6 ?k6 ?a7 ?l7 ?c7 ?k7 ?a8 ?l8 ?c8 ?k8 ?a9 ?l9 ?c9 ?k9 ?a10 ?l10 ?c10 ?k10 ?a11 ?l11 ?c11 ?k11 ?z_all ?z_bool ?z_enumerate ?z_isinstance ?z_len ?z_max ?z_min ?z_range ?z_zip
    (case hK2 => first | rfl | decide +kernel | kernel_rfl)
    (case a0 => k_is)
    (case l0 => k_is)
    (case c0 => k_is)
    (case k0 => k_is)
    (case a1 => k_is)
    (case l1 => k_is)
    (case c1 => k_is)
    (case k1 => k_is)
    (case a2 => k_is)
    (case l2 => k_is)
    (case c2 => k_is)
    (case k2 => k_is)
    (case a3 => k_is)
    (case l3 => k_is)
    (case c3 => k_is)
    (case k3 => k_is)
    (case a4 => k_is)
    (case l4 => k_is)
    (case c4 => k_is)
    (case k4 => k_is)
    (case a5 => k_is)
    (case l5 => k_is)
    (case c5 => k_is)
    (case k5 => k_is)
    (case a6 => k_is)
    (case l6 => k_is)
    (case c6 => k_is)
    (case k6 => k_is)
    (case a7 => k_is)
    (case l7 => k_is)
    (case c7 => k_is)
    (case k7 => k_is)
    (case a8 => k_is)
    (case l8 => k_is)
    (case c8 => k_is)
    (case k8 => k_is)
    (case a9 => k_is)
    (case l9 => k_is)
    (case c9 => k_is)
    (case k9 => k_is)
    (case a10 => k_is)
    (case l10 => k_is)
    (case c10 => k_is)
    (case k10 => k_is)
    (case a11 => k_is)
    (case l11 => k_is)
    (case c11 => k_is)
    (case k11 => k_is)
    (case z_all => k_is)
    (case z_bool => k_is)
    (case z_enumerate => k_is)
    (case z_isinstance => k_is)
    (case z_len => k_is)
    (case z_max => k_is)
    (case z_min => k_is)
    (case z_range => k_is)
    (case z_zip => k_is)
#print axioms PySem.Challenge.cw_windround_k04_better_and_worse_holds
