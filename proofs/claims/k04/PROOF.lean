import PyProof.Rows.All
import Wide.All
import OpenK.AllK
import Wide.FinOn
import HandS.ForMost
import HandS.ForExc
import HandS.IsInst
import HandS.Wide
import HandS.Zip
import HandS.TupAny
import HandS.Comp
import HandS.Style
import HandS.Iter
import HandS.FltList
import HandS.ExcIs
import KE.KExcIs
import HandS.ExcField
import HandS.ExcInit
import HandS.WordsExc
import PySem.Challenge.RW_dialyard_k04_triples
set_option Elab.async false
set_option linter.all false
set_option maxRecDepth 100000
set_option maxHeartbeats 4000000
set_option autoImplicit false
set_option exponentiation.threshold 100000
namespace Dl
open PySem PySem.Spec PyProof.Rows L2
abbrev St := L2.St

/-! ## data -/
inductive D where
  | non | bl (b : Bool) | int (i : Int) | str (x : Str) | tup (xs : List D) | lst (xs : List D) | fls (xs : List D) | emp | ref (a : Addr) | exv (C : Addr) (ns : List Str) (ds : List D)
/-- at a: an exception that was caught, of the class at C, its own dict -/
def ExK (C : Addr) (dd : Option Addr) (a : Addr) : HO := .ext fun h => ∃ (oe : Obj) (vs : Array Value), h.get? a = some oe ∧ Zc (.ref C) dd oe ∧ oe.data = .fields vs

mutual
inductive Rp (K : PySem.W.Frag) (H : Hp) : V → D → Prop
  | non : Rp K H .non .non
  | bl (b : Bool) : Rp K H (.bl b) (.bl b)
  | int (i : Int) : Rp K H (.int i) (.int i)
  | str (x : Str) : Rp K H (.str x) (.str x)
  | tup {a : Addr} {vs : List V} {ds : List D} : SqT K H a vs → RpL K H vs ds → Rp K H (.ref a) (.tup ds)
  | lst {a : Addr} {vs : List V} {ds : List D} : H a = some (.lst vs) → RpL K H vs ds → Rp K H (.ref a) (.lst ds)
  | fls {a : Addr} {vs : List V} {ds : List D} : SqL K H a vs → RpL K H vs ds → Rp K H (.ref a) (.fls ds)
  | emp {a : Addr} : H a = some (.dK []) → Rp K H (.ref a) .emp
  | ref (a : Addr) : Rp K H (.ref a) (.ref a)
  | exv0 {a C : Addr} : H a = some (ExK C none a) → Rp K H (.ref a) (.exv C [] [])
  | exv1 {a C dx : Addr} {n : Str} {v : V} {d : D} : H a = some (ExK C (some dx) a) → H dx = some (.xd [(n, v)]) → Rp K H v d → Rp K H (.ref a) (.exv C [n] [d])
inductive RpL (K : PySem.W.Frag) (H : Hp) : List V → List D → Prop
  | nil : RpL K H [] []
  | cons {v : V} {vs : List V} {d : D} {ds : List D} : Rp K H v d → RpL K H vs ds → RpL K H (v :: vs) (d :: ds)
end

theorem same_tq {K : PySem.W.Frag} {H H' : Hp} {a : Addr} {xs : List V} (e : Same H H') (h : SqT K H a xs) : SqT K H' a xs := by
  rcases h with (h | ⟨o, h⟩) | h
  · exact .inl (.inl (e _ _ h))
  · exact .inl (.inr ⟨o, e _ _ h⟩)
  · exact .inr h

mutual
theorem Rp.mono {K : PySem.W.Frag} {H H' : Hp} (e : Same H H') : ∀ {v : V} {d : D}, Rp K H v d → Rp K H' v d
  | _, _, .non => .non
  | _, _, .bl b => .bl b
  | _, _, .int i => .int i
  | _, _, .str x => .str x
  | _, _, .tup h r => .tup (same_tq e h) (RpL.mono e r)
  | _, _, .lst h r => .lst (e _ _ h) (RpL.mono e r)
  | _, _, .fls h r => .fls (e.seq h) (RpL.mono e r)
  | _, _, .emp h => .emp (e _ _ h)
  | _, _, .ref a => .ref a
  | _, _, .exv0 h => .exv0 (e _ _ h)
  | _, _, .exv1 h q r => .exv1 (e _ _ h) (e _ _ q) (Rp.mono e r)
theorem RpL.mono {K : PySem.W.Frag} {H H' : Hp} (e : Same H H') : ∀ {vs : List V} {ds : List D}, RpL K H vs ds → RpL K H' vs ds
  | _, _, .nil => .nil
  | _, _, .cons h r => .cons (Rp.mono e h) (RpL.mono e r)
end
section
variable {K : PySem.W.Frag} {H : Hp}
theorem RpL.length : ∀ {vs : List V} {ds : List D}, RpL K H vs ds → vs.length = ds.length
  | _, _, .nil => rfl
  | _, _, .cons _ r => by rw [List.length_cons, List.length_cons, r.length]
theorem RpL.get : ∀ {vs : List V} {ds : List D} {i : Nat} {d : D}, RpL K H vs ds → ds[i]? = some d → ∃ v, vs[i]? = some v ∧ Rp K H v d
  | _, _, _, _, .nil, h => by simp at h
  | _, _, 0, _, .cons h _, e => by
    have e1 := Option.some.inj (by simpa using e)
    subst e1
    exact ⟨_, rfl, h⟩
  | _, _, i + 1, _, .cons _ r, e => by
    obtain ⟨v, h1, h2⟩ := RpL.get (i := i) r (by simpa using e)
    exact ⟨v, by simpa using h1, h2⟩
theorem RpL.getV : ∀ {vs : List V} {ds : List D} {i : Nat} {v : V}, RpL K H vs ds → vs[i]? = some v → ∃ d, ds[i]? = some d ∧ Rp K H v d
  | _, _, _, _, .nil, h => by simp at h
  | _, _, 0, _, .cons h _, e => by
    have e1 := Option.some.inj (by simpa using e)
    subst e1
    exact ⟨_, rfl, h⟩
  | _, _, i + 1, _, .cons _ r, e => by
    obtain ⟨v, h1, h2⟩ := RpL.getV (i := i) r (by simpa using e)
    exact ⟨v, by simpa using h1, h2⟩
theorem RpL.append : ∀ {vs ws : List V} {ds es : List D}, RpL K H vs ds → RpL K H ws es → RpL K H (vs ++ ws) (ds ++ es)
  | _, _, _, _, .nil, s => s
  | _, _, _, _, .cons h r, s => .cons h (RpL.append r s)
theorem RpL.take : ∀ {vs : List V} {ds : List D} (n : Nat), RpL K H vs ds → RpL K H (vs.take n) (ds.take n)
  | _, _, 0, _ => .nil
  | _, _, _ + 1, .nil => .nil
  | _, _, n + 1, .cons h r => .cons h (RpL.take n r)
theorem RpL.drop : ∀ {vs : List V} {ds : List D} (n : Nat), RpL K H vs ds → RpL K H (vs.drop n) (ds.drop n)
  | _, _, 0, r => r
  | _, _, _ + 1, .nil => .nil
  | _, _, n + 1, .cons _ r => RpL.drop n r
theorem RpL.reverse : ∀ {vs : List V} {ds : List D}, RpL K H vs ds → RpL K H vs.reverse ds.reverse
  | _, _, .nil => .nil
  | _, _, .cons h r => by
    rw [List.reverse_cons, List.reverse_cons]
    exact r.reverse.append (.cons h .nil)
theorem RpL.set {v : V} {d : D} (h : Rp K H v d) : ∀ {vs : List V} {ds : List D} (i : Nat), RpL K H vs ds → RpL K H (vs.set i v) (ds.set i d)
  | _, _, _, .nil => .nil
  | _, _, 0, .cons _ r => .cons h r
  | _, _, i + 1, .cons q r => .cons q (RpL.set h i r)
end

/-! ## heaps -/
/-- from (H0, H1) on to (J0, J1): H0 what stays, H1 all; what stood outside of what stays does so still -/
structure Tr (H0 H1 J0 J1 : Hp) : Prop where
  s0 : Same H0 J0
  s1 : Same H1 J1
  in' : Same J0 J1
  out : ∀ p o, H1 p = some o → H0 p = none → J0 p = none
theorem Tr.refl {H0 H1 : Hp} (h : Same H0 H1) : Tr H0 H1 H0 H1 := ⟨Same.refl _, Same.refl _, h, fun _ _ _ n => n⟩
theorem Tr.trans {H0 H1 J0 J1 L0 L1 : Hp} (a : Tr H0 H1 J0 J1) (b : Tr J0 J1 L0 L1) : Tr H0 H1 L0 L1 :=
  ⟨a.s0.trans b.s0, a.s1.trans b.s1, b.in', fun p o h n => b.out p o (a.s1 p o h) (a.out p o h n)⟩
theorem same_upd {H : Hp} {p : Addr} {o : HO} (h : H p = none) : Same H (upd H p o) := fun b x e => by
  rw [upd_ne (ne_of_none e h)]
  exact e
/-- a new object that stays -/
theorem Tr.new {H0 H1 : Hp} (h : Same H0 H1) {p : Addr} {o : HO} (n : H1 p = none) : Tr H0 H1 (upd H0 p o) (upd H1 p o) := by
  have n0 : H0 p = none := h.free n
  refine ⟨same_upd n0, same_upd n, fun b x e => ?_, fun q x e m => ?_⟩
  · by_cases hb : b = p
    · subst hb
      rw [upd_same] at e ⊢
      exact e
    · rw [upd_ne hb] at e ⊢
      exact h b x e
  · rw [upd_ne (ne_of_none e n)]
    exact m
/-- a new object that is not laid to what stays -/
theorem Tr.new1 {H0 H1 : Hp} (h : Same H0 H1) {p : Addr} {o : HO} (n : H1 p = none) : Tr H0 H1 H0 (upd H1 p o) :=
  ⟨Same.refl _, same_upd n, h.trans (same_upd n), fun _ _ _ m => m⟩

/-! ## states -/
/-- a name's slot: nothing known; a value; a list of one's own, which may grow -/
inductive Sl where
  | no | val (d : D) | own (p : Addr) (ds : List D)
abbrev Env := List Sl
def SlOk (K : PySem.W.Frag) (H0 H1 : Hp) (o : Option V) : Sl → Prop
  | .no => True
  | .val d => ∃ v, o = some v ∧ Rp K H0 v d
  | .own p ds => o = some (.ref p) ∧ H0 p = none ∧ ∃ vs, H1 p = some (.lst vs) ∧ RpL K H0 vs ds
structure Stt (K : PySem.W.Frag) (H0 H1 : Hp) (σ : St) (Γ : Env) : Prop where
  sub : Same H0 H1
  len : σ.length = Γ.length
  sl : ∀ (i : Nat) (s : Sl), Γ[i]? = some s → ∃ o, σ[i]? = some o ∧ SlOk K H0 H1 o s
section
variable {K : PySem.W.Frag} {H0 H1 J0 J1 : Hp} {σ : St} {Γ : Env}
theorem SlOk.tr {o : Option V} {s : Sl} (t : Tr H0 H1 J0 J1) (h : SlOk K H0 H1 o s) : SlOk K J0 J1 o s := by
  cases s with
  | no => trivial
  | val d =>
    obtain ⟨v, e, r⟩ := h
    exact ⟨v, e, r.mono t.s0⟩
  | own p ds =>
    obtain ⟨e, n, vs, h1, r⟩ := h
    exact ⟨e, t.out p _ h1 n, vs, t.s1 p _ h1, r.mono t.s0⟩
theorem Stt.tr (h : Stt K H0 H1 σ Γ) (t : Tr H0 H1 J0 J1) : Stt K J0 J1 σ Γ := ⟨t.in', h.len, fun i s e => by
  obtain ⟨o, e1, k⟩ := h.sl i s e
  exact ⟨o, e1, k.tr t⟩⟩
theorem Stt.val (h : Stt K H0 H1 σ Γ) {i : Nat} {d : D} (e : Γ[i]? = some (.val d)) : ∃ v, σ[i]? = some (some v) ∧ Rp K H0 v d := by
  obtain ⟨o, e1, v, e2, r⟩ := h.sl i _ e
  subst e2
  exact ⟨v, e1, r⟩
theorem Stt.set (h : Stt K H0 H1 σ Γ) {i : Nat} {v : V} {s : Sl} (k : SlOk K H0 H1 (some v) s) : Stt K H0 H1 (σ.set i (some v)) (Γ.set i s) := by
  refine ⟨h.sub, by rw [List.length_set, List.length_set, h.len], fun j t e => ?_⟩
  by_cases hj : i = j
  · subst hj
    have hl : i < Γ.length := by
      have := (List.getElem?_eq_some_iff.mp e).1
      rwa [List.length_set] at this
    rw [List.getElem?_set_self hl] at e
    have e1 := Option.some.inj e
    subst e1
    exact ⟨some v, List.getElem?_set_self (by rw [h.len]; exact hl), k⟩
  · rw [List.getElem?_set_ne hj] at e
    obtain ⟨o, e1, k1⟩ := h.sl j t e
    exact ⟨o, by rw [List.getElem?_set_ne hj]; exact e1, k1⟩
theorem Stt.put (h : Stt K H0 H1 σ Γ) {i : Nat} {v : V} {d : D} (r : Rp K H0 v d) : Stt K H0 H1 (σ.set i (some v)) (Γ.set i (.val d)) := h.set ⟨v, rfl, r⟩
/-- forgetting -/
def Wk (Γ Γ' : Env) : Prop := Γ.length = Γ'.length ∧ ∀ (i : Nat) (s : Sl), Γ'[i]? = some s → s = .no ∨ Γ[i]? = some s
theorem Wk.refl (Γ : Env) : Wk Γ Γ := ⟨rfl, fun _ _ h => .inr h⟩
theorem Stt.wk {Γ' : Env} (h : Stt K H0 H1 σ Γ) (w : Wk Γ Γ') : Stt K H0 H1 σ Γ' := by
  refine ⟨h.sub, h.len.trans w.1, fun i s e => ?_⟩
  rcases w.2 i s e with rfl | q
  · have hl : i < σ.length := by
      rw [h.len, w.1]
      exact (List.getElem?_eq_some_iff.mp e).1
    exact ⟨σ[i], List.getElem?_eq_getElem hl, trivial⟩
  · exact h.sl i s q
end

/-! ## what the pieces of a text do: the widest readings -/
section
variable {X : Cx}
def WE (X : Cx) (e : Expr) (σ : St) (H : Hp) (Q : VK) : Prop :=
  ∀ (pins : List (Addr × Obj)) (s : Shared), Inv X pins σ H s → wpAny (model X.prog X.w) X.A (eval e X.env) (EP X pins σ Q) X.xe s
def WT (X : Cx) (e : Expr) (σ : St) (H : Hp) (Q : Bool → Hp → Prop) : Prop :=
  ∀ (pins : List (Addr × Obj)) (s : Shared), Inv X pins σ H s → wpAny (model X.prog X.w) X.A (isTrue e X.env (eval e X.env)) (TP X pins σ Q) X.xe s
def WW (X : Cx) (e : Expr) (σ : St) (H : Hp) (Q : Bool → Hp → Prop) : Prop :=
  ∀ (whole : Sem Value) (pins : List (Addr × Obj)) (s : Shared), Inv X pins σ H s → wpAny (model X.prog X.w) X.A (isTrue e X.env whole) (TP X pins σ Q) X.xe s
def WA (X : Cx) (es : List Expr) (σ : St) (H : Hp) (Q : List V → Hp → Prop) : Prop :=
  ∀ (pos : Pos) (pins : List (Addr × Obj)) (s : Shared), Inv X pins σ H s → wpAny (model X.prog X.w) X.A (spliced (backTo pos (starEach es X.env))) (AP X pins σ Q) X.xe s
def WS (X : Cx) (st : Stmt) : TS := fun D σ H =>
  ∀ (pins : List (Addr × Obj)) (s : Shared), Inv X pins σ H s → wpAny (model X.prog X.w) X.A (exec st X.env) (SP X pins D) X.xe s
def WSs (X : Cx) (st : List Stmt) : TS := fun D σ H =>
  ∀ (pins : List (Addr × Obj)) (s : Shared), Inv X pins σ H s → wpAny (model X.prog X.w) X.A (execs st X.env) (SP X pins D) X.xe s
def WG (X : Cx) (tg : Expr) : TG := fun v σ H Q =>
  ∀ (pins : List (Addr × Obj)) (s : Shared) (u : Value), Inv X pins σ H s → RelV v u →
    wpAny (model X.prog X.w) X.A (assign tg X.env u) (fun _ s' => ∃ σ' H', Inv X pins σ' H' s' ∧ Q σ' H') X.xe s
def WGs (X : Cx) (ts : List Expr) : TGs := fun vs σ H Q =>
  ∀ (pins : List (Addr × Obj)) (s : Shared) (us : List Value), Inv X pins σ H s → Vals vs us →
    wpAny (model X.prog X.w) X.A (assignInOrder ((assignEach ts X.env).map (·.2)) us) (fun _ s' => ∃ σ' H', Inv X pins σ' H' s' ∧ Q σ' H') X.xe s
def WI (X : Cx) (tg it : Expr) : TI := fun σ H R =>
  ∀ (pins : List (Addr × Obj)) (s : Shared), Inv X pins σ H s →
    wpAny (model X.prog X.w) X.A (eval it X.env) (fun v s1 => wpAny (model X.prog X.w) X.A (pyIter v) (PIE X pins σ tg R) X.xe s1) X.xe s
theorem pe_we {e : Expr} : PE X e (WE X e) := ⟨fun pins s σ H Q I h => h pins s I⟩
theorem pt_wt {e : Expr} : PT X e (WT X e) := ⟨fun pins s σ H Q I h => h pins s I⟩
theorem pw_ww {e : Expr} : PW X e (WW X e) := ⟨fun wh pins s σ H Q I h => h wh pins s I⟩
theorem pa_wa {es : List Expr} : PA X es (WA X es) := ⟨fun pos pins s σ H Q I h => h pos pins s I⟩
theorem ps_ws {st : Stmt} : PS X st (WS X st) := ⟨fun pins s σ H D I h => h pins s I⟩
theorem pss_ws {st : List Stmt} : PSs X st (WSs X st) := ⟨fun pins s σ H D I h => h pins s I⟩
theorem pg_wg {tg : Expr} : PG X tg (WG X tg) := ⟨fun pins s σ H v u Q I r h => h pins s u I r⟩
theorem pgs_wg {ts : List Expr} : PGs X ts (WGs X ts) := ⟨fun pins s σ H vs us Q I r h => h pins s us I r⟩
theorem pi_wi {tg it : Expr} : PI X tg it (WI X tg it) := ⟨fun pins s σ H R I h => h pins s I⟩
theorem we_of {e : Expr} {t : TE} (h : PE X e t) {σ : St} {H : Hp} {Q : VK} (q : t σ H Q) : WE X e σ H Q := fun pins s I => h.run pins s σ H Q I q
theorem wt_of {e : Expr} {t : TT} (h : PT X e t) {σ : St} {H : Hp} {Q : Bool → Hp → Prop} (q : t σ H Q) : WT X e σ H Q := fun pins s I => h.run pins s σ H Q I q
theorem ww_of {e : Expr} {t : TT} (h : PW X e t) {σ : St} {H : Hp} {Q : Bool → Hp → Prop} (q : t σ H Q) : WW X e σ H Q := fun wh pins s I => h.run wh pins s σ H Q I q
theorem wa_of {es : List Expr} {t : TA} (h : PA X es t) {σ : St} {H : Hp} {Q : List V → Hp → Prop} (q : t σ H Q) : WA X es σ H Q := fun pos pins s I => h.run pos pins s σ H Q I q
theorem ws_of {st : Stmt} {t : TS} (h : PS X st t) {D : Ends} {σ : St} {H : Hp} (q : t D σ H) : WS X st D σ H := fun pins s I => h.run pins s σ H D I q
theorem wss_of {st : List Stmt} {t : TS} (h : PSs X st t) {D : Ends} {σ : St} {H : Hp} (q : t D σ H) : WSs X st D σ H := fun pins s I => h.run pins s σ H D I q
theorem wg_of {tg : Expr} {t : TG} (h : PG X tg t) {v : V} {σ : St} {H : Hp} {Q : St → Hp → Prop} (q : t v σ H Q) : WG X tg v σ H Q := fun pins s u I r => h.run pins s σ H v u Q I r q
theorem wgs_of {ts : List Expr} {t : TGs} (h : PGs X ts t) {vs : List V} {σ : St} {H : Hp} {Q : St → Hp → Prop} (q : t vs σ H Q) : WGs X ts vs σ H Q := fun pins s us I r => h.run pins s σ H vs us Q I r q
theorem wi_of {tg it : Expr} {t : TI} (h : PI X tg it t) {σ : St} {H : Hp} {R : It → Hp → Prop} (q : t σ H R) : WI X tg it σ H R := fun pins s I => h.run pins s σ H R I q
end

/-! ## expressions -/
/-- e gives d, in every state of Γ -/
def EV (X : Cx) (Γ : Env) (e : Expr) (d : D) : Prop := ∀ H0 H1 σ, Stt X.K H0 H1 σ Γ → ∀ Q : VK, (∀ v J0 J1, Tr H0 H1 J0 J1 → Rp X.K J0 v d → Q v J1) → WE X e σ H1 Q
/-- e gives a new list, of ds -/
def EN (X : Cx) (Γ : Env) (e : Expr) (ds : List D) : Prop := ∀ H0 H1 σ, Stt X.K H0 H1 σ Γ → ∀ Q : VK,
  (∀ p vs J0 J1, Tr H0 H1 J0 J1 → H1 p = none → J0 p = none → J1 p = some (.lst vs) → RpL X.K J0 vs ds → Q (.ref p) J1) → WE X e σ H1 Q
def ET (X : Cx) (Γ : Env) (e : Expr) (b : Bool) : Prop := ∀ H0 H1 σ, Stt X.K H0 H1 σ Γ → ∀ Q : Bool → Hp → Prop, (∀ J0 J1, Tr H0 H1 J0 J1 → Q b J1) → WT X e σ H1 Q
def EB (X : Cx) (Γ : Env) (e : Expr) (b : Bool) : Prop := ∀ H0 H1 σ, Stt X.K H0 H1 σ Γ → ∀ Q : Bool → Hp → Prop, (∀ J0 J1, Tr H0 H1 J0 J1 → Q b J1) → WW X e σ H1 Q
def EA (X : Cx) (Γ : Env) (es : List Expr) (ds : List D) : Prop := ∀ H0 H1 σ, Stt X.K H0 H1 σ Γ → ∀ Q : List V → Hp → Prop, (∀ vs J0 J1, Tr H0 H1 J0 J1 → RpL X.K J0 vs ds → Q vs J1) → WA X es σ H1 Q

theorem Tr.freeze {H0 H1 J0 J1 : Hp} (t : Tr H0 H1 J0 J1) {p : Addr} {o : HO} (n : H1 p = none) (n0 : J0 p = none) (e : J1 p = some o) : Tr H0 H1 (upd J0 p o) J1 := by
  refine ⟨t.s0.trans (same_upd n0), t.s1, fun b x q => ?_, fun q x h m => ?_⟩
  · by_cases hb : b = p
    · subst hb
      rw [upd_same] at q
      rw [e]
      exact q
    · rw [upd_ne hb] at q
      exact t.in' b x q
  · rw [upd_ne (ne_of_none h n)]
    exact t.out q x h m
section
variable {X : Cx} {Γ : Env} {a b c e : Expr} {pos : Pos}
theorem ev_new {ds : List D} (h : EN X Γ e ds) : EV X Γ e (.lst ds) := fun H0 H1 σ S Q q =>
  h H0 H1 σ S Q fun p vs J0 J1 t n n0 e r => q _ (upd J0 p (.lst vs)) J1 (t.freeze n n0 e) (.lst upd_same (r.mono (same_upd n0)))
theorem ev_var (i : Nat) {x : Str} {d : D} (hd : Γ[i]? = some (.val d)) (hN : X.N[i]? = some x := by rfl) (hv : Vis X.env.scope x := by first | exact Or.inl rfl | exact Or.inr (Or.inl rfl) | exact Or.inr (Or.inr rfl))
    (h1 : (x == ("__debug__" : Str)) = false := by decide) (h2 : (x == ("__classdict__" : Str)) = false := by decide) : EV X Γ (.Name x pos) d := fun H0 H1 σ S Q q => by
  obtain ⟨v, e1, r⟩ := S.val hd
  exact we_of (pe_var hN hv h1 h2) ⟨v, e1, q v H0 H1 (Tr.refl S.sub) r⟩
theorem ev_int {i j} : EV X Γ (.Constant (.int i) j pos) (.int i) := fun H0 H1 σ S Q q => we_of pe_int (q _ H0 H1 (Tr.refl S.sub) (.int i))
theorem ev_bl {i j} : EV X Γ (.Constant (.bool i) j pos) (.bl i) := fun H0 H1 σ S Q q => we_of pe_bl (q _ H0 H1 (Tr.refl S.sub) (.bl i))
theorem ev_non {j} : EV X Γ (.Constant .none j pos) .non := fun H0 H1 σ S Q q => we_of pe_non (q _ H0 H1 (Tr.refl S.sub) .non)
theorem ev_str {i j} : EV X Γ (.Constant (.str i) j pos) (.str i) := fun H0 H1 σ S Q q => we_of pe_str (q _ H0 H1 (Tr.refl S.sub) (.str i))

/-- a two-place operation by data -/
def OpD (X : Cx) (f : Value → Value → Sem Value) (x y z : D) : Prop :=
  ∃ r : R2, OpR X f r ∧ ∀ H0 H1 v w, Same H0 H1 → Rp X.K H0 v x → Rp X.K H0 w y → ∀ Q : VK, (∀ u J0 J1, Tr H0 H1 J0 J1 → Rp X.K J0 u z → Q u J1) → r v w H1 Q
theorem ev_two {x y z : D} {f : Value → Value → Sem Value} (ha : EV X Γ a x) (hb : EV X Γ b y) (ho : OpD X f x y z)
    (hp : ∀ r, OpR X f r → PE X e (tOp r (WE X a) (WE X b))) : EV X Γ e z := fun H0 H1 σ S Q q => by
  obtain ⟨r, hr, k⟩ := ho
  refine we_of (hp r hr) ?_
  refine ha H0 H1 σ S _ fun v J0 J1 t rv => hb J0 J1 σ (S.tr t) _ fun w L0 L1 t2 rw' => ?_
  exact k L0 L1 v w t2.in' (rv.mono t2.s0) rw' Q fun u M0 M1 t3 ru => q u M0 M1 ((t.trans t2).trans t3) ru
theorem ev_bin {op : Operator} {x y z : D} (ha : EV X Γ a x) (hb : EV X Γ b y) (ho : OpD X (binaryOp op) x y z) : EV X Γ (.BinOp a op b pos) z :=
  ev_two ha hb ho fun r hr => pe_op hr pe_we pe_we
theorem ev_cmp {op : CmpOp} {x y z : D} (ha : EV X Γ a x) (hb : EV X Γ b y) (ho : OpD X (compareOp op) x y z) (hm : behindInMarks op b = false := by first | exact nobehind _ (by decide) (by decide) | rfl) : EV X Γ (.Compare a [op] [b] pos) z :=
  ev_two ha hb ho fun r hr => pe_cmpR hr pe_we pe_we hm
theorem opd_I0 {f : Value → Value → Sem Value} {g : Int → Int → V} {z : Int → Int → D} (h : OpR X f (rI0 g)) (hz : ∀ i j H, Rp X.K H (g i j) (z i j)) {i j : Int} : OpD X f (.int i) (.int j) (z i j) :=
  ⟨_, h, fun H0 H1 v w s rv rw' Q q => by
    cases rv
    cases rw'
    exact ⟨i, j, rfl, rfl, q _ H0 H1 (Tr.refl s) (hz i j H0)⟩⟩
theorem opd_I {f : Value → Value → Sem Value} {g : Int → Int → V} {z : Int → Int → D} {C : Int → Int → Prop} (h : OpR X f (rI C g)) (hz : ∀ i j H, Rp X.K H (g i j) (z i j)) {i j : Int} (hc : C i j) : OpD X f (.int i) (.int j) (z i j) :=
  ⟨_, h, fun H0 H1 v w s rv rw' Q q => by
    cases rv
    cases rw'
    exact ⟨i, j, rfl, rfl, hc, q _ H0 H1 (Tr.refl s) (hz i j H0)⟩⟩
end
end Dl
namespace Dl
open PySem PySem.Spec PyProof.Rows L2

/-- the items of a list, tracked or not -/
def D.lss : D → Option (List D)
  | .lst ds => some ds
  | .fls ds => some ds
  | _ => none
/-- the items of a list or a tuple -/
def D.sqs : D → Option (List D)
  | .lst ds => some ds
  | .fls ds => some ds
  | .tup ds => some ds
  | _ => none
theorem Rp.lss {K : PySem.W.Frag} {H : Hp} {v : V} {d : D} {ds : List D} (r : Rp K H v d) (h : d.lss = some ds) : ∃ a vs, v = .ref a ∧ SqL K H a vs ∧ RpL K H vs ds := by
  cases r with
  | lst e r =>
    cases h
    exact ⟨_, _, rfl, .inl (.inl e), r⟩
  | fls e r =>
    cases h
    exact ⟨_, _, rfl, e, r⟩
  | _ => cases h
theorem Rp.sqs {K : PySem.W.Frag} {H : Hp} {v : V} {d : D} {ds : List D} (r : Rp K H v d) (h : d.sqs = some ds) : ∃ a vs, v = .ref a ∧ (SqL K H a vs ∨ SqT K H a vs) ∧ RpL K H vs ds := by
  cases r with
  | lst e r =>
    cases h
    exact ⟨_, _, rfl, .inl (.inl (.inl e)), r⟩
  | fls e r =>
    cases h
    exact ⟨_, _, rfl, .inl e, r⟩
  | tup e r =>
    cases h
    exact ⟨_, _, rfl, .inr e, r⟩
  | _ => cases h

section
variable {X : Cx} {Γ : Env} {a b c e : Expr} {es : List Expr} {pos : Pos} {i j : Int}
/-! ### ints -/
theorem opd_add : OpD X (binaryOp .Add) (.int i) (.int j) (.int (i + j)) := opd_I0 (z := fun i j => .int (i + j)) op_add fun _ _ _ => .int _
theorem opd_sub : OpD X (binaryOp .Sub) (.int i) (.int j) (.int (i - j)) := opd_I0 (z := fun i j => .int (i - j)) op_sub fun _ _ _ => .int _
theorem opd_mul (h : CMulW i j) : OpD X (binaryOp .Mult) (.int i) (.int j) (.int (i * j)) := opd_I (z := fun i j => .int (i * j)) op_mulW (fun _ _ _ => .int _) h
theorem opd_div (h : CDivW i j) : OpD X (binaryOp .FloorDiv) (.int i) (.int j) (.int (i / j)) := opd_I (z := fun i j => .int (i / j)) op_fdivW (fun _ _ _ => .int _) h
theorem opd_mod (h : 0 < j) : OpD X (binaryOp .Mod) (.int i) (.int j) (.int (i % j)) := opd_I (C := fun _ j => 0 < j) (z := fun i j => .int (i % j)) op_mod (fun _ _ _ => .int _) h
def CDivZ (_ j : Int) : Prop := j ≠ 0 ∧ j.natAbs.log2 < 9000
theorem op_fdivZ : OpR X (binaryOp .FloorDiv) (rI CDivZ fun i j => .int (i.fdiv j)) := opI fun _ _ _ _ _ _ _ hc q => floordiv_int hc.1 q (.inl (PyProof.noPylong_of_log2 hc.2))
theorem opd_divZ (h : CDivZ i j) : OpD X (binaryOp .FloorDiv) (.int i) (.int j) (.int (i.fdiv j)) := opd_I (z := fun i j => .int (i.fdiv j)) op_fdivZ (fun _ _ _ => .int _) h
theorem opd_modZ (h : j ≠ 0) : OpD X (binaryOp .Mod) (.int i) (.int j) (.int (i.fmod j)) := opd_I (C := fun _ j => j ≠ 0) (z := fun i j => .int (i.fmod j)) op_modN (fun _ _ _ => .int _) h
theorem opd_pow (h : CPow i j) : OpD X (binaryOp .Pow) (.int i) (.int j) (.int (i ^ j.toNat)) := opd_I (z := fun i j => .int (i ^ j.toNat)) op_pow (fun _ _ _ => .int _) h
theorem opd_lt : OpD X (compareOp .Lt) (.int i) (.int j) (.bl (decide (i < j))) := opd_I0 (z := fun i j => .bl (decide (i < j))) op_lt fun _ _ _ => .bl _
theorem opd_le : OpD X (compareOp .LtE) (.int i) (.int j) (.bl (decide (i ≤ j))) := opd_I0 (z := fun i j => .bl (decide (i ≤ j))) op_le fun _ _ _ => .bl _
theorem opd_gt : OpD X (compareOp .Gt) (.int i) (.int j) (.bl (decide (j < i))) := opd_I0 (z := fun i j => .bl (decide (j < i))) op_gt fun _ _ _ => .bl _
theorem opd_ge : OpD X (compareOp .GtE) (.int i) (.int j) (.bl (decide (j ≤ i))) := opd_I0 (z := fun i j => .bl (decide (j ≤ i))) op_ge fun _ _ _ => .bl _
theorem opd_eqI : OpD X (compareOp .Eq) (.int i) (.int j) (.bl (decide (i = j))) := ⟨_, op_eq, fun H0 H1 v w s rv rw' Q q => by
  cases rv
  cases rw'
  have e : decide (V.int i = V.int j) = decide (i = j) := by simp
  exact ⟨rfl, q _ H0 H1 (Tr.refl s) (by rw [e]; exact .bl _)⟩⟩
theorem opd_neI : OpD X (compareOp .NotEq) (.int i) (.int j) (.bl (!decide (i = j))) := ⟨_, op_ne, fun H0 H1 v w s rv rw' Q q => by
  cases rv
  cases rw'
  have e : decide (V.int i = V.int j) = decide (i = j) := by simp
  exact ⟨rfl, q _ H0 H1 (Tr.refl s) (by rw [e]; exact .bl _)⟩⟩
theorem opd_eqB {x y : Bool} : OpD X (compareOp .Eq) (.bl x) (.bl y) (.bl (decide (x = y))) := ⟨_, op_eq, fun H0 H1 v w s rv rw' Q q => by
  cases rv
  cases rw'
  have e : decide (V.bl x = V.bl y) = decide (x = y) := by simp
  exact ⟨rfl, q _ H0 H1 (Tr.refl s) (by rw [e]; exact .bl _)⟩⟩
theorem opd_neB {x y : Bool} : OpD X (compareOp .NotEq) (.bl x) (.bl y) (.bl (!decide (x = y))) := ⟨_, op_ne, fun H0 H1 v w s rv rw' Q q => by
  cases rv
  cases rw'
  have e : decide (V.bl x = V.bl y) = decide (x = y) := by simp
  exact ⟨rfl, q _ H0 H1 (Tr.refl s) (by rw [e]; exact .bl _)⟩⟩
theorem opd_eqS {x y : Str} : OpD X (compareOp .Eq) (.str x) (.str y) (.bl (decide (x = y))) := ⟨_, op_eq, fun H0 H1 v w s rv rw' Q q => by
  cases rv
  cases rw'
  have e : decide (V.str x = V.str y) = decide (x = y) := by simp
  exact ⟨rfl, q _ H0 H1 (Tr.refl s) (by rw [e]; exact .bl _)⟩⟩
theorem opd_neS {x y : Str} : OpD X (compareOp .NotEq) (.str x) (.str y) (.bl (!decide (x = y))) := ⟨_, op_ne, fun H0 H1 v w s rv rw' Q q => by
  cases rv
  cases rw'
  have e : decide (V.str x = V.str y) = decide (x = y) := by simp
  exact ⟨rfl, q _ H0 H1 (Tr.refl s) (by rw [e]; exact .bl _)⟩⟩
def D.isN : D → Bool
  | .non => true
  | _ => false
theorem Rp.none_iff {K : PySem.W.Frag} {H : Hp} {v : V} {d : D} (r : Rp K H v d) : decide (v = .non) = d.isN := by
  cases r <;> simp [D.isN]
theorem opd_isN {x : D} : OpD X (compareOp .Is) x .non (.bl x.isN) := ⟨_, op_isN, fun H0 H1 v w s rv rw' Q q => by
  cases rw'
  refine ⟨rfl, q _ H0 H1 (Tr.refl s) ?_⟩
  rw [rv.none_iff]
  exact .bl _⟩
theorem opd_notN {x : D} : OpD X (compareOp .IsNot) x .non (.bl (!x.isN)) := ⟨_, op_notN, fun H0 H1 v w s rv rw' Q q => by
  cases rw'
  refine ⟨rfl, q _ H0 H1 (Tr.refl s) ?_⟩
  rw [rv.none_iff]
  exact .bl _⟩
theorem ev_neg (h : EV X Γ a (.int i)) : EV X Γ (.UnaryOp .USub a pos) (.int (-i)) := fun H0 H1 σ S Q q =>
  we_of (pe_un un_neg pe_we) (h H0 H1 σ S _ fun v J0 J1 t r => by
    cases r
    exact ⟨i, rfl, q _ J0 J1 t (.int _)⟩)
/-- a < b < c and its like: b once -/
theorem ev_chain {op op' : CmpOp} {x y z : D} {k l : Bool} (ha : EV X Γ a x) (hb : EV X Γ b y) (hc : EV X Γ c z) (ho : OpD X (compareOp op) x y (.bl k)) (ho' : OpD X (compareOp op') y z (.bl l)) (hm : lastMarks [op, op'] [b, c] = false := by with_unfolding_all rfl) : EV X Γ (.Compare a [op, op'] [b, c] pos) (.bl (k && l)) := fun H0 H1 σ S Q q => by
  obtain ⟨r, hr, kr⟩ := ho
  obtain ⟨r', hr', kr'⟩ := ho'
  refine we_of (pe_chain hr hr' pe_we pe_we pe_we hm) ?_
  refine ha H0 H1 σ S _ fun v J0 J1 t rv => hb J0 J1 σ (S.tr t) _ fun w L0 L1 t2 rw' => ?_
  refine kr L0 L1 v w t2.in' (rv.mono t2.s0) rw' _ fun u M0 M1 t3 ru => ?_
  cases ru
  refine ⟨k, rfl, ?_⟩
  cases k with
  | true =>
    rw [if_pos rfl]
    refine hc M0 M1 σ (S.tr ((t.trans t2).trans t3)) _ fun u N0 N1 t4 ru => ?_
    exact kr' N0 N1 w u t4.in' (rw'.mono (t3.s0.trans t4.s0)) ru Q fun u O0 O1 t5 ru => q u O0 O1 ((((t.trans t2).trans t3).trans t4).trans t5) ru
  | false =>
    rw [if_neg Bool.false_ne_true]
    exact q _ M0 M1 ((t.trans t2).trans t3) (.bl _)

/-! ### tests -/
theorem et_of {k : Bool} (h : EV X Γ e (.bl k)) (he : ∀ whole, isTrue e X.env whole = (do let v ← whole; standAt e.pos; holding [v] (truthy v)) := by intro _; rfl) : ET X Γ e k := fun H0 H1 σ S Q q =>
  wt_of (pt_val pe_we he) (h H0 H1 σ S _ fun v J0 J1 t r => by
    cases r
    exact ⟨k, rfl, q J0 J1 t⟩)
theorem et_cmp {op : CmpOp} {x y : D} {k : Bool} (ha : EV X Γ a x) (hb : EV X Γ b y) (ho : OpD X (compareOp op) x y (.bl k)) (hm : behindInMarks op b = false := by first | exact nobehind _ (by decide) (by decide) | rfl) : ET X Γ (.Compare a [op] [b] pos) k := fun H0 H1 σ S Q q => by
  obtain ⟨r, hr, kr⟩ := ho
  refine wt_of (pt_cmpR hr pe_we pe_we hm) ?_
  refine ha H0 H1 σ S _ fun v J0 J1 t rv => hb J0 J1 σ (S.tr t) _ fun w L0 L1 t2 rw' => ?_
  refine kr L0 L1 v w t2.in' (rv.mono t2.s0) rw' _ fun u M0 M1 t3 ru => ?_
  cases ru
  exact ⟨k, rfl, q M0 M1 ((t.trans t2).trans t3)⟩
theorem et_chain {op op' : CmpOp} {x y z : D} {k l : Bool} (ha : EV X Γ a x) (hb : EV X Γ b y) (hc : EV X Γ c z) (ho : OpD X (compareOp op) x y (.bl k)) (ho' : OpD X (compareOp op') y z (.bl l)) (hm : lastMarks [op, op'] [b, c] = false := by with_unfolding_all rfl) : ET X Γ (.Compare a [op, op'] [b, c] pos) (k && l) := fun H0 H1 σ S Q q => by
  obtain ⟨r, hr, kr⟩ := ho
  obtain ⟨r', hr', kr'⟩ := ho'
  refine wt_of (pt_chain hr hr' pe_we pe_we pe_we hm) ?_
  refine ha H0 H1 σ S _ fun v J0 J1 t rv => hb J0 J1 σ (S.tr t) _ fun w L0 L1 t2 rw' => ?_
  refine kr L0 L1 v w t2.in' (rv.mono t2.s0) rw' _ fun u M0 M1 t3 ru => ?_
  cases ru
  refine ⟨k, rfl, ?_⟩
  cases k with
  | true =>
    rw [if_pos rfl]
    refine hc M0 M1 σ (S.tr ((t.trans t2).trans t3)) _ fun u N0 N1 t4 ru => ?_
    refine kr' N0 N1 w u t4.in' (rw'.mono (t3.s0.trans t4.s0)) ru _ fun u O0 O1 t5 ru => ?_
    cases ru
    exact ⟨l, rfl, q O0 O1 ((((t.trans t2).trans t3).trans t4).trans t5)⟩
  | false =>
    rw [if_neg Bool.false_ne_true]
    exact ⟨false, rfl, q M0 M1 ((t.trans t2).trans t3)⟩
theorem et_not {k : Bool} (h : ET X Γ a k) : ET X Γ (.UnaryOp .Not a pos) (!k) := fun H0 H1 σ S Q q =>
  wt_of (pt_not pt_wt) (h H0 H1 σ S _ fun J0 J1 t => q J0 J1 t)
theorem et_bool {k : Bool} (h : EB X Γ e k) : ET X Γ e k := fun H0 H1 σ S Q q => wt_of pw_ww.pt (h H0 H1 σ S Q q)
theorem eb_and1 {k : Bool} (h : ET X Γ a k) : EB X Γ (.BoolOp .And [a] pos) k := fun H0 H1 σ S Q q => ww_of (pw_and1 pt_wt) (h H0 H1 σ S Q q)
theorem eb_or1 {k : Bool} (h : ET X Γ a k) : EB X Γ (.BoolOp .Or [a] pos) k := fun H0 H1 σ S Q q => ww_of (pw_or1 pt_wt) (h H0 H1 σ S Q q)
theorem eb_and {k l : Bool} (h : ET X Γ a k) (hr : k = true → EB X Γ (.BoolOp .And (b :: es) pos) l) : EB X Γ (.BoolOp .And (a :: b :: es) pos) (k && l) := fun H0 H1 σ S Q q =>
  ww_of (pw_and pt_wt pw_ww) (h H0 H1 σ S _ fun J0 J1 t => by
    cases k with
    | true =>
      rw [if_pos rfl]
      exact hr rfl J0 J1 σ (S.tr t) Q fun L0 L1 t2 => q L0 L1 (t.trans t2)
    | false =>
      rw [if_neg Bool.false_ne_true]
      exact q J0 J1 t)
theorem eb_or {k l : Bool} (h : ET X Γ a k) (hr : k = false → EB X Γ (.BoolOp .Or (b :: es) pos) l) : EB X Γ (.BoolOp .Or (a :: b :: es) pos) (k || l) := fun H0 H1 σ S Q q =>
  ww_of (pw_or pt_wt pw_ww) (h H0 H1 σ S _ fun J0 J1 t => by
    cases k with
    | false =>
      rw [if_neg Bool.false_ne_true]
      exact hr rfl J0 J1 σ (S.tr t) Q fun L0 L1 t2 => q L0 L1 (t.trans t2)
    | true =>
      rw [if_pos rfl]
      exact q J0 J1 t)
/-! ### and, or, not as values -/
theorem ev_one {op} {x : D} (h : EV X Γ a x) : EV X Γ (.BoolOp op [a] pos) x := fun H0 H1 σ S Q q => we_of (pe_one pe_we) (h H0 H1 σ S Q q)
theorem ev_and {k l : Bool} (h : EV X Γ a (.bl k)) (hr : k = true → EV X Γ (.BoolOp .And (b :: es) pos) (.bl l)) : EV X Γ (.BoolOp .And (a :: b :: es) pos) (.bl (k && l)) := fun H0 H1 σ S Q q =>
  we_of (pe_and pe_we pe_we) (h H0 H1 σ S _ fun v J0 J1 t r => by
    cases r
    refine ⟨k, rfl, ?_⟩
    cases k with
    | true =>
      rw [if_pos rfl]
      exact hr rfl J0 J1 σ (S.tr t) Q fun v L0 L1 t2 r2 => q v L0 L1 (t.trans t2) r2
    | false =>
      rw [if_neg Bool.false_ne_true]
      exact q _ J0 J1 t (.bl _))
theorem ev_or {k l : Bool} (h : EV X Γ a (.bl k)) (hr : k = false → EV X Γ (.BoolOp .Or (b :: es) pos) (.bl l)) : EV X Γ (.BoolOp .Or (a :: b :: es) pos) (.bl (k || l)) := fun H0 H1 σ S Q q =>
  we_of (pe_or pe_we pe_we) (h H0 H1 σ S _ fun v J0 J1 t r => by
    cases r
    refine ⟨k, rfl, ?_⟩
    cases k with
    | false =>
      rw [if_neg Bool.false_ne_true]
      exact hr rfl J0 J1 σ (S.tr t) Q fun v L0 L1 t2 r2 => q v L0 L1 (t.trans t2) r2
    | true =>
      rw [if_pos rfl]
      exact q _ J0 J1 t (.bl _))
theorem ev_not {k : Bool} (h : EV X Γ a (.bl k)) : EV X Γ (.UnaryOp .Not a pos) (.bl (!k)) := fun H0 H1 σ S Q q =>
  we_of (pe_not pe_we) (h H0 H1 σ S _ fun v J0 J1 t r => by
    cases r
    exact ⟨k, rfl, q _ J0 J1 t (.bl _)⟩)
theorem ev_if {k : Bool} {x y : D} (h : ET X Γ c k) (h1 : k = true → EV X Γ a x) (h2 : k = false → EV X Γ b y) : EV X Γ (.IfExp c a b pos) (if k then x else y) := fun H0 H1 σ S Q q =>
  we_of (pe_ifExp pt_wt pe_we pe_we) (h H0 H1 σ S _ fun J0 J1 t => by
    cases k with
    | true =>
      rw [if_pos rfl]
      exact h1 rfl J0 J1 σ (S.tr t) Q fun v L0 L1 t2 r2 => q v L0 L1 (t.trans t2) r2
    | false =>
      rw [if_neg Bool.false_ne_true]
      exact h2 rfl J0 J1 σ (S.tr t) Q fun v L0 L1 t2 r2 => q v L0 L1 (t.trans t2) r2)

/-! ### displays -/
theorem ea_nil : EA X Γ [] [] := fun H0 H1 σ S Q q => wa_of pa_nil (q [] H0 H1 (Tr.refl S.sub) .nil)
theorem ea_cons {d : D} {ds : List D} (h : EV X Γ e d) (hr : EA X Γ es ds) (hs : starEach (e :: es) X.env = (false, eval e X.env) :: starEach es X.env := by rfl) : EA X Γ (e :: es) (d :: ds) := fun H0 H1 σ S Q q =>
  wa_of (pa_cons pe_we pa_wa hs) (h H0 H1 σ S _ fun v J0 J1 t r => hr J0 J1 σ (S.tr t) _ fun vs L0 L1 t2 r2 => q (v :: vs) L0 L1 (t.trans t2) (.cons (r.mono t2.s0) r2))
theorem sz {n : Nat} (h : n ≤ 100000) : n ≤ sizeLine := Nat.le_trans h (by decide)
theorem sz' {n : Nat} (h : n < 100000) : n < sizeLine := Nat.lt_of_lt_of_le h (by decide)
theorem ev_tup {ds : List D} {k} (h : EA X Γ es ds) (hz : ds.length ≤ 100000 := by simp) : EV X Γ (.Tuple es k pos) (.tup ds) := fun H0 H1 σ S Q q =>
  we_of (pe_tup pa_wa) (h H0 H1 σ S _ fun vs J0 J1 t r => ⟨by rw [r.length]; exact sz hz, fun p hp => q _ _ _ (t.trans (Tr.new t.in' hp)) (.tup (.inl (.inl upd_same)) (r.mono (same_upd (t.in'.free hp))))⟩)
theorem en_lst {ds : List D} (h : EA X Γ es ds) (hz : ds.length ≤ 100000 := by simp) : EN X Γ (.List es pos) ds := fun H0 H1 σ S Q q =>
  we_of (pe_lst pa_wa) (h H0 H1 σ S _ fun vs J0 J1 t r => ⟨by rw [r.length]; exact sz hz, fun p hp => q p vs J0 _ (t.trans (Tr.new1 t.in' hp)) (t.s1.free hp) (t.in'.free hp) upd_same r⟩)

/-! ### subscripts -/
theorem atI_rp {K : PySem.W.Frag} {H : Hp} {vs : List V} {ds : List D} {i : Int} {d : D} (r : RpL K H vs ds) (h : atI ds i = some d) : ∃ v, atI vs i = some v ∧ Rp K H v d := by
  unfold atI at h ⊢
  rw [r.length]
  cases e : ixN ds.length i with
  | none => rw [e] at h; cases h
  | some j =>
    rw [e] at h
    exact r.get (i := j) h
theorem ev_ixT {ds : List D} {d : D} (ha : EV X Γ a (.tup ds)) (hb : EV X Γ b (.int i)) (h : atI ds i = some d) (hs : PlainIx b := by intro _ _; rfl) : EV X Γ (.Subscript a b pos) d := fun H0 H1 σ S Q q =>
  we_of (pe_ix ix_tup pe_we pe_we hs) (ha H0 H1 σ S _ fun v J0 J1 t rv => hb J0 J1 σ (S.tr t) _ fun w L0 L1 t2 rw' => by
    cases rv with
    | tup e r =>
      cases rw'
      obtain ⟨z, h1, h2⟩ := atI_rp r h
      exact ⟨_, _, i, z, rfl, rfl, same_tq (t2.s0.trans t2.in') e, h1, q _ L0 L1 (t.trans t2) (h2.mono t2.s0)⟩)
theorem ev_ixL {ds : List D} {d x : D} (ha : EV X Γ a x) (hx : x.lss = some ds) (hb : EV X Γ b (.int i)) (h : atI ds i = some d) (hs : PlainIx b := by intro _ _; rfl) : EV X Γ (.Subscript a b pos) d := fun H0 H1 σ S Q q =>
  we_of (pe_ix ix_list pe_we pe_we hs) (ha H0 H1 σ S _ fun v J0 J1 t rv => hb J0 J1 σ (S.tr t) _ fun w L0 L1 t2 rw' => by
    obtain ⟨a, vs, rfl, e, r⟩ := rv.lss hx
    cases rw'
    obtain ⟨z, h1, h2⟩ := atI_rp r h
    exact ⟨_, _, i, z, rfl, rfl, (t2.s0.trans t2.in').seq e, h1, q _ L0 L1 (t.trans t2) (h2.mono t2.s0)⟩)
/-! ### calls of what is built in -/
def CallD (X : Cx) (f : Value) (ds : List D) (z : D) : Prop :=
  ∃ r : List V → Hp → VK → Prop, CallR X f r ∧ ∀ H0 H1 vs, Same H0 H1 → RpL X.K H0 vs ds → ∀ Q : VK, (∀ u J0 J1, Tr H0 H1 J0 J1 → Rp X.K J0 u z → Q u J1) → r vs H1 Q
theorem ev_callB {ds : List D} {z : D} {id : String} {x : Str} {p : Pos} (hc : CallD X (.builtin id) ds z) (ha : EA X Γ (e :: es) ds) (hm : X.mg x = none) (hv : bootBuiltins x = some (.builtin id) := by decide +kernel) (hg : Gl X x := by rfl)
    (hn : x ≠ "__name__" := by decide) (hdb : (x == ("__debug__" : Str)) = false := by decide) (he : starEach (e :: es) X.env = (false, eval e X.env) :: starEach es X.env := by rfl) (hpl : (backTo pos (starEach es X.env)).any (·.1) = false := by rfl) :
    EV X Γ (.Call (.Name x p) (e :: es) [] pos) z := fun H0 H1 σ S Q q => by
  obtain ⟨r, hr, k⟩ := hc
  refine we_of (pe_callB hr hg hm hv pa_wa hn hdb he hpl) (ha H0 H1 σ S _ fun vs J0 J1 t rv => ?_)
  exact k J0 J1 vs t.in' rv Q fun u L0 L1 t2 ru => q u L0 L1 (t.trans t2) ru
theorem ev_callTy {ds : List D} {z : D} {T : String} {x : Str} {p : Pos} (hc : CallD X (.type T) ds z) (ha : EA X Γ (e :: es) ds) (hm : X.mg x = none) (hv : bootBuiltins x = some (.type T) := by decide +kernel) (hg : Gl X x := by rfl)
    (hn : x ≠ "__name__" := by decide) (hdb : (x == ("__debug__" : Str)) = false := by decide) (he : starEach (e :: es) X.env = (false, eval e X.env) :: starEach es X.env := by rfl) (hpl : (backTo pos (starEach es X.env)).any (·.1) = false := by rfl) :
    EV X Γ (.Call (.Name x p) (e :: es) [] pos) z := fun H0 H1 σ S Q q => by
  obtain ⟨r, hr, k⟩ := hc
  refine we_of (pe_callTy hr hg hm hv pa_wa hn hdb he hpl) (ha H0 H1 σ S _ fun vs J0 J1 t rv => ?_)
  exact k J0 J1 vs t.in' rv Q fun u L0 L1 t2 ru => q u L0 L1 (t.trans t2) ru
theorem rpl1 {K : PySem.W.Frag} {H : Hp} {vs : List V} {d : D} (r : RpL K H vs [d]) : ∃ v, vs = [v] ∧ Rp K H v d := by
  cases r with
  | cons h r =>
    cases r
    exact ⟨_, rfl, h⟩
theorem rpl2 {K : PySem.W.Frag} {H : Hp} {vs : List V} {d e : D} (r : RpL K H vs [d, e]) : ∃ v w, vs = [v, w] ∧ Rp K H v d ∧ Rp K H w e := by
  cases r with
  | cons h r =>
    obtain ⟨w, rfl, h2⟩ := rpl1 r
    exact ⟨_, _, rfl, h, h2⟩
theorem cd_len {d : D} {ds : List D} (h : d.sqs = some ds) : CallD X (.builtin "len") [d] (.int (ds.length : Int)) := ⟨_, call_len_seq, fun H0 H1 vs s r Q q => by
  obtain ⟨v, rfl, r1⟩ := rpl1 r
  obtain ⟨a, ws, rfl, e, rl⟩ := r1.sqs h
  refine ⟨a, ws, rfl, ?_, by rw [rl.length]; exact q _ H0 H1 (Tr.refl s) (.int _)⟩
  rcases e with e | e
  · exact .inl (s.seq e)
  · exact .inr (same_tq s e)⟩
theorem cd_lenS {x : Str} (h : x.length ≤ sizeLine) : CallD X (.builtin "len") [.str x] (.int (x.length : Int)) := ⟨_, call_len_str, fun H0 H1 vs s r Q q => by
  obtain ⟨v, rfl, r1⟩ := rpl1 r
  cases r1
  exact ⟨x, rfl, h, q _ H0 H1 (Tr.refl s) (.int _)⟩⟩
theorem abs_if (i : Int) : (if i < 0 then -i else i) = (i.natAbs : Int) := by
  by_cases h : i < 0
  · rw [if_pos h]; omega
  · rw [if_neg h]; omega
theorem cd_abs : CallD X (.builtin "abs") [.int i] (.int (i.natAbs : Int)) := ⟨_, call_abs, fun H0 H1 vs s r Q q => by
  obtain ⟨v, rfl, r1⟩ := rpl1 r
  cases r1
  exact ⟨i, rfl, by rw [abs_if]; exact q _ H0 H1 (Tr.refl s) (.int _)⟩⟩
theorem cd_max2 (hc : X.calm = true) : CallD X (.builtin "max") [.int i, .int j] (.int (max i j)) := ⟨_, call_max2 hc, fun H0 H1 vs s r Q q => by
  obtain ⟨v, w, rfl, r, r2⟩ := rpl2 r
  cases r
  cases r2
  have e : (if j > i then j else i) = max i j := by
    rw [Int.max_def]
    by_cases h : j > i
    · rw [if_pos h, if_pos (by omega)]
    · rw [if_neg h]
      by_cases h2 : i ≤ j
      · rw [if_pos h2]; omega
      · rw [if_neg h2]
  exact ⟨i, j, rfl, by rw [e]; exact q _ H0 H1 (Tr.refl s) (.int _)⟩⟩
theorem cd_min2 (hc : X.calm = true) : CallD X (.builtin "min") [.int i, .int j] (.int (min i j)) := ⟨_, call_min2 hc, fun H0 H1 vs s r Q q => by
  obtain ⟨v, w, rfl, r, r2⟩ := rpl2 r
  cases r
  cases r2
  have e : (if j < i then j else i) = min i j := by
    rw [Int.min_def]
    by_cases h : j < i
    · rw [if_pos h, if_neg (by omega)]
    · rw [if_neg h, if_pos (by omega)]
  exact ⟨i, j, rfl, by rw [e]; exact q _ H0 H1 (Tr.refl s) (.int _)⟩⟩
end
end Dl
namespace Dl
open PySem PySem.Spec PyProof.Rows L2

/-! ## what a def promises -/
/-- an error: its class's name, its fields -/
structure Exn where
  cls : Str
  fs : List (Str × D)
inductive Out where
  | ret (d : D) | exc (x : Exn)
/-- the error stands: its class; its own dict, where it has fields -/
def ExnOk (K : PySem.W.Frag) (mg : Str → Option Value) (H0 H1 : Hp) (x : Exn) (cls : Value) (dd : Option Addr) : Prop :=
  mg x.cls = some cls ∧ match x.fs with
    | [] => dd = none
    | fs => ∃ a vs, dd = some a ∧ H0 a = some (.xd vs) ∧ vs.map (·.1) = fs.map (·.1) ∧ RpL K H0 (vs.map (·.2)) (fs.map (·.2))
abbrev Ct := List D → Out → Prop
def spD (K : PySem.W.Frag) (mg : Str → Option Value) (C : Ct) : Sp := fun vs H Q E => ∃ ds G0 o, Same G0 H ∧ RpL K G0 vs ds ∧ C ds o ∧
  match o with
  | .ret d => ∀ v J0 J1, Tr G0 H J0 J1 → Rp K J0 v d → Q v J1
  | .exc x => ∀ cls dd J0 J1, Tr G0 H J0 J1 → ExnOk K mg J0 J1 x cls dd → E cls dd J1
structure FnC (P : Program) (w : World) (K : PySem.W.Frag) (mg : Str → Option Value) (base : Heap) (k : Nat) (x : Str) (ps : List Str) (C : Ct) : Prop where
  ex : ∃ (f : Addr) (fd : FuncData), mg x = some (.ref f) ∧ PySem.W.keepIn K (.ref f) = true ∧ Binds K fd ps [] ∧ FnOk P w K mg base (L2.CX P w) k f fd ps (spD K mg C) ∧ ∃ (oc : Value) (od : Option Addr) (osl : Array (Option Value)), K.lookup f = some ⟨oc, od, .func fd, osl⟩
theorem FnC.mono {P : Program} {w : World} {K : PySem.W.Frag} {mg : Str → Option Value} {base : Heap} {j k : Nat} {x : Str} {ps : List Str} {C : Ct} (F : FnC P w K mg base j x ps C) (h : j ≤ k) : FnC P w K mg base k x ps C := by
  obtain ⟨f, fd, a, b, c, d, e⟩ := F.ex
  exact ⟨f, fd, a, b, c, d.mono h, e⟩
section
variable {X : Cx} {Γ : Env} {a b c e : Expr} {es : List Expr} {pos p : Pos} {i j : Int} {k k' : Nat} {x : Str} {ps : List Str} {C : Ct} {ds : List D} {d : D}
theorem ev_call (F : FnC X.prog X.w X.K X.mg X.base k x ps C) (hr : Room k' X.A) (ha : EA X Γ (e :: es) ds) (hC : C ds (.ret d)) (hk : k ≤ k' := by decide) (hg : Gl X x := by rfl) (hdb : (x == ("__debug__" : Str)) = false := by decide)
    (he : starEach (e :: es) X.env = (false, eval e X.env) :: starEach es X.env := by rfl) (hpl : (backTo pos (starEach es X.env)).any (·.1) = false := by rfl) : EV X Γ (.Call (.Name x p) (e :: es) [] pos) d := fun H0 H1 σ S Q q => by
  obtain ⟨f, fd, hm, kp, hb, G, _⟩ := F.ex
  refine we_of (pe_call G (hr.mono hk) hg hm kp hb .nil passL pa_wa hdb he hpl) ?_
  refine ha H0 H1 σ S _ fun vs J0 J1 t r => ?_
  refine ⟨ds, J0, .ret d, t.in', by rw [List.append_nil]; exact r, hC, ?_⟩
  intro v L0 L1 t2 rv
  exact q v L0 L1 (t.trans t2) rv
theorem ev_call0 (F : FnC X.prog X.w X.K X.mg X.base k x ps C) (hr : Room k' X.A) (hC : C [] (.ret d)) (hk : k ≤ k' := by decide) (hg : Gl X x := by rfl) (hdb : (x == ("__debug__" : Str)) = false := by decide) : EV X Γ (.Call (.Name x p) [] [] pos) d := fun H0 H1 σ S Q q => by
  obtain ⟨f, fd, hm, kp, hb, G, _⟩ := F.ex
  refine we_of (pe_call0 G (hr.mono hk) hg hm kp hb .nil passL hdb) ?_
  exact ⟨[], H0, .ret d, S.sub, .nil, hC, fun v L0 L1 t2 rv => q v L0 L1 t2 rv⟩

/-! ## what raises -/
def EX (X : Cx) (Γ : Env) (e : Expr) (x : Exn) : Prop := ∀ (W : WX), Takes X W → ∀ H0 H1 σ, Stt X.K H0 H1 σ Γ → (∀ cls dd J0 J1, Tr H0 H1 J0 J1 → ExnOk X.K X.mg J0 J1 x cls dd → W cls dd σ J1) → WE X e σ H1 (fun _ _ => False)
theorem ex_call {xn : Exn} (F : FnC X.prog X.w X.K X.mg X.base k x ps C) (hr : Room k' X.A) (ha : EA X Γ (e :: es) ds) (hC : C ds (.exc xn)) (hk : k ≤ k' := by decide) (hg : Gl X x := by rfl) (hdb : (x == ("__debug__" : Str)) = false := by decide)
    (he : starEach (e :: es) X.env = (false, eval e X.env) :: starEach es X.env := by rfl) (hpl : (backTo pos (starEach es X.env)).any (·.1) = false := by rfl) : EX X Γ (.Call (.Name x p) (e :: es) [] pos) xn := fun W tk H0 H1 σ S q => by
  obtain ⟨f, fd, hm, kp, hb, G, _⟩ := F.ex
  refine we_of (pe_callS G (hr.mono hk) hg hm kp hb (fun σ => passAt tk σ) pa_wa hdb he hpl) ?_
  refine ha H0 H1 σ S _ fun vs J0 J1 t r => ?_
  refine ⟨ds, J0, .exc xn, t.in', r, hC, ?_⟩
  intro cls dd L0 L1 t2 rx
  exact q cls dd L0 L1 (t.trans t2) rx
end

/-! ## statements -/
structure Po where
  nx : Env → Prop := fun _ => False
  rt : D → Prop := fun _ => False
  ex : Exn → Env → Prop := fun _ _ => False
  bk : Env → Prop := fun _ => False
  ct : Env → Prop := fun _ => False
structure Sg (K : PySem.W.Frag) (G0 G1 H0 H1 : Hp) (σ : St) (Γ : Env) : Prop where
  st : Stt K H0 H1 σ Γ
  tr : Tr G0 G1 H0 H1
  ow : ∀ (i : Nat) (p : Addr) (ds : List D), Γ[i]? = some (.own p ds) → G1 p = none
  ap : ∀ (i j : Nat) (p : Addr) (ds es : List D), Γ[i]? = some (.own p ds) → Γ[j]? = some (.own p es) → i = j
structure Fin (X : Cx) (W : WX) (G0 G1 : Hp) (P : Po) (D : Ends) : Prop where
  nx : ∀ Γ τ J0 J1, Sg X.K G0 G1 J0 J1 τ Γ → P.nx Γ → D.nx τ J1
  bk : ∀ Γ τ J0 J1, Sg X.K G0 G1 J0 J1 τ Γ → P.bk Γ → D.bk τ J1
  ct : ∀ Γ τ J0 J1, Sg X.K G0 G1 J0 J1 τ Γ → P.ct Γ → D.ct τ J1
  rt : ∀ d v J0 J1, Tr G0 G1 J0 J1 → Rp X.K J0 v d → P.rt d → D.rt v J1
  ex : ∀ x cls dd Γ τ J0 J1, Sg X.K G0 G1 J0 J1 τ Γ → ExnOk X.K X.mg J0 J1 x cls dd → P.ex x Γ → W cls dd τ J1
def Does (X : Cx) (t : TS) (Γ : Env) (P : Po) : Prop := ∀ (W : WX), Takes X W → ∀ G0 G1 H0 H1 σ, Sg X.K G0 G1 H0 H1 σ Γ → ∀ D : Ends, Fin X W G0 G1 P D → t D σ H1
abbrev S1 (X : Cx) (Γ : Env) (s : Stmt) (P : Po) : Prop := Does X (WS X s) Γ P
abbrev SB (X : Cx) (Γ : Env) (ss : List Stmt) (P : Po) : Prop := Does X (WSs X ss) Γ P
/-- the slots' own lists, where a slot is given a value -/
theorem Sg.tr' {K : PySem.W.Frag} {G0 G1 H0 H1 J0 J1 : Hp} {σ : St} {Γ : Env} (g : Sg K G0 G1 H0 H1 σ Γ) (t : Tr H0 H1 J0 J1) : Sg K G0 G1 J0 J1 σ Γ := ⟨g.st.tr t, g.tr.trans t, g.ow, g.ap⟩
theorem set_own {Γ : Env} {i j : Nat} {d : D} {p : Addr} {ds : List D} (h : (Γ.set i (.val d))[j]? = some (.own p ds)) : Γ[j]? = some (.own p ds) := by
  by_cases hj : i = j
  · subst hj
    by_cases hl : i < Γ.length
    · rw [List.getElem?_set_self hl] at h
      cases h
    · rw [List.getElem?_eq_none (by rw [List.length_set]; omega)] at h
      cases h
  · rwa [List.getElem?_set_ne hj] at h
theorem Sg.put {K : PySem.W.Frag} {G0 G1 H0 H1 : Hp} {σ : St} {Γ : Env} (g : Sg K G0 G1 H0 H1 σ Γ) {i : Nat} {v : V} {d : D} (r : Rp K H0 v d) : Sg K G0 G1 H0 H1 (σ.set i (some v)) (Γ.set i (.val d)) :=
  ⟨g.st.put r, g.tr, fun j p ds e => g.ow j p ds (set_own e), fun j l p ds es h1 h2 => g.ap j l p ds es (set_own h1) (set_own h2)⟩
theorem Sg.wk {K : PySem.W.Frag} {G0 G1 H0 H1 : Hp} {σ : St} {Γ Γ' : Env} (g : Sg K G0 G1 H0 H1 σ Γ) (w : Wk Γ Γ') : Sg K G0 G1 H0 H1 σ Γ' :=
  have k : ∀ (j : Nat) (p : Addr) (ds : List D), Γ'[j]? = some (.own p ds) → Γ[j]? = some (.own p ds) := fun j p ds e => by
    rcases w.2 j _ e with z | z
    · cases z
    · exact z
  ⟨g.st.wk w, g.tr, fun j p ds e => g.ow j p ds (k j p ds e), fun j l p ds es h1 h2 => g.ap j l p ds es (k j p ds h1) (k l p es h2)⟩
theorem Sg.at {K : PySem.W.Frag} {G0 G1 H0 H1 : Hp} {σ : St} {Γ : Env} (g : Sg K G0 G1 H0 H1 σ Γ) {i : Nat} {p : Addr} {ds : List D} (e : Γ[i]? = some (.own p ds)) :
    σ[i]? = some (some (.ref p)) ∧ H0 p = none ∧ ∃ vs, H1 p = some (.lst vs) ∧ RpL K H0 vs ds := by
  obtain ⟨o, e1, rfl, n, vs, h1, r⟩ := g.st.sl i _ e
  exact ⟨e1, n, vs, h1, r⟩
/-- an own list is changed -/
theorem Sg.write {K : PySem.W.Frag} {G0 G1 H0 H1 : Hp} {σ : St} {Γ : Env} (g : Sg K G0 G1 H0 H1 σ Γ) {i : Nat} {p : Addr} {ds es : List D} (e : Γ[i]? = some (.own p ds)) {ws : List V} (r : RpL K H0 ws es) :
    Sg K G0 G1 H0 (upd H1 p (.lst ws)) σ (Γ.set i (.own p es)) := by
  obtain ⟨e1, n, vs, h1, rv⟩ := g.at e
  have gn := g.ow i p ds e
  have hi : i < Γ.length := (List.getElem?_eq_some_iff.mp e).1
  refine ⟨⟨fun b x q => ?_, by rw [List.length_set]; exact g.st.len, fun j s q => ?_⟩, ⟨g.tr.s0, fun b x q => ?_, fun b x q => ?_, g.tr.out⟩, fun j q es' h => ?_, fun j l q es1 es2 h2 h3 => ?_⟩
  · rw [upd_ne (ne_of_none q n)]
    exact g.st.sub b x q
  · by_cases hj : i = j
    · subst hj
      rw [List.getElem?_set_self hi] at q
      cases q
      exact ⟨some (.ref p), e1, rfl, n, ws, upd_same, r⟩
    · rw [List.getElem?_set_ne hj] at q
      obtain ⟨o, q1, q2⟩ := g.st.sl j s q
      refine ⟨o, q1, ?_⟩
      cases s with
      | no => trivial
      | val d => exact q2
      | own p' ds' =>
        obtain ⟨z1, z2, vs', z3, z4⟩ := q2
        refine ⟨z1, z2, vs', ?_, z4⟩
        have hp : p' ≠ p := fun z => by
          subst z
          exact hj (g.ap i j p' ds ds' e q)
        rw [upd_ne hp]
        exact z3
  · rw [upd_ne (ne_of_none q gn)]
    exact g.tr.s1 b x q
  · rw [upd_ne (ne_of_none q n)]
    exact g.tr.in' b x q
  · by_cases hj : i = j
    · subst hj
      rw [List.getElem?_set_self hi] at h
      cases h
      exact gn
    · rw [List.getElem?_set_ne hj] at h
      exact g.ow j q es' h
  · have k : ∀ (j : Nat) (es' : List D), (Γ.set i (.own p es))[j]? = some (.own q es') → ∃ es0, Γ[j]? = some (.own q es0) := fun j es' h => by
      by_cases hj : i = j
      · subst hj
        rw [List.getElem?_set_self hi] at h
        cases h
        exact ⟨ds, e⟩
      · rw [List.getElem?_set_ne hj] at h
        exact ⟨es', h⟩
    obtain ⟨d1, k1⟩ := k j es1 h2
    obtain ⟨d2, k2⟩ := k l es2 h3
    exact g.ap j l q d1 d2 k1 k2
/-- an own list is laid to what stays -/
theorem Sg.freeze {K : PySem.W.Frag} {G0 G1 H0 H1 : Hp} {σ : St} {Γ : Env} (g : Sg K G0 G1 H0 H1 σ Γ) {i : Nat} {p : Addr} {ds : List D} (e : Γ[i]? = some (.own p ds)) :
    ∃ J0, Tr G0 G1 J0 H1 ∧ Sg K G0 G1 J0 H1 σ (Γ.set i (.val (.lst ds))) := by
  obtain ⟨e1, n, vs, h1, rv⟩ := g.at e
  have gn := g.ow i p ds e
  have hi : i < Γ.length := (List.getElem?_eq_some_iff.mp e).1
  have sub : Same (upd H0 p (.lst vs)) H1 := fun b x q => by
    by_cases hb : b = p
    · subst hb
      rw [upd_same] at q
      rw [h1]
      exact q
    · rw [upd_ne hb] at q
      exact g.st.sub b x q
  have T : Tr G0 G1 (upd H0 p (.lst vs)) H1 := ⟨g.tr.s0.trans (same_upd n), g.tr.s1, sub, fun q x h m => by
    rw [upd_ne (ne_of_none h gn)]
    exact g.tr.out q x h m⟩
  refine ⟨upd H0 p (.lst vs), T, ⟨sub, by rw [List.length_set]; exact g.st.len, fun j s q => ?_⟩, T, fun j q es' h => g.ow j q es' (set_own h), fun j l q es1 es2 h2 h3 => g.ap j l q es1 es2 (set_own h2) (set_own h3)⟩
  by_cases hj : i = j
  · subst hj
    rw [List.getElem?_set_self hi] at q
    cases q
    exact ⟨some (.ref p), e1, .ref p, rfl, .lst upd_same (rv.mono (same_upd n))⟩
  · rw [List.getElem?_set_ne hj] at q
    obtain ⟨o, q1, q2⟩ := g.st.sl j s q
    refine ⟨o, q1, ?_⟩
    cases s with
    | no => trivial
    | val d =>
      obtain ⟨v, z1, z2⟩ := q2
      exact ⟨v, z1, z2.mono (same_upd n)⟩
    | own p' ds' =>
      obtain ⟨z1, z2, vs', z3, z4⟩ := q2
      have hp : p' ≠ p := fun z => by
        subst z
        exact hj (g.ap i j p' ds ds' e q)
      exact ⟨z1, by rw [upd_ne hp]; exact z2, vs', z3, z4.mono (same_upd n)⟩
section
variable {X : Cx} {Γ Γ' : Env} {a b c e : Expr} {es : List Expr} {pos p : Pos} {i j : Int} {st : Stmt} {ss rest : List Stmt} {P : Po} {d : D} {ds : List D} {x : Str}
theorem sb_nil (h : P.nx Γ) : SB X Γ [] P := fun W tk G0 G1 H0 H1 σ g D F => wss_of pss_nil (F.nx Γ σ H0 H1 g h)
theorem sb_cons (h : S1 X Γ st { P with nx := fun Γ' => SB X Γ' rest P }) : SB X Γ (st :: rest) P := fun W tk G0 G1 H0 H1 σ g D F =>
  wss_of (pss_cons ps_ws pss_ws) (h W tk G0 G1 H0 H1 σ g _ ⟨fun Γ' τ J0 J1 g' q => q W tk G0 G1 J0 J1 τ g' D F, F.bk, F.ct, F.rt, F.ex⟩)
theorem does_wk {t : TS} (w : Wk Γ Γ') (h : Does X t Γ' P) : Does X t Γ P := fun W tk G0 G1 H0 H1 σ g D F => h W tk G0 G1 H0 H1 σ (g.wk w) D F
theorem does_freeze {t : TS} {i : Nat} {p : Addr} (e : Γ[i]? = some (.own p ds)) (h : Does X t (Γ.set i (.val (.lst ds))) P) : Does X t Γ P := fun W tk G0 G1 H0 H1 σ g D F => by
  obtain ⟨J0, _, g'⟩ := g.freeze e
  exact h W tk G0 G1 J0 H1 σ g' D F
theorem does_imp {t : TS} {P' : Po} (h : Does X t Γ P') (n : ∀ Γ', P'.nx Γ' → P.nx Γ') (r : ∀ d, P'.rt d → P.rt d) (x : ∀ e Γ', P'.ex e Γ' → P.ex e Γ') (b : ∀ Γ', P'.bk Γ' → P.bk Γ') (c : ∀ Γ', P'.ct Γ' → P.ct Γ') : Does X t Γ P :=
  fun W tk G0 G1 H0 H1 σ g D F => h W tk G0 G1 H0 H1 σ g D ⟨fun Γ' τ J0 J1 g' q => F.nx Γ' τ J0 J1 g' (n _ q), fun Γ' τ J0 J1 g' q => F.bk Γ' τ J0 J1 g' (b _ q), fun Γ' τ J0 J1 g' q => F.ct Γ' τ J0 J1 g' (c _ q),
    fun d v J0 J1 t rv q => F.rt d v J0 J1 t rv (r _ q), fun e cls dd Γ' τ J0 J1 g' k q => F.ex e cls dd Γ' τ J0 J1 g' k (x _ _ q)⟩
theorem s1_pass (h : P.nx Γ) : S1 X Γ (.Pass pos) P := fun W tk G0 G1 H0 H1 σ g D F => ws_of ps_pass (F.nx Γ σ H0 H1 g h)
theorem s1_break (h : P.bk Γ) : S1 X Γ (.Break pos) P := fun W tk G0 G1 H0 H1 σ g D F => ws_of ps_break (F.bk Γ σ H0 H1 g h)
theorem s1_continue (h : P.ct Γ) : S1 X Γ (.Continue pos) P := fun W tk G0 G1 H0 H1 σ g D F => ws_of ps_continue (F.ct Γ σ H0 H1 g h)
theorem s1_ret (h : EV X Γ e d) (q : P.rt d) : S1 X Γ (.Return (some e) pos) P := fun W tk G0 G1 H0 H1 σ g D F =>
  ws_of (ps_ret pe_we) (h H0 H1 σ g.st _ fun v J0 J1 t r => F.rt d v J0 J1 (g.tr.trans t) r q)
theorem s1_retX {xn : Exn} (h : EX X Γ e xn) (q : P.ex xn Γ) : S1 X Γ (.Return (some e) pos) P := fun W tk G0 G1 H0 H1 σ g D F =>
  ws_of (ps_ret pe_we) (fun pins s I => thn (h W tk H0 H1 σ g.st (fun cls dd J0 J1 t k => F.ex xn cls dd Γ σ J0 J1 (g.tr' t) k q) pins s I) fun u s' ⟨_, _, _, _, z⟩ => z.elim)
theorem s1_retN (q : P.rt .non) : S1 X Γ (.Return none pos) P := fun W tk G0 G1 H0 H1 σ g D F => ws_of ps_retN (F.rt .non .non H0 H1 g.tr .non q)
theorem s1_expr (h : EV X Γ e d) (q : P.nx Γ) (hs : swapsWith e none pos.line X.env = pure false := by rfl) : S1 X Γ (.Expr e pos) P := fun W tk G0 G1 H0 H1 σ g D F =>
  ws_of (ps_expr pe_we hs) (h H0 H1 σ g.st _ fun v J0 J1 t r => F.nx Γ σ J0 J1 (g.tr' t) q)
theorem s1_exprX {xn : Exn} (h : EX X Γ e xn) (q : P.ex xn Γ) (hs : swapsWith e none pos.line X.env = pure false := by rfl) : S1 X Γ (.Expr e pos) P := fun W tk G0 G1 H0 H1 σ g D F =>
  ws_of (ps_expr pe_we hs) (fun pins s I => thn (h W tk H0 H1 σ g.st (fun cls dd J0 J1 t k => F.ex xn cls dd Γ σ J0 J1 (g.tr' t) k q) pins s I) fun u s' ⟨_, _, _, _, z⟩ => z.elim)
theorem s1_set (i : Nat) {pos' : Pos} (h : EV X Γ e d) (q : P.nx (Γ.set i (.val d))) (hN : X.N.Nodup) (hi : X.N[i]? = some x := by rfl) (hx : Loc X.env.scope x := by first | exact Or.inl rfl | exact Or.inr rfl) (hs : swapsWith e (some (.Name x pos')) pos.line X.env = pure false := by rfl)
    (hf : X.fn x = true ∨ X.env.scope.names.lookup x = some .local := by first | exact .inl rfl | exact .inr rfl) : S1 X Γ (.Assign [.Name x pos'] e pos) P := fun W tk G0 G1 H0 H1 σ g D F =>
  ws_of (ps_set hN hi hx pe_we hs hf) (h H0 H1 σ g.st _ fun v J0 J1 t r => F.nx _ _ J0 J1 ((g.tr' t).put r) q)
/-- x = a new list: it is one's own -/
theorem Sg.own {K : PySem.W.Frag} {G0 G1 H0 H1 J0 J1 : Hp} {σ : St} {Γ : Env} (g : Sg K G0 G1 H0 H1 σ Γ) {i : Nat} {p : Addr} {vs : List V} {ds : List D} (t : Tr H0 H1 J0 J1) (n : H1 p = none) (n0 : J0 p = none) (e : J1 p = some (.lst vs)) (r : RpL K J0 vs ds) :
    Sg K G0 G1 J0 J1 (σ.set i (some (.ref p))) (Γ.set i (.own p ds)) := by
  have g' := g.tr' t
  have old : ∀ (j : Nat) (es : List D), Γ[j]? = some (.own p es) → False := fun j es h => by
    obtain ⟨_, _, vs, h1, _⟩ := g.at h
    rw [n] at h1
    cases h1
  have k : ∀ (j : Nat) (q : Addr) (es : List D), (Γ.set i (.own p ds))[j]? = some (.own q es) → (j = i ∧ q = p) ∨ (j ≠ i ∧ Γ[j]? = some (.own q es)) := fun j q es h => by
    by_cases hj : i = j
    · subst hj
      by_cases hl : i < Γ.length
      · rw [List.getElem?_set_self hl] at h
        cases h
        exact .inl ⟨rfl, rfl⟩
      · rw [List.getElem?_eq_none (by rw [List.length_set]; omega)] at h
        cases h
    · rw [List.getElem?_set_ne hj] at h
      exact .inr ⟨fun z => hj z.symm, h⟩
  refine ⟨g'.st.set ⟨rfl, n0, vs, e, r⟩, g'.tr, fun j q es h => ?_, fun j l q es1 es2 h1 h2 => ?_⟩
  · rcases k j q es h with ⟨_, rfl⟩ | ⟨_, z⟩
    · exact g.tr.s1.free n
    · exact g.ow j q es z
  · rcases k j q es1 h1 with ⟨rfl, rfl⟩ | ⟨a1, z1⟩
    · rcases k l q es2 h2 with ⟨rfl, _⟩ | ⟨a2, z2⟩
      · rfl
      · exact (old l es2 z2).elim
    · rcases k l q es2 h2 with ⟨rfl, rfl⟩ | ⟨a2, z2⟩
      · exact (old j es1 z1).elim
      · exact g.ap j l q es1 es2 z1 z2
theorem s1_own (i : Nat) {pos' : Pos} (h : EN X Γ e ds) (q : ∀ p, P.nx (Γ.set i (.own p ds))) (hN : X.N.Nodup) (hi : X.N[i]? = some x := by rfl) (hx : Loc X.env.scope x := by first | exact Or.inl rfl | exact Or.inr rfl) (hs : swapsWith e (some (.Name x pos')) pos.line X.env = pure false := by rfl)
    (hf : X.fn x = true ∨ X.env.scope.names.lookup x = some .local := by first | exact .inl rfl | exact .inr rfl) : S1 X Γ (.Assign [.Name x pos'] e pos) P := fun W tk G0 G1 H0 H1 σ g D F =>
  ws_of (ps_set hN hi hx pe_we hs hf) (h H0 H1 σ g.st _ fun p vs J0 J1 t n n0 e r => F.nx _ _ J0 J1 (g.own t n n0 e r) (q p))
theorem s1_if {k : Bool} {A B : List Stmt} (h : ET X Γ c k) (h1 : k = true → SB X Γ A P) (h2 : k = false → SB X Γ B P) : S1 X Γ (.If c A B pos) P := fun W tk G0 G1 H0 H1 σ g D F =>
  ws_of (ps_if pt_wt pss_ws pss_ws) (h H0 H1 σ g.st _ fun J0 J1 t => by
    cases k with
    | true =>
      rw [if_pos rfl]
      exact h1 rfl W tk G0 G1 J0 J1 σ (g.tr' t) D F
    | false =>
      rw [if_neg Bool.false_ne_true]
      exact h2 rfl W tk G0 G1 J0 J1 σ (g.tr' t) D F)
/-- own.append(e) -/
theorem s1_append (i : Nat) {q : Addr} {apos cpos : Pos} (h : EV X Γ e d) (ho : Γ[i]? = some (.own q ds)) (hz : ds.length < 100000) (k : P.nx (Γ.set i (.own q (ds ++ [d])))) (hN : X.N[i]? = some x := by rfl)
    (hv : Vis X.env.scope x := by first | exact Or.inl rfl | exact Or.inr (Or.inl rfl) | exact Or.inr (Or.inr rfl)) (h1 : (x == ("__debug__" : Str)) = false := by decide) (h2 : (x == ("__classdict__" : Str)) = false := by decide)
    (hbase : attributeBase (.Name x p) "append" X.env (eval (.Name x p) X.env) = eval (.Name x p) X.env := by rfl)
    (hfew : ((backTo cpos (starEach [e] X.env)).all (fun x => !x.1) && (backToKw cpos (keywordEach [] X.env)).all (fun x => x.1.isSome)
      && decide (([e] : List Expr).length + ([] : List Keyword).length + (if ([] : List Keyword).isEmpty then 0 else 1) < 30)) = true := by rfl) (hline : (apos.endLine == cpos.line) = true := by rfl) (hpl : (backTo cpos (starEach [] X.env)).any (·.1) = false := by rfl) (hs1 : starEach [e] X.env = (false, eval e X.env) :: starEach [] X.env := by rfl)
    (hs : swapsWith (.Call (.Attribute (.Name x p) "append" apos) [e] [] cpos) none pos.line X.env = pure false := by rfl) : S1 X Γ (.Expr (.Call (.Attribute (.Name x p) "append" apos) [e] [] cpos) pos) P := fun W tk G0 G1 H0 H1 σ g D F => by
  obtain ⟨e1, n, vs, hp, rv⟩ := g.at ho
  refine ws_of (ps_expr (pe_bm PySem.F.plainAttrs_list PySem.F.slot_list_append PySem.F.type_list_append mt_append (pe_var hN hv h1 h2) pa_wa hbase hfew hline hs1 hpl) hs) ?_
  refine ⟨.ref q, e1, .inl ⟨rfl, _, .inl (.inl hp)⟩, ?_⟩
  refine ea_cons h ea_nil hs1 H0 H1 σ g.st _ fun ws J0 J1 t r => ?_
  obtain ⟨y, rfl, ry⟩ := rpl1 r
  have g' := g.tr' t
  refine ⟨q, vs, y, rfl, rfl, t.s1 _ _ hp, by rw [rv.length]; exact sz' hz, ?_⟩
  exact F.nx _ _ J0 _ (g'.write ho ((rv.mono t.s0).append (.cons ry .nil))) k
/-! ### targets -/
def OwnSub (Γ Γ' : Env) : Prop := ∀ (j : Nat) (p : Addr) (ds : List D), Γ'[j]? = some (.own p ds) → Γ[j]? = some (.own p ds)
theorem OwnSub.refl (Γ : Env) : OwnSub Γ Γ := fun _ _ _ h => h
theorem OwnSub.trans {A B C : Env} (a : OwnSub A B) (b : OwnSub B C) : OwnSub A C := fun j p ds h => a j p ds (b j p ds h)
/-- the target tg takes d: Γ becomes Γ'; only the slots sl are stored to -/
def BG (X : Cx) (tg : Expr) (Γ : Env) (d : D) (Γ' : Env) (sl : List Nat) : Prop := OwnSub Γ Γ' ∧ Γ'.length = Γ.length ∧
  ∀ H0 H1 σ v, Stt X.K H0 H1 σ Γ → Rp X.K H0 v d → ∀ Q : St → Hp → Prop, (∀ τ : St, Stt X.K H0 H1 τ Γ' → (∀ j : Nat, j ∉ sl → τ[j]? = σ[j]?) → Q τ H1) → WG X tg v σ H1 Q
def BGs (X : Cx) (ts : List Expr) (Γ : Env) (ds : List D) (Γ' : Env) (sl : List Nat) : Prop := OwnSub Γ Γ' ∧ Γ'.length = Γ.length ∧
  ∀ H0 H1 σ vs, Stt X.K H0 H1 σ Γ → RpL X.K H0 vs ds → ∀ Q : St → Hp → Prop, (∀ τ : St, Stt X.K H0 H1 τ Γ' → (∀ j : Nat, j ∉ sl → τ[j]? = σ[j]?) → Q τ H1) → WGs X ts vs σ H1 Q
theorem bg_name (i : Nat) (hN : X.N.Nodup) (hi : X.N[i]? = some x := by rfl) (hx : Loc X.env.scope x := by first | exact Or.inl rfl | exact Or.inr rfl) (hf : X.fn x = true ∨ X.env.scope.names.lookup x = some .local := by first | exact .inl rfl | exact .inr rfl) :
    BG X (.Name x pos) Γ d (Γ.set i (.val d)) [i] := ⟨fun j p ds h => set_own h, List.length_set, fun H0 H1 σ v g r Q q => wg_of (pg_name hN hi hx hf) (q _ (g.put r) fun j hj => List.getElem?_set_ne fun z => hj (by rw [z]; exact List.mem_singleton.mpr rfl))⟩
theorem bgs_nil : BGs X [] Γ [] Γ [] := ⟨OwnSub.refl _, rfl, fun H0 H1 σ vs g r Q q => by
  cases r
  exact wgs_of pgs_nil ⟨rfl, q σ g fun _ _ => rfl⟩⟩
theorem bgs_cons {t : Expr} {ts : List Expr} {Γ1 Γ2 : Env} {s1 s2 : List Nat} (h : BG X t Γ d Γ1 s1) (hr : BGs X ts Γ1 ds Γ2 s2) (hs : (assignEach (t :: ts) X.env).map (·.2) = assign t X.env :: (assignEach ts X.env).map (·.2) := by rfl) : BGs X (t :: ts) Γ (d :: ds) Γ2 (s1 ++ s2) := ⟨h.1.trans hr.1, hr.2.1.trans h.2.1, fun H0 H1 σ vs g r Q q => by
  cases r with
  | cons r1 r2 =>
    refine wgs_of (pgs_cons pg_wg pgs_wg hs) ⟨_, _, rfl, ?_⟩
    exact h.2.2 H0 H1 σ _ g r1 _ fun τ g1 k1 => hr.2.2 H0 H1 τ _ g1 r2 Q fun τ' g2 k2 => q τ' g2 fun j hj => (k2 j fun z => hj (List.mem_append_right _ z)).trans (k1 j fun z => hj (List.mem_append_left _ z))⟩
theorem bg_tup {ts : List Expr} {k : Nat} {sl : List Nat} (h : BGs X ts Γ ds Γ' sl) (hc : X.calm = true) (hl : ds.length = ts.length := by rfl) (hn : (assignEach ts X.env).length = ts.length := by rfl) (hst : (assignEach ts X.env).findIdx? (·.1) = none := by rfl) : BG X (.Tuple ts k pos) Γ (.tup ds) Γ' sl := ⟨h.1, h.2.1, fun H0 H1 σ v g r Q q => by
  cases r with
  | tup e r =>
    exact wg_of (pg_tup hc pgs_wg hn hst) ⟨_, _, rfl, same_tq g.sub e, by rw [r.length, hl], h.2.2 H0 H1 σ _ g r Q q⟩⟩
theorem bg_lst {ts : List Expr} {k : Nat} {sl : List Nat} (h : BGs X ts Γ ds Γ' sl) (hx : d.lss = some ds) (hc : X.calm = true) (hl : ds.length = ts.length := by rfl) (hn : (assignEach ts X.env).length = ts.length := by rfl) (hst : (assignEach ts X.env).findIdx? (·.1) = none := by rfl) : BG X (.Tuple ts k pos) Γ d Γ' sl := ⟨h.1, h.2.1, fun H0 H1 σ v g r Q q => by
  obtain ⟨a, vs, rfl, e, r⟩ := r.lss hx
  exact wg_of (pg_lst hc pgs_wg hn hst) ⟨_, _, rfl, g.sub.seq e, by rw [r.length, hl], h.2.2 H0 H1 σ _ g r Q q⟩⟩
theorem Sg.sub {K : PySem.W.Frag} {G0 G1 H0 H1 : Hp} {σ τ : St} {Γ Γ' : Env} (g : Sg K G0 G1 H0 H1 σ Γ) (o : OwnSub Γ Γ') (s : Stt K H0 H1 τ Γ') : Sg K G0 G1 H0 H1 τ Γ' :=
  ⟨s, g.tr, fun j p ds h => g.ow j p ds (o j p ds h), fun j l p ds es h1 h2 => g.ap j l p ds es (o j p ds h1) (o l p es h2)⟩
theorem s1_asg {tg : Expr} {sl : List Nat} (h : EV X Γ e d) (hg : BG X tg Γ d Γ' sl) (q : P.nx Γ') (hs : swapsWithSole [tg] e pos.line X.env = pure false := by rfl) (hw : swappedStores [tg] e X.env = pure none := by rfl)
    (h1 : (assignEach [tg] X.env).map (·.2) = [assign tg X.env] := by rfl) : S1 X Γ (.Assign [tg] e pos) P := fun W tk G0 G1 H0 H1 σ g D F =>
  ws_of (ps_asg pe_we pg_wg hs hw h1) (h H0 H1 σ g.st _ fun v J0 J1 t r => hg.2.2 J0 J1 σ v (g.st.tr t) r _ fun τ s _ => F.nx _ _ J0 J1 ((g.tr' t).sub hg.1 s) q)
/-- a, b = x, y -/
theorem s1_par (i j : Nat) {x y : Str} {px py pt : Pos} {kt k2 pt2} {u v : D} (ha : EV X Γ a u) (hb : EV X Γ b v) (q : P.nx ((Γ.set i (.val u)).set j (.val v))) (hc : X.calm = true) (hN : X.N.Nodup) (hi : X.N[i]? = some x := by rfl) (hj : X.N[j]? = some y := by rfl) (hij : i ≠ j := by decide)
    (hx : X.env.scope.names.lookup x = some .local := by rfl) (hy : X.env.scope.names.lookup y = some .local := by rfl) (hs1 : starEach [a, b] X.env = (false, eval a X.env) :: starEach [b] X.env := by rfl) (hs2 : starEach [b] X.env = (false, eval b X.env) :: starEach [] X.env := by rfl)
    (hw : swappedStores [.Tuple [.Name x px, .Name y py] kt pt] (.Tuple [a, b] k2 pt2) X.env = pure (some [x, y]) := by rfl)
    (hs : swapsWithSole [.Tuple [.Name x px, .Name y py] kt pt] (.Tuple [a, b] k2 pt2) pos.line X.env = pure false := by rfl) : S1 X Γ (.Assign [.Tuple [.Name x px, .Name y py] kt pt] (.Tuple [a, b] k2 pt2) pos) P := fun W tk G0 G1 H0 H1 σ g D F => by
  refine ws_of (ps_par hc hN hi hj hij hx hy pa_wa hw hs) ?_
  refine ea_cons ha (ea_cons hb ea_nil hs2) hs1 H0 H1 σ g.st _ fun vs J0 J1 t r => ?_
  obtain ⟨v1, v2, rfl, r1, r2⟩ := rpl2 r
  exact ⟨v1, v2, rfl, F.nx _ _ J0 J1 (((g.tr' t).put r1).put r2) q⟩
end
end Dl
namespace Dl
open PySem PySem.Spec PyProof.Rows L2

/-! ## what is walked -/
structure JOk (K : PySem.W.Frag) (J : It) (H0 : Hp) (ds : List D) : Prop where
  go : ∀ (i : Nat) A0 A1 d, Same H0 A0 → Same A0 A1 → ds[i]? = some d → J.go i A1 ∧ ∀ x B1, J.yld i A1 x B1 → ∃ B0, Tr A0 A1 B0 B1 ∧ Rp K B0 x d
  st : ∀ A0 A1, Same H0 A0 → Same A0 A1 → J.stop ds.length A1
def IV (X : Cx) (Γ : Env) (tg it : Expr) (ds : List D) : Prop := ∀ H0 H1 σ, Stt X.K H0 H1 σ Γ → ∀ R : It → Hp → Prop, (∀ J J0 J1, Tr H0 H1 J0 J1 → JOk X.K J J0 ds → R J J1) → WI X tg it σ H1 R
section
variable {X : Cx} {Γ : Env} {tg a b c e it : Expr} {es : List Expr} {pos p : Pos} {d d' : D} {ds ds' : List D}
theorem jok_list {K : PySem.W.Frag} {H0 : Hp} {a : Addr} {vs : List V} (e : SqL K H0 a vs) (r : RpL K H0 vs ds) : JOk K (Itl K a) H0 ds where
  go := fun i A0 A1 d s t h => by
    obtain ⟨v, hv, rv⟩ := r.get h
    refine ⟨⟨vs, v, (s.trans t).seq e, hv⟩, fun x B1 ⟨q1, q2⟩ => ?_⟩
    subst q1
    have z := q2 vs ((s.trans t).seq e)
    rw [hv] at z
    cases z
    exact ⟨A0, Tr.refl t, rv.mono s⟩
  st := fun A0 A1 s t => ⟨vs, (s.trans t).seq e, by rw [r.length]; exact Nat.le_refl _⟩
theorem jok_tup {K : PySem.W.Frag} {H0 : Hp} {a : Addr} {vs : List V} (e : SqT K H0 a vs) (r : RpL K H0 vs ds) : JOk K (Itt K a) H0 ds where
  go := fun i A0 A1 d s t h => by
    obtain ⟨v, hv, rv⟩ := r.get h
    refine ⟨⟨vs, v, same_tq (s.trans t) e, hv⟩, fun x B1 ⟨q1, q2⟩ => ?_⟩
    subst q1
    have z := q2 vs (same_tq (s.trans t) e)
    rw [hv] at z
    cases z
    exact ⟨A0, Tr.refl t, rv.mono s⟩
  st := fun A0 A1 s t => ⟨vs, same_tq (s.trans t) e, by rw [r.length]; exact Nat.le_refl _⟩
theorem iv_list (h : EV X Γ it d) (hd : d.lss = some ds) : IV X Γ tg it ds := fun H0 H1 σ S R q =>
  wi_of (pi_list pe_we) (h H0 H1 σ S _ fun v J0 J1 t r => by
    obtain ⟨a, vs, rfl, e, rl⟩ := r.lss hd
    exact ⟨a, rfl, ⟨vs, t.in'.seq e⟩, q _ J0 J1 t (jok_list e rl)⟩)
theorem iv_new (h : EN X Γ it ds) : IV X Γ tg it ds := iv_list (ev_new h) rfl
theorem iv_tup (h : EV X Γ it (.tup ds)) : IV X Γ tg it ds := fun H0 H1 σ S R q =>
  wi_of (pi_tup pe_we) (h H0 H1 σ S _ fun v J0 J1 t r => by
    cases r with
    | tup e rl => exact ⟨_, rfl, ⟨_, same_tq t.in' e⟩, q _ J0 J1 t (jok_tup e rl)⟩)
theorem jok_range {K : PySem.W.Frag} {H0 : Hp} {lo : Int} {n : Nat} : JOk K (Itr lo n) H0 ((List.range n).map fun (k : Nat) => D.int (lo + (k : Int))) where
  go := fun i A0 A1 d s t h => by
    rw [List.getElem?_map] at h
    have hi : i < n := by
      by_cases hi : i < n
      · exact hi
      · rw [List.getElem?_eq_none (by rw [List.length_range]; omega)] at h
        cases h
    rw [List.getElem?_range hi] at h
    cases h
    refine ⟨hi, fun x B1 ⟨q1, q2⟩ => ?_⟩
    subst q1 q2
    exact ⟨A0, Tr.refl t, .int _⟩
  st := fun A0 A1 s t => by
    show n ≤ _
    rw [List.length_map, List.length_range]
    exact Nat.le_refl _
theorem iv_range1 {n : Int} (h : EV X Γ a (.int n)) (hn : n < 2 ^ 62) (hm : X.mg "range" = none) (hn0 : -(2 ^ 62) ≤ n) (hg : Gl X "range" := by rfl) (hs : starEach [a] X.env = [(false, eval a X.env)] := by rfl) :
    IV X Γ tg (.Call (.Name "range" p) [a] [] pos) ((List.range n.toNat).map fun (k : Nat) => D.int (k : Int)) := fun H0 H1 σ S R q =>
  wi_of (pi_range1 hg hm pa_wa hs) (ea_cons h ea_nil hs H0 H1 σ S _ fun vs J0 J1 t r => by
    obtain ⟨v, rfl, r1⟩ := rpl1 r
    cases r1
    refine ⟨n, rfl, hn0, hn, q _ J0 J1 t ?_⟩
    have z := jok_range (K := X.K) (H0 := J0) (lo := 0) (n := n.toNat)
    have e : ((List.range n.toNat).map fun (k : Nat) => D.int (0 + (k : Int))) = (List.range n.toNat).map fun (k : Nat) => D.int (k : Int) := List.map_congr_left fun (k : Nat) _ => by rw [Int.zero_add]
    rw [e] at z
    exact z)
theorem iv_range2 {m n : Int} (h : EV X Γ a (.int m)) (h2 : EV X Γ b (.int n)) (hb : -(2 ^ 62) ≤ m ∧ m < 2 ^ 62 ∧ -(2 ^ 62) ≤ n ∧ n < 2 ^ 62) (hm : X.mg "range" = none) (hg : Gl X "range" := by rfl) (hs : starEach [a, b] X.env = [(false, eval a X.env), (false, eval b X.env)] := by rfl) (hs2 : starEach [b] X.env = [(false, eval b X.env)] := by rfl) :
    IV X Γ tg (.Call (.Name "range" p) [a, b] [] pos) ((List.range (n - m).toNat).map fun (k : Nat) => D.int (m + (k : Int))) := fun H0 H1 σ S R q =>
  wi_of (pi_range2 hg hm pa_wa hs hs2) (ea_cons h (ea_cons h2 ea_nil hs2) (by rw [hs, hs2]) H0 H1 σ S _ fun vs J0 J1 t r => by
    obtain ⟨v, w, rfl, r1, r2⟩ := rpl2 r
    cases r1
    cases r2
    exact ⟨m, n, rfl, hb, q _ J0 J1 t jok_range⟩)
/-- enumerate: (place, item) -/
def enumD (ds : List D) : List D := ds.zipIdx.map fun p => .tup [.int (p.2 : Int), p.1]
theorem enumD_get {i : Nat} {d : D} (h : (enumD ds)[i]? = some d) : ∃ x, ds[i]? = some x ∧ d = .tup [.int (i : Int), x] := by
  unfold enumD at h
  rw [List.getElem?_map, List.getElem?_zipIdx] at h
  cases e : ds[i]? with
  | none => rw [e] at h; cases h
  | some x =>
    rw [e] at h
    simp at h
    exact ⟨x, rfl, h.symm⟩
theorem jok_enum {K : PySem.W.Frag} {H0 : Hp} {a : Addr} {vs : List V} (e : SqL K H0 a vs) (r : RpL K H0 vs ds) : JOk K (Ite K a) H0 (enumD ds) where
  go := fun i A0 A1 d s t h => by
    obtain ⟨x, hx, rfl⟩ := enumD_get h
    obtain ⟨v, hv, rv⟩ := r.get hx
    refine ⟨⟨vs, v, (s.trans t).seq e, hv⟩, fun y B1 ⟨T, z, q1, q2, q3, q4⟩ => ?_⟩
    subst q1 q3
    have w := q4 vs ((s.trans t).seq e)
    rw [hv] at w
    cases w
    exact ⟨_, Tr.new t q2, .tup (.inl (.inl upd_same)) (.cons (.int _) (.cons ((rv.mono s).mono (same_upd (t.free q2))) .nil))⟩
  st := fun A0 A1 s t => ⟨vs, (s.trans t).seq e, by
    unfold enumD
    rw [r.length, List.length_map, List.length_zipIdx]
    exact Nat.le_refl _⟩
theorem iv_enum {elts : List Expr} {kk : Nat} {tpos : Pos} (h : EV X Γ a d) (hd : d.lss = some ds) (hm : X.mg "enumerate" = none) (hg : Gl X "enumerate" := by rfl) (hs : starEach [a] X.env = [(false, eval a X.env)] := by rfl) :
    IV X Γ (.Tuple elts kk tpos) (.Call (.Name "enumerate" p) [a] [] pos) (enumD ds) := fun H0 H1 σ S R q =>
  wi_of (pi_enum hg hm pa_wa hs) (ea_cons h ea_nil hs H0 H1 σ S _ fun vs J0 J1 t r => by
    obtain ⟨v, rfl, r1⟩ := rpl1 r
    obtain ⟨a, ws, rfl, e, rl⟩ := r1.lss hd
    exact ⟨a, ws, rfl, t.in'.seq e, q _ J0 J1 t (jok_enum e rl)⟩)
/-- zip -/
def zipD (ds es : List D) : List D := (ds.zip es).map fun p => .tup [p.1, p.2]
theorem zipD_get {i : Nat} {d : D} {es : List D} (h : (zipD ds es)[i]? = some d) : ∃ x y, ds[i]? = some x ∧ es[i]? = some y ∧ d = .tup [x, y] := by
  unfold zipD at h
  rw [List.getElem?_map] at h
  cases e : (ds.zip es)[i]? with
  | none => rw [e] at h; cases h
  | some q =>
    rw [e] at h
    have z := List.getElem?_zip_eq_some.mp e
    simp at h
    exact ⟨q.1, q.2, z.1, z.2, h.symm⟩
theorem zipD_len {es : List D} : (zipD ds es).length = min ds.length es.length := by
  unfold zipD
  rw [List.length_map, List.length_zip]
theorem jok_zip {K : PySem.W.Frag} {H0 : Hp} {a b : Addr} {vs ws : List V} (e : SqL K H0 a vs) (r : RpL K H0 vs ds) (e2 : SqL K H0 b ws) (r2 : RpL K H0 ws ds') : JOk K (Itz K a b) H0 (zipD ds ds') where
  go := fun i A0 A1 d s t h => by
    obtain ⟨x, y, hx, hy, rfl⟩ := zipD_get h
    obtain ⟨v, hv, rv⟩ := r.get hx
    obtain ⟨w, hw, rw'⟩ := r2.get hy
    refine ⟨⟨vs, ws, v, w, (s.trans t).seq e, (s.trans t).seq e2, hv, hw⟩, fun u B1 ⟨T, z1, z2, q1, q2, q3, q4, q5⟩ => ?_⟩
    subst q1 q3
    have k1 := q4 vs ((s.trans t).seq e)
    have k2 := q5 ws ((s.trans t).seq e2)
    rw [hv] at k1
    rw [hw] at k2
    cases k1
    cases k2
    exact ⟨_, Tr.new t q2, .tup (.inl (.inl upd_same)) (.cons ((rv.mono s).mono (same_upd (t.free q2))) (.cons ((rw'.mono s).mono (same_upd (t.free q2))) .nil))⟩
  st := fun A0 A1 s t => ⟨vs, ws, (s.trans t).seq e, (s.trans t).seq e2, by rw [r.length, r2.length, zipD_len]; omega⟩
theorem jok_zipT {K : PySem.W.Frag} {H0 : Hp} {a b : Addr} {vs ws : List V} (e : SqT K H0 a vs) (r : RpL K H0 vs ds) (e2 : SqT K H0 b ws) (r2 : RpL K H0 ws ds') : JOk K (RZ.ItzT K a b) H0 (zipD ds ds') where
  go := fun i A0 A1 d s t h => by
    obtain ⟨x, y, hx, hy, rfl⟩ := zipD_get h
    obtain ⟨v, hv, rv⟩ := r.get hx
    obtain ⟨w, hw, rw'⟩ := r2.get hy
    refine ⟨⟨vs, ws, v, w, same_tq (s.trans t) e, same_tq (s.trans t) e2, hv, hw⟩, fun u B1 ⟨T, z1, z2, q1, q2, q3, q4, q5⟩ => ?_⟩
    subst q1 q3
    have k1 := q4 vs (same_tq (s.trans t) e)
    have k2 := q5 ws (same_tq (s.trans t) e2)
    rw [hv] at k1
    rw [hw] at k2
    cases k1
    cases k2
    exact ⟨_, Tr.new t q2, .tup (.inl (.inl upd_same)) (.cons ((rv.mono s).mono (same_upd (t.free q2))) (.cons ((rw'.mono s).mono (same_upd (t.free q2))) .nil))⟩
  st := fun A0 A1 s t => ⟨vs, ws, same_tq (s.trans t) e, same_tq (s.trans t) e2, by rw [r.length, r2.length, zipD_len]; omega⟩
theorem iv_zip {elts : List Expr} {kk : Nat} {tpos : Pos} (h : EV X Γ a d) (hd : d.lss = some ds) (h2 : EV X Γ b d') (hd2 : d'.lss = some ds') (hm : X.mg "zip" = none) (hg : Gl X "zip" := by rfl) (hs : starEach [a, b] X.env = (false, eval a X.env) :: starEach [b] X.env := by rfl)
    (hs2 : starEach [b] X.env = (false, eval b X.env) :: starEach [] X.env := by rfl) (hpl : (backTo pos (starEach [b] X.env)).any (·.1) = false := by rfl) :
    IV X Γ (.Tuple elts kk tpos) (.Call (.Name "zip" p) [a, b] [] pos) (zipD ds ds') := fun H0 H1 σ S R q =>
  wi_of (RZ.pi_zipA hg hm pa_wa hs hpl) (ea_cons h (ea_cons h2 ea_nil hs2) hs H0 H1 σ S _ fun vs J0 J1 t r => by
    obtain ⟨v, w, rfl, r1, r2⟩ := rpl2 r
    obtain ⟨a, ws, rfl, e, rl⟩ := r1.lss hd
    obtain ⟨b, zs, rfl, e2, rl2⟩ := r2.lss hd2
    exact ⟨a, b, ws, zs, rfl, .inl ⟨t.in'.seq e, t.in'.seq e2, q _ J0 J1 t (jok_zip e rl e2 rl2)⟩⟩)
theorem iv_zipT {elts : List Expr} {kk : Nat} {tpos : Pos} (h : EV X Γ a (.tup ds)) (h2 : EV X Γ b (.tup ds')) (hm : X.mg "zip" = none) (hg : Gl X "zip" := by rfl) (hs : starEach [a, b] X.env = (false, eval a X.env) :: starEach [b] X.env := by rfl)
    (hs2 : starEach [b] X.env = (false, eval b X.env) :: starEach [] X.env := by rfl) (hpl : (backTo pos (starEach [b] X.env)).any (·.1) = false := by rfl) :
    IV X Γ (.Tuple elts kk tpos) (.Call (.Name "zip" p) [a, b] [] pos) (zipD ds ds') := fun H0 H1 σ S R q =>
  wi_of (RZ.pi_zipA hg hm pa_wa hs hpl) (ea_cons h (ea_cons h2 ea_nil hs2) hs H0 H1 σ S _ fun vs J0 J1 t r => by
    obtain ⟨v, w, rfl, r1, r2⟩ := rpl2 r
    cases r1 with
    | tup e rl =>
      cases r2 with
      | tup e2 rl2 => exact ⟨_, _, _, _, rfl, .inr ⟨same_tq t.in' e, same_tq t.in' e2, q _ J0 J1 t (jok_zipT e rl e2 rl2)⟩⟩)
/-- a text, sign by sign -/
def signsD (x : Str) : List D := x.cps.toList.map fun c => .str ⟨#[c]⟩
theorem jok_str {K : PySem.W.Frag} {H0 : Hp} {x : Str} : JOk K (Its x) H0 (signsD x) where
  go := fun i A0 A1 d s t h => by
    unfold signsD at h
    rw [List.getElem?_map] at h
    cases e : x.cps.toList[i]? with
    | none => rw [e] at h; cases h
    | some c =>
      rw [e] at h
      cases h
      have e' : x.cps[i]? = some c := by simpa using e
      have hi : i < x.cps.size := (Array.getElem?_eq_some_iff.mp e').1
      refine ⟨hi, fun y B1 ⟨q1, c', q2, q3⟩ => ?_⟩
      subst q1 q3
      rw [e'] at q2
      cases q2
      exact ⟨A0, Tr.refl t, .str _⟩
  st := fun A0 A1 s t => by
    unfold signsD
    rw [List.length_map]
    exact Nat.le_of_eq (by simp)
theorem iv_str {x : Str} (h : EV X Γ it (.str x)) : IV X Γ tg it (signsD x) := fun H0 H1 σ S R q =>
  wi_of (pi_str pe_we) (h H0 H1 σ S _ fun v J0 J1 t r => by
    cases r
    exact ⟨x, rfl, q _ J0 J1 t jok_str⟩)

/-! ## for -/
end
theorem Tr.base {G0 G1 H0 H1 L0 L1 : Hp} (a : Tr G0 G1 H0 H1) (b : Tr H0 G1 L0 L1) : Tr G0 G1 L0 L1 := ⟨a.s0.trans b.s0, b.s1, b.in', fun p o h n => b.out p o h (a.out p o h n)⟩
theorem Sg.rebase {K : PySem.W.Frag} {G0 G1 H0 H1 : Hp} {σ : St} {Γ : Env} (g : Sg K G0 G1 H0 H1 σ Γ) : Sg K H0 G1 H0 H1 σ Γ := ⟨g.st, ⟨Same.refl _, g.tr.s1, g.tr.in', fun _ _ _ n => n⟩, g.ow, g.ap⟩
theorem Sg.unbase {K : PySem.W.Frag} {G0 G1 H0 H1 L0 L1 : Hp} {σ : St} {Γ : Env} (t : Tr G0 G1 H0 H1) (g : Sg K H0 G1 L0 L1 σ Γ) : Sg K G0 G1 L0 L1 σ Γ := ⟨g.st, t.base g.tr, g.ow, g.ap⟩
section
variable {X : Cx} {Γ : Env} {tg a b c e it : Expr} {es : List Expr} {pos p : Pos} {d d' : D} {ds ds' : List D}
theorem s1_for {body : List Stmt} {P : Po} (I : Nat → Env → Prop) (hi : IV X Γ tg it ds) (h0 : I 0 Γ)
    (hs : ∀ (i : Nat) d Γ', ds[i]? = some d → I i Γ' → ∃ Γ'' sl, BG X tg Γ' d Γ'' sl ∧ SB X Γ'' body { P with nx := I (i + 1), ct := I (i + 1), bk := P.nx })
    (hd : ∀ Γ', I ds.length Γ' → P.nx Γ') (hp : PassesOwn (model X.prog X.w) X.A X.env X.xe) (hc : X.calm = true) (hf : ∀ x, foldedSetIterable it X.env x = pure x := by intro _; rfl) : S1 X Γ (.For tg it body [] pos) P := fun W tk G0 G1 H0 H1 σ g D F => by
  refine ws_of (ps_for hp hc pi_wi pg_wg pss_ws hf) ?_
  refine hi H0 H1 σ g.st _ fun J J0 J1 t jk => ?_
  refine ⟨fun i m τ A1 => m = ds.length - i ∧ i ≤ ds.length ∧ ∃ Γ' A0, Same J0 A0 ∧ Sg X.K G0 G1 A0 A1 τ Γ' ∧ I i Γ', ⟨_, rfl, Nat.zero_le _, Γ, J0, Same.refl _, g.tr' t, h0⟩, ?_⟩
  rintro i m τ A1 ⟨rfl, hle, Γ', A0, sm, g', inv⟩
  by_cases hlt : i < ds.length
  · have hd' : ds[i]? = some ds[i] := List.getElem?_eq_getElem hlt
    obtain ⟨q1, q2⟩ := jk.go i A0 A1 _ sm g'.st.sub hd'
    refine .inr ⟨q1, fun τ' B1 => ∃ Γ2 B0, Same J0 B0 ∧ Sg X.K G0 G1 B0 B1 τ' Γ2 ∧ I (i + 1) Γ2, fun τ' B1 z => ⟨ds.length - (i + 1), by omega, rfl, hlt, z⟩, fun x B1 y => ?_⟩
    obtain ⟨B0, t2, rx⟩ := q2 x B1 y
    obtain ⟨Γ'', sl, hg, hb⟩ := hs i _ Γ' hd' inv
    refine hg.2.2 B0 B1 τ x (g'.st.tr t2) rx _ fun τ2 s2 _ => ?_
    have g2 := (g'.tr' t2).sub hg.1 s2
    have T := g2.tr
    refine hb W tk B0 G1 B0 B1 τ2 g2.rebase _ ⟨fun Γ2 τ3 L0 L1 k1 k2 => ⟨Γ2, L0, (sm.trans t2.s0).trans k1.tr.s0, k1.unbase T, k2⟩, fun Γ2 τ3 L0 L1 k1 k2 => F.nx Γ2 τ3 L0 L1 (k1.unbase T) k2,
      fun Γ2 τ3 L0 L1 k1 k2 => ⟨Γ2, L0, (sm.trans t2.s0).trans k1.tr.s0, k1.unbase T, k2⟩, fun d v L0 L1 k1 r q => F.rt d v L0 L1 (T.base k1) r q, fun x cls dd Γ2 τ3 L0 L1 k1 r q => F.ex x cls dd Γ2 τ3 L0 L1 (k1.unbase T) r q⟩
  · have e : i = ds.length := by omega
    subst e
    exact .inl ⟨jk.st A0 A1 sm g'.st.sub, F.nx Γ' τ A0 A1 g' (hd Γ' inv)⟩
/-! ## while -/
theorem s1_while {S : Type} {body : List Stmt} {P : Po} (Wn : S → Env) (inv : S → Prop) (μ : S → Nat) (s0 : S) (w0 : Wk Γ (Wn s0)) (i0 : inv s0)
    (hs : ∀ s, inv s → ∃ k, ET X (Wn s) c k ∧ (k = true → SB X (Wn s) body { P with nx := fun Γ' => ∃ s', inv s' ∧ μ s' < μ s ∧ Wk Γ' (Wn s'), ct := fun Γ' => ∃ s', inv s' ∧ μ s' < μ s ∧ Wk Γ' (Wn s'), bk := P.nx }) ∧ (k = false → P.nx (Wn s)))
    (hp : PassesOwn (model X.prog X.w) X.A X.env X.xe) : S1 X Γ (.While c body [] pos) P := fun W tk G0 G1 H0 H1 σ g D F => by
  refine ws_of (ps_while hp pt_wt pss_ws) ?_
  refine ⟨fun m τ A1 => ∃ s A0, m = μ s ∧ inv s ∧ Sg X.K G0 G1 A0 A1 τ (Wn s), ⟨_, s0, H0, rfl, i0, g.wk w0⟩, ?_⟩
  rintro m τ A1 ⟨s, A0, rfl, is, g1⟩
  obtain ⟨k, hk, h1, h2⟩ := hs s is
  refine hk A0 A1 τ g1.st _ fun B0 B1 t => ?_
  have g2 := g1.tr' t
  cases k with
  | true =>
    rw [if_pos rfl]
    refine ⟨fun τ' C1 => ∃ s' C0, inv s' ∧ μ s' < μ s ∧ Sg X.K G0 G1 C0 C1 τ' (Wn s'), fun τ' C1 ⟨s', C0, q1, q2, q3⟩ => ⟨_, q2, s', C0, rfl, q1, q3⟩, ?_⟩
    exact h1 rfl W tk G0 G1 B0 B1 τ g2 _ ⟨fun Γ2 τ3 L0 L1 k1 ⟨s', q1, q2, q3⟩ => ⟨s', L0, q1, q2, k1.wk q3⟩, F.nx, fun Γ2 τ3 L0 L1 k1 ⟨s', q1, q2, q3⟩ => ⟨s', L0, q1, q2, k1.wk q3⟩, F.rt, F.ex⟩
  | false =>
    rw [if_neg Bool.false_ne_true]
    exact F.nx _ τ B0 B1 g2 (h2 rfl)

/-! ## comprehensions -/
def wipeE (Γ : Env) : List Nat → Env
  | [] => Γ
  | v :: vs => (wipeE Γ vs).set v .no
end
section
variable {K : PySem.W.Frag} {H0 H1 : Hp} {σ τ : St} {Γ : Env}
theorem Stt.wipe (h : Stt K H0 H1 σ Γ) : ∀ vs : List Nat, Stt K H0 H1 (wipe σ vs) (wipeE Γ vs)
  | [] => h
  | v :: vs => by
    have ih := Stt.wipe h vs
    refine ⟨ih.sub, by unfold wipeE L2.wipe; rw [List.length_set, List.length_set]; exact ih.len, fun j s e => ?_⟩
    unfold wipeE at e
    unfold L2.wipe
    by_cases hj : v = j
    · subst hj
      have hl : v < (wipeE Γ vs).length := by
        have := (List.getElem?_eq_some_iff.mp e).1
        rwa [List.length_set] at this
      rw [List.getElem?_set_self hl] at e
      cases e
      exact ⟨none, List.getElem?_set_self (by rw [ih.len]; exact hl), trivial⟩
    · rw [List.getElem?_set_ne hj] at e
      obtain ⟨o, e1, k⟩ := ih.sl j s e
      exact ⟨o, by rw [List.getElem?_set_ne hj]; exact e1, k⟩
theorem wipe_in {i : Nat} : ∀ {vs : List Nat}, i ∈ vs → i < σ.length → (wipe σ vs)[i]? = some none
  | v :: vs, h, hl => by
    unfold L2.wipe
    by_cases hv : v = i
    · subst hv
      exact List.getElem?_set_self (by rw [wipe_length]; exact hl)
    · rw [List.getElem?_set_ne hv]
      rcases List.mem_cons.mp h with z | z
      · exact absurd z.symm hv
      · exact wipe_in z hl
theorem wipe_same {vs : List Nat} (hl : τ.length = σ.length) (h : ∀ j : Nat, j ∉ vs → τ[j]? = σ[j]?) : wipe τ vs = wipe σ vs := by
  apply List.ext_getElem?
  intro j
  by_cases hj : j ∈ vs
  · by_cases hb : j < σ.length
    · rw [wipe_in hj hb, wipe_in hj (by rw [hl]; exact hb)]
    · rw [List.getElem?_eq_none (by rw [wipe_length]; omega), List.getElem?_eq_none (by rw [wipe_length]; omega)]
  · rw [wipe_out hj, wipe_out hj, h j hj]
theorem wipe_wipe {vs : List Nat} : wipe (wipe σ vs) vs = wipe σ vs := wipe_same (wipe_length _ _) fun j hj => wipe_out hj
end
/-- the contexts in which a comprehension's block runs -/
def Blk (X : Cx) (scope : Scope) (X' : Cx) : Prop := ∃ (s : Shared) (H : Hp) (C : Addr) (cl : List (Str × Addr)) (fp : List Addr), X' = X.blk s H scope (compEnvC scope cl C X.env) fp
section
variable {X : Cx} {Γ : Env} {tg a b c e elt it : Expr} {ifs : List Expr} {es : List Expr} {pos p : Pos} {d d' : D} {ds ds' : List D} {scope : Scope} {own : List (Str × Nat)}
def gBlk (X : Cx) (scope : Scope) (tg : Expr) : TG := fun v σ H Q => ∀ X', Blk X scope X' → WG X' tg v σ H Q
def eBlk (X : Cx) (scope : Scope) (e : Expr) : TE := fun σ H Q => ∀ X', Blk X scope X' → WE X' e σ H Q
def tBlk (X : Cx) (scope : Scope) (e : Expr) : TT := fun σ H Q => ∀ X', Blk X scope X' → WT X' e σ H Q
theorem lc_read {α : Type} {xs : List α} {g : α → D} {tt : TT} {keep : α → Bool} {val : α → D} (hi : IV X Γ tg it (xs.map g)) (hz : xs.length ≤ 90000)
    (hb : ∀ x, x ∈ xs → ∃ Γ' sl, Γ'.length = Γ.length ∧ (∀ j ∈ sl, j ∈ own.map (·.2)) ∧ (∀ X', Blk X scope X' → BG X' tg (wipeE Γ (own.map (·.2))) (g x) Γ' sl) ∧
      (∀ H0 H1 σ, Stt X.K H0 H1 σ Γ' → ∀ Q : Bool → Hp → Prop, (∀ J0 J1, Tr H0 H1 J0 J1 → Q (keep x) J1) → tt σ H1 Q) ∧
      (keep x = true → ∀ X', Blk X scope X' → EV X' Γ' elt (val x)))
    {H0 H1 : Hp} {σ : St} (S : Stt X.K H0 H1 σ Γ) {Q : VK}
    (q : ∀ p vs J0 J1, Tr H0 H1 J0 J1 → H1 p = none → J0 p = none → J1 p = some (.lst vs) → RpL X.K J0 vs ((xs.filter keep).map val) → Q (.ref p) J1) :
    tLc (WI X tg it) (gBlk X scope tg) tt (eBlk X scope elt) (own.map (·.2)) σ H1 Q := by
  refine hi H0 H1 σ S _ fun J J0 J1 t jk => fun Dl hD => ?_
  let res : Nat → List D := fun i => ((xs.take i).filter keep).map val
  refine ⟨fun i m A1 => m = xs.length - i ∧ i ≤ xs.length ∧ ∃ A0 acc, Same J0 A0 ∧ Tr H0 H1 A0 A1 ∧ A0 Dl = none ∧ A1 Dl = some (.lst acc) ∧ RpL X.K A0 acc (res i),
    ⟨_, rfl, Nat.zero_le _, J0, [], Same.refl _, t.trans (Tr.new1 t.in' hD), t.in'.free hD, upd_same, .nil⟩, ?_⟩
  rintro i m A1 ⟨rfl, hle, A0, acc, sm, T, n0, hacc, racc⟩
  by_cases hlt : i < xs.length
  · have hx : xs[i]? = some xs[i] := List.getElem?_eq_getElem hlt
    have hd' : (xs.map g)[i]? = some (g xs[i]) := by rw [List.getElem?_map, hx]; rfl
    obtain ⟨q1, q2⟩ := jk.go i A0 A1 _ sm T.in' hd'
    refine .inr ⟨q1, fun B1 => ∃ B0 acc', Same J0 B0 ∧ Tr H0 H1 B0 B1 ∧ B0 Dl = none ∧ B1 Dl = some (.lst acc') ∧ RpL X.K B0 acc' (res (i + 1)), fun B1 z => ⟨xs.length - (i + 1), by omega, rfl, hlt, z⟩, fun x B1 y => ?_⟩
    obtain ⟨B0, t2, rx⟩ := q2 x B1 y
    obtain ⟨Γ', sl, hΓ, hsl, hg, ht, he⟩ := hb xs[i] (List.getElem_mem hlt)
    have St1 : Stt X.K B0 B1 (wipe σ (own.map (·.2))) (wipeE Γ (own.map (·.2))) := (S.tr (T.trans t2)).wipe _
    have rest : ∀ τ : St, Stt X.K B0 B1 τ Γ' → (∀ j : Nat, j ∉ sl → τ[j]? = (wipe σ (own.map (·.2)))[j]?) → wipe τ (own.map (·.2)) = wipe σ (own.map (·.2)) ∧ tt τ B1 fun b H3 => if b = true then eBlk X scope elt τ H3 fun y H4 => ∃ acc, H4 Dl = some (.lst acc) ∧ acc.length < sizeLine ∧ ∃ B0 acc', Same J0 B0 ∧ Tr H0 H1 B0 (upd H4 Dl (.lst (acc ++ [y]))) ∧ B0 Dl = none ∧ (upd H4 Dl (.lst (acc ++ [y]))) Dl = some (.lst acc') ∧ RpL X.K B0 acc' (res (i + 1))
        else ∃ B0 acc', Same J0 B0 ∧ Tr H0 H1 B0 H3 ∧ B0 Dl = none ∧ H3 Dl = some (.lst acc') ∧ RpL X.K B0 acc' (res (i + 1)) := fun τ s2 k2 => by
      refine ⟨?_, ?_⟩
      · have hl : τ.length = (wipe σ (own.map (·.2))).length := by
          rw [wipe_length, s2.len, hΓ, S.len]
        rw [wipe_same hl fun j hj => k2 j fun z => hj (hsl j z), wipe_wipe]
      · refine ht B0 B1 τ s2 _ fun C0 C1 t3 => ?_
        have hdl := t3.s1 _ _ (t2.s1 _ _ hacc)
        have nC : C0 Dl = none := (t2.trans t3).out _ _ hacc n0
        cases hk : keep xs[i] with
        | true =>
          rw [if_pos rfl]
          intro X' hX'
          have hK : X'.K = X.K := by
            obtain ⟨_, _, _, _, _, rfl⟩ := hX'
            rfl
          have hev := he hk X' hX' C0 C1 τ (by rw [hK]; exact s2.tr t3)
          refine hev _ fun y E0 E1 t4 ry => ?_
          rw [hK] at ry
          refine ⟨acc, t4.s1 _ _ hdl, ?_, E0, acc ++ [y], ((sm.trans t2.s0).trans t3.s0).trans t4.s0, ?_, t4.out _ _ hdl nC, upd_same, ?_⟩
          · rw [racc.length]
            refine sz' ?_
            show (((xs.take i).filter keep).map val).length < 100000
            rw [List.length_map]
            have := List.length_filter_le keep (xs.take i)
            rw [List.length_take] at this
            omega
          · have T2 := ((T.trans t2).trans t3).trans t4
            have nE : E0 Dl = none := t4.out _ _ hdl nC
            have n1 : H1 Dl = none := t.s1.free hD
            refine ⟨T2.s0, fun b z hz => ?_, fun b z hz => ?_, T2.out⟩
            · rw [upd_ne (ne_of_none hz n1)]
              exact T2.s1 b z hz
            · rw [upd_ne (ne_of_none hz nE)]
              exact T2.in' b z hz
          · have e : res (i + 1) = res i ++ [val xs[i]] := by
              show ((xs.take (i + 1)).filter keep).map val = _
              rw [List.take_add_one, hx, Option.toList_some, List.filter_append, List.map_append, List.filter_cons_of_pos hk]
              rfl
            rw [e]
            exact (racc.mono ((t2.s0.trans t3.s0).trans t4.s0)).append (.cons ry .nil)
        | false =>
          rw [if_neg Bool.false_ne_true]
          refine ⟨C0, acc, (sm.trans t2.s0).trans t3.s0, (T.trans t2).trans t3, nC, hdl, ?_⟩
          have e : res (i + 1) = res i := by
            show ((xs.take (i + 1)).filter keep).map val = _
            rw [List.take_add_one, hx, Option.toList_some, List.filter_append, List.map_append, List.filter_cons_of_neg (by rw [hk]; exact Bool.false_ne_true)]
            simp [res]
          rw [e]
          exact racc.mono (t2.s0.trans t3.s0)
    intro X' hX'
    have hK : X'.K = X.K := by
      obtain ⟨_, _, _, _, _, rfl⟩ := hX'
      rfl
    refine (hg X' hX').2.2 B0 B1 (wipe σ (own.map (·.2))) x (by rw [hK]; exact St1) (by rw [hK]; exact rx) _ fun τ s2 k2 => ?_
    rw [hK] at s2
    exact rest τ s2 k2
  · have e : i = xs.length := by omega
    subst e
    have jst := jk.st A0 A1 sm T.in'
    rw [List.length_map] at jst
    refine .inl ⟨jst, q Dl acc A0 A1 T (t.s1.free hD) n0 hacc ?_⟩
    have e : res xs.length = (xs.filter keep).map val := by
      show ((xs.take xs.length).filter keep).map val = _
      rw [List.take_length]
    rw [← e]
    exact racc
end
end Dl
namespace Dl
open PySem PySem.Spec PyProof.Rows L2
section
variable {X : Cx} {Γ : Env} {tg a b c e elt it : Expr} {es : List Expr} {pos p : Pos} {d d' : D} {ds ds' : List D} {scope : Scope} {own : List (Str × Nat)} {α : Type} {xs : List α} {g : α → D} {keep : α → Bool} {val : α → D}
/-- what a comprehension without a test asks of an item -/
def LcOk0 (X : Cx) (Γ : Env) (scope : Scope) (own : List (Str × Nat)) (tg elt : Expr) (d : D) (v : D) : Prop :=
  ∃ Γ' sl, Γ'.length = Γ.length ∧ (∀ j ∈ sl, j ∈ own.map (·.2)) ∧ ∀ X', Blk X scope X' → BG X' tg (wipeE Γ (own.map (·.2))) d Γ' sl ∧ EV X' Γ' elt v
def LcOk1 (X : Cx) (Γ : Env) (scope : Scope) (own : List (Str × Nat)) (tg elt c : Expr) (d : D) (k : Bool) (v : D) : Prop :=
  ∃ Γ' sl, Γ'.length = Γ.length ∧ (∀ j ∈ sl, j ∈ own.map (·.2)) ∧ ∀ X', Blk X scope X' → BG X' tg (wipeE Γ (own.map (·.2))) d Γ' sl ∧ ET X' Γ' c k ∧ (k = true → EV X' Γ' elt v)
theorem filter_true {α : Type} (xs : List α) : xs.filter (fun _ => true) = xs := List.filter_eq_self.mpr fun _ _ => rfl
theorem en_lc (hi : IV X Γ tg it (xs.map g)) (hb : ∀ x, x ∈ xs → LcOk0 X Γ scope own tg elt (g x) (val x)) (hz : xs.length ≤ 90000) (hc : X.calm = true) (hN : X.N.Nodup) (ok : blkC X.N X.env.scope scope own = true := by decide +kernel)
    (hs : ∀ x, foldedSetIterable it X.env x = pure x := by intro _; rfl) : EN X Γ (.ListComp elt [⟨tg, it, [], 0⟩] scope pos) (xs.map val) := fun H0 H1 σ S Q q => by
  refine we_of (pe_lc (g := gBlk X scope tg) (te := eBlk X scope elt) hc hN pi_wi (blkOk_by ok) (fun s H C cl fp => ⟨fun pins s' σ H v u Q I r h => h _ ⟨s, _, C, cl, fp, rfl⟩ pins s' u I r⟩) (fun _ _ _ _ _ => pts_nil) (fun s H C cl fp => ⟨fun pins s' σ H Q I h => h _ ⟨s, _, C, cl, fp, rfl⟩ pins s' I⟩) hs) ?_
  refine lc_read (keep := fun _ => true) (val := val) hi hz (fun x hx => ?_) S (by rw [filter_true]; exact q)
  obtain ⟨Γ', sl, h1, h2, h3⟩ := hb x hx
  exact ⟨Γ', sl, h1, h2, fun X' hX => (h3 X' hX).1, fun H0 H1 σ s Q q => q H0 H1 (Tr.refl s.sub), fun _ X' hX => (h3 X' hX).2⟩
theorem en_lc1 (hi : IV X Γ tg it (xs.map g)) (hb : ∀ x, x ∈ xs → LcOk1 X Γ scope own tg elt c (g x) (keep x) (val x)) (hz : xs.length ≤ 90000) (hc : X.calm = true) (hN : X.N.Nodup) (ok : blkC X.N X.env.scope scope own = true := by decide +kernel)
    (hs : ∀ x, foldedSetIterable it X.env x = pure x := by intro _; rfl) : EN X Γ (.ListComp elt [⟨tg, it, [c], 0⟩] scope pos) ((xs.filter keep).map val) := fun H0 H1 σ S Q q => by
  refine we_of (pe_lc (g := gBlk X scope tg) (te := eBlk X scope elt) (tt := tBlk X scope c) hc hN pi_wi (blkOk_by ok) (fun s H C cl fp => ⟨fun pins s' σ H v u Q I r h => h _ ⟨s, _, C, cl, fp, rfl⟩ pins s' u I r⟩) (fun s H C cl fp => pts_one ⟨fun pins s' σ H Q I h => h _ ⟨s, _, C, cl, fp, rfl⟩ pins s' I⟩) (fun s H C cl fp => ⟨fun pins s' σ H Q I h => h _ ⟨s, _, C, cl, fp, rfl⟩ pins s' I⟩) hs) ?_
  refine lc_read (keep := keep) (val := val) hi hz (fun x hx => ?_) S q
  obtain ⟨Γ', sl, h1, h2, h3⟩ := hb x hx
  refine ⟨Γ', sl, h1, h2, fun X' hX => (h3 X' hX).1, fun H0 H1 σ s Q q => fun X' hX => ?_, fun hk X' hX => (h3 X' hX).2.2 hk⟩
  have hK : X'.K = X.K := by
    obtain ⟨_, _, _, _, _, rfl⟩ := hX
    rfl
  exact (h3 X' hX).2.1 H0 H1 σ (by rw [hK]; exact s) Q q
/-- name = [..] where the name is stored within -/
theorem s1_ownLc (i : Nat) {y : Str} {py spos : Pos} {P : Po} (hi : IV X Γ tg it (xs.map g)) (hb : ∀ x, x ∈ xs → LcOk0 X Γ scope own tg elt (g x) (val x)) (q : ∀ p, P.nx (Γ.set i (.own p (xs.map val)))) (hz : xs.length ≤ 90000) (hc : X.calm = true) (hN : X.N.Nodup)
    (ok : blkC X.N X.env.scope scope own = true := by decide +kernel) (hy : X.N[i]? = some y := by rfl) (hyl : X.env.scope.names.lookup y = some .local := by rfl) (hl : (py.line == pos.line) = true := by rfl)
    (ha : (scope.names.any fun (n, k) => n == y && (k == .local || k == .cell)) = false := by decide +kernel) (hk : X.env.scope.kind = .function := by rfl)
    (hs : ∀ x, foldedSetIterable it X.env x = pure x := by intro _; rfl) : S1 X Γ (.Assign [.Name y py] (.ListComp elt [⟨tg, it, [], 0⟩] scope pos) spos) P := fun W tk G0 G1 H0 H1 σ g D F => by
  refine ws_of (ps_setLc (i := i) (g := gBlk X scope tg) (te := eBlk X scope elt) hc hN hy hyl (sw_true hk hyl hl ha) pi_wi (blkOk_by ok) (fun s H C cl fp => ⟨fun pins s' σ H v u Q I r h => h _ ⟨s, _, C, cl, fp, rfl⟩ pins s' u I r⟩) (fun _ _ _ _ _ => pts_nil) (fun s H C cl fp => ⟨fun pins s' σ H Q I h => h _ ⟨s, _, C, cl, fp, rfl⟩ pins s' I⟩) hs) ?_
  refine lc_read (keep := fun _ => true) (val := val) hi hz (fun x hx => ?_) g.st (fun p vs J0 J1 t n n0 e r => ?_)
  · obtain ⟨Γ', sl, h1, h2, h3⟩ := hb x hx
    exact ⟨Γ', sl, h1, h2, fun X' hX => (h3 X' hX).1, fun H0 H1 σ s Q q => q H0 H1 (Tr.refl s.sub), fun _ X' hX => (h3 X' hX).2⟩
  · rw [filter_true] at r
    exact F.nx _ _ J0 J1 (g.own t n n0 e r) (q p)
theorem s1_ownLc1 (i : Nat) {y : Str} {py spos : Pos} {P : Po} (hi : IV X Γ tg it (xs.map g)) (hb : ∀ x, x ∈ xs → LcOk1 X Γ scope own tg elt c (g x) (keep x) (val x)) (q : ∀ p, P.nx (Γ.set i (.own p ((xs.filter keep).map val)))) (hz : xs.length ≤ 90000) (hc : X.calm = true) (hN : X.N.Nodup)
    (ok : blkC X.N X.env.scope scope own = true := by decide +kernel) (hy : X.N[i]? = some y := by rfl) (hyl : X.env.scope.names.lookup y = some .local := by rfl) (hl : (py.line == pos.line) = true := by rfl)
    (ha : (scope.names.any fun (n, k) => n == y && (k == .local || k == .cell)) = false := by decide +kernel) (hk : X.env.scope.kind = .function := by rfl)
    (hs : ∀ x, foldedSetIterable it X.env x = pure x := by intro _; rfl) : S1 X Γ (.Assign [.Name y py] (.ListComp elt [⟨tg, it, [c], 0⟩] scope pos) spos) P := fun W tk G0 G1 H0 H1 σ g D F => by
  refine ws_of (ps_setLc (i := i) (g := gBlk X scope tg) (te := eBlk X scope elt) (tt := tBlk X scope c) hc hN hy hyl (sw_true hk hyl hl ha) pi_wi (blkOk_by ok) (fun s H C cl fp => ⟨fun pins s' σ H v u Q I r h => h _ ⟨s, _, C, cl, fp, rfl⟩ pins s' u I r⟩) (fun s H C cl fp => pts_one ⟨fun pins s' σ H Q I h => h _ ⟨s, _, C, cl, fp, rfl⟩ pins s' I⟩) (fun s H C cl fp => ⟨fun pins s' σ H Q I h => h _ ⟨s, _, C, cl, fp, rfl⟩ pins s' I⟩) hs) ?_
  refine lc_read (keep := keep) (val := val) hi hz (fun x hx => ?_) g.st (fun p vs J0 J1 t n n0 e r => F.nx _ _ J0 J1 (g.own t n n0 e r) (q p))
  obtain ⟨Γ', sl, h1, h2, h3⟩ := hb x hx
  refine ⟨Γ', sl, h1, h2, fun X' hX => (h3 X' hX).1, fun H0 H1 σ s Q q => fun X' hX => ?_, fun hk X' hX => (h3 X' hX).2.2 hk⟩
  have hK : X'.K = X.K := by
    obtain ⟨_, _, _, _, _, rfl⟩ := hX
    rfl
  exact (h3 X' hX).2.1 H0 H1 σ (by rw [hK]; exact s) Q q
end

/-! ## a def -/
def startE (N : List Str) (ds : List D) : Env := ds.map Sl.val ++ List.replicate (N.length - ds.length) Sl.no
theorem start_ok {K : PySem.W.Frag} {H0 H1 : Hp} {N : List Str} {vs : List V} {ds : List D} (h : Same H0 H1) (r : RpL K H0 vs ds) : Stt K H0 H1 (L2.start N vs) (startE N ds) := by
  have hl := r.length
  refine ⟨h, by unfold L2.start startE; rw [List.length_append, List.length_append, List.length_map, List.length_map, List.length_replicate, List.length_replicate, hl], fun i s e => ?_⟩
  unfold startE at e
  unfold L2.start
  by_cases hi : i < ds.length
  · rw [List.getElem?_append_left (by rw [List.length_map]; exact hi), List.getElem?_map, List.getElem?_eq_getElem hi] at e
    cases e
    obtain ⟨v, h1, h2⟩ := r.get (List.getElem?_eq_getElem hi)
    exact ⟨some v, by rw [List.getElem?_append_left (by rw [List.length_map, hl]; exact hi), List.getElem?_map, h1]; rfl, v, rfl, h2⟩
  · rw [List.getElem?_append_right (by rw [List.length_map]; omega), List.length_map, List.getElem?_replicate] at e
    split at e
    · rename_i hb
      cases e
      refine ⟨none, ?_, trivial⟩
      rw [List.getElem?_append_right (by rw [List.length_map]; omega), List.length_map, List.getElem?_replicate, hl, if_pos hb]
    · cases e
theorem no_own {N : List Str} {ds : List D} (i : Nat) (p : Addr) (es : List D) : ¬ (startE N ds)[i]? = some (.own p es) := fun e => by
  unfold startE at e
  by_cases hi : i < ds.length
  · rw [List.getElem?_append_left (by rw [List.length_map]; exact hi), List.getElem?_map, List.getElem?_eq_getElem hi] at e
    cases e
  · rw [List.getElem?_append_right (by rw [List.length_map]; omega), List.getElem?_replicate] at e
    split at e <;> cases e
section
variable {P : Program} {w : World} {K : PySem.W.Frag} {mg : Str → Option Value} {base : Heap}
/-- the context of a def's body -/
abbrev cxB (P : Program) (w : World) (K : PySem.W.Frag) (mg : Str → Option Value) (base : Heap) (N : List Str) (qual : Str) (st : Stmt) (f : Addr) (cdv : Value) (A : Around) (outer : List PySem.Env) (s : Shared) (H : Hp) (E : XK) : Cx :=
  cxOf (L2.CX P w) P w K mg base N qual (defScope st) f cdv A outer s H E
/-- what a body is to do: by the outcome -/
def endP (o : Out) : Po := { nx := fun _ => o = .ret .non, rt := fun d => o = .ret d, ex := fun x _ => o = .exc x }
theorem fn_okD {x qual : Str} {st : Stmt} {N ps : List Str} {k : Nat} {C : Ct} (hF : ∃ (f : Addr) (fd : FuncData), mg x = some (.ref f) ∧ Binds K fd ps [] ∧ Fun K x qual st f fd) (S : FnScope N ps (defScope st)) (len : ∀ ds o, C ds o → ds.length = ps.length)
    (hbody : ∀ (f : Addr) (cdv : Value) (A : Around) (outer : List PySem.Env) (s : Shared) (H : Hp) (E : XK), Room k (A.deeper (envOfC qual (defScope st) s.heap.objs.size f cdv)) →
      PassesOwn (model P w) (cxB P w K mg base N qual st f cdv A outer s H E).A (cxB P w K mg base N qual st f cdv A outer s H E).env (cxB P w K mg base N qual st f cdv A outer s H E).xe → ∀ ds o, C ds o → SB (cxB P w K mg base N qual st f cdv A outer s H E) (startE N ds) (defBody st) (endP o)) : FnC P w K mg base (k + 1) x ps C := by
  obtain ⟨f, fd, hm, hb, F⟩ := hF
  refine ⟨f, fd, hm, F.kp, hb, F.okX S (fun vs H Q E h => ?_) (fun cdv A outer s H vs Q E hr h => ?_), by obtain ⟨oc, od, kV, doc, pm, an, cdv, ct, osl, _, lk, _⟩ := F.ex; exact ⟨oc, od, osl, lk⟩⟩
  · obtain ⟨ds, G0, o, sm, r, hC, _⟩ := h
    rw [r.length]
    exact len ds o hC
  · obtain ⟨ds, G0, o, sm, r, hC, ho⟩ := h
    refine ⟨_, pss_ws, ?_⟩
    have tk : Takes (cxB P w K mg base N qual st f cdv A outer s H E) (fun cls d _ H => E cls d H) := takes_of rfl rfl rfl rfl
    have g : Sg K G0 H G0 H (L2.start N vs) (startE N ds) := ⟨start_ok sm r, Tr.refl sm, fun i p es e => ?_, fun i j p es es' e => ?_⟩
    · refine hbody f cdv A outer s H E hr (passes_of rfl) ds o hC _ tk G0 H G0 H _ g _ ⟨fun Γ τ J0 J1 g' z => ?_, fun _ _ _ _ _ z => z.elim, fun _ _ _ _ _ z => z.elim, fun d v J0 J1 t rv z => ?_, fun xn cls dd Γ τ J0 J1 g' rx z => ?_⟩
      · have z : o = .ret .non := z
        subst z
        exact ho .non J0 J1 g'.tr .non
      · have z : o = .ret d := z
        subst z
        exact ho v J0 J1 t rv
      · have z : o = .exc xn := z
        subst z
        exact ho cls dd J0 J1 g'.tr rx
    · exact absurd e (no_own i p es)
    · exact absurd e (no_own i p es)
end
end Dl
namespace Dl
open PySem PySem.Spec PyProof.Rows L2

/-! ## data as the library's -/
mutual
def D.pd : D → PyData
  | .non => .none
  | .bl b => .bool b
  | .int i => .int i
  | .str x => .str x
  | .tup xs => .tuple (D.pds xs)
  | .lst xs => .list (D.pds xs)
  | .fls xs => .list (D.pds xs)
  | .emp => .none
  | .ref _ => .none
  | .exv _ _ _ => .none
def D.pds : List D → List PyData
  | [] => []
  | x :: xs => D.pd x :: D.pds xs
end
mutual
def D.pl : D → Bool
  | .emp => false
  | .ref _ => false
  | .exv _ _ _ => false
  | .tup xs => D.pls xs
  | .lst xs => D.pls xs
  | .fls xs => D.pls xs
  | _ => true
def D.pls : List D → Bool
  | [] => true
  | x :: xs => D.pl x && D.pls xs
end
mutual
theorem Rp.dp {K : PySem.W.Frag} {H H1 : Hp} (e : Same H H1) : ∀ {d : D} {v : V}, Rp K H v d → d.pl = true → Dp K H1 v d.pd
  | .non, _, .non, _ => .non
  | .bl _, _, .bl b, _ => .bl b
  | .int _, _, .int i, _ => .int i
  | .str _, _, .str x, _ => .str x
  | .tup ds, _, .tup h r, p => by
    unfold D.pl at p
    unfold D.pd
    exact .tup (same_tq e h) (RpL.dp e r p)
  | .lst ds, _, .lst h r, p => by
    unfold D.pl at p
    unfold D.pd
    exact .lst (.inl (.inl (e _ _ h))) (RpL.dp e r p)
  | .fls ds, _, .fls h r, p => by
    unfold D.pl at p
    unfold D.pd
    exact .lst (e.seq h) (RpL.dp e r p)
theorem RpL.dp {K : PySem.W.Frag} {H H1 : Hp} (e : Same H H1) : ∀ {ds : List D} {vs : List V}, RpL K H vs ds → D.pls ds = true → DpAll K H1 vs (D.pds ds)
  | [], _, .nil, _ => by
    unfold D.pds
    exact .nil
  | d :: ds, _, .cons h r, p => by
    unfold D.pls at p
    rw [Bool.and_eq_true] at p
    unfold D.pds
    exact .cons (Rp.dp e h p.1) (RpL.dp e r p.2)
end
def eqvD (x y : D) : Bool := PyData.eqv x.pd y.pd
/-- == may be asked of it -/
def D.ok (x : D) : Bool := x.pl && SeqAt.shaped x.pd
section
variable {X : Cx} {Γ : Env} {a b c e : Expr} {es : List Expr} {pos p : Pos} {i j : Int} {x y z : D} {k : Nat}
theorem opd_eq (hr : Room k X.A) (hx : x.ok = true) (hy : y.ok = true) : OpD X (compareOp .Eq) x y (.bl (eqvD x y)) := ⟨_, op_eqD hr.units, fun H0 H1 v w s rv rw' Q q => by
  unfold D.ok at hx hy
  rw [Bool.and_eq_true] at hx hy
  exact ⟨_, _, rv.dp s hx.1, rw'.dp s hy.1, hx.2, hy.2, q _ H0 H1 (Tr.refl s) (.bl _)⟩⟩
theorem opd_ne (hr : Room k X.A) (hx : x.ok = true) (hy : y.ok = true) : OpD X (compareOp .NotEq) x y (.bl (!eqvD x y)) := ⟨_, op_neD hr.units, fun H0 H1 v w s rv rw' Q q => by
  unfold D.ok at hx hy
  rw [Bool.and_eq_true] at hx hy
  exact ⟨_, _, rv.dp s hx.1, rw'.dp s hy.1, hx.2, hy.2, q _ H0 H1 (Tr.refl s) (.bl _)⟩⟩

/-! ## isinstance -/
def D.ty : D → String
  | .non => "NoneType"
  | .bl _ => "bool"
  | .int _ => "int"
  | .str _ => "str"
  | .tup _ => "tuple"
  | .lst _ => "list"
  | .fls _ => "list"
  | .emp => "dict"
  | .ref _ => ""
  | .exv _ _ _ => ""
theorem Rp.tyx {K : PySem.W.Frag} {H H1 : Hp} {v : V} {d : D} (e : Same H H1) (r : Rp K H v d) (hne : d.ty ≠ "") : TyX K H1 v (.type d.ty) := by
  cases r with
  | non => exact .base .non
  | bl b => exact .base (.bl b)
  | int i => exact .base (.int i)
  | str x => exact .base (.str x)
  | tup h r =>
    rcases h with (h | ⟨o, h⟩) | ⟨o, its, n, h, c, _⟩
    · exact .base (.tup (e _ _ h))
    · exact .fTuple (e _ _ h)
    · exact .kTuple h c
  | lst h r => exact .base (.lst (e _ _ h))
  | fls h r =>
    rcases h with (h | ⟨o, h⟩) | ⟨o, its, n, h, c, _⟩
    · exact .base (.lst (e _ _ h))
    · exact .base (.frz (e _ _ h))
    · exact .kList h c
  | emp h => exact .base (.dK (e _ _ h))
  | ref a => exact absurd rfl hne
  | exv0 _ => exact absurd rfl hne
  | exv1 _ _ _ => exact absurd rfl hne
/-- the built-in classes that are asked for -/
inductive Ty where
  | int | bool | tuple | list | str | dict
def Ty.nm : Ty → String
  | .int => "int"
  | .bool => "bool"
  | .tuple => "tuple"
  | .list => "list"
  | .str => "str"
  | .dict => "dict"
def D.isA : D → Ty → Bool
  | .int _, .int => true
  | .bl _, .int => true
  | .bl _, .bool => true
  | .tup _, .tuple => true
  | .lst _, .list => true
  | .fls _, .list => true
  | .str _, .str => true
  | .emp, .dict => true
  | _, _ => false
def D.isR : D → Bool
  | .ref _ => true
  | .exv _ _ _ => true
  | _ => false
theorem ty_ne {d : D} (h : d.isR = false) : d.ty ≠ "" := by
  cases d <;> first
    | (simp only [D.ty]; decide)
    | exact absurd (show D.isR (.ref _) = true from rfl) (by rw [h]; exact Bool.false_ne_true)
    | cases h
theorem kit_isA (d : D) (T : Ty) (h : d.ty ≠ "") : kitB d.ty T.nm = some (d.isA T) := by
  cases d <;> cases T <;> first
    | (simp only [D.ty, Ty.nm, D.isA]; decide +kernel)
    | exact absurd (show D.ty (.ref _) = "" from rfl) h
    | exact absurd rfl h
theorem boot_Ty (T : Ty) : bootBuiltins (Str.ofString T.nm) = some (.type T.nm) := by cases T <;> decide +kernel
/-- isinstance(a, T), T a built-in class -/
theorem ev_isi (T : Ty) {x : D} {Tn : Str} {p1 p2 : Pos} (ha : EV X Γ a x) (hm : X.mg "isinstance" = none) (hmT : X.mg Tn = none) (hx : x.isR = false := by rfl) (hTn : Tn = Str.ofString T.nm := by rfl) (hgT : Gl X Tn := by rfl) (hg : Gl X "isinstance" := by rfl)
    (hn : Tn ≠ "__name__" := by decide) (hdb : (Tn == ("__debug__" : Str)) = false := by decide)
    (h1 : starEach [a, .Name Tn p2] X.env = (false, eval a X.env) :: starEach [.Name Tn p2] X.env := by rfl) (hpl : (backTo pos (starEach [.Name Tn p2] X.env)).any (·.1) = false := by rfl) :
    EV X Γ (.Call (.Name "isinstance" p1) [a, .Name Tn p2] [] pos) (.bl (x.isA T)) := fun H0 H1 σ S Q q => by
  have hT : bootBuiltins Tn = some (.type T.nm) := by rw [hTn]; exact boot_Ty T
  refine we_of (pe_callB call_isi hg hm (by decide +kernel) (pa_cons pe_we (pa_cons (pe_bltn (v := .ty T.nm) hgT hmT hT rfl hn hdb) pa_nil) h1) (by decide) (by decide) h1 hpl) ?_
  refine ha H0 H1 σ S _ fun v J0 J1 t r => ?_
  exact ⟨v, .ty T.nm, .type x.ty, .type T.nm, _, rfl, .ty T.nm, r.tyx t.in' (ty_ne hx), kit_ty (kit_isA x T (ty_ne hx)), q _ J0 J1 t (.bl _)⟩
/-- raise X("..") of a class of one's own without an __init__ -/
theorem s1_raise {C : Addr} {xn m : Str} {jj : Nat} {p1 p2 p3 : Pos} {P : Po} (gC : X.mg xn = some (.ref C)) (q : PySem.W.excIn X.K C [.type "ValueError", .type "Exception", .type "BaseException", .type "object"] "ValueError.__new__" = true) (kC : PySem.W.keepIn X.K (.ref C) = true)
    (r1 : PySem.W.subIn X.K (.ref C) (.type "BaseException") = some true) (r2 : PySem.W.typeIn X.K (.ref C) = some (.type "type")) (hc : X.calm = true) (h : P.ex ⟨xn, []⟩ Γ) (hg : Gl X xn := by rfl) (hdb : (xn == ("__debug__" : Str)) = false := by decide) :
    S1 X Γ (.Raise (some (.Call (.Name xn p1) [.Constant (.str m) jj p2] [] p3)) none pos) P := fun W tk G0 G1 H0 H1 σ g D F =>
  ws_of (ps_raise hc tk (pmk_own PySem.F.excBase_ValueError q gC kC (raises_own r1 r2) hg hdb)) (F.ex ⟨xn, []⟩ (.ref C) none Γ σ H0 H1 g ⟨gC, rfl⟩ h)
end
/-- what is known of a class of errors without an __init__ -/
structure ErrC (K : PySem.W.Frag) (mg : Str → Option Value) (x : Str) : Prop where
  ex : ∃ C : Addr, mg x = some (.ref C) ∧ PySem.W.excIn K C [.type "ValueError", .type "Exception", .type "BaseException", .type "object"] "ValueError.__new__" = true ∧ PySem.W.keepIn K (.ref C) = true ∧
    PySem.W.subIn K (.ref C) (.type "BaseException") = some true ∧ PySem.W.typeIn K (.ref C) = some (.type "type")
theorem s1_raiseE {X : Cx} {Γ : Env} {pos : Pos} {xn m : Str} {jj : Nat} {p1 p2 p3 : Pos} {P : Po} (T : ErrC X.K X.mg xn) (hc : X.calm = true) (h : P.ex ⟨xn, []⟩ Γ) (hg : Gl X xn := by rfl) (hdb : (xn == ("__debug__" : Str)) = false := by decide) :
    S1 X Γ (.Raise (some (.Call (.Name xn p1) [.Constant (.str m) jj p2] [] p3)) none pos) P := by
  obtain ⟨C, gC, q, kC, r1, r2⟩ := T.ex
  exact s1_raise gC q kC r1 r2 hc h hg hdb

end Dl
namespace Dl
open PySem PySem.Spec PyProof.Rows L2
/-! ## types as data -/
section
variable {α β γ δ ε ζ : Type}
abbrev d1 (g : α → D) (x : α) : D := .tup [g x]
abbrev d2 (g : α → D) (h : β → D) (x : α × β) : D := .tup [g x.1, h x.2]
abbrev d3 (g : α → D) (h : β → D) (k : γ → D) (x : α × β × γ) : D := .tup [g x.1, h x.2.1, k x.2.2]
abbrev d4 (g : α → D) (h : β → D) (k : γ → D) (l : δ → D) (x : α × β × γ × δ) : D := .tup [g x.1, h x.2.1, k x.2.2.1, l x.2.2.2]
abbrev d5 (g : α → D) (h : β → D) (k : γ → D) (l : δ → D) (m : ε → D) (x : α × β × γ × δ × ε) : D := .tup [g x.1, h x.2.1, k x.2.2.1, l x.2.2.2.1, m x.2.2.2.2]
abbrev d6 (g : α → D) (h : β → D) (k : γ → D) (l : δ → D) (m : ε → D) (n : ζ → D) (x : α × β × γ × δ × ε × ζ) : D := .tup [g x.1, h x.2.1, k x.2.2.1, l x.2.2.2.1, m x.2.2.2.2.1, n x.2.2.2.2.2]
abbrev dL (g : α → D) (xs : List α) : D := .lst (xs.map g)
abbrev dF (g : α → D) (xs : List α) : D := .fls (xs.map g)
abbrev dV (g : α → D) (xs : List α) : D := .tup (xs.map g)
def dO (g : α → D) : Option α → D
  | none => .non
  | some x => g x
abbrev dN (_ : Unit) : D := .non
abbrev dA (x : D) : D := x
end
/-! ## mirrors -/
/-- a value given a name -/
def lt {α β : Type} (a : α) (f : α → β) : β := f a
/-- two ways -/
def br {α : Type} (c : Bool) (x y : α) : α := bif c then x else y
theorem lt_eq {α β : Type} (a : α) (f : α → β) : lt a f = f a := rfl
theorem br_eq {α : Type} (c : Bool) (x y : α) : br c x y = if c = true then x else y := by cases c <;> rfl
theorem br_t {α : Type} {x y : α} : br true x y = x := rfl
theorem br_f {α : Type} {x y : α} : br false x y = y := rfl
/-- what a turn of a loop comes to -/
inductive Fl (ρ σ : Type) where
  | ret (r : ρ) | go (s : σ) | brk (s : σ)
def forM {α ρ σ : Type} (f : σ → α → Fl ρ σ) : List α → σ → Fl ρ σ
  | [], s => .go s
  | x :: xs, s => match f s x with
    | .ret r => .ret r
    | .go s' => forM f xs s'
    | .brk s' => .go s'
theorem forM_cons {α ρ σ : Type} {f : σ → α → Fl ρ σ} {x : α} {xs : List α} {s : σ} : forM f (x :: xs) s = match f s x with
    | .ret r => .ret r
    | .go s' => forM f xs s'
    | .brk s' => .go s' := rfl
theorem forM_nil {α ρ σ : Type} {f : σ → α → Fl ρ σ} {s : σ} : forM f [] s = .go s := rfl
def fin {ρ σ : Type} (x : Fl ρ σ) (k : σ → ρ) : ρ := match x with
  | .ret r => r
  | .go s => k s
  | .brk s => k s
/-- the ends -/
def endR {α : Type} (g : α → D) (r : α) : Po := endP (.ret (g r))
def outR {α : Type} (g : α → D) (r : Except Exn α) : Po := endP (match r with | .ok v => .ret (g v) | .error x => .exc x)
def FlP {β σ : Type} (P : β → Po) (W : σ → Env) (J : σ → Prop) : Fl β σ → Po
  | .ret r => { P r with nx := fun _ => False, bk := fun _ => False, ct := fun _ => False }
  | .go s => { nx := fun Γ => Wk Γ (W s) ∧ J s, ct := fun Γ => Wk Γ (W s) ∧ J s }
  | .brk s => { bk := fun Γ => Wk Γ (W s) ∧ J s }
/-- a block that does not come to its end -/
def NF {β : Type} (P : β → Po) (r : β) : Po := { P r with nx := fun _ => False }
/-- a block that leaves, or comes to its end with a state -/
def FlB {β σ : Type} (P : β → Po) (W : σ → Env) : Fl β σ → Po
  | .ret r => { P r with nx := fun _ => False }
  | .go s => { nx := fun Γ => Wk Γ (W s) }
  | .brk _ => {}
/-- a way of an if that meets the other one -/
def stP {σ : Type} (W : σ → Env) (s : σ) : Po := { nx := fun Γ => Wk Γ (W s) }
section
variable {X : Cx} {Γ Γ' : Env} {a b c e : Expr} {es : List Expr} {pos p : Pos} {st : Stmt} {ss rest : List Stmt} {α β σ : Type} {P : β → Po} {d : D}
theorem ev_is {d' : D} (h : EV X Γ e d) (q : d = d' := by rfl) : EV X Γ e d' := q ▸ h
theorem sb_wk {Q : Po} (w : Wk Γ Γ') (h : SB X Γ' ss Q) : SB X Γ ss Q := does_wk w h
/-- the same env, told anew -/
theorem sb_env {Q : Po} (h : SB X Γ' ss Q) (q : Γ = Γ' := by rfl) : SB X Γ ss Q := q ▸ h
theorem m_set (i : Nat) {x : Str} {pos' : Pos} (g : α → D) {v : α} {f : α → β} (h : EV X Γ e d) (hd : d = g v) (k : ∀ w, w = v → SB X (Γ.set i (.val (g w))) rest (P (f w))) (hN : X.N.Nodup) (hi : X.N[i]? = some x := by rfl) (hx : Loc X.env.scope x := by first | exact Or.inl rfl | exact Or.inr rfl)
    (hs : swapsWith e (some (.Name x pos')) pos.line X.env = pure false := by rfl) (hf : X.fn x = true ∨ X.env.scope.names.lookup x = some .local := by first | exact .inl rfl | exact .inr rfl) : SB X Γ (.Assign [.Name x pos'] e pos :: rest) (P (lt v f)) :=
  sb_cons (s1_set i (hd ▸ h) (k v rfl) hN hi hx hs hf)
/-- a new list, one's own -/
theorem m_own (i : Nat) {x : Str} {pos' : Pos} (g : α → D) {v : List α} {f : List α → β} {ds : List D} (h : EN X Γ e ds) (hd : ds = v.map g) (k : ∀ q w, w = v → SB X (Γ.set i (.own q (w.map g))) rest (P (f w))) (hN : X.N.Nodup) (hi : X.N[i]? = some x := by rfl) (hx : Loc X.env.scope x := by first | exact Or.inl rfl | exact Or.inr rfl)
    (hs : swapsWith e (some (.Name x pos')) pos.line X.env = pure false := by rfl) (hf : X.fn x = true ∨ X.env.scope.names.lookup x = some .local := by first | exact .inl rfl | exact .inr rfl) : SB X Γ (.Assign [.Name x pos'] e pos :: rest) (P (lt v f)) :=
  sb_cons (s1_own i (hd ▸ h) (fun q => k q v rfl) hN hi hx hs hf)
theorem m_freeze (i : Nat) {q : Addr} {ds : List D} {Q : Po} (h : SB X (Γ.set i (.val (.lst ds))) ss Q) (e : Γ[i]? = some (.own q ds) := by rfl) : SB X Γ ss Q := does_freeze e h
theorem m_app (i : Nat) {x : Str} (g : α → D) {xs : List α} {v : α} {f : List α → β} {q : Addr} {apos cpos : Pos} (h : EV X Γ e d) (hd : d = g v) (hz : xs.length < 100000) (k : ∀ w, w = xs ++ [v] → SB X (Γ.set i (.own q (w.map g))) rest (P (f w)))
    (ho : Γ[i]? = some (.own q (xs.map g)) := by rfl) (hN : X.N[i]? = some x := by rfl)
    (hv : Vis X.env.scope x := by first | exact Or.inl rfl | exact Or.inr (Or.inl rfl) | exact Or.inr (Or.inr rfl)) (h1 : (x == ("__debug__" : Str)) = false := by decide) (h2 : (x == ("__classdict__" : Str)) = false := by decide)
    (hbase : attributeBase (.Name x p) "append" X.env (eval (.Name x p) X.env) = eval (.Name x p) X.env := by rfl)
    (hfew : ((backTo cpos (starEach [e] X.env)).all (fun x => !x.1) && (backToKw cpos (keywordEach [] X.env)).all (fun x => x.1.isSome)
      && decide (([e] : List Expr).length + ([] : List Keyword).length + (if ([] : List Keyword).isEmpty then 0 else 1) < 30)) = true := by rfl) (hline : (apos.endLine == cpos.line) = true := by rfl) (hpl : (backTo cpos (starEach [] X.env)).any (·.1) = false := by rfl) (hs1 : starEach [e] X.env = (false, eval e X.env) :: starEach [] X.env := by rfl)
    (hs : swapsWith (.Call (.Attribute (.Name x p) "append" apos) [e] [] cpos) none pos.line X.env = pure false := by rfl) : SB X Γ (.Expr (.Call (.Attribute (.Name x p) "append" apos) [e] [] cpos) pos :: rest) (P (lt (xs ++ [v]) f)) := by
  have hk := k _ rfl
  rw [List.map_append] at hk
  exact sb_cons (s1_append i (hd ▸ h) ho (by rw [List.length_map]; exact hz) hk hN hv h1 h2 hbase hfew hline hpl hs1 hs)
theorem m_ret {g : α → D} {v : α} (h : EV X Γ e d) (hd : d = g v) : SB X Γ (.Return (some e) pos :: rest) (endR g v) := sb_cons (s1_ret (hd ▸ h) rfl)
theorem m_retO {g : α → D} {v : α} (h : EV X Γ e d) (hd : d = g v) : SB X Γ (.Return (some e) pos :: rest) (outR g (.ok v)) := sb_cons (s1_ret (hd ▸ h) rfl)
theorem m_retX {g : α → D} {x : Exn} (h : EX X Γ e x) : SB X Γ (.Return (some e) pos :: rest) (outR g (.error x)) := sb_cons (s1_retX h rfl)
theorem m_raise {g : α → D} {xn m : Str} {jj : Nat} {p1 p2 p3 : Pos} (T : ErrC X.K X.mg xn) (hc : X.calm = true) (hg : Gl X xn := by rfl) (hdb : (xn == ("__debug__" : Str)) = false := by decide) :
    SB X Γ (.Raise (some (.Call (.Name xn p1) [.Constant (.str m) jj p2] [] p3)) none pos :: rest) (outR g (.error ⟨xn, []⟩)) := sb_cons (s1_raiseE T hc rfl hg hdb)
theorem m_end {g : Unit → D} {u : Unit} (h : g u = .non := by rfl) : SB X Γ [] (endR g u) := sb_nil (by show Out.ret _ = Out.ret _; rw [h])
theorem m_endO {g : Unit → D} {u : Unit} (h : g u = .non := by rfl) : SB X Γ [] (outR g (.ok u)) := sb_nil (by show Out.ret _ = Out.ret _; rw [h])
/-- two ways that each go on to their own end -/
theorem m_br {k : Bool} {A B : List Stmt} {u v : β} (h : ET X Γ c k) (h1 : k = true → SB X Γ A { P u with nx := fun Γ' => SB X Γ' rest (P u) }) (h2 : k = false → SB X Γ B { P v with nx := fun Γ' => SB X Γ' rest (P v) }) : SB X Γ (.If c A B pos :: rest) (P (br k u v)) := by
  cases k with
  | true => exact sb_cons (s1_if h (fun _ => h1 rfl) fun z => nomatch z)
  | false => exact sb_cons (s1_if h (fun z => nomatch z) fun _ => h2 rfl)
/-- the first way never comes to the rest -/
theorem does_nx {t : TS} {Q : Po} {N : Env → Prop} (h : Does X t Γ { Q with nx := fun _ => False }) : Does X t Γ { Q with nx := N } := does_imp h (fun _ z => z.elim) (fun _ q => q) (fun _ _ q => q) (fun _ q => q) fun _ q => q
/-- the ways of an if meet: the slots' values are a letter from then on -/
theorem m_join {k : Bool} {A B : List Stmt} (W : σ → Env) {u v : σ} {f : σ → β} (h : ET X Γ c k) (h1 : k = true → SB X Γ A (stP W u)) (h2 : k = false → SB X Γ B (stP W v))
    (hk : ∀ s, s = br k u v → SB X (W s) rest (P (f s))) : SB X Γ (.If c A B pos :: rest) (P (lt (br k u v) f)) := by
  have hq := hk _ rfl
  cases k with
  | true => exact sb_cons (s1_if h (fun _ => does_imp (h1 rfl) (fun Γ' w => does_wk w hq) (fun _ q => q.elim) (fun _ _ q => q.elim) (fun _ q => q.elim) fun _ q => q.elim) fun z => nomatch z)
  | false => exact sb_cons (s1_if h (fun z => nomatch z) fun _ => does_imp (h2 rfl) (fun Γ' w => does_wk w hq) (fun _ q => q.elim) (fun _ _ q => q.elim) (fun _ q => q.elim) fun _ q => q.elim)
theorem m_retQ (g : α → D) (v : α) {Q : Po} (h : EV X Γ e d) (hd : d = g v) (q : Q.rt (g v) := by rfl) : SB X Γ (.Return (some e) pos :: rest) Q := sb_cons (s1_ret (hd ▸ h) q)
/-- the first way leaves -/
theorem m_brT {k : Bool} {A : List Stmt} {u v : β} (h : ET X Γ c k) (h1 : k = true → SB X Γ A (NF P u)) (h2 : k = false → SB X Γ rest (P v)) : SB X Γ (.If c A [] pos :: rest) (P (br k u v)) := by
  cases k with
  | true => exact sb_cons (s1_if h (fun _ => does_imp (h1 rfl) (fun _ z => z.elim) (fun _ q => q) (fun _ _ q => q) (fun _ q => q) fun _ q => q) fun z => nomatch z)
  | false => exact sb_cons (s1_if h (fun z => nomatch z) fun _ => sb_nil (h2 rfl))
/-- both leave -/
theorem m_brTT {k : Bool} {A B : List Stmt} {u v : β} (h : ET X Γ c k) (h1 : k = true → SB X Γ A (NF P u)) (h2 : k = false → SB X Γ B (NF P v)) : SB X Γ (.If c A B pos :: rest) (P (br k u v)) := by
  cases k with
  | true => exact sb_cons (s1_if h (fun _ => does_imp (h1 rfl) (fun _ z => z.elim) (fun _ q => q) (fun _ _ q => q) (fun _ q => q) fun _ q => q) fun z => nomatch z)
  | false => exact sb_cons (s1_if h (fun z => nomatch z) fun _ => does_imp (h2 rfl) (fun _ z => z.elim) (fun _ q => q) (fun _ _ q => q) (fun _ q => q) fun _ q => q)
/-- any: a way leaves, or comes to the if's end with a state -/
theorem m_if {k : Bool} {A B : List Stmt} (W : σ → Env) {u v : Fl β σ} {f : σ → β} (h : ET X Γ c k) (h1 : k = true → SB X Γ A (FlB P W u)) (h2 : k = false → SB X Γ B (FlB P W v))
    (hk : ∀ s, br k u v = .go s → SB X (W s) rest (P (f s))) : SB X Γ (.If c A B pos :: rest) (P (fin (br k u v) f)) := by
  have key : ∀ (x : Fl β σ) (T : List Stmt), SB X Γ T (FlB P W x) → (∀ s, x = .go s → SB X (W s) rest (P (f s))) → SB X Γ T { P (fin x f) with nx := fun Γ' => SB X Γ' rest (P (fin x f)) } := fun x T hT hs => by
    cases x with
    | ret r => exact does_imp hT (fun _ z => z.elim) (fun _ q => q) (fun _ _ q => q) (fun _ q => q) fun _ q => q
    | go s => exact does_imp hT (fun Γ' w => sb_wk w (hs s rfl)) (fun _ q => q.elim) (fun _ _ q => q.elim) (fun _ q => q.elim) fun _ q => q.elim
    | brk s => exact does_imp hT (fun _ q => q.elim) (fun _ q => q.elim) (fun _ _ q => q.elim) (fun _ q => q.elim) fun _ q => q.elim
  cases k with
  | true => exact sb_cons (s1_if h (fun _ => key u A (h1 rfl) hk) fun z => nomatch z)
  | false => exact sb_cons (s1_if h (fun z => nomatch z) fun _ => key v B (h2 rfl) hk)
theorem m_goB {W : σ → Env} {s : σ} (w : Wk Γ (W s)) : SB X Γ [] (FlB P W (.go s)) := sb_nil w
theorem m_pass {Q : Po} (h : SB X Γ rest Q) : SB X Γ (.Pass pos :: rest) Q := sb_cons (s1_pass h)
/-- a tuple's, a list's parts to names -/
theorem m_asg (g : α → D) {v : α} {f : α → β} {tg : Expr} {sl : List Nat} (Γ' : α → Env) (h : EV X Γ e d) (hd : d = g v) (hb : ∀ t, t = v → BG X tg Γ (g t) (Γ' t) sl) (k : ∀ t, t = v → SB X (Γ' t) rest (P (f t)))
    (hs : swapsWithSole [tg] e pos.line X.env = pure false := by rfl) (hw : swappedStores [tg] e X.env = pure none := by rfl)
    (h1 : (assignEach [tg] X.env).map (·.2) = [assign tg X.env] := by rfl) : SB X Γ (.Assign [tg] e pos :: rest) (P (lt v f)) :=
  sb_cons (s1_asg (hd ▸ h) (hb v rfl) (k v rfl) hs hw h1)
theorem m_st {W : σ → Env} {s : σ} (w : Wk Γ (W s)) : SB X Γ [] (stP W s) := sb_nil w
theorem m_go {W : σ → Env} {J : σ → Prop} {s : σ} (w : Wk Γ (W s)) (j : J s) : SB X Γ [] (FlP P W J (.go s)) := sb_nil ⟨w, j⟩
theorem m_cont {W : σ → Env} {J : σ → Prop} {s : σ} (w : Wk Γ (W s)) (j : J s) : SB X Γ (.Continue pos :: rest) (FlP P W J (.go s)) := sb_cons (s1_continue ⟨w, j⟩)
theorem m_brk {W : σ → Env} {J : σ → Prop} {s : σ} (w : Wk Γ (W s)) (j : J s) : SB X Γ (.Break pos :: rest) (FlP P W J (.brk s)) := sb_cons (s1_break ⟨w, j⟩)
theorem wk_of {Γ Γ' : Env} (h : Γ.length = Γ'.length) (k : ∀ (i : Nat) (s : Sl), Γ'[i]? = some s → s = .no ∨ Γ[i]? = some s) : Wk Γ Γ' := ⟨h, k⟩
/-- for: xs the items, s the state at turn i's begin -/
theorem m_for {tg it : Expr} {body : List Stmt} {xs : List α} {g : α → D} {f : σ → α → Fl β σ} {s0 : σ} {k : σ → β} (W : σ → Env) (I : Nat → σ → Prop) (hi : IV X Γ tg it (xs.map g)) (w0 : Wk Γ (W s0)) (i0 : I 0 s0)
    (hb : ∀ i s x, I i s → xs[i]? = some x → ∃ Γ' sl, BG X tg (W s) (g x) Γ' sl ∧ SB X Γ' body (FlP P W (I (i + 1)) (f s x)))
    (hk : ∀ s i, i ≤ xs.length → I i s → SB X (W s) rest (P (k s))) (hp : PassesOwn (model X.prog X.w) X.A X.env X.xe) (hc : X.calm = true) (hf : ∀ x, foldedSetIterable it X.env x = pure x := by intro _; rfl) :
    SB X Γ (.For tg it body [] pos :: rest) (P (fin (forM f xs s0) k)) := by
  -- at turn i: the rest of the items from the state there comes to the whole's end
  refine sb_cons (s1_for (fun i Γ' => ∃ s, I i s ∧ Wk Γ' (W s) ∧ forM f (xs.drop i) s = forM f xs s0) hi ⟨s0, i0, w0, rfl⟩ (fun i d Γ' hd ⟨s, is, ws, hs⟩ => ?_) (fun Γ' ⟨s, is, ws, hs⟩ => ?_) hp hc hf)
  · rw [List.getElem?_map] at hd
    cases hx : xs[i]? with
    | none => rw [hx] at hd; cases hd
    | some x =>
      rw [hx] at hd
      cases hd
      obtain ⟨Γ2, sl, hg, hB⟩ := hb i s x is hx
      have hl : i < xs.length := (List.getElem?_eq_some_iff.mp hx).1
      have hdrop : xs.drop i = x :: xs.drop (i + 1) := by
        rw [List.drop_eq_getElem_cons hl]
        congr 1
        exact Option.some.inj ((List.getElem?_eq_getElem hl).symm.trans hx)
      rw [hdrop] at hs
      -- the target binds from a weaker env
      refine ⟨Γ2, sl, ⟨fun j p ds e => ?_, by rw [hg.2.1, ws.1], fun H0 H1 τ v S r Q q => hg.2.2 H0 H1 τ v (S.wk ws) r Q q⟩, ?_⟩
      · have e1 := hg.1 j p ds e
        rcases ws.2 j _ e1 with z | z
        · cases z
        · exact z
      · rw [forM_cons] at hs
        cases hfx : f s x with
        | ret r =>
          rw [hfx] at hs hB
          have hs : Fl.ret r = forM f xs s0 := hs
          refine does_imp hB (fun _ z => z.elim) (fun dd q => ?_) (fun ee Γ3 q => ?_) (fun _ z => z.elim) (fun _ z => z.elim)
          · show (P (fin (forM f xs s0) k)).rt dd
            rw [← hs]
            exact q
          · show (P (fin (forM f xs s0) k)).ex ee Γ3
            rw [← hs]
            exact q
        | go s' =>
          rw [hfx] at hs hB
          exact does_imp hB (fun Γ3 w3 => ⟨s', w3.2, w3.1, hs⟩) (fun _ z => z.elim) (fun _ _ z => z.elim) (fun _ z => z.elim) (fun Γ3 w3 => ⟨s', w3.2, w3.1, hs⟩)
        | brk s' =>
          rw [hfx] at hs hB
          have hs : Fl.go s' = forM f xs s0 := hs
          refine does_imp hB (fun _ z => z.elim) (fun _ z => z.elim) (fun _ _ z => z.elim) (fun Γ3 w3 => ?_) (fun _ z => z.elim)
          show SB X Γ3 rest (P (fin (forM f xs s0) k))
          rw [← hs]
          exact sb_wk w3.1 (hk s' (i + 1) hl w3.2)
  · rw [List.length_map, List.drop_length] at hs
    rw [List.length_map] at is
    have hs : Fl.go s = forM f xs s0 := hs
    show SB X Γ' rest (P (fin (forM f xs s0) k))
    rw [← hs]
    exact sb_wk ws (hk s _ (Nat.le_refl _) is)
end
end Dl
namespace Dl
open PySem PySem.Spec PyProof.Rows L2
section
variable {X : Cx} {Γ Γ' : Env} {a b c e : Expr} {es : List Expr} {pos p : Pos} {α β : Type} {d x y : D} {ds es' : List D} {i j : Int}
/-! ## one's own lists, read -/
/-- what bears no address -/
def D.flat : D → Bool
  | .non => true
  | .bl _ => true
  | .int _ => true
  | .str _ => true
  | _ => false
theorem Rp.flat {K : PySem.W.Frag} {H H' : Hp} {v : V} {d : D} (r : Rp K H v d) (h : d.flat = true) : Rp K H' v d := by
  cases r with
  | non => exact .non
  | bl b => exact .bl b
  | int i => exact .int i
  | str x => exact .str x
  | _ => cases h
theorem stt_freeze {K : PySem.W.Frag} {H0 H1 : Hp} {σ : St} {Γ : Env} (S : Stt K H0 H1 σ Γ) {i : Nat} {q : Addr} (e : Γ[i]? = some (.own q ds)) :
    ∃ J0, Same H0 J0 ∧ (∀ p o, H1 p = some o → H0 p = none → p ≠ q → J0 p = none) ∧ Stt K J0 H1 σ ((Γ.set i (.val (.lst ds))).map fun s => match s with | .own _ _ => .no | s => s) := by
  obtain ⟨o, e1, rfl, n, vs, h1, rv⟩ := S.sl i _ e
  have sub : Same (upd H0 q (.lst vs)) H1 := fun b x z => by
    by_cases hb : b = q
    · subst hb
      rw [upd_same] at z
      rw [h1]
      exact z
    · rw [upd_ne hb] at z
      exact S.sub b x z
  have hi : i < Γ.length := (List.getElem?_eq_some_iff.mp e).1
  refine ⟨upd H0 q (.lst vs), same_upd n, fun p o _ m hp => by rw [upd_ne hp]; exact m, ⟨sub, by rw [List.length_map, List.length_set]; exact S.len, fun j s z => ?_⟩⟩
  rw [List.getElem?_map] at z
  by_cases hj : i = j
  · subst hj
    rw [List.getElem?_set_self hi] at z
    cases z
    exact ⟨some (.ref q), e1, .ref q, rfl, .lst upd_same (rv.mono (same_upd n))⟩
  · rw [List.getElem?_set_ne hj] at z
    cases hg : Γ[j]? with
    | none => rw [hg] at z; cases z
    | some t =>
      rw [hg] at z
      obtain ⟨o, q1, q2⟩ := S.sl j t hg
      cases t with
      | no => cases z; exact ⟨o, q1, trivial⟩
      | val d =>
        cases z
        obtain ⟨v, z1, z2⟩ := q2
        exact ⟨o, q1, v, z1, z2.mono (same_upd n)⟩
      | own p' ds' => cases z; exact ⟨o, q1, trivial⟩
/-- an env in which the own list at i is a value, the other own ones forgotten -/
def peek (Γ : Env) (i : Nat) (ds : List D) : Env := (Γ.set i (.val (.lst ds))).map fun s => match s with | .own _ _ => .no | s => s
theorem tr_peek {H0 J0 H1 L0 L1 : Hp} (s : Same H0 H1) (t : Tr J0 H1 L0 L1) : Tr H0 H1 H0 L1 := ⟨Same.refl _, t.s1, s.trans t.s1, fun _ _ _ n => n⟩
theorem ev_peek (i : Nat) {q : Addr} (h : EV X (peek Γ i ds) e d) (hf : d.flat = true := by rfl) (ho : Γ[i]? = some (.own q ds) := by rfl) : EV X Γ e d := fun H0 H1 σ S Q k => by
  obtain ⟨J0, _, _, S'⟩ := stt_freeze S ho
  exact h J0 H1 σ S' Q fun v L0 L1 t r => k v H0 L1 (tr_peek S.sub t) (r.flat hf)
theorem et_peek (i : Nat) {q : Addr} {k : Bool} (h : ET X (peek Γ i ds) e k) (ho : Γ[i]? = some (.own q ds) := by rfl) : ET X Γ e k := fun H0 H1 σ S Q kk => by
  obtain ⟨J0, _, _, S'⟩ := stt_freeze S ho
  exact h J0 H1 σ S' Q fun L0 L1 t => kk H0 L1 (tr_peek S.sub t)
/-- own[i] -/
theorem ev_ixO (n : Nat) {q : Addr} {x : Str} (hb : EV X Γ b (.int i)) (h : atI ds i = some d) (ho : Γ[n]? = some (.own q ds) := by rfl) (hN : X.N[n]? = some x := by rfl) (hv : Vis X.env.scope x := by first | exact Or.inl rfl | exact Or.inr (Or.inl rfl) | exact Or.inr (Or.inr rfl))
    (h1 : (x == ("__debug__" : Str)) = false := by decide) (h2 : (x == ("__classdict__" : Str)) = false := by decide) (hs : PlainIx b := by intro _ _; rfl) : EV X Γ (.Subscript (.Name x p) b pos) d := fun H0 H1 σ S Q k => by
  obtain ⟨o, e1, rfl, n0, vs, hq, rv⟩ := S.sl n _ ho
  refine we_of (pe_ix ix_list (pe_var hN hv h1 h2) pe_we hs) ⟨_, e1, ?_⟩
  refine hb H0 H1 σ S _ fun w L0 L1 t rw' => ?_
  cases rw'
  obtain ⟨z, z1, z2⟩ := atI_rp rv h
  exact ⟨q, vs, i, z, rfl, rfl, .inl (.inl (t.s1 _ _ hq)), z1, k _ L0 L1 t (z2.mono t.s0)⟩
/-! ## items with a default -/
theorem atI_getD {γ : Type} {xs : List γ} (z : γ) (g : γ → D) (h0 : 0 ≤ i) (h1 : i < (xs.length : Int)) : atI (xs.map g) i = some (g (xs.getD i.toNat z)) := by
  have hn : i.toNat < xs.length := by omega
  have e : i = ((i.toNat : Nat) : Int) := by omega
  have k : (xs.map g)[i.toNat]? = some (g (xs.getD i.toNat z)) := by
    rw [List.getElem?_map, List.getElem?_eq_getElem hn, List.getD_eq_getElem?_getD, List.getElem?_eq_getElem hn]
    rfl
  have := atI_nat k
  rwa [← e] at this
/-! ## + of lists, tuples; slices -/
theorem en_cat (ha : EV X Γ a (.lst ds)) (hb : EV X Γ b (.lst es')) (hz : ds.length + es'.length ≤ 100000) : EN X Γ (.BinOp a .Add b pos) (ds ++ es') := fun H0 H1 σ S Q q =>
  we_of (pe_op op_cat pe_we pe_we) (ha H0 H1 σ S _ fun v J0 J1 t rv => hb J0 J1 σ (S.tr t) _ fun w L0 L1 t2 rw' => by
    cases rv with
    | lst h1 r1 =>
      cases rw' with
      | lst h2 r2 =>
        refine ⟨_, _, _, _, rfl, rfl, t2.s1 _ _ (t.in' _ _ h1), t2.in' _ _ h2, by rw [r1.length, r2.length]; exact sz hz, fun p hp => ?_⟩
        exact q p _ L0 _ ((t.trans t2).trans (Tr.new1 t2.in' hp)) ((t.trans t2).s1.free hp) (t2.in'.free hp) upd_same ((r1.mono t2.s0).append r2))
theorem ev_catT (ha : EV X Γ a (.tup ds)) (hb : EV X Γ b (.tup es')) (hz : ds.length + es'.length ≤ 100000) : EV X Γ (.BinOp a .Add b pos) (.tup (ds ++ es')) := fun H0 H1 σ S Q q =>
  we_of (pe_op op_catA pe_we pe_we) (ha H0 H1 σ S _ fun v J0 J1 t rv => hb J0 J1 σ (S.tr t) _ fun w L0 L1 t2 rw' => by
    cases rv with
    | tup h1 r1 =>
      cases rw' with
      | tup h2 r2 =>
        have q1 := same_tq (t2.s0.trans t2.in') h1
        have q2 := same_tq t2.in' h2
        refine ⟨_, _, _, _, rfl, rfl, q1, q2, by rw [r1.length, r2.length]; exact sz hz, fun z => ?_, fun _ z => ?_, fun _ _ p hp => ?_⟩
        · subst z
          cases r1
          exact q _ L0 L1 (t.trans t2) (.tup h2 r2)
        · subst z
          cases r2
          rw [List.append_nil] at q
          exact q _ L0 L1 (t.trans t2) (.tup (same_tq t2.s0 h1) (r1.mono t2.s0))
        · exact q _ _ _ ((t.trans t2).trans (Tr.new t2.in' hp)) (.tup (.inl (.inl upd_same)) (((r1.mono t2.s0).append r2).mono (same_upd (t2.in'.free hp)))))
/-- a slice's part -/
def EO (X : Cx) (Γ : Env) (e : Option Expr) (o : Option Int) : Prop := ∀ H0 H1 σ, Stt X.K H0 H1 σ Γ → ∃ t, PO X e t ∧ ∀ Q : Option Int → Hp → Prop, (∀ J0 J1, Tr H0 H1 J0 J1 → Q o J1) → t σ H1 Q
def WO (X : Cx) (e : Option Expr) : TO := fun σ H Q => ∃ t, PO X e t ∧ t σ H Q
theorem po_wo {e : Option Expr} : PO X e (WO X e) := ⟨fun pins s σ H Q I ⟨t, h, q⟩ => h.run pins s σ H Q I q⟩
theorem eo_none : EO X Γ none none := fun H0 H1 σ S => ⟨_, po_none, fun Q q => q H0 H1 (Tr.refl S.sub)⟩
theorem eo_some (h : EV X Γ e (.int i)) : EO X Γ (some e) (some i) := fun H0 H1 σ S => ⟨_, po_some pe_we, fun Q q => h H0 H1 σ S _ fun v J0 J1 t r => by
  cases r
  exact ⟨i, rfl, q J0 J1 t⟩⟩
/-- the items of xs[lo:hi] -/
def cutD {γ : Type} (xs : List γ) (lo hi : Option Int) : List γ := (xs.drop (HT.sIx xs.length 0 lo)).take (HT.sIx xs.length xs.length hi - HT.sIx xs.length 0 lo)
theorem cutD_map {γ δ : Type} (f : γ → δ) (xs : List γ) (lo hi : Option Int) : cutD (xs.map f) lo hi = (cutD xs lo hi).map f := by
  unfold cutD
  rw [List.length_map, List.map_take, List.map_drop]
theorem rpl_cut {K : PySem.W.Frag} {H : Hp} {vs : List V} (r : RpL K H vs ds) (lo hi : Option Int) : RpL K H (cutV vs lo hi) (cutD ds lo hi) := by
  unfold cutV cutD
  rw [r.length]
  exact (r.drop _).take _
variable {lo hi : Option Expr} {l h : Option Int} {p2 : Pos}
theorem en_slice (ha : EV X Γ a d) (hd : d.lss = some ds) (h1 : EO X Γ lo l) (h2 : EO X Γ hi h) : EN X Γ (.Subscript a (.Slice lo hi none p2) pos) (cutD ds l h) := fun H0 H1 σ S Q q =>
  we_of (pe_slice sl_list pe_we po_wo po_wo) (ha H0 H1 σ S _ fun v J0 J1 t rv => by
    obtain ⟨t1, q1, k1⟩ := h1 J0 J1 σ (S.tr t)
    refine ⟨t1, q1, k1 _ fun L0 L1 t2 => ?_⟩
    obtain ⟨t2', q2, k2⟩ := h2 L0 L1 σ (S.tr (t.trans t2))
    refine ⟨t2', q2, k2 _ fun M0 M1 t3 => ?_⟩
    obtain ⟨a, vs, rfl, e, r⟩ := rv.lss hd
    refine ⟨a, vs, rfl, ((t2.s0.trans t3.s0).trans t3.in').seq e, fun p hp => ?_⟩
    have T := (t.trans t2).trans t3
    exact q p _ M0 _ (T.trans (Tr.new1 t3.in' hp)) (T.s1.free hp) (t3.in'.free hp) upd_same (rpl_cut (r.mono (t2.s0.trans t3.s0)) l h))
theorem ev_sliceT (ha : EV X Γ a (.tup ds)) (h1 : EO X Γ lo l) (h2 : EO X Γ hi h) : EV X Γ (.Subscript a (.Slice lo hi none p2) pos) (.tup (cutD ds l h)) := fun H0 H1 σ S Q q =>
  we_of (pe_slice sl_tupA pe_we po_wo po_wo) (ha H0 H1 σ S _ fun v J0 J1 t rv => by
    obtain ⟨t1, q1, k1⟩ := h1 J0 J1 σ (S.tr t)
    refine ⟨t1, q1, k1 _ fun L0 L1 t2 => ?_⟩
    obtain ⟨t2', q2, k2⟩ := h2 L0 L1 σ (S.tr (t.trans t2))
    refine ⟨t2', q2, k2 _ fun M0 M1 t3 => ?_⟩
    have T := (t.trans t2).trans t3
    cases rv with
    | tup e r =>
      have r' := r.mono (t2.s0.trans t3.s0)
      refine ⟨_, _, rfl, same_tq ((t2.s0.trans t3.s0).trans t3.in') e, fun z => ?_, fun z p hp => ?_⟩
      · have e1 : cutD ds l h = ds := by
          unfold cutD
          rw [← r.length, z.1, z.2, List.drop_zero, Nat.sub_zero, r.length, List.take_length]
        rw [e1] at q
        exact q _ M0 M1 T (.tup (same_tq (t2.s0.trans t3.s0) e) r')
      · exact q _ _ _ (T.trans (Tr.new t3.in' hp)) (.tup (.inl (.inl upd_same)) ((rpl_cut r' l h).mono (same_upd (t3.in'.free hp)))))
/-- xs[::-1] -/
theorem en_rev {k : Nat} {q1 q2 q3 : Pos} (ha : EV X Γ a d) (hd : d.lss = some ds) : EN X Γ (.Subscript a (.Slice none none (some (.UnaryOp .USub (.Constant (.int 1) k q1) q2)) q3) pos) ds.reverse := fun H0 H1 σ S Q q =>
  we_of (pe_revL pe_we) (ha H0 H1 σ S _ fun v J0 J1 t rv => by
    obtain ⟨a, vs, rfl, e, r⟩ := rv.lss hd
    exact ⟨a, vs, rfl, t.in'.seq e, fun p hp => q p _ J0 _ (t.trans (Tr.new1 t.in' hp)) (t.s1.free hp) (t.in'.free hp) upd_same r.reverse⟩)
/-! ## tuple(..), list(..), sum, max, min, any, all -/
theorem cd_tuple (h : d.lss = some ds) : CallD X (.type "tuple") [d] (.tup ds) := ⟨_, call_tuple_of, fun H0 H1 vs s r Q q => by
  obtain ⟨v, rfl, r1⟩ := rpl1 r
  obtain ⟨a, ws, rfl, e, rl⟩ := r1.lss h
  exact ⟨a, ws, rfl, .inl ⟨s.seq e, fun l hl => q _ _ _ (Tr.new s hl) (.tup (.inl (.inl upd_same)) (rl.mono (same_upd (s.free hl))))⟩⟩⟩
theorem en_list {x : Str} {q1 : Pos} (ha : EV X Γ a d) (hd : d.sqs = some ds) (hm : X.mg "list" = none) (hx : x = "list" := by rfl) (hg : Gl X x := by rfl) (he : starEach [a] X.env = (false, eval a X.env) :: starEach [] X.env := by rfl) (hpl : (backTo pos (starEach [] X.env)).any (·.1) = false := by rfl) :
    EN X Γ (.Call (.Name x q1) [a] [] pos) ds := fun H0 H1 σ S Q q => by
  subst hx
  refine we_of (pe_callTy call_list_of hg hm (by decide +kernel) pa_wa (by decide) (by decide) he hpl) (ea_cons ha ea_nil he H0 H1 σ S _ fun vs J0 J1 t r => ?_)
  obtain ⟨v, rfl, r1⟩ := rpl1 r
  obtain ⟨a, ws, rfl, e, rl⟩ := r1.sqs hd
  refine ⟨a, ws, rfl, ?_, fun p hp => q p _ J0 _ (t.trans (Tr.new1 t.in' hp)) (t.s1.free hp) (t.in'.free hp) upd_same rl⟩
  rcases e with e | e
  · exact .inl (t.in'.seq e)
  · exact .inr (same_tq t.in' e)
theorem rpl_ints {K : PySem.W.Frag} {H : Hp} : ∀ {vs : List V} {ns : List Int}, RpL K H vs (ns.map D.int) → vs = ns.map V.int
  | [], [], _ => rfl
  | _ :: _, _ :: _, .cons h r => by
    cases h
    rw [rpl_ints r]
    rfl
theorem rpl_bls {K : PySem.W.Frag} {H : Hp} : ∀ {vs : List V} {ns : List Bool}, RpL K H vs (ns.map D.bl) → vs = ns.map V.bl
  | [], [], _ => rfl
  | _ :: _, _ :: _, .cons h r => by
    cases h
    rw [rpl_bls r]
    rfl
theorem cd_sum {ns : List Int} (h : d.lss = some (ns.map D.int)) (hc : X.calm = true) : CallD X (.builtin "sum") [d] (.int ns.sum) := ⟨_, cr_sum hc, fun H0 H1 vs s r Q q => by
  obtain ⟨v, rfl, r1⟩ := rpl1 r
  obtain ⟨a, ws, rfl, e, rl⟩ := r1.lss h
  have e2 := rpl_ints rl
  subst e2
  exact ⟨a, ns, rfl, s.seq e, q _ H0 H1 (Tr.refl s) (.int _)⟩⟩
theorem cd_all {ns : List Bool} (h : d.lss = some (ns.map D.bl)) (hc : X.calm = true) : CallD X (.builtin "all") [d] (.bl (ns.all id)) := ⟨_, cr_all hc, fun H0 H1 vs s r Q q => by
  obtain ⟨v, rfl, r1⟩ := rpl1 r
  obtain ⟨a, ws, rfl, e, rl⟩ := r1.lss h
  have e2 := rpl_bls rl
  subst e2
  exact ⟨a, ns, rfl, s.seq e, q _ H0 H1 (Tr.refl s) (.bl _)⟩⟩
theorem cd_any {ns : List Bool} (h : d.lss = some (ns.map D.bl)) (hc : X.calm = true) : CallD X (.builtin "any") [d] (.bl (ns.any id)) := ⟨_, cr_any hc, fun H0 H1 vs s r Q q => by
  obtain ⟨v, rfl, r1⟩ := rpl1 r
  obtain ⟨a, ws, rfl, e, rl⟩ := r1.lss h
  have e2 := rpl_bls rl
  subst e2
  exact ⟨a, ns, rfl, s.seq e, q _ H0 H1 (Tr.refl s) (.bl _)⟩⟩
/-- the greatest, the least of a list that is not empty -/
def maxL (ns : List Int) : Int := ns.foldl max (ns.headD 0)
def minL (ns : List Int) : Int := ns.foldl min (ns.headD 0)
theorem foldl_max_le : ∀ (ns : List Int) (a : Int), a ≤ ns.foldl max a ∧ (∀ y ∈ ns, y ≤ ns.foldl max a) ∧ (ns.foldl max a = a ∨ ns.foldl max a ∈ ns)
  | [], a => ⟨Int.le_refl _, fun _ h => by simp at h, .inl rfl⟩
  | x :: xs, a => by
    obtain ⟨h1, h2, h3⟩ := foldl_max_le xs (max a x)
    refine ⟨Int.le_trans (Int.le_max_left a x) h1, fun y hy => ?_, ?_⟩
    · rcases List.mem_cons.mp hy with rfl | hy
      · exact Int.le_trans (Int.le_max_right a y) h1
      · exact h2 y hy
    · show xs.foldl max (max a x) = a ∨ xs.foldl max (max a x) ∈ x :: xs
      rcases h3 with h3 | h3
      · rw [h3]
        by_cases hax : a ≤ x
        · right
          rw [Int.max_eq_right hax]
          exact List.mem_cons_self
        · left
          exact Int.max_eq_left (by omega)
      · exact .inr (List.mem_cons_of_mem _ h3)
theorem foldl_min_le : ∀ (ns : List Int) (a : Int), ns.foldl min a ≤ a ∧ (∀ y ∈ ns, ns.foldl min a ≤ y) ∧ (ns.foldl min a = a ∨ ns.foldl min a ∈ ns)
  | [], a => ⟨Int.le_refl _, fun _ h => by simp at h, .inl rfl⟩
  | x :: xs, a => by
    obtain ⟨h1, h2, h3⟩ := foldl_min_le xs (min a x)
    refine ⟨Int.le_trans h1 (Int.min_le_left a x), fun y hy => ?_, ?_⟩
    · rcases List.mem_cons.mp hy with rfl | hy
      · exact Int.le_trans h1 (Int.min_le_right a y)
      · exact h2 y hy
    · show xs.foldl min (min a x) = a ∨ xs.foldl min (min a x) ∈ x :: xs
      rcases h3 with h3 | h3
      · rw [h3]
        by_cases hax : a ≤ x
        · left
          exact Int.min_eq_left hax
        · right
          rw [Int.min_eq_right (by omega)]
          exact List.mem_cons_self
      · exact .inr (List.mem_cons_of_mem _ h3)
theorem maxL_spec {ns : List Int} (h : ns ≠ []) : maxL ns ∈ ns ∧ ∀ y ∈ ns, y ≤ maxL ns := by
  cases ns with
  | nil => exact absurd rfl h
  | cons x xs =>
    obtain ⟨h1, h2, h3⟩ := foldl_max_le (x :: xs) x
    refine ⟨?_, h2⟩
    rcases h3 with h3 | h3
    · show (x :: xs).foldl max x ∈ _
      rw [h3]
      exact List.mem_cons_self
    · exact h3
theorem minL_spec {ns : List Int} (h : ns ≠ []) : minL ns ∈ ns ∧ ∀ y ∈ ns, minL ns ≤ y := by
  cases ns with
  | nil => exact absurd rfl h
  | cons x xs =>
    obtain ⟨h1, h2, h3⟩ := foldl_min_le (x :: xs) x
    refine ⟨?_, h2⟩
    rcases h3 with h3 | h3
    · show (x :: xs).foldl min x ∈ _
      rw [h3]
      exact List.mem_cons_self
    · exact h3
theorem cd_maxL {ns : List Int} (h : d.lss = some (ns.map D.int)) (hn : ns ≠ []) (hc : X.calm = true) : CallD X (.builtin "max") [d] (.int (maxL ns)) := ⟨_, cr_max hc, fun H0 H1 vs s r Q q => by
  obtain ⟨v, rfl, r1⟩ := rpl1 r
  obtain ⟨a, ws, rfl, e, rl⟩ := r1.lss h
  have e2 := rpl_ints rl
  subst e2
  refine ⟨a, ns, rfl, s.seq e, List.length_pos_iff.mpr hn, fun m hm hle => ?_⟩
  have sp := maxL_spec hn
  have e3 : m = maxL ns := Int.le_antisymm (sp.2 m hm) (hle _ sp.1)
  subst e3
  exact q _ H0 H1 (Tr.refl s) (.int _)⟩
theorem cd_minL {ns : List Int} (h : d.lss = some (ns.map D.int)) (hn : ns ≠ []) (hc : X.calm = true) : CallD X (.builtin "min") [d] (.int (minL ns)) := ⟨_, cr_min hc, fun H0 H1 vs s r Q q => by
  obtain ⟨v, rfl, r1⟩ := rpl1 r
  obtain ⟨a, ws, rfl, e, rl⟩ := r1.lss h
  have e2 := rpl_ints rl
  subst e2
  refine ⟨a, ns, rfl, s.seq e, List.length_pos_iff.mpr hn, fun m hm hle => ?_⟩
  have sp := minL_spec hn
  have e3 : m = minL ns := Int.le_antisymm (hle _ sp.1) (sp.2 m hm)
  subst e3
  exact q _ H0 H1 (Tr.refl s) (.int _)⟩
end
/-! ## == -/
theorem pds_map {α : Type} (g : α → D) : ∀ xs : List α, D.pds (xs.map g) = xs.map fun x => (g x).pd
  | [] => rfl
  | x :: xs => by
    show D.pd (g x) :: D.pds (xs.map g) = _
    rw [pds_map g xs]
    rfl
/-- == of such data is equality -/
def EqT {α : Type} [DecidableEq α] (g : α → D) : Prop := ∀ a b, eqvD (g a) (g b) = decide (a = b)
/-- .. may be asked -/
structure OkT {α : Type} (g : α → D) (n : Nat) : Prop where
  pl : ∀ a, (g a).pl = true
  lay : ∀ a, (g a).pd.canLay0 = true
  dep : ∀ a, (g a).pd.depth ≤ n
theorem OkT.ok {α : Type} {g : α → D} {n : Nat} (h : OkT g n) (hn : n ≤ 64) (a : α) : (g a).ok = true := by
  unfold D.ok SeqAt.shaped
  rw [h.pl a, h.lay a, decide_eq_true (Nat.le_trans (h.dep a) hn)]
  rfl
theorem okT_int : OkT D.int 0 := ⟨fun _ => rfl, fun _ => rfl, fun _ => Nat.le_refl _⟩
theorem okT_bl : OkT D.bl 0 := ⟨fun _ => rfl, fun _ => rfl, fun _ => Nat.le_refl _⟩
theorem eqT_int : EqT D.int := fun a b => by
  show (a == b) = _
  exact Bool.beq_eq_decide_eq a b
theorem eqT_bl : EqT D.bl := fun a b => by
  show (a == b) = _
  exact Bool.beq_eq_decide_eq a b
theorem eqvAll_map {α : Type} [DecidableEq α] {g : α → D} (h : EqT g) : ∀ xs ys : List α, PyData.eqvAll (xs.map fun x => (g x).pd) (ys.map fun x => (g x).pd) = decide (xs = ys)
  | [], [] => rfl
  | [], y :: ys => by
    rw [decide_eq_false (by simp)]
    rfl
  | x :: xs, [] => by
    rw [decide_eq_false (by simp)]
    rfl
  | x :: xs, y :: ys => by
    show (PyData.eqv (g x).pd (g y).pd && PyData.eqvAll (xs.map fun x => (g x).pd) (ys.map fun x => (g x).pd)) = _
    have e := h x y
    unfold eqvD at e
    rw [e, eqvAll_map h xs ys, ← Bool.decide_and]
    congr 1
    simp
theorem eqT_L {α : Type} [DecidableEq α] {g : α → D} (h : EqT g) : EqT (dL g) := fun a b => by
  show PyData.eqvAll (D.pds (a.map g)) (D.pds (b.map g)) = _
  rw [pds_map, pds_map]
  exact eqvAll_map h a b
theorem eqT_V {α : Type} [DecidableEq α] {g : α → D} (h : EqT g) : EqT (dV g) := fun a b => by
  show PyData.eqvAll (D.pds (a.map g)) (D.pds (b.map g)) = _
  rw [pds_map, pds_map]
  exact eqvAll_map h a b
theorem eqv_nil {α : Type} {g : α → D} {xs : List α} : eqvD (dL g xs) (.lst []) = xs.isEmpty := by
  cases xs <;> rfl
theorem eqv_nilF {α : Type} {g : α → D} {xs : List α} : eqvD (dF g xs) (.lst []) = xs.isEmpty := by
  cases xs <;> rfl
theorem eqT_2 {α β : Type} [DecidableEq α] [DecidableEq β] {g : α → D} {h : β → D} (hg : EqT g) (hh : EqT h) : EqT (d2 g h) := fun a b => by
  show (PyData.eqv (g a.1).pd (g b.1).pd && (PyData.eqv (h a.2).pd (h b.2).pd && true)) = _
  have e1 := hg a.1 b.1
  have e2 := hh a.2 b.2
  unfold eqvD at e1 e2
  rw [e1, e2, Bool.and_true, ← Bool.decide_and]
  congr 1
  exact propext Prod.ext_iff.symm
theorem eqT_3 {α β γ : Type} [DecidableEq α] [DecidableEq β] [DecidableEq γ] {g : α → D} {h : β → D} {k : γ → D} (hg : EqT g) (hh : EqT h) (hk : EqT k) : EqT (d3 g h k) := fun a b => by
  show (PyData.eqv (g a.1).pd (g b.1).pd && (PyData.eqv (h a.2.1).pd (h b.2.1).pd && (PyData.eqv (k a.2.2).pd (k b.2.2).pd && true))) = _
  have e1 := hg a.1 b.1
  have e2 := hh a.2.1 b.2.1
  have e3 := hk a.2.2 b.2.2
  unfold eqvD at e1 e2 e3
  rw [e1, e2, e3, Bool.and_true, ← Bool.decide_and, ← Bool.decide_and]
  congr 1
  exact propext ⟨fun z => Prod.ext z.1 (Prod.ext z.2.1 z.2.2), fun z => by subst z; exact ⟨rfl, rfl, rfl⟩⟩
theorem max0 {a n : Nat} (h : a ≤ n) : max a 0 ≤ n := by omega
theorem depthAll_le {n : Nat} : ∀ {ds : List PyData}, (∀ d ∈ ds, d.depth ≤ n) → PyData.depthAll ds ≤ n
  | [], _ => Nat.zero_le _
  | d :: ds, h => by
    have h1 := h d List.mem_cons_self
    have h2 := depthAll_le (ds := ds) fun x hx => h x (List.mem_cons_of_mem _ hx)
    show max d.depth (PyData.depthAll ds) ≤ n
    omega
theorem layAll {ds : List PyData} : (∀ d ∈ ds, d.canLay0 = true) → PyData.canLayAll0 ds = true := by
  induction ds with
  | nil => exact fun _ => rfl
  | cons d ds ih =>
    intro h
    show (d.canLay0 && PyData.canLayAll0 ds) = true
    rw [h d List.mem_cons_self, ih fun x hx => h x (List.mem_cons_of_mem _ hx)]
    rfl
theorem plsAll {ds : List D} : (∀ d ∈ ds, d.pl = true) → D.pls ds = true := by
  induction ds with
  | nil => exact fun _ => rfl
  | cons d ds ih =>
    intro h
    show (d.pl && D.pls ds) = true
    rw [h d List.mem_cons_self, ih fun x hx => h x (List.mem_cons_of_mem _ hx)]
    rfl
theorem okT_seq {α : Type} {g : α → D} {n : Nat} (h : OkT g n) (xs : List α) : D.pls (xs.map g) = true ∧ PyData.canLayAll0 (D.pds (xs.map g)) = true ∧ PyData.depthAll (D.pds (xs.map g)) ≤ n := by
  refine ⟨plsAll fun d hd => ?_, ?_, ?_⟩
  · obtain ⟨x, _, rfl⟩ := List.mem_map.mp hd
    exact h.pl x
  · rw [pds_map]
    refine layAll fun d hd => ?_
    obtain ⟨x, _, rfl⟩ := List.mem_map.mp hd
    exact h.lay x
  · rw [pds_map]
    refine depthAll_le fun d hd => ?_
    obtain ⟨x, _, rfl⟩ := List.mem_map.mp hd
    exact h.dep x
theorem depth_list (ds : List PyData) : PyData.depth (.list ds) = PyData.depthAll ds + 1 := by
  first | rfl | (unfold PyData.depth; omega)
theorem depth_tuple (ds : List PyData) : PyData.depth (.tuple ds) = PyData.depthAll ds + 1 := by
  first | rfl | (unfold PyData.depth; omega)
theorem okT_L {α : Type} {g : α → D} {n : Nat} (h : OkT g n) : OkT (dL g) (n + 1) := ⟨fun a => (okT_seq h a).1, fun a => (okT_seq h a).2.1, fun a => by
  show PyData.depth (.list (D.pds (a.map g))) ≤ n + 1
  rw [depth_list]
  have := (okT_seq h a).2.2
  omega⟩
theorem okT_F {α : Type} {g : α → D} {n : Nat} (h : OkT g n) : OkT (dF g) (n + 1) := ⟨fun a => (okT_seq h a).1, fun a => (okT_seq h a).2.1, fun a => by
  show PyData.depth (.list (D.pds (a.map g))) ≤ n + 1
  rw [depth_list]
  have := (okT_seq h a).2.2
  omega⟩
theorem okT_V {α : Type} {g : α → D} {n : Nat} (h : OkT g n) : OkT (dV g) (n + 1) := ⟨fun a => (okT_seq h a).1, fun a => (okT_seq h a).2.1, fun a => by
  show PyData.depth (.tuple (D.pds (a.map g))) ≤ n + 1
  rw [depth_tuple]
  have := (okT_seq h a).2.2
  omega⟩
theorem ok_tup {ds : List D} {n : Nat} (h : ∀ d ∈ ds, d.pl = true ∧ d.pd.canLay0 = true ∧ d.pd.depth ≤ n) : (D.tup ds).pl = true ∧ (D.tup ds).pd.canLay0 = true ∧ (D.tup ds).pd.depth ≤ n + 1 := by
  have e : ∀ ds : List D, D.pds ds = ds.map D.pd := fun ds => by
    have := pds_map (fun d : D => d) ds
    rwa [List.map_id'] at this
  refine ⟨plsAll fun d hd => (h d hd).1, ?_, ?_⟩
  · show PyData.canLayAll0 (D.pds ds) = true
    rw [e]
    refine layAll fun d hd => ?_
    obtain ⟨x, hx, rfl⟩ := List.mem_map.mp hd
    exact (h x hx).2.1
  · show PyData.depth (.tuple (D.pds ds)) ≤ n + 1
    rw [depth_tuple, e]
    have := depthAll_le (n := n) (ds := ds.map D.pd) fun d hd => by
      obtain ⟨x, hx, rfl⟩ := List.mem_map.mp hd
      exact (h x hx).2.2
    omega
theorem OkT.all {α : Type} {g : α → D} {n m : Nat} (h : OkT g n) (hn : n ≤ m) (a : α) : (g a).pl = true ∧ (g a).pd.canLay0 = true ∧ (g a).pd.depth ≤ m := ⟨h.pl a, h.lay a, Nat.le_trans (h.dep a) hn⟩
theorem okT_2 {α β : Type} {g : α → D} {h : β → D} {n m : Nat} (hg : OkT g n) (hh : OkT h m) : OkT (d2 g h) (max n m + 1) := by
  have k := fun a : α × β => ok_tup (n := max n m) (ds := [g a.1, h a.2]) fun d hd => by
    rcases List.mem_cons.mp hd with rfl | hd
    · exact hg.all (Nat.le_max_left _ _) _
    · rw [List.mem_singleton.mp hd]
      exact hh.all (Nat.le_max_right _ _) _
  exact ⟨fun a => (k a).1, fun a => (k a).2.1, fun a => (k a).2.2⟩
theorem okT_3 {α β γ : Type} {g : α → D} {h : β → D} {k : γ → D} {n m l : Nat} (hg : OkT g n) (hh : OkT h m) (hk : OkT k l) : OkT (d3 g h k) (max n (max m l) + 1) := by
  have z := fun a : α × β × γ => ok_tup (n := max n (max m l)) (ds := [g a.1, h a.2.1, k a.2.2]) fun d hd => by
    rcases List.mem_cons.mp hd with rfl | hd
    · exact hg.all (Nat.le_max_left _ _) _
    · rcases List.mem_cons.mp hd with rfl | hd
      · exact hh.all (by omega) _
      · rw [List.mem_singleton.mp hd]
        exact hk.all (by omega) _
  exact ⟨fun a => (z a).1, fun a => (z a).2.1, fun a => (z a).2.2⟩
end Dl
namespace Dl
open PySem PySem.Spec PyProof.Rows L2
section
variable {X : Cx} {Γ Γ' : Env} {a b c e : Expr} {es : List Expr} {pos p : Pos} {α β : Type} {d x y : D} {ds es' : List D} {i j : Int} {tg it : Expr}
theorem ev_ifm {k : Bool} (g : α → D) {u v : α} (h : ET X Γ c k) (h1 : k = true → EV X Γ a (g u)) (h2 : k = false → EV X Γ b (g v)) : EV X Γ (.IfExp c a b pos) (g (bif k then u else v)) := by
  have := ev_if (pos := pos) h h1 h2
  cases k <;> exact this
theorem en_is {es' : List D} (h : EN X Γ e ds) (q : ds = es') : EN X Γ e es' := q ▸ h
theorem iv_is (h : IV X Γ tg it ds) (q : ds = es') : IV X Γ tg it es' := q ▸ h
theorem en_revm (g : α → D) {xs : List α} {k : Nat} {q1 q2 q3 : Pos} (ha : EV X Γ a d) (hd : d.lss = some (xs.map g)) : EN X Γ (.Subscript a (.Slice none none (some (.UnaryOp .USub (.Constant (.int 1) k q1) q2)) q3) pos) (xs.reverse.map g) :=
  en_is (en_rev ha hd) (List.map_reverse).symm
theorem en_slicem (g : α → D) {xs : List α} {lo hi : Option Expr} {l h : Option Int} {p2 : Pos} (ha : EV X Γ a d) (hd : d.lss = some (xs.map g)) (h1 : EO X Γ lo l) (h2 : EO X Γ hi h) : EN X Γ (.Subscript a (.Slice lo hi none p2) pos) ((cutD xs l h).map g) :=
  en_is (en_slice ha hd h1 h2) (cutD_map g xs l h)
theorem ev_sliceVm (g : α → D) {xs : List α} {lo hi : Option Expr} {l h : Option Int} {p2 : Pos} (ha : EV X Γ a (.tup (xs.map g))) (h1 : EO X Γ lo l) (h2 : EO X Γ hi h) : EV X Γ (.Subscript a (.Slice lo hi none p2) pos) (dV g (cutD xs l h)) :=
  ev_is (ev_sliceT ha h1 h2) (congrArg D.tup (cutD_map g xs l h))
theorem en_catm (g : α → D) {xs ys : List α} (ha : EV X Γ a (.lst (xs.map g))) (hb : EV X Γ b (.lst (ys.map g))) (hz : xs.length + ys.length ≤ 100000) : EN X Γ (.BinOp a .Add b pos) ((xs ++ ys).map g) :=
  en_is (en_cat ha hb (by rw [List.length_map, List.length_map]; exact hz)) List.map_append.symm
abbrev dNat (k : Nat) : D := .int (k : Int)
abbrev dRg (a : Int) (k : Nat) : D := .int (a + (k : Int))
abbrev dEn (g : α → D) (q : α × Nat) : D := .tup [.int ((q.2 : Nat) : Int), g q.1]
theorem enumD_map (g : α → D) (xs : List α) : enumD (xs.map g) = xs.zipIdx.map (dEn g) := by
  unfold enumD
  rw [List.zipIdx_map, List.map_map]
  rfl
theorem zipD_map {γ : Type} (g : α → D) (h : γ → D) (xs : List α) (ys : List γ) : zipD (xs.map g) (ys.map h) = (xs.zip ys).map (d2 g h) := by
  unfold zipD
  rw [List.zip_map, List.map_map]
  rfl
theorem iv_enumm (g : α → D) {xs : List α} {elts : List Expr} {kk : Nat} {tpos : Pos} (h : EV X Γ a d) (hd : d.lss = some (xs.map g)) (hm : X.mg "enumerate" = none) (hg : Gl X "enumerate" := by rfl) (hs : starEach [a] X.env = [(false, eval a X.env)] := by rfl) :
    IV X Γ (.Tuple elts kk tpos) (.Call (.Name "enumerate" p) [a] [] pos) (xs.zipIdx.map (dEn g)) := iv_is (iv_enum h hd hm hg hs) (enumD_map g xs)
theorem iv_zipm {γ : Type} (g : α → D) (k : γ → D) {d' : D} {xs : List α} {ys : List γ} {elts : List Expr} {kk : Nat} {tpos : Pos} (h : EV X Γ a d) (hd : d.lss = some (xs.map g)) (h2 : EV X Γ b d') (hd2 : d'.lss = some (ys.map k)) (hm : X.mg "zip" = none) (hg : Gl X "zip" := by rfl)
    (hs : starEach [a, b] X.env = (false, eval a X.env) :: starEach [b] X.env := by rfl) (hs2 : starEach [b] X.env = (false, eval b X.env) :: starEach [] X.env := by rfl) (hpl : (backTo pos (starEach [b] X.env)).any (·.1) = false := by rfl) :
    IV X Γ (.Tuple elts kk tpos) (.Call (.Name "zip" p) [a, b] [] pos) ((xs.zip ys).map (d2 g k)) := iv_is (iv_zip h hd h2 hd2 hm hg hs hs2 hpl) (zipD_map g k xs ys)
theorem iv_zipTm {γ : Type} (g : α → D) (k : γ → D) {xs : List α} {ys : List γ} {elts : List Expr} {kk : Nat} {tpos : Pos} (h : EV X Γ a (.tup (xs.map g))) (h2 : EV X Γ b (.tup (ys.map k))) (hm : X.mg "zip" = none) (hg : Gl X "zip" := by rfl)
    (hs : starEach [a, b] X.env = (false, eval a X.env) :: starEach [b] X.env := by rfl) (hs2 : starEach [b] X.env = (false, eval b X.env) :: starEach [] X.env := by rfl) (hpl : (backTo pos (starEach [b] X.env)).any (·.1) = false := by rfl) :
    IV X Γ (.Tuple elts kk tpos) (.Call (.Name "zip" p) [a, b] [] pos) ((xs.zip ys).map (d2 g k)) := iv_is (iv_zipT h h2 hm hg hs hs2 hpl) (zipD_map g k xs ys)
theorem atI_lastD {γ : Type} {xs : List γ} (z : γ) (g : γ → D) (h : xs ≠ []) : atI (xs.map g) (-1) = some (g (xs.getLastD z)) := by
  have e : xs = xs.dropLast ++ [xs.getLast h] := (List.dropLast_concat_getLast h).symm
  have k : xs.getLastD z = xs.getLast h := by
    rw [List.getLastD_eq_getLast?, List.getLast?_eq_getLast h]
    rfl
  rw [k]
  conv => lhs; rw [e]
  rw [List.map_append]
  exact atI_last _ _
theorem list_eta {γ : Type} (z : γ) (xs : List γ) {n : Nat} (h : xs.length = n) : xs = (List.range n).map fun j => xs.getD j z := by
  subst h
  apply List.ext_getElem?
  intro j
  rw [List.getElem?_map]
  by_cases hj : j < xs.length
  · rw [List.getElem?_range hj, List.getElem?_eq_getElem hj]
    show some xs[j] = some (xs.getD j z)
    rw [List.getD_eq_getElem?_getD, List.getElem?_eq_getElem hj]
    rfl
  · rw [List.getElem?_eq_none (by omega), List.getElem?_eq_none (by rw [List.length_range]; omega)]
    rfl
theorem bg_lstN {γ : Type} {g : γ → D} {t : List γ} (z : γ) {ts : List Expr} {k : Nat} {sl : List Nat} {ds : List D} (h : BGs X ts Γ ds Γ' sl) (hlen : t.length = ts.length) (hc : X.calm = true) (hds : ds = (List.range ts.length).map (fun j => g (t.getD j z)) := by rfl)
    (hn : (assignEach ts X.env).length = ts.length := by rfl) (hst : (assignEach ts X.env).findIdx? (·.1) = none := by rfl) : BG X (.Tuple ts k pos) Γ (dL g t) Γ' sl := by
  have e : dL g t = .lst ds := by
    rw [hds]
    show D.lst (t.map g) = _
    conv => lhs; rw [list_eta z t hlen]
    rw [List.map_map]
    rfl
  rw [e]
  exact bg_lst h rfl hc (by rw [hds, List.length_map, List.length_range]) hn hst
theorem wk_0 : Wk [] [] := Wk.refl []
theorem wk_s {s : Sl} {A B : Env} (h : Wk A B) : Wk (s :: A) (s :: B) := ⟨by rw [List.length_cons, List.length_cons, h.1], fun i t e => by
  cases i with
  | zero => exact .inr e
  | succ i => exact h.2 i t e⟩
theorem wk_n {s : Sl} {A B : Env} (h : Wk A B) : Wk (s :: A) (.no :: B) := ⟨by rw [List.length_cons, List.length_cons, h.1], fun i t e => by
  cases i with
  | zero => exact .inl (Option.some.inj e).symm
  | succ i => exact h.2 i t e⟩
end
def HasF (K : PySem.W.Frag) (mg : Str → Option Value) (x : Str) (ps : List Str) (st : Stmt) : Prop := ∃ (f : Addr) (fd : FuncData), mg x = some (.ref f) ∧ Binds K fd ps [] ∧ Fun K x x st f fd
/-- the outcome of a mirror that may refuse -/
def outO {α : Type} (g : α → D) : Except Exn α → Out
  | .ok v => .ret (g v)
  | .error x => .exc x
section
variable {X : Cx} {Γ Γ' : Env} {a b c e elt it tg : Expr} {es : List Expr} {pos p : Pos} {rest : List Stmt} {α β γ δ : Type} {P : γ → Po} {d d' : D} {own : List (Str × Nat)} {scope : Scope}
theorem m_par (i j : Nat) {x y : Str} {px py pt : Pos} {kt k2 pt2} (g : α → D) (g' : β → D) {u : α} {v : β} {f : α → β → γ} (ha : EV X Γ a d) (hd : d = g u) (hb : EV X Γ b d') (hd' : d' = g' v) (k : ∀ s, s = u → ∀ t, t = v → SB X ((Γ.set i (.val (g s))).set j (.val (g' t))) rest (P (f s t))) (hc : X.calm = true) (hN : X.N.Nodup) (hi : X.N[i]? = some x := by rfl) (hj : X.N[j]? = some y := by rfl) (hij : i ≠ j := by decide)
    (hx : X.env.scope.names.lookup x = some .local := by rfl) (hy : X.env.scope.names.lookup y = some .local := by rfl) (hs1 : starEach [a, b] X.env = (false, eval a X.env) :: starEach [b] X.env := by rfl) (hs2 : starEach [b] X.env = (false, eval b X.env) :: starEach [] X.env := by rfl)
    (hw : swappedStores [.Tuple [.Name x px, .Name y py] kt pt] (.Tuple [a, b] k2 pt2) X.env = pure (some [x, y]) := by rfl)
    (hs : swapsWithSole [.Tuple [.Name x px, .Name y py] kt pt] (.Tuple [a, b] k2 pt2) pos.line X.env = pure false := by rfl) : SB X Γ (.Assign [.Tuple [.Name x px, .Name y py] kt pt] (.Tuple [a, b] k2 pt2) pos :: rest) (P (lt u fun s => lt v fun t => f s t)) :=
  sb_cons (s1_par i j (hd ▸ ha) (hd' ▸ hb) (k u rfl v rfl) hc hN hi hj hij hx hy hs1 hs2 hw hs)
theorem m_ownLc (i : Nat) (g' : β → D) {v : List β} {f : List β → γ} {y : Str} {py spos : Pos} {xs : List α} {g : α → D} {val : α → D} (hv : xs.map val = v.map g') (q : ∀ p w, w = v → SB X (Γ.set i (.own p (w.map g'))) rest (P (f w))) (hi : IV X Γ tg it (xs.map g)) (hb : ∀ x, x ∈ xs → LcOk0 X Γ scope own tg elt (g x) (val x)) (hz : xs.length ≤ 90000) (hc : X.calm = true) (hN : X.N.Nodup)
    (ok : blkC X.N X.env.scope scope own = true := by decide +kernel) (hy : X.N[i]? = some y := by rfl) (hyl : X.env.scope.names.lookup y = some .local := by rfl) (hl : (py.line == pos.line) = true := by rfl)
    (ha : (scope.names.any fun (n, k) => n == y && (k == .local || k == .cell)) = false := by decide +kernel) (hk : X.env.scope.kind = .function := by rfl)
    (hs : ∀ x, foldedSetIterable it X.env x = pure x := by intro _; rfl) : SB X Γ (.Assign [.Name y py] (.ListComp elt [⟨tg, it, [], 0⟩] scope pos) spos :: rest) (P (lt v f)) :=
  sb_cons (s1_ownLc i hi hb (fun p => by rw [hv]; exact q p v rfl) hz hc hN ok hy hyl hl ha hk hs)
theorem m_ownLc1 (i : Nat) (g' : β → D) {v : List β} {f : List β → γ} {y : Str} {py spos : Pos} {xs : List α} {g : α → D} {keep : α → Bool} {val : α → D} (hv : (xs.filter keep).map val = v.map g') (q : ∀ p w, w = v → SB X (Γ.set i (.own p (w.map g'))) rest (P (f w))) (hi : IV X Γ tg it (xs.map g)) (hb : ∀ x, x ∈ xs → LcOk1 X Γ scope own tg elt c (g x) (keep x) (val x)) (hz : xs.length ≤ 90000) (hc : X.calm = true) (hN : X.N.Nodup)
    (ok : blkC X.N X.env.scope scope own = true := by decide +kernel) (hy : X.N[i]? = some y := by rfl) (hyl : X.env.scope.names.lookup y = some .local := by rfl) (hl : (py.line == pos.line) = true := by rfl)
    (ha : (scope.names.any fun (n, k) => n == y && (k == .local || k == .cell)) = false := by decide +kernel) (hk : X.env.scope.kind = .function := by rfl)
    (hs : ∀ x, foldedSetIterable it X.env x = pure x := by intro _; rfl) : SB X Γ (.Assign [.Name y py] (.ListComp elt [⟨tg, it, [c], 0⟩] scope pos) spos :: rest) (P (lt v f)) :=
  sb_cons (s1_ownLc1 i hi hb (fun p => by rw [hv]; exact q p v rfl) hz hc hN ok hy hyl hl ha hk hs)
end

section
variable {X : Cx} {d : D} {α β γ δ : Type} {i : Int}
theorem opd_powN (n : Nat) {j : Int} (hj : j = (n : Int)) (h : CPow i j) : OpD X (binaryOp .Pow) (.int i) (.int j) (.int (i ^ n)) := by
  have := opd_pow (X := X) h
  have e : j.toNat = n := by omega
  rw [e] at this
  exact this
theorem eqv_emp {K : PySem.W.Frag} {H H1 : Hp} {v w : V} {xs : List α} {g : α → D} (s : Same H H1) (hd : d.lss = some (xs.map g)) (rv : Rp K H v d) : ∃ p vs, v = .ref p ∧ SqL K H1 p vs ∧ vs.isEmpty = xs.isEmpty := by
  obtain ⟨p, vs, rfl, e, r⟩ := rv.lss hd
  refine ⟨p, vs, rfl, s.seq e, ?_⟩
  have := r.length
  rw [List.length_map] at this
  cases vs <;> cases xs <;> simp_all
/-- a list of known length -/
abbrev k1 (g : α → D) (x : α) : D := .lst [g x]
abbrev k2 (g : α → D) (h : β → D) (x : α × β) : D := .lst [g x.1, h x.2]
abbrev k3 (g : α → D) (h : β → D) (k : γ → D) (x : α × β × γ) : D := .lst [g x.1, h x.2.1, k x.2.2]
abbrev k4 (g : α → D) (h : β → D) (k : γ → D) (l : δ → D) (x : α × β × γ × δ) : D := .lst [g x.1, h x.2.1, k x.2.2.1, l x.2.2.2]
abbrev k5 {ε : Type} (g : α → D) (h : β → D) (k : γ → D) (l : δ → D) (m : ε → D) (x : α × β × γ × δ × ε) : D := .lst [g x.1, h x.2.1, k x.2.2.1, l x.2.2.2.1, m x.2.2.2.2]
abbrev k6 {ε ζ : Type} (g : α → D) (h : β → D) (k : γ → D) (l : δ → D) (m : ε → D) (n : ζ → D) (x : α × β × γ × δ × ε × ζ) : D := .lst [g x.1, h x.2.1, k x.2.2.1, l x.2.2.2.1, m x.2.2.2.2.1, n x.2.2.2.2.2]
theorem eqvD_nil_lss {ds : List D} (hd : d.lss = some ds) : eqvD d (.lst []) = ds.isEmpty := by
  cases d with
  | lst xs =>
    cases hd
    cases ds <;> rfl
  | fls xs =>
    cases hd
    cases ds <;> rfl
  | _ => cases hd
theorem isEmpty_len {xs : List α} : (xs.isEmpty = false) = (0 < xs.length) := by
  cases xs <;> simp
theorem isEmpty_len' {xs : List α} : (xs.isEmpty = true) = (xs.length = 0) := by
  cases xs <;> simp
theorem zip_mem {xs : List α} {q : α × Nat} (h : q ∈ xs.zipIdx) : q.1 ∈ xs ∧ q.2 < xs.length := by
  have := List.mem_zipIdx h
  refine ⟨?_, by omega⟩
  rw [this.2.2]
  exact List.getElem_mem _
end
/-! ## sizes -/
/-- below a power of two -/
def Sm (n : Nat) (x : Int) : Prop := x.natAbs < 2 ^ n
theorem Sm.mono {n m : Nat} {x : Int} (h : Sm n x) (k : n ≤ m) : Sm m x := Nat.lt_of_lt_of_le h (Nat.pow_le_pow_right (by decide) k)
theorem Sm.add {n m : Nat} {x y : Int} (h : Sm n x) (k : Sm m y) : Sm (max n m + 1) (x + y) := by
  have h1 := h.mono (Nat.le_max_left n m)
  have h2 := k.mono (Nat.le_max_right n m)
  unfold Sm at *
  have := Int.natAbs_add_le x y
  rw [Nat.pow_succ]
  omega
theorem Sm.sub {n m : Nat} {x y : Int} (h : Sm n x) (k : Sm m y) : Sm (max n m + 1) (x - y) := by
  have h1 := h.mono (Nat.le_max_left n m)
  have h2 := k.mono (Nat.le_max_right n m)
  unfold Sm at *
  have : (x - y).natAbs ≤ x.natAbs + y.natAbs := by omega
  rw [Nat.pow_succ]
  omega
theorem Sm.mul {n m : Nat} {x y : Int} (h : Sm n x) (k : Sm m y) : Sm (n + m) (x * y) := wide_lt h k
theorem Sm.neg {n : Nat} {x : Int} (h : Sm n x) : Sm n (-x) := by
  unfold Sm at *
  rw [Int.natAbs_neg]
  exact h
theorem Sm.mod {n : Nat} {x y : Int} (k : Sm n y) (h : 0 < y) : Sm n (x % y) := by
  unfold Sm at *
  have h1 := Int.emod_nonneg x (Int.ne_of_gt h)
  have h2 := Int.emod_lt_of_pos x h
  omega
theorem Sm.div {n : Nat} {x y : Int} (k : Sm n x) : Sm n (x / y) := Nat.lt_of_le_of_lt (Int.natAbs_ediv_le_natAbs x y) k
theorem Sm.lit {x : Int} (h : x.natAbs < 2 ^ 140) : Sm 140 x := h
theorem Sm.rng {n : Nat} {x : Int} {N : Nat} (h0 : 0 ≤ x) (h1 : x < N) (h2 : N ≤ 2 ^ n) : Sm n x := by
  unfold Sm
  omega
theorem cmul {n m : Nat} {x y : Int} (h : Sm n x) (k : Sm m y) (q : n + m ≤ 900000) : CMulW x y :=
  wide_mul (h.mono (Nat.le_succ n)) (k.mono (Nat.le_succ m)) (Nat.succ_pos _) (Nat.succ_pos _) (by omega)
theorem cdiv {n : Nat} {x y : Int} (h : 0 < y) (k : Sm n y) (q : n ≤ 8999) : CDivW x y := wide_div h (k.mono (Nat.le_succ n)) (Nat.succ_pos _) (by omega)
theorem cdivz {n : Nat} {x y : Int} (h : y ≠ 0) (k : Sm n y) (q : n ≤ 8999) : CDivZ x y := ⟨h, Nat.lt_of_lt_of_le (PySem.Flt.log2_lt_of (Nat.succ_pos n) (k.mono (Nat.le_succ n))) (by omega)⟩
end Dl
namespace Dl
open PySem PySem.Spec PyProof.Rows L2
/-- an if whose test is known to be false -/
theorem m_dead {X : Cx} {Γ : Env} {c : Expr} {k : Bool} {A rest : List Stmt} {pos : Pos} {Q : Po} (h : ET X Γ c k) (hk : k = false) (h2 : SB X Γ rest Q) : SB X Γ (.If c A [] pos :: rest) Q := by
  subst hk
  exact sb_cons (s1_if h (fun z => nomatch z) fun _ => sb_nil h2)
theorem fmod_lt {a b : Int} (h : b ≠ 0) : (a.fmod b).natAbs < b.natAbs := by
  rcases Int.lt_or_gt_of_ne h with hb | hb
  · have h1 := Int.fmod_nonneg_of_pos (-a) (b := -b) (by omega)
    have h2 := Int.fmod_lt_of_pos (-a) (b := -b) (by omega)
    rw [Int.neg_fmod_neg] at h1 h2
    omega
  · have h1 := Int.fmod_nonneg_of_pos a hb
    have h2 := Int.fmod_lt_of_pos a hb
    omega
theorem gcd_fmod (a b : Int) : Int.gcd b (a.fmod b) = Int.gcd a b := by
  rw [Int.fmod_def, Int.gcd_sub_mul_left_right, Int.gcd_comm]
def gcdI (a b : Int) : Int := ((Int.gcd a b : Nat) : Int)
theorem gcdI_pos {a b : Int} (h : b ≠ 0) : 0 < gcdI a b := by
  unfold gcdI
  have := Int.gcd_pos_of_ne_zero_right a h
  omega
theorem gcdI_le {a b : Int} (h : b ≠ 0) : (gcdI a b).natAbs ≤ b.natAbs := by
  unfold gcdI
  rw [Int.natAbs_natCast]
  exact Nat.le_of_dvd (Int.natAbs_pos.mpr h) (Nat.gcd_dvd_right a.natAbs b.natAbs)
theorem gcdz {t b x : Int} {n : Nat} (h : b ≠ 0) (s : Sm n b) (hn : n ≤ 8999) : CDivZ x (br (decide (b < 0)) (-(gcdI t b)) (gcdI t b)) := by
  have h1 := gcdI_pos (a := t) h
  have h2 := gcdI_le (a := t) h
  cases decide (b < 0) with
  | true => exact cdivz (by show -(gcdI t b) ≠ 0; omega) (show Sm n (-(gcdI t b)) from Sm.neg (Nat.lt_of_le_of_lt h2 s)) hn
  | false => exact cdivz (by show gcdI t b ≠ 0; omega) (show Sm n (gcdI t b) from Nat.lt_of_le_of_lt h2 s) hn
end Dl
namespace Dl
open PySem PySem.Spec PyProof.Rows L2
section
variable {X : Cx} {d : D} {α : Type} {k : Nat}
theorem opd_eqNil (hr : Room k X.A) (g : α → D) {xs : List α} (hd : d.lss = some (xs.map g)) (ho : d.ok = true) : OpD X (compareOp .Eq) d (.lst []) (.bl xs.isEmpty) := by
  have h := opd_eq (X := X) (x := d) (y := .lst []) hr ho rfl
  rw [eqvD_nil_lss hd] at h
  have e : (xs.map g).isEmpty = xs.isEmpty := by cases xs <;> rfl
  rwa [e] at h
theorem opd_neNil (hr : Room k X.A) (g : α → D) {xs : List α} (hd : d.lss = some (xs.map g)) (ho : d.ok = true) : OpD X (compareOp .NotEq) d (.lst []) (.bl (!xs.isEmpty)) := by
  have h := opd_ne (X := X) (x := d) (y := .lst []) hr ho rfl
  rw [eqvD_nil_lss hd] at h
  have e : (xs.map g).isEmpty = xs.isEmpty := by cases xs <;> rfl
  rwa [e] at h
end
end Dl
namespace Dl
theorem gcdz0 {t b x : Int} (s : Sm 8990 b) : CDivZ x (br (decide ((br (decide (b = 0)) 1 b) < 0)) (0 - gcdI t (br (decide (b = 0)) 1 b)) (gcdI t (br (decide (b = 0)) 1 b))) := by
  have h0 : (br (decide (b = 0)) 1 b) ≠ 0 := by
    by_cases hb : b = 0
    · rw [decide_eq_true hb]
      exact show (1 : Int) ≠ 0 by decide
    · rw [decide_eq_false hb]
      exact hb
  have s0 : Sm 8990 (br (decide (b = 0)) 1 b) := by
    by_cases hb : b = 0
    · rw [decide_eq_true hb]
      exact show Sm 8990 1 from (Sm.lit (by decide)).mono (by decide)
    · rw [decide_eq_false hb]
      exact s
  rw [Int.zero_sub]
  exact gcdz h0 s0 (by decide)
end Dl
namespace Dl
open PySem PySem.Spec PyProof.Rows L2
/-! ## the end -/
/-- a def of the text, as the top has written it -/
theorem hasF_mk {K : PySem.W.Frag} {h : Heap} {mg : Str → Option Value} {x : Str} {ps : List Str} {st : Stmt} {f : Addr} {oc : Value} {od an : Option Addr} {osl : Array (Option Value)} {kV doc pm cdv ct : Value} (X : K.In h) (G : h.Ns mainGlobals mg)
    (a : PySem.W.nsIn K mainGlobals x = some (some (.ref f))) (l : K.lookup f = some ⟨oc, od, .func (PySem.W.fnOf x x (defArgs st) (defBody st) (defScope st) .none kV doc pm an cdv ct), osl⟩) (c : PySem.W.codeIn K cdv x = true) (k : PySem.W.keepIn K (.ref f) = true)
    (b : ∀ (kV doc pm : Value) (an : Option Addr) (cdv ct : Value) (us : List Value), us.length = ps.length → bindArgs (PySem.W.fnOf x x (defArgs st) (defBody st) (defScope st) .none kV doc pm an cdv ct) ⟨us, []⟩ = pure (ps.zip us)) : HasF K mg x ps st :=
  have F := fun_mk l c k
  ⟨f, _, PySem.W.mg_of X G a, F.binds b, F⟩
theorem errC_mk {K : PySem.W.Frag} {h : Heap} {mg : Str → Option Value} {x : Str} {C : Addr} (X : K.In h) (G : h.Ns mainGlobals mg) (a : PySem.W.nsIn K mainGlobals x = some (some (.ref C)))
    (e : PySem.W.excIn K C [.type "ValueError", .type "Exception", .type "BaseException", .type "object"] "ValueError.__new__" = true) (k : PySem.W.keepIn K (.ref C) = true)
    (s : PySem.W.subIn K (.ref C) (.type "BaseException") = some true) (t : PySem.W.typeIn K (.ref C) = some (.type "type")) : ErrC K mg x := ⟨C, PySem.W.mg_of X G a, e, k, s, t⟩
/-- what the row asks of the law: a script of so many whole numbers, and it answers True -/
def spLaw (K : PySem.W.Frag) (n : Nat) : Sp := fun vs H Q _ => ∃ (a : Addr) (ns : List Int), vs = [.ref a] ∧ SqL K H a (ns.map V.int) ∧ ns.length ≤ n ∧ ∀ H', Q (.bl true) H'
theorem rpl_in {K : PySem.W.Frag} {H : Hp} : ∀ ns : List Int, RpL K H (ns.map V.int) (ns.map D.int)
  | [] => .nil
  | x :: xs => .cons (.int x) (rpl_in xs)
theorem law_end {P : Program} {w : World} {K : PySem.W.Frag} {mg : Str → Option Value} {base : Heap} {k n : Nat} {fa : Addr} {fd : FuncData} {oc : Value} {od : Option Addr} {osl : Array (Option Value)} {C : Ct} (hm : mg "law" = some (.ref fa))
    (lk : K.lookup fa = some ⟨oc, od, .func fd, osl⟩) (F : FnC P w K mg base k "law" ["script"] C) (hC : ∀ ns : List Int, ns.length ≤ n → C [dF D.int ns] (.ret (.bl true))) : FnOk P w K mg base (L2.CX P w) k fa fd ["script"] (spLaw K n) := by
  obtain ⟨f, fd', a, _, _, d, oc', od', osl', e⟩ := F.ex
  rw [hm] at a
  cases a
  rw [lk] at e
  cases e
  refine d.imp fun vs H Q E h => ?_
  obtain ⟨a, ns, rfl, hS, hl, hQ⟩ := h
  refine ⟨[dF D.int ns], H, .ret (.bl true), Same.refl _, .cons (.fls hS (rpl_in ns)) .nil, hC ns hl, fun v J0 J1 t rv => ?_⟩
  cases rv
  exact hQ J1
end Dl
namespace Dl
/-! ## fractions -/
def rmk (top_0 : Int) (bottom_0 : Int) : (Int × Int) :=
  lt (gcdI top_0 bottom_0 : Int) fun by_1 =>
  lt (br (decide (bottom_0 < (0 : Int))) (lt (-by_1 : Int) fun by_2 => by_2) by_1) fun s_1 =>
  ((Int.fdiv top_0 s_1), (Int.fdiv bottom_0 s_1))
/-- in lowest terms -/
def Low (x : Int × Int) : Prop := 0 < x.2 ∧ Int.gcd x.1 x.2 = 1
instance (x : Int × Int) : Decidable (Low x) := inferInstanceAs (Decidable (_ ∧ _))
/-- the divisor, with the bottom's sign -/
theorem rmk_div {t b : Int} (h : b ≠ 0) : ∃ s : Int, s ≠ 0 ∧ t = (rmk t b).1 * s ∧ b = (rmk t b).2 * s ∧ s.natAbs = Int.gcd t b ∧ (0 < s ↔ 0 < b) := by
  have hg := gcdI_pos (a := t) h
  have hd : (gcdI t b) ∣ t := Int.gcd_dvd_left t b
  have hd2 : (gcdI t b) ∣ b := Int.gcd_dvd_right t b
  have key : ∀ s : Int, s ≠ 0 → s ∣ t → s ∣ b → t = t.fdiv s * s ∧ b = b.fdiv s * s := fun s hs h1 h2 =>
    ⟨(Int.fdiv_mul_cancel_of_fmod_eq_zero (Int.fmod_eq_zero_of_dvd h1)).symm, (Int.fdiv_mul_cancel_of_fmod_eq_zero (Int.fmod_eq_zero_of_dvd h2)).symm⟩
  unfold rmk
  simp only [lt_eq]
  by_cases hb : b < 0
  · rw [decide_eq_true hb, br_t]
    have k := key (-(gcdI t b)) (by omega) (Int.neg_dvd.mpr hd) (Int.neg_dvd.mpr hd2)
    refine ⟨-(gcdI t b), by omega, k.1, k.2, ?_, by omega⟩
    rw [Int.natAbs_neg]
    exact Int.natAbs_natCast _
  · rw [decide_eq_false hb, br_f]
    have k := key (gcdI t b) (by omega) hd hd2
    exact ⟨gcdI t b, by omega, k.1, k.2, Int.natAbs_natCast _, by omega⟩
theorem rmk_low {t b : Int} (h : b ≠ 0) : Low (rmk t b) := by
  obtain ⟨s, hs, e1, e2, hg, hp⟩ := rmk_div (t := t) h
  have k : Int.gcd t b = Int.gcd (rmk t b).1 (rmk t b).2 * s.natAbs := by
    have z := Int.gcd_mul_right (rmk t b).1 s (rmk t b).2
    rwa [← e1, ← e2] at z
  have hs' : 0 < s.natAbs := Int.natAbs_pos.mpr hs
  refine ⟨?_, ?_⟩
  · rcases Int.lt_or_gt_of_ne hs with hn | hn
    · have hb : b < 0 := by omega
      rw [e2] at hb
      exact Int.pos_of_mul_neg_left hb hn
    · have hb : 0 < b := hp.mp hn
      rw [e2] at hb
      exact Int.pos_of_mul_pos_left hb hn
  · rw [← hg] at k
    have : 1 * s.natAbs = Int.gcd (rmk t b).1 (rmk t b).2 * s.natAbs := by rw [Nat.one_mul]; exact k
    exact (Nat.eq_of_mul_eq_mul_right hs' this).symm
theorem rmk_eq {t b : Int} (h : b ≠ 0) : (rmk t b).1 * b = t * (rmk t b).2 := by
  obtain ⟨s, hs, e1, e2, _, _⟩ := rmk_div (t := t) h
  conv => lhs; rw [e2]
  conv => rhs; rw [e1]
  grind
theorem rmk_le {t b : Int} (h : b ≠ 0) : (rmk t b).1.natAbs ≤ t.natAbs ∧ (rmk t b).2.natAbs ≤ b.natAbs := by
  obtain ⟨s, hs, e1, e2, _, _⟩ := rmk_div (t := t) h
  have hs' : 1 ≤ s.natAbs := Int.natAbs_pos.mpr hs
  refine ⟨?_, ?_⟩
  · conv => rhs; rw [e1]
    rw [Int.natAbs_mul]
    exact Nat.le_mul_of_pos_right _ hs'
  · conv => rhs; rw [e2]
    rw [Int.natAbs_mul]
    exact Nat.le_mul_of_pos_right _ hs'
theorem low_eq {x y : Int × Int} (hx : Low x) (hy : Low y) (e : x.1 * y.2 = y.1 * x.2) : x = y := by
  have h1 : x.2 ∣ y.2 := by
    have d : x.2 ∣ y.2 * x.1 := ⟨y.1, by rw [Int.mul_comm y.2, e, Int.mul_comm]⟩
    have z := Int.dvd_mul_gcd_iff_dvd_mul.mpr d
    rw [Int.gcd_comm, hx.2] at z
    simpa using z
  have h2 : y.2 ∣ x.2 := by
    have d : y.2 ∣ x.2 * y.1 := ⟨x.1, by rw [Int.mul_comm x.2, ← e, Int.mul_comm]⟩
    have z := Int.dvd_mul_gcd_iff_dvd_mul.mpr d
    rw [Int.gcd_comm, hy.2] at z
    simpa using z
  have e2 : x.2 = y.2 := Int.dvd_antisymm (Int.le_of_lt hx.1) (Int.le_of_lt hy.1) h1 h2
  have e1 : x.1 = y.1 := by
    rw [e2] at e
    exact Int.eq_of_mul_eq_mul_right (Int.ne_of_gt hy.1) e
  exact Prod.ext e1 e2
theorem rmk_self {x : Int × Int} (h : Low x) : rmk x.1 x.2 = x := low_eq (rmk_low (Int.ne_of_gt h.1)) h (rmk_eq (Int.ne_of_gt h.1))
/-- equal as fractions, so equal -/
theorem rmk_of {t b : Int} {x : Int × Int} (hb : b ≠ 0) (hx : Low x) (e : x.1 * b = t * x.2) : rmk t b = x := by
  refine low_eq (rmk_low hb) hx ?_
  have k := rmk_eq (t := t) hb
  have : ((rmk t b).1 * x.2) * b = (x.1 * (rmk t b).2) * b := by grind
  exact Int.eq_of_mul_eq_mul_right hb this
theorem rmk_congr {t b t' b' : Int} (hb : b ≠ 0) (hb' : b' ≠ 0) (e : t * b' = t' * b) : rmk t b = rmk t' b' := by
  refine rmk_of hb (rmk_low hb') ?_
  have k := rmk_eq (t := t') hb'
  have : ((rmk t' b').1 * b) * b' = (t * (rmk t' b').2) * b' := by grind
  exact Int.eq_of_mul_eq_mul_right hb' this
theorem rmk_sm {t b : Int} {n m : Nat} (h : b ≠ 0) (ht : Sm n t) (hb : Sm m b) : Sm n (rmk t b).1 ∧ Sm m (rmk t b).2 :=
  ⟨Nat.lt_of_le_of_lt (rmk_le h).1 ht, Nat.lt_of_le_of_lt (rmk_le h).2 hb⟩
/-- a fraction, below a power of two -/
structure Fr (n : Nat) (x : Int × Int) : Prop where
  low : Low x
  s1 : Sm n x.1
  s2 : Sm n x.2
theorem Fr.mono {n m : Nat} {x : Int × Int} (h : Fr n x) (k : n ≤ m) : Fr m x := ⟨h.low, h.s1.mono k, h.s2.mono k⟩
theorem Fr.mk' {n : Nat} {t b : Int} (h : b ≠ 0) (ht : Sm n t) (hb : Sm n b) : Fr n (rmk t b) := ⟨rmk_low h, (rmk_sm h ht hb).1, (rmk_sm h ht hb).2⟩
/-! ### sums, products -/
def radd (x y : Int × Int) : Int × Int := rmk (x.1 * y.2 + y.1 * x.2) (x.2 * y.2)
def rsub (x y : Int × Int) : Int × Int := rmk (x.1 * y.2 - y.1 * x.2) (x.2 * y.2)
def rmul (x y : Int × Int) : Int × Int := rmk (x.1 * y.1) (x.2 * y.2)
def rdiv (x y : Int × Int) : Int × Int := rmk (x.1 * y.2) (x.2 * y.1)
def rlt (x y : Int × Int) : Bool := decide (x.1 * y.2 < y.1 * x.2)
theorem mul_ne {a b : Int} (ha : 0 < a) (hb : 0 < b) : a * b ≠ 0 := Int.ne_of_gt (Int.mul_pos ha hb)
theorem radd_fr {n m : Nat} {x y : Int × Int} (hx : Fr n x) (hy : Fr m y) : Fr (n + m + 1) (radd x y) :=
  Fr.mk' (mul_ne hx.low.1 hy.low.1) (((hx.s1.mul hy.s2).add (hy.s1.mul hx.s2)).mono (by omega)) ((hx.s2.mul hy.s2).mono (by omega))
theorem rsub_fr {n m : Nat} {x y : Int × Int} (hx : Fr n x) (hy : Fr m y) : Fr (n + m + 1) (rsub x y) :=
  Fr.mk' (mul_ne hx.low.1 hy.low.1) (((hx.s1.mul hy.s2).sub (hy.s1.mul hx.s2)).mono (by omega)) ((hx.s2.mul hy.s2).mono (by omega))
theorem rmul_fr {n m : Nat} {x y : Int × Int} (hx : Fr n x) (hy : Fr m y) : Fr (n + m) (rmul x y) :=
  Fr.mk' (mul_ne hx.low.1 hy.low.1) (hx.s1.mul hy.s1) (hx.s2.mul hy.s2)
theorem rdiv_fr {n m : Nat} {x y : Int × Int} (hx : Fr n x) (hy : Fr m y) (h : y.1 ≠ 0) : Fr (n + m) (rdiv x y) :=
  Fr.mk' (Int.mul_ne_zero (Int.ne_of_gt hx.low.1) h) (hx.s1.mul hy.s2) ((hx.s2.mul hy.s1).mono (by omega))
theorem radd_eq {x y : Int × Int} (hx : 0 < x.2) (hy : 0 < y.2) : (radd x y).1 * (x.2 * y.2) = (x.1 * y.2 + y.1 * x.2) * (radd x y).2 := rmk_eq (mul_ne hx hy)
theorem rsub_eq {x y : Int × Int} (hx : 0 < x.2) (hy : 0 < y.2) : (rsub x y).1 * (x.2 * y.2) = (x.1 * y.2 - y.1 * x.2) * (rsub x y).2 := rmk_eq (mul_ne hx hy)
theorem rmul_eq {x y : Int × Int} (hx : 0 < x.2) (hy : 0 < y.2) : (rmul x y).1 * (x.2 * y.2) = (x.1 * y.1) * (rmul x y).2 := rmk_eq (mul_ne hx hy)
theorem radd_comm (x y : Int × Int) : radd y x = radd x y := by
  unfold radd
  rw [Int.add_comm, Int.mul_comm y.2 x.2]
theorem rsub_radd {x y : Int × Int} (hx : Low x) (hy : Low y) : rsub (radd x y) y = x := by
  have hs : Low (radd x y) := rmk_low (mul_ne hx.1 hy.1)
  refine rmk_of (mul_ne hs.1 hy.1) hx ?_
  have e := radd_eq hx.1 hy.1
  have k : ((x.1 * ((radd x y).2 * y.2)) * (x.2 * y.2)) = (((radd x y).1 * y.2 - y.1 * (radd x y).2) * x.2) * (x.2 * y.2) := by grind
  exact Int.eq_of_mul_eq_mul_right (mul_ne hx.1 hy.1) k
/-! ### loops that find nothing -/
theorem forM_go {α ρ σ : Type} {f : σ → α → Fl ρ σ} : ∀ {xs : List α} {s : σ}, (∀ x ∈ xs, ∀ s, ∃ s', f s x = .go s') → ∃ s', forM f xs s = .go s'
  | [], s, _ => ⟨s, rfl⟩
  | x :: xs, s, h => by
    obtain ⟨s1, e⟩ := h x List.mem_cons_self s
    rw [forM_cons, e]
    exact forM_go fun y hy => h y (List.mem_cons_of_mem _ hy)
theorem fin_go {ρ σ : Type} {s : σ} {k : σ → ρ} : fin (.go s) k = k s := rfl
end Dl
namespace Dl
def FrB (n : Nat) (x : Int × Int) : Prop := Sm n x.1 ∧ 0 < x.2 ∧ Sm n x.2
theorem Fr.b {n m : Nat} {x : Int × Int} (h : Fr n x) (k : n ≤ m) : FrB m x := ⟨h.s1.mono k, h.low.1, h.s2.mono k⟩
theorem range_get {n i k : Nat} (h : (List.range n)[i]? = some k) : k = i ∧ k < n := by
  have hi : i < n := by
    have := (List.getElem?_eq_some_iff.mp h).1
    rwa [List.length_range] at this
  rw [List.getElem?_range hi] at h
  cases h
  exact ⟨rfl, hi⟩
end Dl

namespace Dl
/-- each turn puts one more to it -/
theorem fin_grow {ρ σ α : Type} (sz : σ → Nat) (g : ρ → Nat) {f : σ → α → Fl ρ σ} {k : σ → ρ} (hk : ∀ s, g (k s) = sz s) (hf : ∀ s x, ∃ s', f s x = .go s' ∧ sz s' = sz s + 1) : ∀ (xs : List α) (s : σ), g (fin (forM f xs s) k) = sz s + xs.length
  | [], s => hk s
  | x :: xs, s => by
    obtain ⟨s1, e1, h1⟩ := hf s x
    rw [forM_cons, e1]
    refine (fin_grow sz g hk hf xs s1).trans ?_
    rw [h1, List.length_cons]
    omega
end Dl

namespace Dl
theorem fin_all {ρ σ α : Type} {f : σ → α → Fl ρ σ} {k : σ → ρ} {v : ρ} {xs : List α} {s : σ} (hk : ∀ s, k s = v) (hf : ∀ x ∈ xs, ∀ s, ∃ s', f s x = .go s') : fin (forM f xs s) k = v := by
  obtain ⟨s', e⟩ := forM_go (s := s) hf
  rw [e]
  exact hk s'
theorem br_no {α : Type} {c : Bool} {a b : α} (h : c = false) : br c a b = b := by
  rw [h]
  rfl
theorem br_yes {α : Type} {c : Bool} {a b : α} (h : c = true) : br c a b = a := by
  rw [h]
  rfl
end Dl
namespace Dl
open PySem PySem.Spec PyProof.Rows L2
/-! ## how great numbers are, of any shape of data -/
class Bz (α : Type) where
  bz : Nat → α → Prop
  mono : ∀ {n m : Nat} {x : α}, bz n x → n ≤ m → bz m x
def Bd {α : Type} [Bz α] (n : Nat) (x : α) : Prop := Bz.bz n x
theorem Bd.mono {α : Type} [Bz α] {n m : Nat} {x : α} (h : Bd n x) (k : n ≤ m) : Bd m x := Bz.mono h k
instance : Bz Int := ⟨Sm, fun h k => Sm.mono h k⟩
instance : Bz Bool := ⟨fun _ _ => True, fun _ _ => trivial⟩
instance : Bz Unit := ⟨fun _ _ => True, fun _ _ => trivial⟩
instance {α β : Type} [Bz α] [Bz β] : Bz (α × β) := ⟨fun n x => Bd n x.1 ∧ Bd n x.2, fun h k => ⟨h.1.mono k, h.2.mono k⟩⟩
instance {α : Type} [Bz α] : Bz (List α) := ⟨fun n l => ∀ x ∈ l, Bd n x, fun h k x hx => (h x hx).mono k⟩
instance {α : Type} [Bz α] : Bz (Option α) := ⟨fun n l => ∀ x, l = some x → Bd n x, fun h k x hx => (h x hx).mono k⟩
section
variable {α β : Type} [Bz α] [Bz β] {n m : Nat}
theorem bd_sm {x : Int} (h : Bd n x) : Sm n x := h
theorem sm_bd {x : Int} (h : Sm n x) : Bd n x := h
theorem bd1 {x : α × β} (h : Bd n x) : Bd n x.1 := h.1
theorem bd2 {x : α × β} (h : Bd n x) : Bd n x.2 := h.2
theorem bd_mk {x : α} {y : β} (h : Bd n x) (k : Bd m y) : Bd (max n m) (x, y) := ⟨h.mono (Nat.le_max_left _ _), k.mono (Nat.le_max_right _ _)⟩
theorem bd_eq {x y : α} (e : x = y) (h : Bd n y) : Bd n x := e ▸ h
theorem bd_br {c : Bool} {x y : α} (h : Bd n x) (k : Bd m y) : Bd (max n m) (br c x y) := by
  cases c
  · exact k.mono (Nat.le_max_right _ _)
  · exact h.mono (Nat.le_max_left _ _)
theorem bd_bif {c : Bool} {x y : α} (h : Bd n x) (k : Bd m y) : Bd (max n m) (bif c then x else y) := by
  cases c
  · exact k.mono (Nat.le_max_right _ _)
  · exact h.mono (Nat.le_max_left _ _)
theorem bd_lt {γ : Type} {e : γ} {f : γ → α} (h : ∀ x, x = e → Bd n (f x)) : Bd n (lt e f) := h e rfl
theorem bd_mem {x : α} {l : List α} (k : x ∈ l) (h : Bd n l) : Bd n x := h x k
theorem bd_at {x : α} {l : List α} {i : Nat} (k : l[i]? = some x) (h : Bd n l) : Bd n x := h x (List.mem_of_getElem? k)
theorem bd_nil : Bd (α := List α) 0 [] := fun _ h => absurd h List.not_mem_nil
theorem bd_cons {x : α} {l : List α} (h : Bd n x) (k : Bd m l) : Bd (max n m) (x :: l) := fun y hy => by
  rcases List.mem_cons.mp hy with rfl | hy
  · exact h.mono (Nat.le_max_left _ _)
  · exact (k y hy).mono (Nat.le_max_right _ _)
theorem bd_app {l r : List α} (h : Bd n l) (k : Bd m r) : Bd (max n m) (l ++ r) := fun y hy => by
  rcases List.mem_append.mp hy with hy | hy
  · exact (h y hy).mono (Nat.le_max_left _ _)
  · exact (k y hy).mono (Nat.le_max_right _ _)
theorem bd_map {γ : Type} {l : List γ} {f : γ → α} (h : ∀ x ∈ l, Bd n (f x)) : Bd n (l.map f) := fun y hy => by
  obtain ⟨x, hx, rfl⟩ := List.mem_map.mp hy
  exact h x hx
theorem bd_filter {l : List α} {f : α → Bool} (h : Bd n l) : Bd n (l.filter f) := fun y hy => h y (List.mem_filter.mp hy).1
theorem bd_rev {l : List α} (h : Bd n l) : Bd n l.reverse := fun y hy => h y (List.mem_reverse.mp hy)
theorem bd_zip {l : List α} {r : List β} (h : Bd n l) (k : Bd m r) : Bd (max n m) (l.zip r) := fun y hy => by
  have z := List.of_mem_zip (a := y.1) (b := y.2) hy
  exact ⟨(h _ z.1).mono (Nat.le_max_left _ _), (k _ z.2).mono (Nat.le_max_right _ _)⟩
theorem bd_zipIdx {l : List α} {y : α × Nat} (h : Bd n l) (hy : y ∈ l.zipIdx) : Bd n y.1 := h _ (zip_mem hy).1
theorem bd_getD {l : List α} {i : Nat} {d : α} (h : Bd n l) (k : Bd m d) : Bd (max n m) (l.getD i d) := by
  rw [List.getD_eq_getElem?_getD]
  cases e : l[i]? with
  | none => exact k.mono (Nat.le_max_right _ _)
  | some y => exact (h y (List.mem_of_getElem? e)).mono (Nat.le_max_left _ _)
theorem bd_lastD {l : List α} {d : α} (h : Bd n l) (k : Bd m d) : Bd (max n m) (l.getLastD d) := by
  cases l with
  | nil => exact k.mono (Nat.le_max_right _ _)
  | cons a l => exact (h _ (List.mem_of_getLast? (by rw [List.getLast?_cons]; cases l <;> rfl))).mono (Nat.le_max_left _ _)
theorem bd_add {x y : Int} (h : Bd n x) (k : Bd m y) : Bd (max n m + 1) (x + y) := Sm.add h k
theorem bd_sub {x y : Int} (h : Bd n x) (k : Bd m y) : Bd (max n m + 1) (x - y) := Sm.sub h k
theorem bd_mul {x y : Int} (h : Bd n x) (k : Bd m y) : Bd (n + m) (x * y) := Sm.mul h k
theorem bd_neg {x : Int} (h : Bd n x) : Bd n (-x) := Sm.neg h
theorem bd_mod {x y : Int} (k : Bd n y) (h : 0 < y) : Bd n (x % y) := Sm.mod k h
theorem bd_div {x y : Int} (k : Bd n x) : Bd n (x / y) := Sm.div k
theorem bd_abs {x : Int} (k : Bd n x) : Bd n (((x.natAbs : Nat) : Int)) := by
  show Sm n _
  unfold Sm
  rw [Int.natAbs_natCast]
  exact k
theorem bd_lit {x : Int} (h : x.natAbs < 2 ^ 140) : Bd 140 x := h
theorem bd_max {x y : Int} (h : Bd n x) (k : Bd m y) : Bd (max n m) (max x y) := by
  rcases Int.le_total x y with e | e
  · rw [Int.max_eq_right e]
    exact k.mono (Nat.le_max_right _ _)
  · rw [Int.max_eq_left e]
    exact h.mono (Nat.le_max_left _ _)
theorem bd_min {x y : Int} (h : Bd n x) (k : Bd m y) : Bd (max n m) (min x y) := by
  rcases Int.le_total x y with e | e
  · rw [Int.min_eq_left e]
    exact h.mono (Nat.le_max_left _ _)
  · rw [Int.min_eq_right e]
    exact k.mono (Nat.le_max_right _ _)
theorem bd_fr {x : Int × Int} (h : Fr n x) : Bd n x := ⟨h.s1, h.s2⟩
theorem cmulB {x y : Int} (h : Bd n x) (k : Bd m y) (q : n + m ≤ 900000) : CMulW x y := cmul h k q
theorem cdivB {x y : Int} (h : 0 < y) (k : Bd n y) (q : n ≤ 8999) : CDivW x y := cdiv h k q
end
/-! ## fractions, in any shape of data -/
class Fz (α : Type) where
  fz : Nat → α → Prop
  mono : ∀ {n m : Nat} {x : α}, fz n x → n ≤ m → fz m x
def Fd {α : Type} [Fz α] (n : Nat) (x : α) : Prop := Fz.fz n x
theorem Fd.mono {α : Type} [Fz α] {n m : Nat} {x : α} (h : Fd n x) (k : n ≤ m) : Fd m x := Fz.mono h k
instance : Fz (Int × Int) := ⟨Fr, fun h k => Fr.mono h k⟩
instance {α β : Type} [Fz α] [Fz β] : Fz (α × β) := ⟨fun n x => Fd n x.1 ∧ Fd n x.2, fun h k => ⟨h.1.mono k, h.2.mono k⟩⟩
instance {α : Type} [Fz α] : Fz (List α) := ⟨fun n l => ∀ x ∈ l, Fd n x, fun h k x hx => (h x hx).mono k⟩
instance {α : Type} [Fz α] : Fz (Option α) := ⟨fun n l => ∀ x, l = some x → Fd n x, fun h k x hx => (h x hx).mono k⟩
section
variable {α β : Type} [Fz α] [Fz β] {n m : Nat}
theorem fd_fr {x : Int × Int} (h : Fd n x) : Fr n x := h
theorem fr_fd {x : Int × Int} (h : Fr n x) : Fd n x := h
theorem fd1 {x : α × β} (h : Fd n x) : Fd n x.1 := h.1
theorem fd2 {x : α × β} (h : Fd n x) : Fd n x.2 := h.2
theorem fd_mk {x : α} {y : β} (h : Fd n x) (k : Fd m y) : Fd (max n m) (x, y) := ⟨h.mono (Nat.le_max_left _ _), k.mono (Nat.le_max_right _ _)⟩
theorem fd_eq {x y : α} (e : x = y) (h : Fd n y) : Fd n x := e ▸ h
theorem fd_br {c : Bool} {x y : α} (h : Fd n x) (k : Fd m y) : Fd (max n m) (br c x y) := by
  cases c
  · exact k.mono (Nat.le_max_right _ _)
  · exact h.mono (Nat.le_max_left _ _)
theorem fd_lt {γ : Type} {e : γ} {f : γ → α} (h : ∀ x, x = e → Fd n (f x)) : Fd n (lt e f) := h e rfl
theorem fd_mem {x : α} {l : List α} (k : x ∈ l) (h : Fd n l) : Fd n x := h x k
theorem fd_at {x : α} {l : List α} {i : Nat} (k : l[i]? = some x) (h : Fd n l) : Fd n x := h x (List.mem_of_getElem? k)
theorem fd_radd {x y : Int × Int} (hx : Fd n x) (hy : Fd m y) : Fd (n + m + 1) (radd x y) := radd_fr hx hy
theorem fd_rsub {x y : Int × Int} (hx : Fd n x) (hy : Fd m y) : Fd (n + m + 1) (rsub x y) := rsub_fr hx hy
theorem fd_rmul {x y : Int × Int} (hx : Fd n x) (hy : Fd m y) : Fd (n + m) (rmul x y) := rmul_fr hx hy
theorem fd_lit {x : Int × Int} (h : Low x ∧ x.1.natAbs < 2 ^ 140 ∧ x.2.natAbs < 2 ^ 140) : Fd 140 x := ⟨h.1, h.2.1, h.2.2⟩
theorem fd_whole {x : Int} (h : Bd n x) : Fd (max n 1) (x, (1 : Int)) := ⟨⟨(by decide : (0 : Int) < 1), Int.gcd_one_right (a := x)⟩, Sm.mono h (Nat.le_max_left _ _), Sm.mono (n := 1) (show (1 : Int).natAbs < 2 ^ 1 by decide) (Nat.le_max_right _ _)⟩
theorem fd_b {x : Int × Int} (h : Fd n x) (k : n ≤ m) : FrB m x := Fr.b h k
theorem bd_fd2 {x : Int × Int} (h : Fd n x) : Bd n x := bd_fr h
end

/-! ## the same as classes: what is found by looking -/
class PosC (y : Int) : Prop where
  h : 0 < y
class BdC {α : Type} [Bz α] (x : α) (n : outParam Nat) : Prop where
  h : Bd n x
class FdC {α : Type} [Fz α] (x : α) (n : outParam Nat) : Prop where
  h : Fd n x
instance pos_lit {k : Nat} [NeZero k] : PosC (no_index (OfNat.ofNat k) : Int) := ⟨by
  have := NeZero.ne k
  show (0 : Int) < (k : Int)
  omega⟩
class PosL (l : List Int) : Prop where
  h : ∀ b ∈ l, 0 < b
instance posl_nil : PosL [] := ⟨fun _ h => absurd h List.not_mem_nil⟩
instance posl_cons {x : Int} {l : List Int} [PosC x] [PosL l] : PosL (x :: l) := ⟨fun y hy => by
  rcases List.mem_cons.mp hy with rfl | hy
  · exact PosC.h
  · exact PosL.h y hy⟩
section
variable {x y : Int}
instance pos_mul [PosC x] [PosC y] : PosC (x * y) := ⟨Int.mul_pos PosC.h PosC.h⟩
instance pos_add [PosC x] [PosC y] : PosC (x + y) := ⟨Int.add_pos PosC.h PosC.h⟩
instance pos_pow {k : Nat} [PosC x] : PosC (x ^ k) := ⟨Int.pow_pos PosC.h⟩
end
section
variable {α β : Type} [Bz α] [Bz β] {n m : Nat}
theorem sm_nat (k : Nat) : Sm (Nat.log2 k + 1) (k : Int) := by
  unfold Sm
  rw [Int.natAbs_natCast]
  exact Nat.lt_log2_self
instance bdc_lit {k : Nat} : BdC (no_index (OfNat.ofNat k) : Int) (Nat.log2 k + 1) := ⟨sm_nat k⟩
instance bdc_pow {k e : Nat} : BdC ((no_index (OfNat.ofNat k) : Int) ^ e) ((Nat.log2 k + 1) * e + 1) := ⟨by
  show Sm _ (((k : Nat) : Int) ^ e)
  unfold Sm
  rw [Int.natAbs_pow, Int.natAbs_natCast]
  have h : k ^ e ≤ (2 ^ (Nat.log2 k + 1)) ^ e := Nat.pow_le_pow_left (Nat.le_of_lt Nat.lt_log2_self) e
  rw [← Nat.pow_mul] at h
  exact Nat.lt_of_le_of_lt h (Nat.pow_lt_pow_right (by decide) (Nat.lt_succ_self _))⟩
instance bdc_bool {b : Bool} : BdC b 0 := ⟨trivial⟩
instance bdc_unit {b : Unit} : BdC b 0 := ⟨trivial⟩
instance bdc_add {x y : Int} [BdC x n] [BdC y m] : BdC (x + y) (max n m + 1) := ⟨bd_add BdC.h BdC.h⟩
instance bdc_sub {x y : Int} [BdC x n] [BdC y m] : BdC (x - y) (max n m + 1) := ⟨bd_sub BdC.h BdC.h⟩
instance bdc_mul {x y : Int} [BdC x n] [BdC y m] : BdC (x * y) (n + m) := ⟨bd_mul BdC.h BdC.h⟩
instance bdc_neg {x : Int} [BdC x n] : BdC (-x) n := ⟨bd_neg BdC.h⟩
instance bdc_mod {x y : Int} [PosC y] [BdC y n] : BdC (x % y) n := ⟨bd_mod BdC.h PosC.h⟩
instance bdc_div {x y : Int} [BdC x n] : BdC (x / y) n := ⟨bd_div BdC.h⟩
instance bdc_abs {x : Int} [BdC x n] : BdC ((x.natAbs : Nat) : Int) n := ⟨bd_abs BdC.h⟩
instance bdc_max {x y : Int} [BdC x n] [BdC y m] : BdC (max x y) (max n m) := ⟨bd_max BdC.h BdC.h⟩
instance bdc_min {x y : Int} [BdC x n] [BdC y m] : BdC (min x y) (max n m) := ⟨bd_min BdC.h BdC.h⟩
instance bdc_br {c : Bool} {x y : α} [BdC x n] [BdC y m] : BdC (br c x y) (max n m) := ⟨bd_br BdC.h BdC.h⟩
instance bdc_bif {c : Bool} {x y : α} [BdC x n] [BdC y m] : BdC (bif c then x else y) (max n m) := ⟨bd_bif BdC.h BdC.h⟩
instance bdc_mk {x : α} {y : β} [BdC x n] [BdC y m] : BdC (x, y) (max n m) := ⟨bd_mk BdC.h BdC.h⟩
instance bdc_1 {x : α × β} [BdC x n] : BdC x.1 n := ⟨bd1 BdC.h⟩
instance bdc_2 {x : α × β} [BdC x n] : BdC x.2 n := ⟨bd2 BdC.h⟩
instance bdc_lt {γ : Type} {e : γ} {f : γ → α} [BdC (f e) n] : BdC (lt e f) n := ⟨(BdC.h : Bd n (f e))⟩
instance bdc_nil : BdC ([] : List α) 0 := ⟨bd_nil⟩
instance bdc_cons {x : α} {l : List α} [BdC x n] [BdC l m] : BdC (x :: l) (max n m) := ⟨bd_cons BdC.h BdC.h⟩
instance bdc_app {l r : List α} [BdC l n] [BdC r m] : BdC (l ++ r) (max n m) := ⟨bd_app BdC.h BdC.h⟩
instance bdc_filter {l : List α} {f : α → Bool} [BdC l n] : BdC (l.filter f) n := ⟨bd_filter BdC.h⟩
instance bdc_rev {l : List α} [BdC l n] : BdC l.reverse n := ⟨bd_rev BdC.h⟩
instance bdc_zip {l : List α} {r : List β} [BdC l n] [BdC r m] : BdC (l.zip r) (max n m) := ⟨bd_zip BdC.h BdC.h⟩
instance bdc_map {γ : Type} {l : List γ} {f : γ → α} [∀ x, BdC (f x) n] : BdC (l.map f) n := ⟨bd_map fun _ _ => BdC.h⟩
instance bdc_getD {l : List α} {i : Nat} {d : α} [BdC l n] [BdC d m] : BdC (l.getD i d) (max n m) := ⟨bd_getD BdC.h BdC.h⟩
instance bdc_lastD {l : List α} {d : α} [BdC l n] [BdC d m] : BdC (l.getLastD d) (max n m) := ⟨bd_lastD BdC.h BdC.h⟩
theorem bdc_eq {x y : α} (e : x = y) [h : BdC y n] : BdC x n := e ▸ h
theorem bdc_to {x : α} (h : BdC x n) (k : Nat.ble n m = true) : BdC x m := ⟨Bd.mono h.h (Nat.le_of_ble_eq_true k)⟩
theorem bdc_at {x : α} {l : List α} {i : Nat} (k : l[i]? = some x) [BdC l n] : BdC x n := ⟨bd_at k BdC.h⟩
theorem bdc_mem {x : α} {l : List α} (k : x ∈ l) [BdC l n] : BdC x n := ⟨bd_mem k BdC.h⟩
theorem bdc_atI {y : α × Nat} {l : List α} {i : Nat} (k : l.zipIdx[i]? = some y) [BdC l n] : BdC y.1 n := ⟨bd_zipIdx BdC.h (List.mem_of_getElem? k)⟩
theorem bdc_mono {x : α} [BdC x n] (k : n ≤ m) : BdC x m := ⟨Bd.mono BdC.h k⟩
theorem bdc_sm {x : Int} (h : Sm n x) : BdC x n := ⟨h⟩
theorem bdc_rng {x : Int} {N : Nat} (h0 : 0 ≤ x) (h1 : x < N) (h2 : N ≤ 2 ^ n) : BdC x n := ⟨Sm.rng h0 h1 h2⟩
theorem cmulI {x y : Int} [BdC x n] [BdC y m] (q : n + m ≤ 900000) : CMulW x y := cmulB (BdC.h : Bd n x) (BdC.h : Bd m y) q
theorem cdivI {x y : Int} [PosC y] [BdC y n] (q : n ≤ 8999) : CDivW x y := cdivB PosC.h (BdC.h : Bd n y) q
theorem sm_i {x : Int} [BdC x n] (k : n ≤ m) : Sm m x := Bd.mono (BdC.h : Bd n x) k
end
section
variable {α β : Type} [Fz α] [Fz β] {n m : Nat}
instance (priority := 50) bdc_fd {x : Int × Int} [FdC x n] : BdC x n := ⟨bd_fd2 (FdC.h : Fd n x)⟩
instance fdc_radd {x y : Int × Int} [FdC x n] [FdC y m] : FdC (radd x y) (n + m + 1) := ⟨fd_radd FdC.h FdC.h⟩
instance fdc_rsub {x y : Int × Int} [FdC x n] [FdC y m] : FdC (rsub x y) (n + m + 1) := ⟨fd_rsub FdC.h FdC.h⟩
instance fdc_rmul {x y : Int × Int} [FdC x n] [FdC y m] : FdC (rmul x y) (n + m) := ⟨fd_rmul FdC.h FdC.h⟩
instance fdc_whole {x : Int} [BdC x n] : FdC (x, (1 : Int)) (max n 1) := ⟨fd_whole BdC.h⟩
instance fdc_br {c : Bool} {x y : α} [FdC x n] [FdC y m] : FdC (br c x y) (max n m) := ⟨fd_br FdC.h FdC.h⟩
instance fdc_1 {x : α × β} [FdC x n] : FdC x.1 n := ⟨fd1 FdC.h⟩
instance fdc_2 {x : α × β} [FdC x n] : FdC x.2 n := ⟨fd2 FdC.h⟩
instance fdc_mk {x : α} {y : β} [FdC x n] [FdC y m] : FdC (x, y) (max n m) := ⟨fd_mk FdC.h FdC.h⟩
instance fdc_lt {γ : Type} {e : γ} {f : γ → α} [FdC (f e) n] : FdC (lt e f) n := ⟨(FdC.h : Fd n (f e))⟩
theorem fdc_eq {x y : α} (e : x = y) [h : FdC y n] : FdC x n := e ▸ h
theorem fdc_to {x : α} (h : FdC x n) (k : Nat.ble n m = true) : FdC x m := ⟨Fd.mono h.h (Nat.le_of_ble_eq_true k)⟩
theorem fdc_at {x : α} {l : List α} {i : Nat} (k : l[i]? = some x) [FdC l n] : FdC x n := ⟨fd_at k FdC.h⟩
theorem fdc_mem {x : α} {l : List α} (k : x ∈ l) [FdC l n] : FdC x n := ⟨fd_mem k FdC.h⟩
theorem fdc_mono {x : α} [FdC x n] (k : n ≤ m) : FdC x m := ⟨Fd.mono FdC.h k⟩
theorem fdc_b {x : Int × Int} [FdC x n] (k : n ≤ m) : FrB m x := fd_b FdC.h k
theorem fdc_lit {x : Int × Int} (h : Low x ∧ x.1.natAbs < 2 ^ 140 ∧ x.2.natAbs < 2 ^ 140) : FdC x 140 := ⟨fd_lit h⟩
theorem fdc_fr {x : Int × Int} (h : Fr n x) : FdC x n := ⟨h⟩
theorem fr_i {x : Int × Int} [FdC x n] (k : n ≤ m) : Fr m x := Fd.mono (FdC.h : Fd n x) k
end
/-! ## how long lists are -/
class LnC {α : Type} (l : List α) (n : outParam Nat) : Prop where
  h : l.length ≤ n
section
variable {α β : Type} {n m : Nat}
instance lnc_nil : LnC ([] : List α) 0 := ⟨Nat.le_refl _⟩
instance lnc_cons {x : α} {l : List α} [h : LnC l n] : LnC (x :: l) (n + 1) := ⟨Nat.succ_le_succ h.h⟩
instance lnc_app {l r : List α} [h : LnC l n] [k : LnC r m] : LnC (l ++ r) (n + m) := ⟨by rw [List.length_append]; exact Nat.add_le_add h.h k.h⟩
instance lnc_map {l : List α} {f : α → β} [h : LnC l n] : LnC (l.map f) n := ⟨by rw [List.length_map]; exact h.h⟩
instance lnc_filter {l : List α} {f : α → Bool} [h : LnC l n] : LnC (l.filter f) n := ⟨Nat.le_trans (List.length_filter_le _ _) h.h⟩
instance lnc_rev {l : List α} [h : LnC l n] : LnC l.reverse n := ⟨by rw [List.length_reverse]; exact h.h⟩
instance lnc_zip {l : List α} {r : List β} [h : LnC l n] : LnC (l.zip r) n := ⟨by rw [List.length_zip]; exact Nat.le_trans (Nat.min_le_left _ _) h.h⟩
instance lnc_zipIdx {l : List α} [h : LnC l n] : LnC l.zipIdx n := ⟨by rw [List.length_zipIdx]; exact h.h⟩
instance lnc_range {k : Nat} : LnC (List.range k) k := ⟨by rw [List.length_range]; exact Nat.le_refl _⟩
instance lnc_br {c : Bool} {l r : List α} [h : LnC l n] [k : LnC r m] : LnC (br c l r) (max n m) := ⟨by cases c; exact Nat.le_trans k.h (Nat.le_max_right _ _); exact Nat.le_trans h.h (Nat.le_max_left _ _)⟩
instance lnc_lt {γ : Type} {e : γ} {f : γ → List α} [h : LnC (f e) n] : LnC (lt e f) n := ⟨h.h⟩
theorem lnc_eq {x y : List α} (e : x = y) [h : LnC y n] : LnC x n := e ▸ h
theorem ln_le {l : List α} [h : LnC l n] (k : n ≤ m) : l.length ≤ m := Nat.le_trans h.h k
end
/-! ## loops -/
def FlI {ρ σ : Type} (I : σ → Prop) (R : ρ → Prop) : Fl ρ σ → Prop
  | .ret r => R r
  | .go s => I s
  | .brk s => I s
theorem forM_rule {ρ σ α : Type} {R : ρ → Prop} {I : σ → Prop} {f : σ → α → Fl ρ σ} : ∀ {xs : List α} {s : σ}, I s → (∀ x ∈ xs, ∀ s, I s → FlI I R (f s x)) → FlI I R (forM f xs s)
  | [], s, h, _ => h
  | x :: xs, s, h, hf => by
    have h1 := hf x List.mem_cons_self s h
    rw [forM_cons]
    cases e : f s x with
    | ret r => rw [e] at h1; exact h1
    | brk s' => rw [e] at h1; exact h1
    | go s' => rw [e] at h1; exact forM_rule h1 fun y hy => hf y (List.mem_cons_of_mem _ hy)
theorem fin_rule {ρ σ α : Type} {R : ρ → Prop} (I : σ → Prop) {f : σ → α → Fl ρ σ} {xs : List α} {s : σ} {k : σ → ρ} (h0 : I s) (hf : ∀ x ∈ xs, ∀ s, I s → FlI I R (f s x)) (hk : ∀ s, I s → R (k s)) : R (fin (forM f xs s) k) := by
  have h := forM_rule h0 hf
  cases e : forM f xs s with
  | ret r => rw [e] at h; exact h
  | brk s' => rw [e] at h; exact hk s' h
  | go s' => rw [e] at h; exact hk s' h
end Dl
namespace Dl
open PySem PySem.Spec PyProof.Rows L2
/-! ## range with a step -/
theorem jok_rangeC {K : PySem.W.Frag} {H0 : Hp} {lo c : Int} {n : Nat} : JOk K (Itc lo c n) H0 ((List.range n).map fun (k : Nat) => D.int (lo + (k : Int) * c)) where
  go := fun i A0 A1 d s t h => by
    rw [List.getElem?_map] at h
    have hi : i < n := by
      by_cases hi : i < n
      · exact hi
      · rw [List.getElem?_eq_none (by rw [List.length_range]; omega)] at h
        cases h
    rw [List.getElem?_range hi] at h
    cases h
    refine ⟨hi, fun x B1 ⟨q1, q2⟩ => ?_⟩
    subst q1 q2
    exact ⟨A0, Tr.refl t, .int _⟩
  st := fun A0 A1 s t => by
    show n ≤ _
    rw [List.length_map, List.length_range]
    exact Nat.le_refl _
section
variable {X : Cx} {Γ : Env} {a b c tg : Expr} {p pos : Pos}
abbrev dRg3 (lo c : Int) (k : Nat) : D := .int (lo + (k : Int) * c)
theorem iv_range3 {m n q' : Int} {N : Nat} (h : EV X Γ a (.int m)) (h2 : EV X Γ b (.int n)) (h3 : EV X Γ c (.int q')) (hR : RgC m n q' N) (hm : X.mg "range" = none) (hg : Gl X "range" := by rfl) (hs : starEach [a, b, c] X.env = (false, eval a X.env) :: starEach [b, c] X.env := by rfl) (hpl : (backTo pos (starEach [b, c] X.env)).any (·.1) = false := by rfl)
    (hs2 : starEach [b, c] X.env = (false, eval b X.env) :: starEach [c] X.env := by rfl) (hs3 : starEach [c] X.env = [(false, eval c X.env)] := by rfl) :
    IV X Γ tg (.Call (.Name "range" p) [a, b, c] [] pos) ((List.range N).map (dRg3 m q')) := fun H0 H1 σ S R q =>
  wi_of (pi_range3 hg hm pa_wa hs hpl) (ea_cons h (ea_cons h2 (ea_cons h3 ea_nil hs3) hs2) hs H0 H1 σ S _ fun vs J0 J1 t r => by
    obtain ⟨v, w, u, rfl, r1, r2, r3⟩ : ∃ v w u, vs = [v, w, u] ∧ Rp X.K J0 v (.int m) ∧ Rp X.K J0 w (.int n) ∧ Rp X.K J0 u (.int q') := by
      cases r with
      | cons r1 r => cases r with
        | cons r2 r => cases r with
          | cons r3 r => cases r; exact ⟨_, _, _, rfl, r1, r2, r3⟩
    cases r1
    cases r2
    cases r3
    exact ⟨m, n, q', N, rfl, hR, q _ J0 J1 t jok_rangeC⟩)
end
theorem rgc2 {m n : Int} (a : -(2 ^ 40) ≤ m) (b : m < 2 ^ 40) (d : -(2 ^ 40) ≤ n) (e : n < 2 ^ 40) : RgC m n 2 (Int.toNat ((n - m + 1) / 2)) := by
  have hs : Builtin.Range.rangeSize m n 2 = ((Int.toNat ((n - m + 1) / 2) : Nat) : Int) := by
    unfold Builtin.Range.rangeSize
    simp only [show (2 : Int) > 0 by decide, if_true]
    split <;> omega
  refine ⟨by decide, by decide, ?_, hs⟩
  unfold Builtin.Range.small
  rw [hs]
  simp only [Builtin.Range.rangeFitsLong, Bool.and_eq_true, Bool.or_eq_true, decide_eq_true_eq, beq_iff_eq, show (2 : Int) > 0 by decide, if_true]
  omega
theorem rgc20 {m n : Int} (a : -(2 ^ 40) ≤ m) (b : m < 2 ^ 40) (d : -(2 ^ 40) ≤ n) (e : n < 2 ^ 40) : RgC m n 20 (Int.toNat ((n - m + 19) / 20)) := by
  have hs : Builtin.Range.rangeSize m n 20 = ((Int.toNat ((n - m + 19) / 20) : Nat) : Int) := by
    unfold Builtin.Range.rangeSize
    simp only [show (20 : Int) > 0 by decide, if_true]
    split <;> omega
  refine ⟨by decide, by decide, ?_, hs⟩
  unfold Builtin.Range.small
  rw [hs]
  simp only [Builtin.Range.rangeFitsLong, Bool.and_eq_true, Bool.or_eq_true, decide_eq_true_eq, beq_iff_eq, show (20 : Int) > 0 by decide, if_true]
  omega
/-! ## loops over what is of known length, turn by turn -/
section
variable {X : Cx} {Γ Γ3 : Env} {tg it : Expr} {pos : Pos} {body rest : List Stmt} {β : Type} {P : β → Po} {m : β} {d : D} {ds : List D}
def UnL (X : Cx) (tg : Expr) (body rest : List Stmt) (Q : Po) : List D → Env → Prop
  | [], Γ => SB X Γ rest Q
  | d :: ds, Γ => ∃ Γ' sl, BG X tg Γ d Γ' sl ∧ SB X Γ' body { Q with nx := fun Γ2 => ∃ Γ3, Wk Γ2 Γ3 ∧ UnL X tg body rest Q ds Γ3, ct := fun Γ2 => ∃ Γ3, Wk Γ2 Γ3 ∧ UnL X tg body rest Q ds Γ3, bk := fun Γ2 => ∃ Γ3, Wk Γ2 Γ3 ∧ SB X Γ3 rest Q }
def UnQ (X : Cx) (tg : Expr) (body rest : List Stmt) (ds : List D) (P : β → Po) (m : β) : Po :=
  { P m with nx := fun Γ2 => ∃ Γ3, Wk Γ2 Γ3 ∧ UnL X tg body rest (P m) ds Γ3, ct := fun Γ2 => ∃ Γ3, Wk Γ2 Γ3 ∧ UnL X tg body rest (P m) ds Γ3, bk := fun Γ2 => ∃ Γ3, Wk Γ2 Γ3 ∧ SB X Γ3 rest (P m) }
theorem bg_wk {Γ2 Γ' : Env} {sl : List Nat} (w : Wk Γ2 Γ) (hg : BG X tg Γ d Γ' sl) : BG X tg Γ2 d Γ' sl := ⟨fun j p ds e => by
  have e1 := hg.1 j p ds e
  rcases w.2 j _ e1 with z | z
  · cases z
  · exact z, by rw [hg.2.1, w.1], fun H0 H1 τ v S r Q q => hg.2.2 H0 H1 τ v (S.wk w) r Q q⟩
theorem m_un (hi : IV X Γ tg it ds) (h : UnL X tg body rest (P m) ds Γ) (hp : PassesOwn (model X.prog X.w) X.A X.env X.xe) (hc : X.calm = true) (hf : ∀ x, foldedSetIterable it X.env x = pure x := by intro _; rfl) :
    SB X Γ (.For tg it body [] pos :: rest) (P m) := by
  refine sb_cons (s1_for (fun i Γ2 => ∃ Γ3, Wk Γ2 Γ3 ∧ UnL X tg body rest (P m) (ds.drop i) Γ3) hi ⟨Γ, Wk.refl _, h⟩ (fun i d Γ2 hd ⟨Γ3, w, hu⟩ => ?_) (fun Γ2 ⟨Γ3, w, hu⟩ => ?_) hp hc hf)
  · have hl : i < ds.length := (List.getElem?_eq_some_iff.mp hd).1
    have hdrop : ds.drop i = d :: ds.drop (i + 1) := by
      rw [List.drop_eq_getElem_cons hl]
      congr 1
      exact Option.some.inj ((List.getElem?_eq_getElem hl).symm.trans hd)
    rw [hdrop] at hu
    obtain ⟨Γ', sl, hg, hB⟩ := hu
    exact ⟨Γ', sl, bg_wk w hg, does_imp hB (fun _ z => z) (fun _ z => z) (fun _ _ z => z) (fun Γ4 ⟨Γ5, w5, z⟩ => sb_wk w5 z) (fun _ z => z)⟩
  · rw [List.drop_length] at hu
    exact sb_wk w hu
theorem m_unB {Γ' : Env} {sl : List Nat} (hb : BG X tg Γ d Γ' sl) (h : SB X Γ' body (UnQ X tg body rest ds P m)) : UnL X tg body rest (P m) (d :: ds) Γ := ⟨Γ', sl, hb, h⟩
theorem m_unE (h : SB X Γ rest (P m)) : UnL X tg body rest (P m) [] Γ := h
theorem m_unG (w : Wk Γ Γ3) (h : UnL X tg body rest (P m) ds Γ3) : SB X Γ [] (UnQ X tg body rest ds P m) := sb_nil ⟨Γ3, w, h⟩
theorem m_unC (w : Wk Γ Γ3) (h : UnL X tg body rest (P m) ds Γ3) {ss : List Stmt} : SB X Γ (.Continue pos :: ss) (UnQ X tg body rest ds P m) := sb_cons (s1_continue ⟨Γ3, w, h⟩)
theorem m_unK (w : Wk Γ Γ3) (h : SB X Γ3 rest (P m)) {ss : List Stmt} : SB X Γ (.Break pos :: ss) (UnQ X tg body rest ds P m) := sb_cons (s1_break ⟨Γ3, w, h⟩)
end
/-! ## what may be none -/
section
variable {α : Type} {g : α → D} {x : Option α} {z : α}
theorem dO_a (h : (!D.isN (dO g x)) = true) : dO g x = g (x.getD z) := by
  cases x with
  | none => cases h
  | some y => rfl
theorem dO_b (h : D.isN (dO g x) = false) : dO g x = g (x.getD z) := by
  cases x with
  | none => cases h
  | some y => rfl
theorem dO_c (h : x ≠ none) : dO g x = g (x.getD z) := by
  cases x with
  | none => exact absurd rfl h
  | some y => rfl
variable {β : Type} [Bz β] [Fz α] {n m : Nat}
instance bdc_some {y : β} [BdC y n] : BdC (some y) n := ⟨fun x hx => by cases hx; exact BdC.h⟩
instance bdc_none : BdC (none : Option β) 0 := ⟨fun x hx => by cases hx⟩
instance bdc_getDo {x : Option β} {d : β} [h : BdC x n] [k : BdC d m] : BdC (x.getD d) (max n m) := ⟨by
  cases x with
  | none => exact k.h.mono (Nat.le_max_right _ _)
  | some y => exact (h.h y rfl).mono (Nat.le_max_left _ _)⟩
instance fdc_some {y : α} [h : FdC y n] : FdC (some y) n := ⟨fun x hx => by cases hx; exact h.h⟩
instance fdc_none : FdC (none : Option α) 0 := ⟨fun x hx => by cases hx⟩
theorem fdc_getDo {x : Option α} {d : α} [h : FdC x n] (e : x ≠ none) : FdC (x.getD d) n := ⟨by
  cases x with
  | none => exact absurd rfl e
  | some y => exact h.h y rfl⟩
end
instance pos_get4 {a b c d n : Int} [PosC a] [PosC b] [PosC c] [PosC d] : PosC (List.getD [a, b, c, d] (Int.toNat (n % 4)) 0) := ⟨by
  have h1 := Int.emod_nonneg n (show (4 : Int) ≠ 0 by decide)
  have h2 := Int.emod_lt_of_pos n (show (0 : Int) < 4 by decide)
  generalize e : Int.toNat (n % 4) = i
  have : i < 4 := by omega
  match i, this with
  | 0, _ => exact (PosC.h : 0 < a)
  | 1, _ => exact (PosC.h : 0 < b)
  | 2, _ => exact (PosC.h : 0 < c)
  | 3, _ => exact (PosC.h : 0 < d)⟩
instance pos_get2 {a b n : Int} [PosC a] [PosC b] : PosC (List.getD [a, b] (Int.toNat (n % 2)) 0) := ⟨by
  have h1 := Int.emod_nonneg n (show (2 : Int) ≠ 0 by decide)
  have h2 := Int.emod_lt_of_pos n (show (0 : Int) < 2 by decide)
  generalize e : Int.toNat (n % 2) = i
  have : i < 2 := by omega
  match i, this with
  | 0, _ => exact (PosC.h : 0 < a)
  | 1, _ => exact (PosC.h : 0 < b)⟩
/-! ## an index from the end, too -/
def ixI {α : Type} (xs : List α) (i : Int) (d : α) : α := xs.getD (Int.toNat (bif decide (i < 0) then i + xs.length else i)) d
theorem atI_ixI {α : Type} {xs : List α} (d : α) (g : α → D) {i : Int} (h0 : -(xs.length : Int) ≤ i) (h1 : i < xs.length) : atI (xs.map g) i = some (g (ixI xs i d)) := by
  unfold ixI
  by_cases h : i < 0
  · rw [decide_eq_true h, cond_true]
    have := atI_getD (xs := xs) d g (i := i + xs.length) (by omega) (by omega)
    rw [← this]
    unfold atI
    rw [List.length_map]
    congr 1
    unfold ixN
    rw [if_neg (by omega), if_pos (by omega : 0 ≤ i + xs.length), if_pos (by omega : i + xs.length < xs.length)]
    first | rw [if_pos (by omega)] | skip
    try first | rfl | (congr 1; omega)
  · rw [decide_eq_false h, cond_false]
    exact atI_getD d g (by omega) h1
instance bdc_ixI {α : Type} [Bz α] {l : List α} {i : Int} {d : α} {n m : Nat} [BdC l n] [BdC d m] : BdC (ixI l i d) (max n m) := ⟨bd_getD BdC.h BdC.h⟩
/-! ## a tuple of a list of known length -/
theorem v3 {α : Type} {g : α → D} {l : List α} {d : α} (h : l.length = 3) : dV g l = d3 g g g (l.getD 0 d, l.getD 1 d, l.getD 2 d) := by
  match l, h with
  | [a, b, c], _ => rfl
theorem v2 {α : Type} {g : α → D} {l : List α} {d : α} (h : l.length = 2) : dV g l = d2 g g (l.getD 0 d, l.getD 1 d) := by
  match l, h with
  | [a, b], _ => rfl
theorem br_1 {α β : Type} {c : Bool} {x y : α × β} : (br c x y).1 = br c x.1 y.1 := by cases c <;> rfl
theorem br_2 {α β : Type} {c : Bool} {x y : α × β} : (br c x y).2 = br c x.2 y.2 := by cases c <;> rfl
theorem br_len {α : Type} {c : Bool} {x y : List α} : (br c x y).length = br c x.length y.length := by cases c <;> rfl
theorem br_same {α : Type} {c : Bool} {x : α} : br c x x = x := by cases c <;> rfl
theorem okT_N : OkT dN 0 := ⟨fun _ => rfl, fun _ => rfl, fun _ => Nat.le_refl _⟩
theorem okT_O {α : Type} {g : α → D} {n : Nat} (h : OkT g n) : OkT (dO g) n := ⟨fun a => by cases a; rfl; exact h.pl _, fun a => by cases a; rfl; exact h.lay _, fun a => by cases a; exact Nat.zero_le _; exact h.dep _⟩
section
variable {α β γ δ : Type} {n m : Nat}
instance lnc_br_1 {c : Bool} {p q : List α × β} [h : LnC p.1 n] [k : LnC q.1 m] : LnC (br c p q).1 (max n m) := ⟨by cases c; exact Nat.le_trans k.h (Nat.le_max_right _ _); exact Nat.le_trans h.h (Nat.le_max_left _ _)⟩
instance lnc_br_2 {c : Bool} {p q : β × List α} [h : LnC p.2 n] [k : LnC q.2 m] : LnC (br c p q).2 (max n m) := ⟨by cases c; exact Nat.le_trans k.h (Nat.le_max_right _ _); exact Nat.le_trans h.h (Nat.le_max_left _ _)⟩
instance lnc_br_21 {c : Bool} {p q : β × List α × γ} [h : LnC p.2.1 n] [k : LnC q.2.1 m] : LnC (br c p q).2.1 (max n m) := ⟨by cases c; exact Nat.le_trans k.h (Nat.le_max_right _ _); exact Nat.le_trans h.h (Nat.le_max_left _ _)⟩
instance lnc_br_22 {c : Bool} {p q : β × γ × List α} [h : LnC p.2.2 n] [k : LnC q.2.2 m] : LnC (br c p q).2.2 (max n m) := ⟨by cases c; exact Nat.le_trans k.h (Nat.le_max_right _ _); exact Nat.le_trans h.h (Nat.le_max_left _ _)⟩
instance lnc_lt_1 {e : δ} {f : δ → List α × β} [h : LnC (f e).1 n] : LnC (lt e f).1 n := ⟨h.h⟩
instance lnc_lt_2 {e : δ} {f : δ → β × List α} [h : LnC (f e).2 n] : LnC (lt e f).2 n := ⟨h.h⟩
instance lnc_lt_21 {e : δ} {f : δ → β × List α × γ} [h : LnC (f e).2.1 n] : LnC (lt e f).2.1 n := ⟨h.h⟩
instance lnc_lt_22 {e : δ} {f : δ → β × γ × List α} [h : LnC (f e).2.2 n] : LnC (lt e f).2.2 n := ⟨h.h⟩
theorem ln_lt {l : List α} [h : LnC l n] (k : n < m) : l.length < m := Nat.lt_of_le_of_lt h.h k
theorem ln_ltI {l : List α} [h : LnC l n] (k : n < m) : (l.length : Int) < (m : Int) := Int.ofNat_lt.mpr (ln_lt k)
end
theorem bdc_ltI {α γ : Type} [Bz α] {n : Nat} {e : γ} {f : γ → α} (h : ∀ x, x = e → BdC (f x) n) : BdC (lt e f) n := h e rfl
theorem fdc_ltI {α γ : Type} [Fz α] {n : Nat} {e : γ} {f : γ → α} (h : ∀ x, x = e → FdC (f x) n) : FdC (lt e f) n := h e rfl
theorem bdc_brI {α : Type} [Bz α] {n : Nat} {c : Bool} {x y : α} (h : c = true → BdC x n) (k : c = false → BdC y n) : BdC (br c x y) n := by
  cases c
  · exact k rfl
  · exact h rfl
theorem fdc_brI {α : Type} [Fz α] {n : Nat} {c : Bool} {x y : α} (h : c = true → FdC x n) (k : c = false → FdC y n) : FdC (br c x y) n := by
  cases c
  · exact k rfl
  · exact h rfl
instance (priority := 2000) bdc_zero : BdC (0 : Int) 0 := ⟨(by decide : (0 : Int).natAbs < 2 ^ 0)⟩
instance (priority := 2000) bdc_one : BdC (1 : Int) 1 := ⟨(by decide : (1 : Int).natAbs < 2 ^ 1)⟩
end Dl
namespace Dl
open PySem PySem.Spec PyProof.Rows L2
/-! ## what a fraction is worth -/
def vl (x : Int × Int) : Rat := (x.1 : Rat) / (x.2 : Rat)
theorem rat_ne {b : Int} (h : b ≠ 0) : (b : Rat) ≠ 0 := fun e => h (Rat.intCast_inj.mp e)
theorem rat_pos {b : Int} (h : 0 < b) : (0 : Rat) < (b : Rat) := Rat.intCast_lt_intCast.mpr h
theorem vl_rmk {t b : Int} (h : b ≠ 0) : vl (rmk t b) = (t : Rat) / (b : Rat) := by
  have e := rmk_eq (t := t) h
  have l : ((rmk t b).2 : Rat) ≠ 0 := rat_ne (Int.ne_of_gt (rmk_low h).1)
  have k : ((rmk t b).1 : Rat) * (b : Rat) = (t : Rat) * ((rmk t b).2 : Rat) := by
    rw [← Rat.intCast_mul, ← Rat.intCast_mul, e]
  have hb := rat_ne h
  unfold vl
  grind
theorem vl_inj {x y : Int × Int} (hx : Low x) (hy : Low y) (e : vl x = vl y) : x = y := by
  refine low_eq hx hy ?_
  have h1 := rat_ne (Int.ne_of_gt hx.1)
  have h2 := rat_ne (Int.ne_of_gt hy.1)
  unfold vl at e
  have k : (x.1 : Rat) * (y.2 : Rat) = (y.1 : Rat) * (x.2 : Rat) := by grind
  rw [← Rat.intCast_mul, ← Rat.intCast_mul] at k
  exact Rat.intCast_inj.mp k
theorem vl_radd {x y : Int × Int} (hx : 0 < x.2) (hy : 0 < y.2) : vl (radd x y) = vl x + vl y := by
  have h1 := rat_ne (Int.ne_of_gt hx)
  have h2 := rat_ne (Int.ne_of_gt hy)
  unfold radd
  rw [vl_rmk (mul_ne hx hy)]
  unfold vl
  rw [Rat.intCast_add, Rat.intCast_mul, Rat.intCast_mul, Rat.intCast_mul]
  grind
theorem vl_rsub {x y : Int × Int} (hx : 0 < x.2) (hy : 0 < y.2) : vl (rsub x y) = vl x - vl y := by
  have h1 := rat_ne (Int.ne_of_gt hx)
  have h2 := rat_ne (Int.ne_of_gt hy)
  unfold rsub
  rw [vl_rmk (mul_ne hx hy)]
  unfold vl
  rw [Rat.intCast_sub, Rat.intCast_mul, Rat.intCast_mul, Rat.intCast_mul]
  grind
theorem vl_rmul {x y : Int × Int} (hx : 0 < x.2) (hy : 0 < y.2) : vl (rmul x y) = vl x * vl y := by
  have h1 := rat_ne (Int.ne_of_gt hx)
  have h2 := rat_ne (Int.ne_of_gt hy)
  unfold rmul
  rw [vl_rmk (mul_ne hx hy)]
  unfold vl
  rw [Rat.intCast_mul, Rat.intCast_mul]
  grind
theorem vl_rdiv {x y : Int × Int} (hx : 0 < x.2) (hy : 0 < y.2) (h : y.1 ≠ 0) : vl (rdiv x y) = vl x / vl y := by
  have h1 := rat_ne (Int.ne_of_gt hx)
  have h2 := rat_ne (Int.ne_of_gt hy)
  have h3 := rat_ne h
  unfold rdiv
  rw [vl_rmk (Int.mul_ne_zero (Int.ne_of_gt hx) h)]
  unfold vl
  rw [Rat.intCast_mul, Rat.intCast_mul]
  grind
theorem vl_whole (n : Int) : vl (n, 1) = (n : Rat) := by
  unfold vl
  show (n : Rat) / ((1 : Int) : Rat) = _
  rw [Rat.intCast_one]
  grind
theorem rlt_vl {x y : Int × Int} (hx : 0 < x.2) (hy : 0 < y.2) : rlt x y = decide (vl x < vl y) := by
  unfold rlt
  rw [decide_eq_decide]
  have h1 := rat_pos hx
  have h2 := rat_pos hy
  unfold vl
  rw [Rat.div_lt_iff h1]
  have e : (y.1 : Rat) / (y.2 : Rat) * (x.2 : Rat) = ((y.1 : Rat) * (x.2 : Rat)) / (y.2 : Rat) := by grind
  rw [e, Rat.lt_div_iff h2, ← Rat.intCast_mul, ← Rat.intCast_mul, Rat.intCast_lt_intCast]
theorem fdc_rdiv {x y : Int × Int} {n m : Nat} (h : y.1 ≠ 0) [FdC x n] [FdC y m] : FdC (rdiv x y) (n + m) := ⟨rdiv_fr (FdC.h : Fd n x) (FdC.h : Fd m y) h⟩
theorem fdc_rmk {t b : Int} {n m : Nat} (h : b ≠ 0) [BdC t n] [BdC b m] : FdC (rmk t b) (max n m) := ⟨Fr.mk' h (Sm.mono (BdC.h (x := t)) (Nat.le_max_left _ _)) (Sm.mono (BdC.h (x := b)) (Nat.le_max_right _ _))⟩
theorem fdc_low {x : Int × Int} {n : Nat} [h : FdC x n] : Low x := (h.h : Fr n x).low
/-! ## fractions with whole numbers beside them -/
instance (priority := 1100) : Fz (Int × Int) := ⟨Fr, fun h k => Fr.mono h k⟩
instance (priority := 10) : Fz Int := ⟨Sm, fun h k => Sm.mono h k⟩
instance (priority := 60) fdc_int {x : Int} {n : Nat} [h : BdC x n] : FdC x n := ⟨h.h⟩
instance (priority := 60) bdc_int {x : Int} {n : Nat} [h : FdC x n] : BdC x n := ⟨h.h⟩
section
variable {α β : Type} [Fz α] [Fz β] {n m : Nat}
instance fdc_nil : FdC ([] : List α) 0 := ⟨fun _ h => absurd h List.not_mem_nil⟩
instance fdc_cons {x : α} {l : List α} [h : FdC x n] [k : FdC l m] : FdC (x :: l) (max n m) := ⟨fun y hy => by
  rcases List.mem_cons.mp hy with rfl | hy
  · exact h.h.mono (Nat.le_max_left _ _)
  · exact (k.h y hy).mono (Nat.le_max_right _ _)⟩
instance fdc_zip {l : List α} {r : List β} [h : FdC l n] [k : FdC r m] : FdC (l.zip r) (max n m) := ⟨fun y hy => by
  have z := List.of_mem_zip (a := y.1) (b := y.2) hy
  exact ⟨(h.h _ z.1).mono (Nat.le_max_left _ _), (k.h _ z.2).mono (Nat.le_max_right _ _)⟩⟩
instance fdc_app {l r : List α} [h : FdC l n] [k : FdC r m] : FdC (l ++ r) (max n m) := ⟨fun y hy => by
  rcases List.mem_append.mp hy with hy | hy
  · exact (h.h y hy).mono (Nat.le_max_left _ _)
  · exact (k.h y hy).mono (Nat.le_max_right _ _)⟩
end
end Dl
namespace Dl
theorem rmk_alt {t b : Int} (h : b ≠ 0) : rmk t b = br (decide (b < 0)) ((-t).fdiv (gcdI t b), (-b).fdiv (gcdI t b)) (t.fdiv (gcdI t b), b.fdiv (gcdI t b)) := by
  unfold rmk
  simp only [lt_eq]
  by_cases hb : b < 0
  · rw [decide_eq_true hb, br_t, br_t]
    have hg := gcdI_pos (a := t) h
    have d1 : (gcdI t b) ∣ t := Int.gcd_dvd_left t b
    have d2 : (gcdI t b) ∣ b := Int.gcd_dvd_right t b
    have key : ∀ x, (gcdI t b) ∣ x → x.fdiv (-(gcdI t b)) = (-x).fdiv (gcdI t b) := fun x hx => by
      obtain ⟨c, rfl⟩ := hx
      generalize gcdI t b = g at *
      have e1 : (g * c).fdiv (-g) = -c := by
        have : g * c = (-c) * (-g) := by grind
        rw [this]
        exact Int.mul_fdiv_cancel _ (by omega)
      have e2 : (-(g * c)).fdiv g = -c := by
        have : -(g * c) = (-c) * g := by grind
        rw [this]
        exact Int.mul_fdiv_cancel _ (by omega)
      rw [e1, e2]
    rw [key t d1, key b d2]
  · rw [decide_eq_false hb, br_f, br_f]
end Dl
namespace Dl
open PySem PySem.Spec PyProof.Rows L2
theorem m_live {X : Cx} {Γ : Env} {c : Expr} {A B rest : List Stmt} {pos : Pos} {k : Bool} {β : Type} {P : β → Po} {m : β} (h : ET X Γ c k) (hk : k = true) (h1 : SB X Γ A (NF P m)) : SB X Γ (.If c A B pos :: rest) (P m) := by
  subst hk
  exact sb_cons (s1_if h (fun _ => does_imp h1 (fun _ z => z.elim) (fun _ q => q) (fun _ _ q => q) (fun _ q => q) fun _ q => q) fun z => nomatch z)
end Dl
namespace Dl
instance pos_1mod {x y : Int} [h : PosC y] : PosC (1 + x % y) := ⟨by have := Int.emod_nonneg x (Int.ne_of_gt h.h); omega⟩
instance pos_mod1 {x y : Int} [h : PosC y] : PosC (x % y + 1) := ⟨by have := Int.emod_nonneg x (Int.ne_of_gt h.h); omega⟩
instance fdc_rmkP {t b : Int} {n m : Nat} [h : PosC b] [BdC t n] [BdC b m] : FdC (rmk t b) (max n m) := fdc_rmk (Int.ne_of_gt h.h)
end Dl
namespace Dl
theorem pos_radd {x y : Int × Int} (hx : 0 < x.2) (hy : 0 < y.2) : 0 < (radd x y).2 := (rmk_low (mul_ne hx hy)).1
theorem pos_rsub {x y : Int × Int} (hx : 0 < x.2) (hy : 0 < y.2) : 0 < (rsub x y).2 := (rmk_low (mul_ne hx hy)).1
theorem pos_rmul {x y : Int × Int} (hx : 0 < x.2) (hy : 0 < y.2) : 0 < (rmul x y).2 := (rmk_low (mul_ne hx hy)).1
theorem one_pos : (0 : Int) < 1 := by decide
end Dl
namespace Dl
open PySem PySem.Spec PyProof.Rows L2
theorem sq_pos {x : Int} (h : x ≠ 0) : 0 < x * x := by
  rcases Int.lt_or_gt_of_ne h with k | k
  · exact Int.mul_pos_of_neg_of_neg k k
  · exact Int.mul_pos k k
theorem sq_nn (x : Int) : 0 ≤ x * x := by
  by_cases h : x = 0
  · subst h; decide
  · exact Int.le_of_lt (sq_pos h)
/-! ## == of what may be none -/
section
variable {α β γ : Type} [DecidableEq α] [DecidableEq β] [DecidableEq γ] {g : α → D} {h : β → D} {k : γ → D}
class NnT {α : Type} (g : α → D) : Prop where
  l : ∀ a, eqvD .non (g a) = false
  r : ∀ a, eqvD (g a) .non = false
instance nnt_int : NnT D.int := ⟨fun _ => rfl, fun _ => rfl⟩
instance nnt_str : NnT D.str := ⟨fun _ => rfl, fun _ => rfl⟩
instance nnt_2 : NnT (d2 g h) := ⟨fun _ => rfl, fun _ => rfl⟩
instance nnt_3 : NnT (d3 g h k) := ⟨fun _ => rfl, fun _ => rfl⟩
instance nnt_L : NnT (dL g) := ⟨fun _ => rfl, fun _ => rfl⟩
theorem eqO_some [NnT g] (e : EqT g) (x : Option α) (y : α) : eqvD (dO g x) (g y) = decide (x = some y) := by
  cases x with
  | none => exact (NnT.l y).trans (by simp)
  | some z =>
    refine (e z y).trans ?_
    simp
theorem eqO_O [NnT g] (e : EqT g) (x y : Option α) : eqvD (dO g x) (dO g y) = decide (x = y) := by
  cases x with
  | none =>
    cases y with
    | none => rfl
    | some z => exact (NnT.l z).trans (by simp)
  | some z =>
    cases y with
    | none => exact (NnT.r z).trans (by simp)
    | some w =>
      refine (e z w).trans ?_
      simp
end
theorem isN_O {α : Type} {g : α → D} (h : ∀ a, D.isN (g a) = false) (x : Option α) : D.isN (dO g x) = x.isNone := by
  cases x with
  | none => rfl
  | some y => exact h y
section
variable {α β : Type} [Fz α] [Fz β] {n m : Nat}
instance fdc_getD {l : List α} {i : Nat} {d : α} [h : FdC l n] [k : FdC d m] : FdC (l.getD i d) (max n m) := ⟨by
  rw [List.getD_eq_getElem?_getD]
  cases e : l[i]? with
  | none => exact k.h.mono (Nat.le_max_right _ _)
  | some y => exact (h.h y (List.mem_of_getElem? e)).mono (Nat.le_max_left _ _)⟩
instance fdc_getDo' {x : Option α} {d : α} [h : FdC x n] [k : FdC d m] : FdC (x.getD d) (max n m) := ⟨by
  cases x with
  | none => exact k.h.mono (Nat.le_max_right _ _)
  | some y => exact (h.h y rfl).mono (Nat.le_max_left _ _)⟩
instance fdc_map {γ : Type} {l : List γ} {f : γ → α} [∀ x, FdC (f x) n] : FdC (l.map f) n := ⟨fun y hy => by
  obtain ⟨x, hx, rfl⟩ := List.mem_map.mp hy
  exact FdC.h⟩
instance fdc_filter {l : List α} {f : α → Bool} [h : FdC l n] : FdC (l.filter f) n := ⟨fun y hy => h.h y (List.mem_filter.mp hy).1⟩
instance fdc_rev {l : List α} [h : FdC l n] : FdC l.reverse n := ⟨fun y hy => h.h y (List.mem_reverse.mp hy)⟩
theorem rdiv_frN {x y : Int × Int} {n m k : Nat} (h : y.1 ≠ 0) [FdC x n] [FdC y m] (hk : n + m ≤ k) : Fr k (rdiv x y) := (rdiv_fr (fr_i (Nat.le_refl n) : Fr n x) (fr_i (Nat.le_refl m) : Fr m y) h).mono hk
end
end Dl
namespace Dl
instance : FdC ((-(1 : Int)), (2 : Int)) 140 := fdc_lit ⟨by decide, by decide, by decide⟩
instance : FdC ((1 : Int), (2 : Int)) 140 := fdc_lit ⟨by decide, by decide, by decide⟩
instance : FdC ((1 : Int), (3 : Int)) 140 := fdc_lit ⟨by decide, by decide, by decide⟩
instance : FdC ((5 : Int), (4 : Int)) 140 := fdc_lit ⟨by decide, by decide, by decide⟩
instance : FdC ((9 : Int), (10 : Int)) 140 := fdc_lit ⟨by decide, by decide, by decide⟩
instance : FdC ((1 : Int), (7 : Int)) 140 := fdc_lit ⟨by decide, by decide, by decide⟩
instance pos_br {c : Bool} {x y : Int} [h : PosC x] [k : PosC y] : PosC (br c x y) := ⟨by
  cases c
  · exact k.h
  · exact h.h⟩
instance pos_lt {γ : Type} {e : γ} {f : γ → Int} [h : PosC (f e)] : PosC (lt e f) := ⟨h.h⟩
/-- numbers drawn, each below its bound -/
theorem numbers_fold {σ : Type} {f : σ → Int × Nat → Fl (List Int) σ} {g k : σ → List Int} (hk : ∀ s, k s = g s) (hf : ∀ s b, 0 < b.1 → ∃ s' y, f s b = .go s' ∧ g s' = g s ++ [y % b.1]) :
    ∀ (bs : List Int) (n : Nat) (s : σ), (∀ b ∈ bs, 0 < b) → ∃ ys : List Int, fin (forM f (bs.zipIdx n) s) k = g s ++ ys ∧ ys.length = bs.length ∧ ∀ j, j < bs.length → 0 ≤ ys.getD j 0 ∧ ys.getD j 0 < bs.getD j 0
  | [], n, s, _ => ⟨[], by rw [List.append_nil]; exact hk s, rfl, fun j hj => absurd hj (Nat.not_lt_zero j)⟩
  | b :: bs, n, s, hb => by
    have h0 := hb b List.mem_cons_self
    obtain ⟨s1, y, e1, e2⟩ := hf s (b, n) h0
    obtain ⟨ys, e3, e4, e5⟩ := numbers_fold hk hf bs (n + 1) s1 fun c hc => hb c (List.mem_cons_of_mem _ hc)
    refine ⟨y % b :: ys, ?_, by rw [List.length_cons, List.length_cons, e4], fun j hj => ?_⟩
    · rw [List.zipIdx_cons, forM_cons, e1]
      refine e3.trans ?_
      rw [e2, List.append_assoc]
      rfl
    · cases j with
      | zero => exact ⟨Int.emod_nonneg y (Int.ne_of_gt h0), Int.emod_lt_of_pos y h0⟩
      | succ j => exact e5 j (Nat.lt_of_succ_lt_succ hj)
end Dl
namespace Dl
open PySem PySem.Spec PyProof.Rows L2
instance (priority := 50) bdc_powN {x : Int} {n e : Nat} [h : BdC x n] : BdC (x ^ e) (n * e + 1) := ⟨by
  have k : x.natAbs < 2 ^ n := h.h
  show Sm _ _
  unfold Sm
  rw [Int.natAbs_pow]
  have : x.natAbs ^ e ≤ (2 ^ n) ^ e := Nat.pow_le_pow_left (Nat.le_of_lt k) e
  rw [← Nat.pow_mul] at this
  exact Nat.lt_of_le_of_lt this (Nat.pow_lt_pow_right (by decide) (Nat.lt_succ_self _))⟩
theorem cpowI {x j : Int} {n : Nat} [h : BdC x n] (q : n ≤ 64) (k : 0 ≤ j ∧ j ≤ 1000000) : CPow x j :=
  ⟨k.1, k.2, Nat.lt_of_lt_of_le (show x.natAbs < 2 ^ n from h.h) (Nat.pow_le_pow_right (by decide) q)⟩
end Dl
namespace Dl
theorem posl_eq {x y : List Int} (e : x = y) [h : PosL y] : PosL x := e ▸ h
theorem posc_eq {x y : Int} (e : x = y) [h : PosC y] : PosC x := e ▸ h
end Dl
namespace Dl
open PySem PySem.Spec PyProof.Rows L2
instance pos_get3 {a b c n : Int} [PosC a] [PosC b] [PosC c] : PosC (List.getD [a, b, c] (Int.toNat (n % 3)) 0) := ⟨by
  have h1 := Int.emod_nonneg n (show (3 : Int) ≠ 0 by decide)
  have h2 := Int.emod_lt_of_pos n (show (0 : Int) < 3 by decide)
  generalize e : Int.toNat (n % 3) = i
  have : i < 3 := by omega
  match i, this with
  | 0, _ => exact (PosC.h : 0 < a)
  | 1, _ => exact (PosC.h : 0 < b)
  | 2, _ => exact (PosC.h : 0 < c)⟩
/-- numbers drawn turn by turn, each the rest by m -/
theorem digits_fold {σ α : Type} {f : σ → α → Fl (List Int) σ} {g k : σ → List Int} {m : Int} (hk : ∀ s, k s = g s) (hf : ∀ s b, ∃ s' y, f s b = .go s' ∧ g s' = g s ++ [y % m]) :
    ∀ (xs : List α) (s : σ), ∃ ys : List Int, fin (forM f xs s) k = g s ++ ys ∧ ys.length = xs.length ∧ ∀ y ∈ ys, ∃ z : Int, y = z % m
  | [], s => ⟨[], by rw [List.append_nil]; exact hk s, rfl, fun _ h => absurd h List.not_mem_nil⟩
  | b :: bs, s => by
    obtain ⟨s1, y, e1, e2⟩ := hf s b
    obtain ⟨ys, e3, e4, e5⟩ := digits_fold hk hf bs s1
    refine ⟨y % m :: ys, ?_, by rw [List.length_cons, List.length_cons, e4], fun z hz => ?_⟩
    · rw [forM_cons, e1]
      refine e3.trans ?_
      rw [e2, List.append_assoc]
      rfl
    · rcases List.mem_cons.mp hz with rfl | hz
      · exact ⟨y, rfl⟩
      · exact e5 z hz
theorem zip_lt {α : Type} {xs : List α} {q : α × Nat} {i N : Nat} (h : xs.zipIdx[i]? = some q) (hl : xs.length ≤ N) : q.2 < N := Nat.lt_of_lt_of_le (zip_mem (List.mem_of_getElem? h)).2 hl
theorem cutD_le {α : Type} (xs : List α) (a b : Option Int) : (cutD xs a b).length ≤ xs.length := by
  unfold cutD
  rw [List.length_take, List.length_drop]
  omega
instance lnc_cut {α : Type} {xs : List α} {a b : Option Int} {n : Nat} [h : LnC xs n] : LnC (cutD xs a b) n := ⟨Nat.le_trans (cutD_le xs a b) h.h⟩
theorem cutD_mem {α : Type} {xs : List α} {a b : Option Int} {x : α} (h : x ∈ cutD xs a b) : x ∈ xs := List.mem_of_mem_drop (List.mem_of_mem_take h)
instance bdc_cut {α : Type} [Bz α] {xs : List α} {a b : Option Int} {n : Nat} [h : BdC xs n] : BdC (cutD xs a b) n := ⟨fun x hx => h.h x (cutD_mem hx)⟩
instance fdc_cut {α : Type} [Fz α] {xs : List α} {a b : Option Int} {n : Nat} [h : FdC xs n] : FdC (cutD xs a b) n := ⟨fun x hx => h.h x (cutD_mem hx)⟩
end Dl
namespace Dl
open PySem PySem.Spec PyProof.Rows L2
theorem cutD_drop {α : Type} (xs : List α) (k : Nat) : cutD xs (some (k : Int)) none = xs.drop k := by
  unfold cutD
  rw [HT.sIx_nat, HT.sIx_none]
  have : xs.drop (min k xs.length) = xs.drop k := by
    by_cases h : k ≤ xs.length
    · rw [Nat.min_eq_left h]
    · rw [Nat.min_eq_right (by omega), List.drop_length, List.drop_eq_nil_of_le (by omega)]
  rw [this]
  exact List.take_of_length_le (by rw [List.length_drop]; omega)
theorem cutD_take {α : Type} (xs : List α) (k : Nat) : cutD xs none (some (k : Int)) = xs.take k := by
  unfold cutD
  rw [HT.sIx_nat, HT.sIx_none, List.drop_zero, Nat.sub_zero]
  by_cases h : k ≤ xs.length
  · rw [Nat.min_eq_left h]
  · rw [Nat.min_eq_right (by omega), List.take_length, List.take_of_length_le (by omega)]
/-- lists of lists: how long each -/
class LnL {α : Type} (l : List (List α)) (n : outParam Nat) : Prop where
  h : ∀ x ∈ l, x.length ≤ n
instance lnl_nil {α : Type} : LnL ([] : List (List α)) 0 := ⟨fun _ h => absurd h List.not_mem_nil⟩
instance lnl_cons {α : Type} {x : List α} {l : List (List α)} {n m : Nat} [h : LnC x n] [k : LnL l m] : LnL (x :: l) (max n m) := ⟨fun y hy => by
  rcases List.mem_cons.mp hy with rfl | hy
  · exact Nat.le_trans h.h (Nat.le_max_left _ _)
  · exact Nat.le_trans (k.h y hy) (Nat.le_max_right _ _)⟩
theorem lnl_at {α : Type} {x : List α} {l : List (List α)} {i n : Nat} (k : l[i]? = some x) [h : LnL l n] : LnC x n := ⟨h.h x (List.mem_of_getElem? k)⟩
theorem lnl_mem {α : Type} {x : List α} {l : List (List α)} {n : Nat} (k : x ∈ l) [h : LnL l n] : LnC x n := ⟨h.h x k⟩
/-- a loop that looks for what breaks a rule -/
theorem forM_find {α ρ : Type} {f : Unit → α → Fl ρ Unit} {r : ρ} {q : α → Prop} : ∀ {xs : List α}, (∀ x ∈ xs, (q x ∧ f () x = .go ()) ∨ (¬ q x ∧ f () x = .ret r)) →
    ((∀ x ∈ xs, q x) ∧ forM f xs () = .go ()) ∨ (¬ (∀ x ∈ xs, q x) ∧ forM f xs () = .ret r)
  | [], _ => .inl ⟨fun _ h => absurd h List.not_mem_nil, rfl⟩
  | x :: xs, hf => by
    rw [forM_cons]
    rcases hf x List.mem_cons_self with ⟨h1, h2⟩ | ⟨h1, h2⟩
    · rw [h2]
      rcases forM_find (xs := xs) fun y hy => hf y (List.mem_cons_of_mem _ hy) with ⟨h3, h4⟩ | ⟨h3, h4⟩
      · exact .inl ⟨fun y hy => by
          rcases List.mem_cons.mp hy with rfl | hy
          · exact h1
          · exact h3 y hy, h4⟩
      · exact .inr ⟨fun z => h3 fun y hy => z y (List.mem_cons_of_mem _ hy), h4⟩
    · rw [h2]
      exact .inr ⟨fun z => h1 (z x List.mem_cons_self), rfl⟩
theorem fin_find {α ρ : Type} {f : Unit → α → Fl ρ Unit} {r v : ρ} {q : α → Prop} {xs : List α} {k : Unit → ρ} (hk : k () = v) (hf : ∀ x ∈ xs, (q x ∧ f () x = .go ()) ∨ (¬ q x ∧ f () x = .ret r)) :
    ((∀ x ∈ xs, q x) ∧ fin (forM f xs ()) k = v) ∨ (¬ (∀ x ∈ xs, q x) ∧ fin (forM f xs ()) k = r) := by
  rcases forM_find hf with ⟨h1, h2⟩ | ⟨h1, h2⟩
  · exact .inl ⟨h1, by rw [h2]; exact hk⟩
  · exact .inr ⟨h1, by rw [h2]; rfl⟩
theorem fin_iff {α : Type} {f : Unit → α → Fl Bool Unit} {q : α → Prop} {xs : List α} {k : Unit → Bool} (hk : k () = true) (hf : ∀ x ∈ xs, (q x ∧ f () x = .go ()) ∨ (¬ q x ∧ f () x = .ret false)) :
    fin (forM f xs ()) k = true ↔ ∀ x ∈ xs, q x := by
  rcases fin_find hk hf with ⟨h1, h2⟩ | ⟨h1, h2⟩
  · exact ⟨fun _ => h1, fun _ => h2⟩
  · exact ⟨fun z => absurd (h2.symm.trans z) Bool.false_ne_true, fun z => absurd z h1⟩
theorem br_find {ρ : Type} {p : Prop} [Decidable p] {a b : ρ} : (p ∧ br (!decide p) a b = b) ∨ (¬ p ∧ br (!decide p) a b = a) := by
  by_cases h : p
  · exact .inl ⟨h, by rw [decide_eq_true h]; rfl⟩
  · exact .inr ⟨h, by rw [decide_eq_false h]; rfl⟩
instance (priority := 500) bdc_mapI {α γ : Type} [Bz α] [Bz γ] {l : List γ} {f : γ → α} {n m : Nat} [h : BdC l n] [k : ∀ x, [BdC x n] → BdC (f x) m] : BdC (l.map f) m := ⟨bd_map fun x hx => by
  have : BdC x n := bdc_mem hx
  exact BdC.h⟩
end Dl
namespace Dl
theorem ln_cat {α β : Type} {xs : List α} {ys : List β} {n m N : Nat} [h : LnC xs n] [k : LnC ys m] (q : n + m ≤ N) : xs.length + ys.length ≤ N := Nat.le_trans (Nat.add_le_add h.h k.h) q
end Dl
namespace Dl
instance (priority := 1100) bdc_map_sub {l : List Int} {c : Int} {n m : Nat} [h : BdC l n] [k : BdC c m] : BdC (l.map (fun x => x - c)) (max n m + 1) := ⟨bd_map fun x hx => bd_sub (h.h x hx) k.h⟩
end Dl
namespace Dl
open PySem PySem.Spec PyProof.Rows L2
theorem bdc_mapE {α γ : Type} [Bz α] {w : List α} {l : List γ} {f : γ → α} {m : Nat} (e : w = l.map f) (h : ∀ x ∈ l, BdC (f x) m) : BdC w m := ⟨by
  subst e
  exact bd_map fun x hx => (h x hx).h⟩
theorem fdc_mapE {α γ : Type} [Fz α] {w : List α} {l : List γ} {f : γ → α} {m : Nat} (e : w = l.map f) (h : ∀ x ∈ l, FdC (f x) m) : FdC w m := ⟨fun y hy => by
  subst e
  obtain ⟨x, hx, rfl⟩ := List.mem_map.mp hy
  exact (h x hx).h⟩
theorem len_of_get {α : Type} {xs : List α} {a b : Option Int} {i : Nat} {x : α} (h : (cutD xs a b)[i]? = some x) : (0 : Int) < ((xs.length : Nat) : Int) := Int.ofNat_lt.mpr (List.length_pos_of_mem (cutD_mem (List.mem_of_getElem? h)))
theorem len_of_mem {α : Type} {xs : List α} {a b : Option Int} {x : α} (h : x ∈ cutD xs a b) : (0 : Int) < ((xs.length : Nat) : Int) := Int.ofNat_lt.mpr (List.length_pos_of_mem (cutD_mem h))
end Dl
namespace Dl
instance (priority := 100) pos_fd {x : Int × Int} {n : Nat} [h : FdC x n] : PosC x.2 := ⟨(fdc_low (x := x)).1⟩
theorem vl_mul {x : Int × Int} (h : 0 < x.2) : (x.1 : Rat) = vl x * (x.2 : Rat) := by
  have := rat_ne (Int.ne_of_gt h)
  unfold vl
  grind
theorem low_vl {x y : Int × Int} (hx : Low x) (hy : Low y) : x = y ↔ vl x = vl y := ⟨fun e => by rw [e], vl_inj hx hy⟩
theorem vl_zero : vl (0, 1) = 0 := by rw [vl_whole]; rfl
theorem low_whole (n : Int) : Low (n, 1) := ⟨one_pos, Int.gcd_one_right n⟩
theorem low_radd {x y : Int × Int} (hx : 0 < x.2) (hy : 0 < y.2) : Low (radd x y) := rmk_low (mul_ne hx hy)
theorem low_rsub {x y : Int × Int} (hx : 0 < x.2) (hy : 0 < y.2) : Low (rsub x y) := rmk_low (mul_ne hx hy)
theorem low_rmul {x y : Int × Int} (hx : 0 < x.2) (hy : 0 < y.2) : Low (rmul x y) := rmk_low (mul_ne hx hy)
theorem getD_mem {α : Type} {l : List α} {n : Nat} {z : α} (hn : n < l.length) : l.getD n z ∈ l := by
  rw [List.getD_eq_getElem?_getD, List.getElem?_eq_getElem hn]
  exact List.getElem_mem hn
theorem getD_get {α : Type} {l : List α} {n : Nat} {z : α} (hn : n < l.length) : l.getD n z = l[n] := by
  rw [List.getD_eq_getElem?_getD, List.getElem?_eq_getElem hn]
  rfl
end Dl
namespace Dl
instance (priority := 2000) bdc_n2 : BdC (2 : Int) 2 := ⟨sm_nat 2⟩
instance (priority := 2000) bdc_n3 : BdC (3 : Int) 2 := ⟨sm_nat 3⟩
instance (priority := 2000) bdc_n4 : BdC (4 : Int) 3 := ⟨sm_nat 4⟩
instance (priority := 2000) bdc_n5 : BdC (5 : Int) 3 := ⟨sm_nat 5⟩
instance (priority := 2000) bdc_n6 : BdC (6 : Int) 3 := ⟨sm_nat 6⟩
instance (priority := 2000) bdc_n7 : BdC (7 : Int) 3 := ⟨sm_nat 7⟩
instance (priority := 2000) bdc_n8 : BdC (8 : Int) 4 := ⟨sm_nat 8⟩
instance (priority := 2000) bdc_n9 : BdC (9 : Int) 4 := ⟨sm_nat 9⟩
instance (priority := 2000) bdc_n10 : BdC (10 : Int) 4 := ⟨sm_nat 10⟩
instance (priority := 2000) bdc_n11 : BdC (11 : Int) 4 := ⟨sm_nat 11⟩
instance (priority := 2000) bdc_n12 : BdC (12 : Int) 4 := ⟨sm_nat 12⟩
instance (priority := 2000) bdc_n13 : BdC (13 : Int) 4 := ⟨sm_nat 13⟩
instance (priority := 2000) bdc_n14 : BdC (14 : Int) 4 := ⟨sm_nat 14⟩
instance (priority := 2000) bdc_n15 : BdC (15 : Int) 4 := ⟨sm_nat 15⟩
instance (priority := 2000) bdc_n16 : BdC (16 : Int) 5 := ⟨sm_nat 16⟩
instance (priority := 2000) bdc_n17 : BdC (17 : Int) 5 := ⟨sm_nat 17⟩
instance (priority := 2000) bdc_n18 : BdC (18 : Int) 5 := ⟨sm_nat 18⟩
instance (priority := 2000) bdc_n19 : BdC (19 : Int) 5 := ⟨sm_nat 19⟩
instance (priority := 2000) bdc_n20 : BdC (20 : Int) 5 := ⟨sm_nat 20⟩
instance (priority := 2000) bdc_n21 : BdC (21 : Int) 5 := ⟨sm_nat 21⟩
instance (priority := 2000) bdc_n22 : BdC (22 : Int) 5 := ⟨sm_nat 22⟩
instance (priority := 2000) bdc_n23 : BdC (23 : Int) 5 := ⟨sm_nat 23⟩
instance (priority := 2000) bdc_n24 : BdC (24 : Int) 5 := ⟨sm_nat 24⟩
instance (priority := 2000) bdc_n25 : BdC (25 : Int) 5 := ⟨sm_nat 25⟩
instance (priority := 2000) bdc_n26 : BdC (26 : Int) 5 := ⟨sm_nat 26⟩
instance (priority := 2000) bdc_n27 : BdC (27 : Int) 5 := ⟨sm_nat 27⟩
instance (priority := 2000) bdc_n28 : BdC (28 : Int) 5 := ⟨sm_nat 28⟩
instance (priority := 2000) bdc_n29 : BdC (29 : Int) 5 := ⟨sm_nat 29⟩
instance (priority := 2000) bdc_n30 : BdC (30 : Int) 5 := ⟨sm_nat 30⟩
instance (priority := 2000) bdc_n31 : BdC (31 : Int) 5 := ⟨sm_nat 31⟩
instance (priority := 2000) bdc_n32 : BdC (32 : Int) 6 := ⟨sm_nat 32⟩
instance (priority := 2000) bdc_n33 : BdC (33 : Int) 6 := ⟨sm_nat 33⟩
instance (priority := 2000) bdc_n34 : BdC (34 : Int) 6 := ⟨sm_nat 34⟩
instance (priority := 2000) bdc_n35 : BdC (35 : Int) 6 := ⟨sm_nat 35⟩
instance (priority := 2000) bdc_n36 : BdC (36 : Int) 6 := ⟨sm_nat 36⟩
instance (priority := 2000) bdc_n37 : BdC (37 : Int) 6 := ⟨sm_nat 37⟩
instance (priority := 2000) bdc_n38 : BdC (38 : Int) 6 := ⟨sm_nat 38⟩
instance (priority := 2000) bdc_n39 : BdC (39 : Int) 6 := ⟨sm_nat 39⟩
instance (priority := 2000) bdc_n40 : BdC (40 : Int) 6 := ⟨sm_nat 40⟩
instance (priority := 2000) bdc_n41 : BdC (41 : Int) 6 := ⟨sm_nat 41⟩
instance (priority := 2000) bdc_n42 : BdC (42 : Int) 6 := ⟨sm_nat 42⟩
instance (priority := 2000) bdc_n43 : BdC (43 : Int) 6 := ⟨sm_nat 43⟩
instance (priority := 2000) bdc_n44 : BdC (44 : Int) 6 := ⟨sm_nat 44⟩
instance (priority := 2000) bdc_n45 : BdC (45 : Int) 6 := ⟨sm_nat 45⟩
instance (priority := 2000) bdc_n46 : BdC (46 : Int) 6 := ⟨sm_nat 46⟩
instance (priority := 2000) bdc_n47 : BdC (47 : Int) 6 := ⟨sm_nat 47⟩
instance (priority := 2000) bdc_n48 : BdC (48 : Int) 6 := ⟨sm_nat 48⟩
instance (priority := 2000) bdc_n49 : BdC (49 : Int) 6 := ⟨sm_nat 49⟩
instance (priority := 2000) bdc_n50 : BdC (50 : Int) 6 := ⟨sm_nat 50⟩
instance (priority := 2000) bdc_n51 : BdC (51 : Int) 6 := ⟨sm_nat 51⟩
instance (priority := 2000) bdc_n52 : BdC (52 : Int) 6 := ⟨sm_nat 52⟩
instance (priority := 2000) bdc_n53 : BdC (53 : Int) 6 := ⟨sm_nat 53⟩
instance (priority := 2000) bdc_n54 : BdC (54 : Int) 6 := ⟨sm_nat 54⟩
instance (priority := 2000) bdc_n55 : BdC (55 : Int) 6 := ⟨sm_nat 55⟩
instance (priority := 2000) bdc_n56 : BdC (56 : Int) 6 := ⟨sm_nat 56⟩
instance (priority := 2000) bdc_n57 : BdC (57 : Int) 6 := ⟨sm_nat 57⟩
instance (priority := 2000) bdc_n58 : BdC (58 : Int) 6 := ⟨sm_nat 58⟩
instance (priority := 2000) bdc_n59 : BdC (59 : Int) 6 := ⟨sm_nat 59⟩
instance (priority := 2000) bdc_n60 : BdC (60 : Int) 6 := ⟨sm_nat 60⟩
instance (priority := 2000) bdc_n61 : BdC (61 : Int) 6 := ⟨sm_nat 61⟩
instance (priority := 2000) bdc_n62 : BdC (62 : Int) 6 := ⟨sm_nat 62⟩
instance (priority := 2000) bdc_n63 : BdC (63 : Int) 6 := ⟨sm_nat 63⟩
instance (priority := 2000) bdc_n64 : BdC (64 : Int) 7 := ⟨sm_nat 64⟩
instance (priority := 2000) bdc_n97 : BdC (97 : Int) 7 := ⟨sm_nat 97⟩
instance (priority := 2000) bdc_n100 : BdC (100 : Int) 7 := ⟨sm_nat 100⟩
instance (priority := 2000) bdc_n101 : BdC (101 : Int) 7 := ⟨sm_nat 101⟩
end Dl
namespace Dl
open PySem PySem.Spec PyProof.Rows L2
theorem get_lt {α : Type} {xs : List α} {i N : Nat} {x : α} (h : xs[i]? = some x) (k : xs.length ≤ N) : i < N := Nat.lt_of_lt_of_le (List.getElem?_eq_some_iff.mp h).1 k
/-! ## constants of the module -/
structure ConC (K : PySem.W.Frag) (mg : Str → Option Value) (x : Str) (d : D) : Prop where
  ex : ∃ (v : V) (u : Value), mg x = some u ∧ RelV v u ∧ ∀ H, Rp K H v d
theorem ev_con {X : Cx} {Γ : Env} {x : Str} {pos : Pos} {d : D} (T : ConC X.K X.mg x d) (hg : Gl X x := by rfl) (hd : (x == ("__debug__" : Str)) = false := by decide) : EV X Γ (.Name x pos) d := fun H0 H1 σ S Q q => by
  obtain ⟨v, u, hm, r, hr⟩ := T.ex
  exact we_of (pe_glob hg hm r hd) (q v H0 H1 (Tr.refl S.sub) (hr H0))
section
variable {K : PySem.W.Frag} {h : Heap} {mg : Str → Option Value} {x : Str}
theorem conI_mk (X : K.In h) (G : h.Ns mainGlobals mg) {i : Int} {t : Nat} (a : PySem.W.nsIn K mainGlobals x = some (some (.int i t))) : ConC K mg x (.int i) :=
  ⟨.int i, _, PySem.W.mg_of X G a, ⟨t, rfl⟩, fun _ => .int i⟩
theorem conS_mk (X : K.In h) (G : h.Ns mainGlobals mg) {z : Str} {t : Nat} (a : PySem.W.nsIn K mainGlobals x = some (some (.str z t))) : ConC K mg x (.str z) :=
  ⟨.str z, _, PySem.W.mg_of X G a, ⟨t, rfl⟩, fun _ => .str z⟩
theorem conT2_mk (X : K.In h) (G : h.Ns mainGlobals mg) {p : Addr} {i j : Int} {t t' : Nat} {od : Option Addr} {n : Nat} {sl : Array (Option Value)} (a : PySem.W.nsIn K mainGlobals x = some (some (.ref p))) (l : K.lookup p = some ⟨.type "tuple", od, .seq #[.int i t, .int j t'] n, sl⟩) : ConC K mg x (.tup [.int i, .int j]) :=
  ⟨.ref p, _, PySem.W.mg_of X G a, rfl, fun H => .tup (vs := [.int i, .int j]) (.inr ⟨_, _, _, l, rfl, rfl, (show 2 ≤ sizeLine by decide), .cons ⟨t, rfl⟩ (.cons ⟨t', rfl⟩ .nil)⟩) (.cons (.int i) (.cons (.int j) .nil))⟩
end
instance fdc_neg0 {x : Int × Int} {n : Nat} [h : FdC x n] : FdC ((0 : Int) - x.1, x.2) n := ⟨by
  have k : Fr n x := h.h
  exact ⟨⟨k.low.1, by rw [Int.zero_sub, Int.neg_gcd]; exact k.low.2⟩, by rw [Int.zero_sub]; exact k.s1.neg, k.s2⟩⟩
theorem low_neg {x : Int × Int} (h : Low x) : Low (0 - x.1, x.2) := ⟨h.1, by rw [Int.zero_sub, Int.neg_gcd]; exact h.2⟩
theorem vl_neg (x : Int × Int) : vl (0 - x.1, x.2) = - vl x := by
  unfold vl
  rw [Int.zero_sub, Rat.intCast_neg]
  grind
/-- sums of fractions, turn by turn -/
theorem radd_loop {ρ : Type} {f : (Int × Int) → Nat → Fl ρ (Int × Int)} {g : Nat → Int × Int} {n : Nat} : ∀ (xs : List Nat) (s : Int × Int) (m : Nat), (∀ s, ∀ k ∈ xs, f s k = .go (radd s (g k))) → (∀ k ∈ xs, Fr n (g k)) → Fr m s →
    ∃ s', forM f xs s = .go s' ∧ Fr (m + xs.length * (n + 1)) s' ∧ vl s' = vl s + (xs.map fun k => vl (g k)).sum
  | [], s, m, _, _, h => ⟨s, rfl, h.mono (by simp), by simp [Rat.add_zero]⟩
  | k :: xs, s, m, hf, hg, h => by
    have hk := hg k List.mem_cons_self
    have h1 : Fr (m + n + 1) (radd s (g k)) := radd_fr h hk
    obtain ⟨s', e, h2, h3⟩ := radd_loop xs (radd s (g k)) (m + n + 1) (fun s j hj => hf s j (List.mem_cons_of_mem _ hj)) (fun j hj => hg j (List.mem_cons_of_mem _ hj)) h1
    refine ⟨s', ?_, h2.mono ?_, ?_⟩
    · rw [forM_cons, hf s k List.mem_cons_self]
      exact e
    · rw [List.length_cons, Nat.add_mul]
      omega
    · rw [h3, vl_radd h.low.1 hk.low.1, List.map_cons, List.sum_cons]
      grind
/-! ## the way round -/
def cr (p q : (Int × Int) × (Int × Int)) : Rat := vl p.1 * vl q.2 - vl q.1 * vl p.2
def path : List ((Int × Int) × (Int × Int)) → Rat
  | [] => 0
  | [_] => 0
  | p :: q :: r => cr p q + path (q :: r)
theorem path_cons {p q : (Int × Int) × (Int × Int)} {r : List ((Int × Int) × (Int × Int))} : path (p :: q :: r) = cr p q + path (q :: r) := rfl
theorem path_split : ∀ (l : List ((Int × Int) × (Int × Int))) (p : (Int × Int) × (Int × Int)) (r : List ((Int × Int) × (Int × Int))), path (l ++ p :: r) = path (l ++ [p]) + path (p :: r)
  | [], p, r => by
    show _ = (0 : Rat) + _
    rw [Rat.zero_add]
    rfl
  | [a], p, r => by
    show cr a p + path (p :: r) = cr a p + 0 + path (p :: r)
    rw [Rat.add_zero]
  | a :: b :: l, p, r => by
    show cr a b + path ((b :: l) ++ p :: r) = cr a b + path ((b :: l) ++ [p]) + path (p :: r)
    rw [path_split (b :: l) p r, Rat.add_assoc]
theorem path_range (z : (Int × Int) × (Int × Int)) : ∀ (l : List ((Int × Int) × (Int × Int))), ((List.range (l.length - 1)).map fun k => cr (l.getD k z) (l.getD (k + 1) z)).sum = path l
  | [] => rfl
  | [_] => rfl
  | p :: q :: r => by
    rw [show (p :: q :: r).length - 1 = (q :: r).length - 1 + 1 by simp, List.range_succ_eq_map, List.map_cons, List.sum_cons, List.map_map, path_cons, ← path_range z (q :: r)]
    rfl
/-- twice the share -/
def closed (l : List ((Int × Int) × (Int × Int))) : Rat := path l + cr (l.getLastD ((0, 1), (0, 1))) (l.headD ((0, 1), (0, 1)))
theorem rsum_app (a b : List Rat) : (a ++ b).sum = a.sum + b.sum := by
  induction a with
  | nil => simp [Rat.zero_add]
  | cons x a ih => rw [List.cons_append, List.sum_cons, List.sum_cons, ih, Rat.add_assoc]
theorem last_get {l : List ((Int × Int) × (Int × Int))} {n : Nat} {d : (Int × Int) × (Int × Int)} (hn : l.length = n + 1) (h : n < l.length) : l[n] = l.getLastD d := by
  rw [List.getLastD_eq_getLast?, List.getLast?_eq_getElem?]
  have e : l.length - 1 = n := by omega
  have k : l[l.length - 1]? = some l[n] := by
    rw [e]
    exact List.getElem?_eq_getElem h
  rw [k]
  rfl
theorem closed_next {l : List ((Int × Int) × (Int × Int))} (h : l ≠ []) (z : (Int × Int) × (Int × Int)) : ((List.range l.length).map fun k => cr (l.getD k z) (l.getD ((k + 1) % l.length) z)).sum = closed l := by
  obtain ⟨n, hn⟩ : ∃ n, l.length = n + 1 := ⟨l.length - 1, by have := List.length_pos_iff.mpr h; omega⟩
  rw [hn, List.range_succ, List.map_append, rsum_app, List.map_singleton, List.sum_cons, List.sum_nil, Rat.add_zero, Nat.mod_self]
  unfold closed
  rw [← path_range z l, hn, Nat.add_sub_cancel]
  congr 1
  · congr 1
    refine List.map_congr_left fun k hk => ?_
    rw [Nat.mod_eq_of_lt (by have := List.mem_range.mp hk; omega)]
  · congr 1
    · rw [getD_get (by omega), last_get hn]
    · cases l with
      | nil => exact absurd rfl h
      | cons a r => rfl
theorem closed_prev {l : List ((Int × Int) × (Int × Int))} (h : l ≠ []) (z : (Int × Int) × (Int × Int)) : ((List.range l.length).map fun k => cr (ixI l (((k : Nat) : Int) - 1) z) (l.getD k z)).sum = closed l := by
  obtain ⟨n, hn⟩ : ∃ n, l.length = n + 1 := ⟨l.length - 1, by have := List.length_pos_iff.mpr h; omega⟩
  rw [hn, List.range_succ_eq_map, List.map_cons, List.sum_cons, List.map_map, Rat.add_comm]
  unfold closed
  rw [← path_range z l, hn, Nat.add_sub_cancel]
  congr 1
  · congr 1
    refine List.map_congr_left fun k hk => ?_
    show cr (ixI l (((k + 1 : Nat) : Int) - 1) z) _ = _
    unfold ixI
    rw [decide_eq_false (by omega), cond_false]
    congr 2
    omega
  · congr 1
    · unfold ixI
      rw [decide_eq_true (by omega), cond_true, hn, show Int.toNat (((0 : Nat) : Int) - 1 + ((n + 1 : Nat) : Int)) = n by omega, getD_get (by omega), last_get hn]
    · cases l with
      | nil => exact absurd rfl h
      | cons a r => rfl
theorem closed_cut {a : (Int × Int) × (Int × Int)} {l r : List ((Int × Int) × (Int × Int))} {p : (Int × Int) × (Int × Int)} : closed (a :: (l ++ [p])) + closed (a :: p :: r) = closed (a :: (l ++ p :: r)) := by
  unfold closed
  have h1 : (a :: (l ++ [p])).getLastD ((0, 1), (0, 1)) = p := by
    rw [← List.cons_append, List.getLastD_eq_getLast?, List.getLast?_concat]
    rfl
  have h2 : (a :: (l ++ p :: r)).getLastD ((0, 1), (0, 1)) = (a :: p :: r).getLastD ((0, 1), (0, 1)) := by
    rw [List.getLastD_eq_getLast?, List.getLastD_eq_getLast?, ← List.cons_append, List.getLast?_append, List.getLast?_cons_cons]
    cases h : (p :: r).getLast? with
    | none => simp at h
    | some x => rfl
  have h3 := path_split (a :: l) p r
  rw [List.cons_append, List.cons_append] at h3
  rw [h1, h2, h3, path_cons]
  show path (a :: (l ++ [p])) + cr p a + (cr a p + path (p :: r) + cr _ a) = path (a :: (l ++ [p])) + path (p :: r) + cr _ a
  have : cr p a = - cr a p := by unfold cr; grind
  rw [this]
  grind
end Dl
namespace Dl
open PySem PySem.Spec PyProof.Rows L2
theorem fdc_getIn {α : Type} [Fz α] {l : List α} {i n : Nat} {d : α} [h : FdC l n] (k : i < l.length) : FdC (l.getD i d) n := ⟨h.h _ (getD_mem k)⟩
theorem ixI_mem {α : Type} {l : List α} {i : Int} {d : α} (h0 : -(l.length : Int) ≤ i) (h1 : i < l.length) : ixI l i d ∈ l := by
  unfold ixI
  by_cases h : i < 0
  · rw [decide_eq_true h, cond_true]
    exact getD_mem (by omega)
  · rw [decide_eq_false h, cond_false]
    exact getD_mem (by omega)
theorem fdc_ixI {α : Type} [Fz α] {l : List α} {i : Int} {n : Nat} {d : α} [h : FdC l n] (h0 : -(l.length : Int) ≤ i) (h1 : i < l.length) : FdC (ixI l i d) n := ⟨h.h _ (ixI_mem h0 h1)⟩
instance bdc_len {α : Type} {l : List α} {n : Nat} [h : LnC l n] : BdC ((l.length : Nat) : Int) (Nat.log2 n + 1) := ⟨by
  show Sm _ _
  unfold Sm
  rw [Int.natAbs_natCast]
  exact Nat.lt_of_le_of_lt h.h Nat.lt_log2_self⟩
theorem ln_mul {α : Type} {l : List α} {n c N : Nat} [h : LnC l n] (k : n * c ≤ N) : l.length * c ≤ N := Nat.le_trans (Nat.mul_le_mul_right c h.h) k
end Dl
namespace Dl
theorem fr_lit {n : Nat} {x : Int × Int} (h : Low x ∧ x.1.natAbs < 2 ^ n ∧ x.2.natAbs < 2 ^ n) : Fr n x := ⟨h.1, h.2.1, h.2.2⟩
theorem closed_nil : closed [] = 0 := by
  show (0 : Rat) + (vl (0, 1) * vl (0, 1) - vl (0, 1) * vl (0, 1)) = 0
  rw [vl_zero]
  grind
theorem vl_rless {x y : Int × Int} (hx : 0 < x.2) (hy : 0 < y.2) : vl (radd x (0 - y.1, y.2)) = vl x - vl y := by
  rw [vl_radd (y := (0 - y.1, y.2)) hx hy, vl_neg]
  grind
end Dl
namespace Dl
open PySem PySem.Spec PyProof.Rows L2
theorem lt_all {α β : Type} {P : β → Prop} {e : α} {f : α → β} (h : ∀ x, P (f x)) : P (lt e f) := h e
theorem op_mulX {X : Cx} : OpR X (binaryOp .Mult) (rI (fun i j => CMulW i j ∨ CMul i j) fun i j => .int (i * j)) := opI fun _ _ _ _ _ _ _ hc q => mul_int q (hc.elim CMulW.ok CMul.ok)
theorem opd_mulX {X : Cx} {i j : Int} (h : CMulW i j ∨ CMul i j) : OpD X (binaryOp .Mult) (.int i) (.int j) (.int (i * j)) := opd_I (z := fun i j => .int (i * j)) op_mulX (fun _ _ _ => .int _) h
theorem getD_app {α : Type} {s t : List α} {i : Nat} {d : α} (h : i < s.length) : (s ++ t).getD i d = s.getD i d := by
  rw [List.getD_eq_getElem?_getD, List.getElem?_append_left h, ← List.getD_eq_getElem?_getD]
/-! ## the least of three truths -/
theorem cmpB3 {prog : Program} {w : World} {A : Around} (a b c : Bool) :
    CmpOf prog w A .Lt (fun i v => (#[Value.bool a, .bool b, .bool c] : Array Value)[i]? = some v) (fun i j => decide (b2i ([a, b, c].getD i false) < b2i ([a, b, c].getD j false))) := fun i j vi vj s Q E hi hj h => by
  have key : ∀ (i : Nat) (v : Value), (#[Value.bool a, .bool b, .bool c] : Array Value)[i]? = some v → v = .bool ([a, b, c].getD i false) := fun i v e => by
    match i with
    | 0 => simp at e; exact e.symm
    | 1 => simp at e; exact e.symm
    | 2 => simp at e; exact e.symm
    | n + 3 => simp at e
  have e1 := key i vi hi
  have e2 := key j vj hj
  subst e1 e2
  exact lt_bool h
theorem minL3_bool {prog : Program} {w : World} {A : Around} {E : Value → Shared → Prop} {s : Shared} {l : Addr} {Q : Value → Shared → Prop} {a b c : Bool} (hh : A.handled = none) (hl : s.heap.IsList l #[.bool a, .bool b, .bool c])
    (h : ∀ h' tk, (∀ d o, s.heap.get? d = some o → h'.get? d = some o) → Q (.bool (a && (b && c))) { s with heap := h', toks := tk }) :
    wpAny (model prog w) A (call (.builtin "min") [.ref l]) Q E s := by
  refine call_min_walk (iter_anyList hl fun s₂ e st hfp hlI => ?_)
  subst e
  refine ⟨_, _, _, _, _, _, _, rfl, Walks.list (A := A.in1) hh _ l hlI #[.bool a, .bool b, .bool c], st, hfp, by simp, cmpB3 a b c, fun v h' tk hP hk => ?_⟩
  have := h h' tk (PySem.old_kept hk)
  have hv : Value.bool (a && (b && c)) = v := by
    cases a <;> cases b <;> cases c <;> simp [argBest, b2i] at hP <;> exact hP
  rw [hv] at this
  exact this
theorem cd_minB3 {X : Cx} {d : D} {x y z : Bool} (h : d.lss = some [.bl x, .bl y, .bl z]) (hc : X.calm = true) : CallD X (.builtin "min") [d] (.bl (x && (y && z))) :=
  ⟨fun vs H Q => ∃ (p : Addr) (x y z : Bool), vs = [.ref p] ∧ SqL X.K H p [.bl x, .bl y, .bl z] ∧ Q (.bl (x && (y && z))) H, by
    intro pins s σ H vs us Q I r h
    obtain ⟨p, x, y, z, rfl, hs, q⟩ := h
    obtain ⟨its, rv, hl, _⟩ := I.list hs
    rw [Vals.ref1 r]
    obtain ⟨u1, u2, u3, rfl, r1, r2, r3⟩ := vals3 rv
    cases r1
    cases r2
    cases r3
    exact minL3_bool (I.ok.hd hc) hl.isList fun h' tk k => ⟨V.bl (x && (y && z)), H, I.kept k, rfl, q⟩, fun H0 H1 vs s r Q q => by
    obtain ⟨v, rfl, r1⟩ := rpl1 r
    obtain ⟨a, ws, rfl, e, rl⟩ := r1.lss h
    have e2 := rpl_bls (ns := [x, y, z]) rl
    subst e2
    exact ⟨a, x, y, z, rfl, s.seq e, q _ H0 H1 (Tr.refl s) (.bl _)⟩⟩
theorem cutD_mid {α : Type} (xs : List α) (a b : Nat) : cutD xs (some (a : Int)) (some (b : Int)) = (xs.drop (min a xs.length)).take (min b xs.length - min a xs.length) := by
  unfold cutD
  rw [HT.sIx_nat, HT.sIx_nat]
theorem cutD_len_to {α : Type} {xs : List α} {b n : Nat} (h : xs.length = n) : (cutD xs none (some (b : Int))).length = min b n := by
  rw [cutD_take, List.length_take, h]
theorem cutD_len_from {α : Type} {xs : List α} {a n : Nat} (h : xs.length = n) : (cutD xs (some (a : Int)) none).length = n - a := by
  rw [cutD_drop, List.length_drop, h]
theorem cutD_len_mid {α : Type} {xs : List α} {a b n : Nat} (h : xs.length = n) : (cutD xs (some (a : Int)) (some (b : Int))).length = min (min b n - min a n) (n - min a n) := by
  rw [cutD_mid, List.length_take, List.length_drop, h]
end Dl
namespace Dl
open PySem PySem.Spec PyProof.Rows L2
theorem rpl3 {K : PySem.W.Frag} {H : Hp} {vs : List V} {d e f : D} (r : RpL K H vs [d, e, f]) : ∃ v w u, vs = [v, w, u] ∧ Rp K H v d ∧ Rp K H w e ∧ Rp K H u f := by
  cases r with
  | cons h r =>
    obtain ⟨w, u, rfl, h2, h3⟩ := rpl2 r
    exact ⟨_, _, _, rfl, h, h2, h3⟩
theorem cd_min3 {X : Cx} {i j k : Int} (hc : X.calm = true) : CallD X (.builtin "min") [.int i, .int j, .int k] (.int (min (min i j) k)) := ⟨_, call_min3Nu hc, fun H0 H1 vs s r Q q => by
  obtain ⟨v, w, u, rfl, r1, r2, r3⟩ := rpl3 r
  cases r1
  cases r2
  cases r3
  refine ⟨_, _, _, .int (min (min i j) k), rfl, ?_, q _ H0 H1 (Tr.refl s) (.int _)⟩
  have m2 : ∀ a b : Int, nuMin2 (.int a) (.int b) = some (.int (min a b)) := fun a b => by
    show (some (decide (b < a))).map (fun c => if c = true then V.int b else V.int a) = _
    rw [Option.map_some, Int.min_def]
    by_cases h : b < a
    · rw [if_pos (decide_eq_true h), if_neg (by omega)]
    · rw [if_neg (by simpa using h), if_pos (by omega)]
  show (nuMin2 (.int i) (.int j)).bind (fun m => nuMin2 m (.int k)) = _
  rw [m2, Option.bind_some, m2]⟩
end Dl
namespace Dl
open PySem PySem.Spec PyProof.Rows L2

/-! ## a caught exception is kept -/
theorem exk_ok {P : Program} {w : World} {H : Hp} {h : Heap} {a C : Addr} {dd : Option Addr} {oe : Obj} {vs : Array Value} (he : h.get? a = some oe) (z : Zc (.ref C) dd oe) (hd : oe.data = .fields vs) : ObjOk P w H h a (ExK C dd a) := by
  unfold ExK
  exact ⟨⟨oe, vs, he, z, hd⟩, ⟨oe, he⟩, fun h1 h2 ⟨o, v, e, y, d⟩ k => ⟨o, v, k _ e, y, d⟩⟩
theorem exk_at {P : Program} {w : World} {H : Hp} {h : Heap} {a C : Addr} {dd : Option Addr} (hok : HOk P w H h) (e : H a = some (ExK C dd a)) : ∃ (oe : Obj) (vs : Array Value), h.get? a = some oe ∧ Zc (.ref C) dd oe ∧ oe.data = .fields vs := by
  have x := hok a _ e
  unfold ExK at x
  exact x.1
section
variable {X : Cx} {pins : List (Addr × Obj)} {σ : St} {H : Hp} {s : Shared}
theorem trackE {a C : Addr} {dd : Option Addr} {oe : Obj} {vs : Array Value} (I : Inv X pins σ H s) (na : H a = none) (he : s.heap.get? a = some oe) (z : Zc (.ref C) dd oe) (hd : oe.data = .fields vs)
    (n0 : X.s_0.heap.get? a = none) (nL : a ≠ X.env.locals) (np : ∀ p ∈ X.pn ++ pins, p.1 ≠ a) : Inv X pins σ (upd H a (ExK C dd a)) s := by
  have cn : ∀ x c, X.env.cells.lookup x = some c → c ≠ a := by
    intro x c e q
    obtain ⟨v, o, h1, h2⟩ := I.cell x c e
    rw [q, he] at h1
    cases h1
    rw [hd] at h2
    cases h2
  have s0 : ∀ {b : Addr} {o : Obj}, X.s_0.heap.get? b = some o → b ≠ a := by
    intro b o e q
    rw [q, n0] at e
    cases e
  refine { I with base := ?_, free := ?_, freeC := ?_, pin := ?_, hok := ?_ }
  · exact { I.base with
      free := fun b o e n hx => (upd_ne (s0 e)).trans (I.base.free b o e n hx)
      tups := fun b xs e => (upd_ne (ne_of_none (I.base.tups b xs e) na)).trans (I.base.tups b xs e)
      frzs := fun b o u e => (upd_ne (ne_of_none (I.base.frzs b o u e) na)).trans (I.base.frzs b o u e)
      tbls := fun b ps e => by
        obtain ⟨more, q⟩ := I.base.tbls b ps e
        exact ⟨more, (upd_ne (ne_of_none q na)).trans q⟩ }
  · exact (upd_ne (Ne.symm nL)).trans I.free
  · exact fun x c e => (upd_ne (cn x c e)).trans (I.freeC x c e)
  · intro p hp
    obtain ⟨e, n, r⟩ := I.pin p hp
    exact ⟨e, (upd_ne (np p hp)).trans n, r⟩
  · intro b o q
    by_cases hb : b = a
    · subst hb
      rw [upd_same] at q
      cases q
      exact exk_ok he z hd
    · rw [upd_ne hb] at q
      exact (I.hok b o q).stay (fun _ _ _ y => y) (fun c hc => (upd_ne (ne_of_none hc na)).trans hc) (fun c xs hc => (upd_ne (ne_of_none hc na)).trans hc)
end
/-- the clause's own wish: slot i the name's, the object stays known -/
def wKp (K : PySem.W.Frag) (c : Value) (i : Nat) (ts : Addr → TS) (Wo : WX) (D : Ends) : WX := fun cls d σ H =>
  ∃ b, PySem.W.exmOne K cls c = some b ∧
    (b = true → ∃ C : Addr, cls = .ref C ∧ ∀ a, H a = none → ts a
      { nx := fun τ J => D.nx (τ.set i none) (upd J a (ExK C d a)), rt := fun v J => D.rt v (upd J a (ExK C d a)),
        bk := fun τ J => D.bk (τ.set i none) (upd J a (ExK C d a)), ct := fun τ J => D.ct (τ.set i none) (upd J a (ExK C d a)) } (σ.set i (some (.ref a))) H) ∧
    (b = false → Wo cls d σ H)

section
variable {X : Cx} {x n : Str} {c : Value} {i : Nat} {body suite : List Stmt} {b₀ : Stmt} {np pos pos' : Pos} {tb : WX → TS} {ts : Addr → TS} {Wo : WX}
theorem ps_tryK (hx : X.ex = []) (hs : X.stack = X.env :: X.outer) (hf : X.env.frame = some X.env.locals) (hN : X.N.Nodup) (hi : X.N[i]? = some n) (hl : X.env.kindOf n = some .local) (hc : Names X x c) (tk : Takes X Wo)
    (hb : ∀ (W : WX) (pn : List (Addr × Obj)) (xe : Value → Shared → Prop), Takes (X.tr pn xe) W → PassesOwn (model X.prog X.w) X.A X.env xe → PSs (X.tr pn xe) body (tb W))
    (hu : ∀ (a : Addr) (oe : Obj) (pn : List (Addr × Obj)), PSs (X.suite a ((a, oe) :: pn)) (b₀ :: suite) (ts a)) :
    PS X (.Try body [.ExceptHandler (some (.Name x np)) (some n) (b₀ :: suite) pos'] [] [] pos) (fun D σ H => tb (wKp X.K c i ts Wo D) D σ H) := by
  refine ⟨fun pins s σ H D I h => ?_⟩
  have ok := I.ok
  have fr : X.A.frames = some (X.env :: X.outer) := ok.frames.trans (congrArg some hs)
  refine wpAny_Try_except ?_
  have bd := hb (wKp X.K c i ts Wo D) (X.pn ++ pins) (fun e s₁ => wpAny (model X.prog X.w) X.A (noteFrame e X.env)
    (fun _ s₂ => wpAny (model X.prog X.w) X.A (setFlight e none)
      (fun _ s₃ => wpAny (model X.prog X.w) X.A (handleBy e X.env [.ExceptHandler (some (.Name x np)) (some n) (b₀ :: suite) pos']) (SP X pins D) X.xe s₃) X.xe s₂) X.xe s₁)
    ?_ PassesOwn.looking
  · refine wpAny_mono (bd.run [] s σ H D (I.toTry _) h) ?_ (fun _ _ y => y)
    intro f s1 q
    cases f with
    | next =>
      obtain ⟨σ1, H1, I1, y⟩ := q
      exact wpAny_execs_nil ⟨σ1, H1, Inv.ofTry I1 ok, y⟩
    | ret u =>
      obtain ⟨v, σ1, H1, I1, y⟩ := q
      exact ⟨v, σ1, H1, Inv.ofTry I1 ok, y⟩
    | brk =>
      obtain ⟨σ1, H1, I1, y⟩ := q
      exact ⟨σ1, H1, Inv.ofTry I1 ok, y⟩
    | cont =>
      obtain ⟨σ1, H1, I1, y⟩ := q
      exact ⟨σ1, H1, Inv.ofTry I1 ok, y⟩
  · intro u t air
    obtain ⟨a, B, sI, ps', τ, J, cls, d, eu, II, gr, us, sk, nJ, eo, bare, b, em, yes, not⟩ := air
    subst eu
    have I0 : Inv X pins τ J sI := Inv.ofTry II ok
    rw [show (X.tr (X.pn ++ pins) _).stack = X.env :: X.outer from hs] at sk
    refine Sky.land Zc.steady fr hf sk fun g1 z1 us1 => ?_
    have L1 : Inv X pins τ J { t with heap := g1 } := Inv.landed I0 gr z1.1 (us.trans us1) eo bare
    obtain ⟨o1, v1, e1, c1, d1⟩ := z1.there
    have nfr : a ∉ frs (X.env :: X.outer) := by
      intro m
      obtain ⟨_, o2, e2, nd⟩ := z1.2.2.1.mem m
      rw [e1] at e2
      cases e2
      exact nd _ d1
    have nL : a ≠ X.env.locals := by
      intro y
      exact nfr (List.mem_filterMap.mpr ⟨X.env, List.mem_cons_self, hf.trans (congrArg some y.symm)⟩)
    have nF : a ∉ X.fs := by
      intro m
      obtain ⟨e, he, y⟩ := List.mem_filterMap.mp m
      exact nfr (List.mem_filterMap.mpr ⟨e, List.mem_cons_of_mem _ he, y⟩)
    have nI : sI.heap.get? a = none := by
      cases y : sI.heap.get? a with
      | none => rfl
      | some o =>
        have y2 := gr a o y (by rw [hs]; exact nfr)
        rw [z1.2.1] at y2
        cases y2
    have S1 := Inv.suite L1 e1 d1 nJ nL nF
    refine wpAny_handleBy_cons (codeAny_handlers_test ?_) (fun y => by cases y)
    have lt : PySem.W.Looks (model X.prog X.w) g1 (typeOf (.ref a)) cls := by
      intro A Q E s2 k y
      exact wpAny_typeOf_ref (k _ _ e1) (c1.1.symm ▸ y)
    have lm := PySem.W.exm_one (M := model X.prog X.w) (Inv.kIn L1) lt em
    have look : ∀ {Q : Value → Shared → Prop} {E : Value → Shared → Prop}, Q c { t with heap := g1 } → wpAny (model X.prog X.w) (X.A.mark (some (.ref a))) (eval (.Name x np) X.env) Q E { t with heap := g1 } := by
      intro Q E y
      obtain ⟨gl, db, m1 | ⟨m1, m2, m3⟩⟩ := hc
      · exact ld_glob (X := X.suite a ((a, o1) :: (X.pn ++ pins))) S1 gl m1 y db
      · exact ld_blt (X := X.suite a ((a, o1) :: (X.pn ++ pins))) S1 gl m1 m2 y m3 db
    refine look (lm.here ?_)
    cases b with
    | false =>
      show wpAny _ X.A (handleBy (.ref a) X.env []) _ _ _
      refine wpAny_handleBy_nil ?_
      obtain ⟨w1, w2, w3, o3, v3, T, oT, tv, w4, w5, w6, w7, wr⟩ := id z1
      unfold PySem.passOn
      refine wpAny_bind (wpAny_field w4 w6 w7 ?_)
      rw [if_neg (show ¬ ((Value.ref T == Value.none) = true) from by simp)]
      have out : wpAny (model X.prog X.w) X.A (setFlight (.ref a) X.env.frame) (fun _ s4 => wpAny (model X.prog X.w) X.A (throw (.ref a) : Sem Flow) (SP X pins D) X.xe s4) X.xe { t with heap := g1 } := by
        rw [hf]
        refine HandSPX.setFlight_upZ z1 fun g2 z2 us2 => wpAny_throw (tk _ _ ?_)
        refine ⟨a, B, sI, pins, τ, J, cls, d, rfl, I0, gr, (us.trans us1).trans us2, ?_, nJ, eo, bare, not rfl⟩
        exact .inr (.inr (hs.symm ▸ z2))
      first
        | exact wpAny_bind (wpAny_pure (wpAny_bind out))
        | exact wpAny_bind out
    | true =>
      obtain ⟨C, ec, go⟩ := yes rfl
      subst ec
      refine codeAny_handlers_suite_as (HandSPX.lands_againZ z1 fun g2 z2 us2 => ?_)
      have L2' : Inv X pins τ J { t with heap := g2 } := Inv.landed I0 gr z2.1 ((us.trans us1).trans us2) eo bare
      obtain ⟨o2, v2, e2, c2, d2⟩ := z2.there
      have S2 := Inv.suite L2' e2 d2 nJ nL nF
      refine store_ok (X := X.suite a ((a, o2) :: (X.pn ++ pins))) (v := .ref a) S2 hN hi (.inl hl) rfl (fun s5 S5 => ?_) (.inr hl)
      have off : ∀ p ∈ X.pn ++ pins, p.1 ≠ a := by
        intro p hp y
        have y2 := (I0.pin p hp).1
        rw [y, nI] at y2
        cases y2
      have none0 : X.s_0.heap.get? a = none := by
        cases y : X.s_0.heap.get? a with
        | none => rfl
        | some o =>
          obtain ⟨o', y2⟩ := I0.base.there a o y (by rw [show X.ex = [] from hx]; exact List.not_mem_nil)
          rw [nI] at y2
          cases y2
      have fin : ∀ {σ6 : St} {H6 : Hp} {s6 : Shared} {Q : Shared → Prop}, Inv (X.suite a ((a, o2) :: (X.pn ++ pins))) [] σ6 H6 s6 → (∀ s7, Inv X pins (σ6.set i none) (upd H6 a (ExK C d a)) s7 → Q s7) →
          wpAny (model X.prog X.w) X.A (do bindName X.env n .none; unbindBehindTheSuite X.env n pos') (fun _ s7 => Q s7) X.xe s6 := by
        intro σ6 H6 s6 Q S6 y
        obtain ⟨q1, q2, _⟩ := S6.pin (a, o2) (List.mem_append_left _ List.mem_cons_self)
        exact gone_ok (trackE (Inv.unsuite S6 ok) q2 q1 c2 d2 none0 nL off) hN hi hl y
      refine wpAny_mono ((hu a o2 (X.pn ++ pins)).run [] s5 _ J _ S5 (go a nJ)) ?_ (fun _ _ y => y.elim)
      intro f s6 q
      cases f with
      | next =>
        obtain ⟨σ6, H6, S6, y⟩ := q
        exact fin S6 fun s7 J7 => ⟨_, _, J7, y⟩
      | brk =>
        obtain ⟨σ6, H6, S6, y⟩ := q
        exact fin S6 fun s7 J7 => ⟨_, _, J7, y⟩
      | cont =>
        obtain ⟨σ6, H6, S6, y⟩ := q
        exact fin S6 fun s7 J7 => ⟨_, _, J7, y⟩
      | ret u =>
        obtain ⟨v6, σ6, H6, S6, r6, y⟩ := q
        exact fin S6 fun s7 J7 => ⟨_, _, _, J7, r6, y⟩
end

/-! ## the classes of what is refused -/
def xclB (K : PySem.W.Frag) (C : Addr) : Bool :=
  (PySem.W.clsIn K C).isSome && (decide (PySem.W.findIn K (.ref C) "__getattribute__" = some (some (.builtin "BaseException.__getattribute__"))) && (decide (PySem.W.findIn K (.ref C) "__getattr__" = some none) &&
  (decide (PySem.W.subIn K (.ref C) (.type "BaseException") = some true) && (decide (PySem.W.findIn K (.ref C) "__class__" = some (some (.builtin "object.__class__"))) &&
  (decide (PySem.W.specialIn K (.builtin "object.__class__") "__get__" = some (some (.builtin "getset_descriptor.__get__"))) && (decide (PySem.W.takesIn K (.builtin "object.__class__") = some true) &&
  (decide (PySem.W.mroIn K C (.type "object") = some true) && PySem.W.hasDictIn K C)))))))
theorem xcl_kit {K : PySem.W.Frag} {C x : Addr} {ox : Obj} {od : Option Obj} (h : xclB K C = true) : PySem.W.KitX K (.ref x) (.ref C) (fun h => PySem.W.InstAt h x ox C od) := by
  unfold xclB at h
  simp only [Bool.and_eq_true, decide_eq_true_eq] at h
  obtain ⟨h1, h2, h3, h4, h5, h6, h7, h8, _⟩ := h
  exact PySem.W.kitx_exc h1 h2 h3 h4 h5 h6 h7 h8
theorem xcl_xf {K : PySem.W.Frag} {C : Addr} (h : xclB K C = true) : XfC K C := by
  unfold xclB at h
  simp only [Bool.and_eq_true, decide_eq_true_eq] at h
  obtain ⟨h1, h2, h3, h4, h5, h6, h7, h8, h9⟩ := h
  exact ⟨h2, h3, h4, h9⟩
/-- a value's class, kept exceptions among them -/
inductive TyE (K : PySem.W.Frag) (H : Hp) : V → Value → Prop where
  | base {x : V} {t : Value} (h : TyX K H x t) : TyE K H x t
  | e0 {a C : Addr} (h : H a = some (ExK C none a)) (c : xclB K C = true) : TyE K H (.ref a) (.ref C)
  | e1 {a C dx : Addr} {fs : List (Str × V)} (h : H a = some (ExK C (some dx) a)) (q : H dx = some (.xd fs)) (c : xclB K C = true) : TyE K H (.ref a) (.ref C)
theorem inst0 {P : Program} {w : World} {H : Hp} {h : Heap} {a C : Addr} (hok : HOk P w H h) (e : H a = some (ExK C none a)) : ∃ oe, PySem.W.InstAt h a oe C none := by
  obtain ⟨oe, vs, g, z, d⟩ := exk_at hok e
  exact ⟨oe, g, z.1, by unfold PySem.W.notCls; rw [d] <;> rfl, by rw [z.2]; trivial⟩
theorem inst1 {P : Program} {w : World} {H : Hp} {h : Heap} {a C dx : Addr} {fs : List (Str × V)} (hok : HOk P w H h) (e : H a = some (ExK C (some dx) a)) (q : H dx = some (.xd fs)) :
    ∃ oe od, PySem.W.InstAt h a oe C (some od) ∧ ∃ mA : Str → Option Value, (∀ n, PySem.W.lookIn n od = some (mA n)) ∧ ∀ f, RelO (fs.lookup f) (mA f) := by
  obtain ⟨oe, vs, g, z, d⟩ := exk_at hok e
  have x : ObjOk P w H h dx (.xd fs) := hok dx _ q
  obtain ⟨mA, hns, hr⟩ := x
  obtain ⟨od, ho, hl⟩ := lookIn_ns hns
  exact ⟨oe, od, ⟨g, z.1, by unfold PySem.W.notCls; rw [d] <;> rfl, by rw [z.2]; exact ho⟩, mA, hl, hr⟩
section
variable {X : Cx} {pins : List (Addr × Obj)} {σ : St} {H : Hp} {s : Shared}
theorem kit_ofE {x : V} {u t : Value} (I : Inv X pins σ H s) (rx : RelV x u) (ty : TyE X.K H x t) : ∃ P : Heap → Prop, PySem.W.KitX X.K u t P ∧ P s.heap ∧ u ≠ .builtin "__main__.__loader__#opaque" := by
  cases ty with
  | base h => exact kit_of I rx h
  | @e0 a C h c =>
    cases (show u = Value.ref a from rx)
    obtain ⟨oe, J⟩ := inst0 I.hok h
    exact ⟨_, xcl_kit c, J, fun z => nomatch z⟩
  | @e1 a C dx fs h q c =>
    cases (show u = Value.ref a from rx)
    obtain ⟨oe, od, J, _⟩ := inst1 I.hok h q
    exact ⟨_, xcl_kit c, J, fun z => nomatch z⟩
def rIsx (K : PySem.W.Frag) : List V → Hp → VK → Prop := fun xs H Q => ∃ (x c : V) (t u : Value) (b : Bool), xs = [x, c] ∧ ClsV c u ∧ TyE K H x t ∧ PySem.W.kitOne K t u = some b ∧ Q (.bl b) H
def rIsxT (K : PySem.W.Frag) : List V → Hp → VK → Prop := fun xs H Q => ∃ (x : V) (tp : Addr) (cs : List V) (t : Value) (us : List Value) (b : Bool),
  xs = [x, .ref tp] ∧ H tp = some (.tup cs) ∧ Paired ClsV cs us ∧ TyE K H x t ∧ PySem.W.kitAny K t us = some b ∧ Q (.bl b) H
theorem call_isx : CallR X (.builtin "isinstance") (rIsx X.K) := by
  intro pins s σ H xs us Q I r h
  obtain ⟨x, c, t, u, b, rfl, k, ty, e, q⟩ := h
  obtain ⟨v1, v2, rfl, r1, r2⟩ := vals2 r
  obtain rfl := k.eq r2
  obtain ⟨P, Z, p, hx⟩ := kit_ofE I r1 ty
  refine PySem.W.kia_one Z I.kIn p e hx fun tk => ?_
  exact ⟨.bl b, H, I.tok tk, rfl, q⟩
theorem call_isxT : CallR X (.builtin "isinstance") (rIsxT X.K) := by
  intro pins s σ H xs us Q I r h
  obtain ⟨x, tp, cs, t, ws, b, rfl, hT, k, ty, e, q⟩ := h
  obtain ⟨v1, v2, rfl, r1, r2⟩ := vals2 r
  cases (show v2 = Value.ref tp from r2)
  obtain ⟨P, Z, p, hx⟩ := kit_ofE I r1 ty
  have tt : ObjOk X.prog X.w H s.heap tp (.tup cs) := I.hok tp _ hT
  obtain ⟨_, its, rv, o, g1, g2, n, g3⟩ := tt
  obtain rfl := ClsV.all k rv
  obtain ⟨oc, od, dt, sl⟩ := o
  dsimp only at g2 g3
  subst g2 g3
  refine PySem.W.kia_tup Z I.kIn p g1 e hx fun tk => ?_
  exact ⟨.bl b, H, I.tok tk, rfl, q⟩
end
/-- the class of a datum -/
def D.tv : D → Value
  | .exv C _ _ => .ref C
  | d => .type d.ty
def TvOk (K : PySem.W.Frag) : D → Prop
  | .exv C _ _ => xclB K C = true
  | d => d.isR = false
theorem rp_tye {K : PySem.W.Frag} {H H1 : Hp} {v : V} {d : D} (e : Same H H1) (r : Rp K H v d) (h : TvOk K d) : TyE K H1 v d.tv := by
  cases r with
  | exv0 q => exact .e0 (e _ _ q) h
  | exv1 q1 q2 _ => exact .e1 (e _ _ q1) (e _ _ q2) h
  | non => exact .base (Rp.tyx e .non (ty_ne h))
  | bl b => exact .base (Rp.tyx e (.bl b) (ty_ne h))
  | int b => exact .base (Rp.tyx e (.int b) (ty_ne h))
  | str b => exact .base (Rp.tyx e (.str b) (ty_ne h))
  | tup q r => exact .base (Rp.tyx e (.tup q r) (ty_ne h))
  | lst q r => exact .base (Rp.tyx e (.lst q r) (ty_ne h))
  | fls q r => exact .base (Rp.tyx e (.fls q r) (ty_ne h))
  | emp q => exact .base (Rp.tyx e (.emp q) (ty_ne h))
  | ref a => cases h
section
variable {X : Cx} {Γ : Env} {a c e : Expr} {es : List Expr} {pos p p1 p2 : Pos} {x : D} {b : Bool}
/-- isinstance(a, C), C a class of the text -/
theorem ev_isx {Cn : Str} {C : Addr} (ha : EV X Γ a x) (hx : TvOk X.K x) (hC : X.mg Cn = some (.ref C)) (k : PySem.W.kitOne X.K x.tv (.ref C) = some b) (hm : X.mg "isinstance" = none) (hgC : Gl X Cn := by rfl) (hg : Gl X "isinstance" := by rfl)
    (hdb : (Cn == ("__debug__" : Str)) = false := by decide) (h1 : starEach [a, .Name Cn p2] X.env = (false, eval a X.env) :: starEach [.Name Cn p2] X.env := by rfl) (hpl : (backTo pos (starEach [.Name Cn p2] X.env)).any (·.1) = false := by rfl) :
    EV X Γ (.Call (.Name "isinstance" p1) [a, .Name Cn p2] [] pos) (.bl b) := fun H0 H1 σ S Q q => by
  refine we_of (pe_callB call_isx hg hm (by decide +kernel) (pa_cons pe_we (pa_cons (pe_glob (v := .ref C) hgC hC rfl hdb) pa_nil) h1) (by decide) (by decide) h1 hpl) ?_
  refine ha H0 H1 σ S _ fun v J0 J1 t r => ?_
  exact ⟨v, .ref C, x.tv, .ref C, b, rfl, .own C, rp_tye t.in' r hx, k, q _ J0 J1 t (.bl _)⟩
/-- .., a built-in class -/
theorem ev_isxB (T : String) {Tn : Str} (ha : EV X Γ a x) (hx : TvOk X.K x) (hT : bootBuiltins Tn = some (.type T)) (k : PySem.W.kitOne X.K x.tv (.type T) = some b) (hm : X.mg "isinstance" = none) (hmT : X.mg Tn = none) (hgT : Gl X Tn := by rfl) (hg : Gl X "isinstance" := by rfl)
    (hn : Tn ≠ "__name__" := by decide) (hdb : (Tn == ("__debug__" : Str)) = false := by decide) (h1 : starEach [a, .Name Tn p2] X.env = (false, eval a X.env) :: starEach [.Name Tn p2] X.env := by rfl) (hpl : (backTo pos (starEach [.Name Tn p2] X.env)).any (·.1) = false := by rfl) :
    EV X Γ (.Call (.Name "isinstance" p1) [a, .Name Tn p2] [] pos) (.bl b) := fun H0 H1 σ S Q q => by
  refine we_of (pe_callB call_isx hg hm (by decide +kernel) (pa_cons pe_we (pa_cons (pe_bltn (v := .ty T) hgT hmT hT rfl hn hdb) pa_nil) h1) (by decide) (by decide) h1 hpl) ?_
  refine ha H0 H1 σ S _ fun v J0 J1 t r => ?_
  exact ⟨v, .ty T, x.tv, .type T, b, rfl, .ty T, rp_tye t.in' r hx, k, q _ J0 J1 t (.bl _)⟩
theorem ev_cls {Cn : Str} {C : Addr} (hC : X.mg Cn = some (.ref C)) (hgC : Gl X Cn := by rfl) (hdb : (Cn == ("__debug__" : Str)) = false := by decide) : EV X Γ (.Name Cn pos) (.ref C) := fun H0 H1 σ S Q q =>
  we_of (pe_glob (v := .ref C) hgC hC rfl hdb) (q _ H0 H1 (Tr.refl S.sub) (.ref C))
theorem cls_pair {K : PySem.W.Frag} {H : Hp} : ∀ {cs : List Addr} {vs : List V}, RpL K H vs (cs.map D.ref) → Paired ClsV vs (cs.map Value.ref)
  | [], _, .nil => .nil
  | c :: cs, _, .cons r t => by
    cases r
    exact .cons (.own c) (cls_pair t)
/-- isinstance(a, (C1, C2, ..)) -/
theorem ev_isxT {cs : List Addr} {k2} (ha : EV X Γ a x) (hx : TvOk X.K x) (hc : EA X Γ es (cs.map D.ref)) (k : PySem.W.kitAny X.K x.tv (cs.map Value.ref) = some b) (hm : X.mg "isinstance" = none) (hz : cs.length ≤ 1000 := by simp) (hg : Gl X "isinstance" := by rfl)
    (h1 : starEach [a, .Tuple es k2 p2] X.env = (false, eval a X.env) :: starEach [.Tuple es k2 p2] X.env := by rfl) (h2 : starEach [.Tuple es k2 p2] X.env = (false, eval (.Tuple es k2 p2) X.env) :: starEach [] X.env := by rfl) (hpl : (backTo pos (starEach [.Tuple es k2 p2] X.env)).any (·.1) = false := by rfl) :
    EV X Γ (.Call (.Name "isinstance" p1) [a, .Tuple es k2 p2] [] pos) (.bl b) := fun H0 H1 σ S Q q => by
  refine we_of (pe_callB call_isxT hg hm (by decide +kernel) (pa_cons pe_we (pa_cons (pe_tup pa_wa) pa_nil h2) h1) (by decide) (by decide) h1 hpl) ?_
  refine ha H0 H1 σ S _ fun v J0 J1 t r => hc J0 J1 σ (S.tr t) _ fun vs L0 L1 t2 rs => ?_
  refine ⟨by rw [rs.length, List.length_map]; exact sz (by omega), fun tp hp => ?_⟩
  refine ⟨v, tp, vs, x.tv, cs.map Value.ref, b, rfl, upd_same, cls_pair rs, ?_, k, q _ _ _ ((t.trans t2).trans (Tr.new t2.in' hp)) (.bl _)⟩
  exact rp_tye ((t2.s0.trans t2.in').trans (same_upd hp)) r hx
end
end Dl
namespace Dl
open PySem PySem.Spec PyProof.Rows L2

/-! ## refusals as data -/
def x0 (c : Str) (_ : Unit) : Exn := ⟨c, []⟩
def x1 {α : Type} (c n : Str) (g : α → D) (v : α) : Exn := ⟨c, [(n, g v)]⟩
def xD (mg : Str → Option Value) (x : Exn) : D := match mg x.cls with
  | some (.ref C) => .exv C (x.fs.map (·.1)) (x.fs.map (·.2))
  | _ => .non
abbrev dX {β : Type} (mg : Str → Option Value) (xf : β → Exn) (f : β) : D := xD mg (xf f)
/-- errors of one class, with one field at most -/
def XSh {β : Type} (xf : β → Exn) (c : Str) : Prop := ∀ f, (xf f).cls = c ∧ ((xf f).fs = [] ∨ ∃ n d, (xf f).fs = [(n, d)])
theorem xsh0 {c : Str} : XSh (x0 c) c := fun _ => ⟨rfl, .inl rfl⟩
theorem xsh1 {α : Type} {c n : Str} {g : α → D} : XSh (x1 c n g) c := fun _ => ⟨rfl, .inr ⟨_, _, rfl⟩⟩
theorem xD_eq {mg : Str → Option Value} {x : Exn} {C : Addr} (h : mg x.cls = some (.ref C)) : xD mg x = .exv C (x.fs.map (·.1)) (x.fs.map (·.2)) := by
  unfold xD
  rw [h]
structure XCl (K : PySem.W.Frag) (mg : Str → Option Value) (c : Str) : Prop where
  ex : ∃ C : Addr, mg c = some (.ref C) ∧ xclB K C = true
structure XKit (K : PySem.W.Frag) (mg : Str → Option Value) (x y : Str) (b : Bool) : Prop where
  ex : ∃ C E : Addr, mg x = some (.ref C) ∧ mg y = some (.ref E) ∧ PySem.W.kitOne K (.ref C) (.ref E) = some b
structure XKitB (K : PySem.W.Frag) (mg : Str → Option Value) (x : Str) (T : String) (b : Bool) : Prop where
  ex : ∃ C : Addr, mg x = some (.ref C) ∧ PySem.W.kitOne K (.ref C) (.type T) = some b
structure XKitN (K : PySem.W.Frag) (mg : Str → Option Value) (y : Str) : Prop where
  ex : ∃ E : Addr, mg y = some (.ref E) ∧ PySem.W.kitOne K (.type "NoneType") (.ref E) = some false
structure XCau (K : PySem.W.Frag) (mg : Str → Option Value) (x y : Str) : Prop where
  ex : ∃ C E : Addr, mg x = some (.ref C) ∧ mg y = some (.ref E) ∧ PySem.W.exmOne K (.ref C) (.ref E) = some true
structure XFld (K : PySem.W.Frag) (mg : Str → Option Value) (x n : Str) : Prop where
  ex : ∃ C : Addr, mg x = some (.ref C) ∧ PySem.W.findIn K (.ref C) n = some none
theorem xCl_mk {K : PySem.W.Frag} {h : Heap} {mg : Str → Option Value} {x : Str} {C : Addr} (X : K.In h) (G : h.Ns mainGlobals mg) (a : PySem.W.nsIn K mainGlobals x = some (some (.ref C))) (e : xclB K C = true) : XCl K mg x := ⟨C, PySem.W.mg_of X G a, e⟩
theorem xKit_mk {K : PySem.W.Frag} {h : Heap} {mg : Str → Option Value} {x y : Str} {C E : Addr} {b : Bool} (X : K.In h) (G : h.Ns mainGlobals mg) (a : PySem.W.nsIn K mainGlobals x = some (some (.ref C))) (a2 : PySem.W.nsIn K mainGlobals y = some (some (.ref E)))
    (e : PySem.W.kitOne K (.ref C) (.ref E) = some b) : XKit K mg x y b := ⟨C, E, PySem.W.mg_of X G a, PySem.W.mg_of X G a2, e⟩
theorem xKitB_mk {K : PySem.W.Frag} {h : Heap} {mg : Str → Option Value} {x : Str} {T : String} {C : Addr} {b : Bool} (X : K.In h) (G : h.Ns mainGlobals mg) (a : PySem.W.nsIn K mainGlobals x = some (some (.ref C)))
    (e : PySem.W.kitOne K (.ref C) (.type T) = some b) : XKitB K mg x T b := ⟨C, PySem.W.mg_of X G a, e⟩
theorem xKitN_mk {K : PySem.W.Frag} {h : Heap} {mg : Str → Option Value} {y : Str} {E : Addr} (X : K.In h) (G : h.Ns mainGlobals mg) (a : PySem.W.nsIn K mainGlobals y = some (some (.ref E)))
    (e : PySem.W.kitOne K (.type "NoneType") (.ref E) = some false) : XKitN K mg y := ⟨E, PySem.W.mg_of X G a, e⟩
theorem xCau_mk {K : PySem.W.Frag} {h : Heap} {mg : Str → Option Value} {x y : Str} {C E : Addr} (X : K.In h) (G : h.Ns mainGlobals mg) (a : PySem.W.nsIn K mainGlobals x = some (some (.ref C))) (a2 : PySem.W.nsIn K mainGlobals y = some (some (.ref E)))
    (e : PySem.W.exmOne K (.ref C) (.ref E) = some true) : XCau K mg x y := ⟨C, E, PySem.W.mg_of X G a, PySem.W.mg_of X G a2, e⟩
theorem xFld_mk {K : PySem.W.Frag} {h : Heap} {mg : Str → Option Value} {x n : Str} {C : Addr} (X : K.In h) (G : h.Ns mainGlobals mg) (a : PySem.W.nsIn K mainGlobals x = some (some (.ref C)))
    (e : PySem.W.findIn K (.ref C) n = some none) : XFld K mg x n := ⟨C, PySem.W.mg_of X G a, e⟩
/-- the class names of a tuple of classes -/
inductive ClsEs (X : Cx) : List Expr → List Str → Prop where
  | nil : ClsEs X [] []
  | cons {es : List Expr} {ys : List Str} {y : Str} {p : Pos} (t : ClsEs X es ys) (g : Gl X y := by rfl) (d : (y == ("__debug__" : Str)) = false := by decide) : ClsEs X (.Name y p :: es) (y :: ys)
theorem kitAny_step {K : PySem.W.Frag} {t c : Value} {cs : List Value} {b r : Bool} (h : PySem.W.kitOne K t c = some b) (hr : PySem.W.kitAny K t cs = some r) : PySem.W.kitAny K t (c :: cs) = some (b || r) := by
  unfold PySem.W.kitAny
  rw [h]
  cases b
  · exact hr
  · rfl
section
variable {X : Cx} {Γ : Env} {a c e : Expr} {es : List Expr} {pos p p1 p2 : Pos} {b : Bool} {α β : Type}
theorem cls_ea {t : Value} : ∀ {es : List Expr} {ys : List (Str × Bool)}, ClsEs X es (ys.map (·.1)) → (∀ q ∈ ys, ∃ E : Addr, X.mg q.1 = some (.ref E) ∧ PySem.W.kitOne X.K t (.ref E) = some q.2) →
    ∃ cs : List Addr, EA X Γ es (cs.map D.ref) ∧ cs.length = ys.length ∧ PySem.W.kitAny X.K t (cs.map Value.ref) = some (ys.any (·.2))
  | _, [], .nil, _ => ⟨[], ea_nil, rfl, rfl⟩
  | _, (y, b) :: ys, .cons ht g d, h => by
    obtain ⟨cs, h1, h2, h3⟩ := cls_ea ht fun q hq => h q (List.mem_cons_of_mem _ hq)
    obtain ⟨E, e1, e2⟩ := h (y, b) List.mem_cons_self
    exact ⟨E :: cs, ea_cons (ev_cls e1 g d) h1, congrArg (· + 1) h2, kitAny_step e2 h3⟩
theorem tv_x {xf : β → Exn} {c : Str} {C : Addr} (sh : XSh xf c) (hC : X.mg c = some (.ref C)) (f : β) : (dX X.mg xf f).tv = .ref C := by
  show (xD X.mg (xf f)).tv = _
  rw [xD_eq (C := C) (by rw [(sh f).1, hC])]
  rfl
theorem ok_x {xf : β → Exn} {c : Str} {C : Addr} (sh : XSh xf c) (hC : X.mg c = some (.ref C)) (h : xclB X.K C = true) (f : β) : TvOk X.K (dX X.mg xf f) := by
  show TvOk X.K (xD X.mg (xf f))
  rw [xD_eq (C := C) (by rw [(sh f).1, hC])]
  exact h
/-- isinstance(kept, C) -/
theorem ev_isX {xf : β → Exn} {c y : Str} {f : β} (sh : XSh xf c) (ha : EV X Γ a (dX X.mg xf f)) (T : XCl X.K X.mg c) (k : XKit X.K X.mg c y b) (hm : X.mg "isinstance" = none) (hgC : Gl X y := by rfl) (hg : Gl X "isinstance" := by rfl)
    (hdb : (y == ("__debug__" : Str)) = false := by decide) (h1 : starEach [a, .Name y p2] X.env = (false, eval a X.env) :: starEach [.Name y p2] X.env := by rfl) (hpl : (backTo pos (starEach [.Name y p2] X.env)).any (·.1) = false := by rfl) :
    EV X Γ (.Call (.Name "isinstance" p1) [a, .Name y p2] [] pos) (.bl b) := by
  obtain ⟨C, m1, h⟩ := T.ex
  obtain ⟨C', E, m2, m3, hk⟩ := k.ex
  obtain rfl : C = C' := by rw [m1] at m2; cases m2; rfl
  exact ev_isx ha (ok_x sh m1 h f) m3 (by rw [tv_x sh m1 f]; exact hk) hm hgC hg hdb h1 hpl
theorem ev_isO {xf : β → Exn} {c y : Str} {o : Option β} (sh : XSh xf c) (ha : EV X Γ a (dO (dX X.mg xf) o)) (T : XCl X.K X.mg c) (k : XKit X.K X.mg c y b) (n : XKitN X.K X.mg y) (hm : X.mg "isinstance" = none) (hgC : Gl X y := by rfl) (hg : Gl X "isinstance" := by rfl)
    (hdb : (y == ("__debug__" : Str)) = false := by decide) (h1 : starEach [a, .Name y p2] X.env = (false, eval a X.env) :: starEach [.Name y p2] X.env := by rfl) (hpl : (backTo pos (starEach [.Name y p2] X.env)).any (·.1) = false := by rfl) :
    EV X Γ (.Call (.Name "isinstance" p1) [a, .Name y p2] [] pos) (.bl (o.isSome && b)) := by
  cases o with
  | some f => exact ev_isX sh ha T k hm hgC hg hdb h1 hpl
  | none =>
    obtain ⟨E, m3, hk⟩ := n.ex
    exact ev_isx (x := .non) ha rfl m3 hk hm hgC hg hdb h1 hpl
theorem ev_isXB {xf : β → Exn} {c Tn : Str} {f : β} (T0 : String) (sh : XSh xf c) (ha : EV X Γ a (dX X.mg xf f)) (T : XCl X.K X.mg c) (k : XKitB X.K X.mg c T0 b) (hm : X.mg "isinstance" = none) (hmT : X.mg Tn = none) (hT : bootBuiltins Tn = some (.type T0) := by decide +kernel) (hgT : Gl X Tn := by rfl) (hg : Gl X "isinstance" := by rfl)
    (hn : Tn ≠ "__name__" := by decide) (hdb : (Tn == ("__debug__" : Str)) = false := by decide) (h1 : starEach [a, .Name Tn p2] X.env = (false, eval a X.env) :: starEach [.Name Tn p2] X.env := by rfl) (hpl : (backTo pos (starEach [.Name Tn p2] X.env)).any (·.1) = false := by rfl) :
    EV X Γ (.Call (.Name "isinstance" p1) [a, .Name Tn p2] [] pos) (.bl b) := by
  obtain ⟨C, m1, h⟩ := T.ex
  obtain ⟨C', m2, hk⟩ := k.ex
  obtain rfl : C = C' := by rw [m1] at m2; cases m2; rfl
  exact ev_isxB T0 ha (ok_x sh m1 h f) hT (by rw [tv_x sh m1 f]; exact hk) hm hmT hgT hg hn hdb h1 hpl
theorem ev_isOB {xf : β → Exn} {c Tn : Str} {o : Option β} (T0 : String) (sh : XSh xf c) (ha : EV X Γ a (dO (dX X.mg xf) o)) (T : XCl X.K X.mg c) (k : XKitB X.K X.mg c T0 b) (n : kitB "NoneType" T0 = some false) (hm : X.mg "isinstance" = none) (hmT : X.mg Tn = none) (hT : bootBuiltins Tn = some (.type T0) := by decide +kernel) (hgT : Gl X Tn := by rfl) (hg : Gl X "isinstance" := by rfl)
    (hn : Tn ≠ "__name__" := by decide) (hdb : (Tn == ("__debug__" : Str)) = false := by decide) (h1 : starEach [a, .Name Tn p2] X.env = (false, eval a X.env) :: starEach [.Name Tn p2] X.env := by rfl) (hpl : (backTo pos (starEach [.Name Tn p2] X.env)).any (·.1) = false := by rfl) :
    EV X Γ (.Call (.Name "isinstance" p1) [a, .Name Tn p2] [] pos) (.bl (o.isSome && b)) := by
  cases o with
  | some f => exact ev_isXB T0 sh ha T k hm hmT hT hgT hg hn hdb h1 hpl
  | none => exact ev_isxB T0 (x := .non) ha rfl hT (kit_ty n) hm hmT hgT hg hn hdb h1 hpl
theorem ev_isXT {xf : β → Exn} {c : Str} {f : β} {k2} (ys : List (Str × Bool)) (sh : XSh xf c) (ha : EV X Γ a (dX X.mg xf f)) (T : XCl X.K X.mg c) (hc : ClsEs X es (ys.map (·.1))) (k : ∀ q ∈ ys, XKit X.K X.mg c q.1 q.2) (hm : X.mg "isinstance" = none) (hz : ys.length ≤ 1000 := by decide) (hg : Gl X "isinstance" := by rfl)
    (h1 : starEach [a, .Tuple es k2 p2] X.env = (false, eval a X.env) :: starEach [.Tuple es k2 p2] X.env := by rfl) (h2 : starEach [.Tuple es k2 p2] X.env = (false, eval (.Tuple es k2 p2) X.env) :: starEach [] X.env := by rfl) (hpl : (backTo pos (starEach [.Tuple es k2 p2] X.env)).any (·.1) = false := by rfl) :
    EV X Γ (.Call (.Name "isinstance" p1) [a, .Tuple es k2 p2] [] pos) (.bl (ys.any (·.2))) := by
  obtain ⟨C, m1, h⟩ := T.ex
  obtain ⟨cs, e1, e2, e3⟩ := cls_ea (Γ := Γ) (t := .ref C) hc fun q hq => by
    obtain ⟨C', E, m2, m3, hk⟩ := (k q hq).ex
    obtain rfl : C = C' := by rw [m1] at m2; cases m2; rfl
    exact ⟨E, m3, hk⟩
  exact ev_isxT ha (ok_x sh m1 h f) e1 (by rw [tv_x sh m1 f]; exact e3) hm (by omega) hg h1 h2 hpl
theorem ev_isOT {xf : β → Exn} {c : Str} {o : Option β} {k2} (ys : List (Str × Bool)) (sh : XSh xf c) (ha : EV X Γ a (dO (dX X.mg xf) o)) (T : XCl X.K X.mg c) (hc : ClsEs X es (ys.map (·.1))) (k : ∀ q ∈ ys, XKit X.K X.mg c q.1 q.2) (n : ∀ q ∈ ys, XKitN X.K X.mg q.1) (hm : X.mg "isinstance" = none) (hz : ys.length ≤ 1000 := by decide) (hg : Gl X "isinstance" := by rfl)
    (h1 : starEach [a, .Tuple es k2 p2] X.env = (false, eval a X.env) :: starEach [.Tuple es k2 p2] X.env := by rfl) (h2 : starEach [.Tuple es k2 p2] X.env = (false, eval (.Tuple es k2 p2) X.env) :: starEach [] X.env := by rfl) (hpl : (backTo pos (starEach [.Tuple es k2 p2] X.env)).any (·.1) = false := by rfl) :
    EV X Γ (.Call (.Name "isinstance" p1) [a, .Tuple es k2 p2] [] pos) (.bl (o.isSome && ys.any (·.2))) := by
  cases o with
  | some f => exact ev_isXT ys sh ha T hc k hm hz hg h1 h2 hpl
  | none =>
    obtain ⟨cs, e1, e2, e3⟩ := cls_ea (Γ := Γ) (t := .type "NoneType") (ys := ys.map fun q => (q.1, false)) (by rw [List.map_map]; exact hc) fun q hq => by
      obtain ⟨q', hq', rfl⟩ := List.mem_map.mp hq
      exact (n q' hq').ex
    have e0 : ∀ l : List (Str × Bool), (l.map fun q => (q.1, false)).any (·.2) = false := by
      intro l
      induction l with
      | nil => rfl
      | cons q l ih => exact ih
    rw [e0] at e3
    rw [List.length_map] at e2
    exact ev_isxT (x := .non) ha rfl e1 e3 hm (by omega) hg h1 h2 hpl
/-- kept.f -/
theorem ev_fld {f : α} {c n : Str} {g : α → D} (ha : EV X Γ a (dX X.mg (x1 c n g) f)) (T : XCl X.K X.mg c) (F : XFld X.K X.mg c n) (hb : attributeBase a n X.env (eval a X.env) = eval a X.env := by rfl) : EV X Γ (.Attribute a n pos) (g f) := by
  obtain ⟨C, m1, h⟩ := T.ex
  obtain ⟨C', m2, hno⟩ := F.ex
  obtain rfl : C = C' := by rw [m1] at m2; cases m2; rfl
  have T2 := xcl_xf h
  have ha : EV X Γ a (.exv C [n] [g f]) := (show xD X.mg (x1 c n g f) = _ from xD_eq m1) ▸ ha
  intro H0 H1 σ S Q q pins s I
  refine attr_of hb (thn (ha H0 H1 σ S (fun v J => ∃ J0 a dx u, v = .ref a ∧ Tr H0 H1 J0 J ∧ J a = some (ExK C (some dx) a) ∧ J dx = some (.xd [(n, u)]) ∧ Rp X.K J0 u (g f)) (fun v J0 J1 t r => ?_) pins s I) fun u s1 hh => ?_)
  · cases r with
    | exv1 q1 q2 q3 => exact ⟨J0, _, _, _, rfl, t, t.in' _ _ q1, t.in' _ _ q2, q3⟩
  · obtain ⟨x, J, I1, rx, J0, a', dx, u', rfl, t, e1, e2, r⟩ := hh
    obtain rfl : u = Value.ref a' := rx
    obtain ⟨oe, od, Z, mA, hl, hr⟩ := inst1 I1.hok e1 e2
    have hlk : ([(n, u')] : List (Str × V)).lookup n = some u' := by simp [List.lookup]
    obtain ⟨w, hw, rw'⟩ := RelO.some_of (v := u') (o := mA n) (by rw [← hlk]; exact hr n)
    exact HandSPX.exc_get I1.kIn Z T2.ga T2.gg T2.exC (PySem.W.findObj_own T2.hdC hno rfl (by rw [hl, hw])) (handed_of rw') ⟨u', J, I1.tok _, rw', q u' J0 J t r⟩
end
end Dl
namespace Dl
open PySem PySem.Spec PyProof.Rows L2

/-! ## what may raise -/
def outE {α β : Type} (g : α → D) (xf : β → Exn) : Except β α → Out
  | .ok v => .ret (g v)
  | .error f => .exc (xf f)
def endE {α β : Type} (g : α → D) (xf : β → Exn) (r : Except β α) : Po := endP (outE g xf r)
def elE {α β γ : Type} (r : Except β α) (k : α → γ) (h : β → γ) : γ := match r with
  | .ok v => k v
  | .error f => h f
def errO {α β : Type} : Except β α → Option β
  | .ok _ => none
  | .error f => some f
def okO {α β : Type} : Except β α → Option α
  | .ok v => some v
  | .error _ => none
structure EEm {α β : Type} (X : Cx) (Γ : Env) (e : Expr) (g : α → D) (xf : β → Exn) (r : Except β α) : Prop where
  ok : ∀ v, r = .ok v → EV X Γ e (g v)
  er : ∀ f, r = .error f → EX X Γ e (xf f)
section
variable {X : Cx} {Γ Γ' : Env} {a b c e : Expr} {es : List Expr} {pos p : Pos} {rest body : List Stmt} {α β γ : Type} {P : γ → Po} {d : D} {g : α → D} {xf : β → Exn} {r : Except β α} {k k' : Nat} {x : Str} {ps : List Str} {C : Ct} {ds : List D}
theorem ee_call (F : FnC X.prog X.w X.K X.mg X.base k x ps C) (hr : Room k' X.A) (ha : EA X Γ (e :: es) ds) (hC : C ds (outE g xf r)) (hk : k ≤ k' := by decide) (hg : Gl X x := by rfl) (hdb : (x == ("__debug__" : Str)) = false := by decide)
    (he : starEach (e :: es) X.env = (false, eval e X.env) :: starEach es X.env := by rfl) (hpl : (backTo pos (starEach es X.env)).any (·.1) = false := by rfl) : EEm X Γ (.Call (.Name x p) (e :: es) [] pos) g xf r :=
  ⟨fun v h => ev_call F hr ha (by rw [h] at hC; exact hC) hk hg hdb he hpl, fun f h => ex_call F hr ha (by rw [h] at hC; exact hC) hk hg hdb he hpl⟩
/-- a call that is known to raise -/
theorem ee_callX {f : β} (F : FnC X.prog X.w X.K X.mg X.base k x ps C) (hr : Room k' X.A) (ha : EA X Γ (e :: es) ds) (hC : C ds (.exc (xf f))) (hk : k ≤ k' := by decide) (hg : Gl X x := by rfl) (hdb : (x == ("__debug__" : Str)) = false := by decide)
    (he : starEach (e :: es) X.env = (false, eval e X.env) :: starEach es X.env := by rfl) (hpl : (backTo pos (starEach es X.env)).any (·.1) = false := by rfl) : EEm X Γ (.Call (.Name x p) (e :: es) [] pos) g xf (.error f : Except β α) :=
  ⟨fun v h => (nomatch h), fun f' h => by cases h; exact ex_call F hr ha hC hk hg hdb he hpl⟩
/-- .. one that does not -/
theorem ee_ok {v : α} (h : EV X Γ e (g v)) : EEm X Γ e g xf (.ok v : Except β α) := ⟨fun w q => by cases q; exact h, fun f q => (nomatch q)⟩
theorem m_retE {Q : Po} (h : EEm X Γ e g xf r) (q1 : ∀ v, r = .ok v → Q.rt (g v)) (q2 : ∀ f, r = .error f → Q.ex (xf f) Γ) : SB X Γ (.Return (some e) pos :: rest) Q := by
  cases r with
  | ok v => exact sb_cons (s1_ret (h.ok v rfl) (q1 v rfl))
  | error f => exact sb_cons (s1_retX (h.er f rfl) (q2 f rfl))
theorem s1_setX {i : Nat} {x : Str} {pos' : Pos} {xn : Exn} {Q : Po} (h : EX X Γ e xn) (q : Q.ex xn Γ) (hN : X.N.Nodup) (hi : X.N[i]? = some x) (hx : Loc X.env.scope x) (hs : swapsWith e (some (.Name x pos')) pos.line X.env = pure false)
    (hf : X.fn x = true ∨ X.env.scope.names.lookup x = some .local) : S1 X Γ (.Assign [.Name x pos'] e pos) Q := fun W tk G0 G1 H0 H1 σ g D F =>
  ws_of (ps_set hN hi hx pe_we hs hf) (fun pins s I => thn (h W tk H0 H1 σ g.st (fun cls dd J0 J1 t k => F.ex xn cls dd Γ σ J0 J1 (g.tr' t) k q) pins s I) fun u s' ⟨_, _, _, _, z⟩ => z.elim)
theorem m_setE (i : Nat) {x : Str} {pos' : Pos} {k : α → γ} {h : β → γ} (he : EEm X Γ e g xf r) (hk : ∀ w, r = .ok w → SB X (Γ.set i (.val (g w))) rest (P (k w))) (hx : ∀ f, r = .error f → (P (h f)).ex (xf f) Γ) (hN : X.N.Nodup) (hi : X.N[i]? = some x := by rfl) (hl : Loc X.env.scope x := by first | exact Or.inl rfl | exact Or.inr rfl)
    (hs : swapsWith e (some (.Name x pos')) pos.line X.env = pure false := by rfl) (hf : X.fn x = true ∨ X.env.scope.names.lookup x = some .local := by first | exact .inl rfl | exact .inr rfl) : SB X Γ (.Assign [.Name x pos'] e pos :: rest) (P (elE r k h)) := by
  cases r with
  | ok v => exact sb_cons (s1_set i (he.ok v rfl) (hk v rfl) hN hi hl hs hf)
  | error f => exact sb_cons (s1_setX (he.er f rfl) (hx f rfl) hN hi hl hs hf)
theorem m_exprE {k : α → γ} {h : β → γ} (he : EEm X Γ e g xf r) (hk : ∀ w, r = .ok w → SB X Γ rest (P (k w))) (hx : ∀ f, r = .error f → (P (h f)).ex (xf f) Γ) (hs : swapsWith e none pos.line X.env = pure false := by rfl) : SB X Γ (.Expr e pos :: rest) (P (elE r k h)) := by
  cases r with
  | ok v => exact sb_cons (s1_expr (he.ok v rfl) (hk v rfl) hs)
  | error f => exact sb_cons (s1_exprX (he.er f rfl) (hx f rfl) hs)
theorem s1_asgX {tg : Expr} {xn : Exn} {Q : Po} (h : EX X Γ e xn) (q : Q.ex xn Γ) (hs : swapsWithSole [tg] e pos.line X.env = pure false) (hw : swappedStores [tg] e X.env = pure none)
    (h1 : (assignEach [tg] X.env).map (·.2) = [assign tg X.env]) : S1 X Γ (.Assign [tg] e pos) Q := fun W tk G0 G1 H0 H1 σ g D F =>
  ws_of (ps_asg pe_we pg_wg hs hw h1) (fun pins s I => thn (h W tk H0 H1 σ g.st (fun cls dd J0 J1 t k => F.ex xn cls dd Γ σ J0 J1 (g.tr' t) k q) pins s I) fun u s' ⟨_, _, _, _, z⟩ => z.elim)
/-- raise C("..") of a class without an __init__ -/
theorem m_raise0 {Q : Po} {xn m : Str} {jj : Nat} {p1 p2 p3 : Pos} (T : ErrC X.K X.mg xn) (hc : X.calm = true) (q : Q.ex (x0 xn ()) Γ) (hg : Gl X xn := by rfl) (hdb : (xn == ("__debug__" : Str)) = false := by decide) :
    SB X Γ (.Raise (some (.Call (.Name xn p1) [.Constant (.str m) jj p2] [] p3)) none pos :: rest) Q := sb_cons (s1_raiseE T hc q hg hdb)

/-! ### try .. except X as n: k = n -/
/-- how the body of a try ends -/
def tyP {α β : Type} (xf : β → Exn) (W : α → Env) (Γe : Env) : Except β α → Po
  | .ok v => { nx := fun Γ' => Wk Γ' (W v) }
  | .error f => { ex := fun xn Γ' => xn = xf f ∧ Wk Γ' Γe }
theorem m_tyE (he : EEm X Γ e g xf r) (hs : swapsWith e none pos.line X.env = pure false := by rfl) : SB X Γ [.Expr e pos] (tyP xf (fun _ => Γ) Γ r) := by
  cases r with
  | ok v => exact sb_cons (s1_expr (he.ok v rfl) (sb_nil (Wk.refl _)) hs)
  | error f => exact sb_cons (s1_exprX (he.er f rfl) ⟨rfl, Wk.refl _⟩ hs)
theorem m_tyS (i : Nat) {x : Str} {pos' : Pos} (he : EEm X Γ e g xf r) (hN : X.N.Nodup) (hi : X.N[i]? = some x := by rfl) (hl : Loc X.env.scope x := by first | exact Or.inl rfl | exact Or.inr rfl)
    (hs : swapsWith e (some (.Name x pos')) pos.line X.env = pure false := by rfl) (hf : X.fn x = true ∨ X.env.scope.names.lookup x = some .local := by first | exact .inl rfl | exact .inr rfl) :
    SB X Γ [.Assign [.Name x pos'] e pos] (tyP xf (fun v => Γ.set i (.val (g v))) Γ r) := by
  cases r with
  | ok v => exact sb_cons (s1_set i (he.ok v rfl) (sb_nil (Wk.refl _)) hN hi hl hs hf)
  | error f => exact sb_cons (s1_setX (he.er f rfl) ⟨rfl, Wk.refl _⟩ hN hi hl hs hf)
theorem m_tyI {kk : Bool} {A B : List Stmt} {W : α → Env} {Γe : Env} {u v : Except β α} (h : ET X Γ c kk) (h1 : kk = true → SB X Γ A (tyP xf W Γe u)) (h2 : kk = false → SB X Γ B (tyP xf W Γe v)) : SB X Γ [.If c A B pos] (tyP xf W Γe (br kk u v)) := by
  have fx : ∀ {T : List Stmt} (y : Except β α), SB X Γ T (tyP xf W Γe y) → SB X Γ T { tyP xf W Γe y with nx := fun Γ' => SB X Γ' [] (tyP xf W Γe y) } := fun {T} y hT =>
    does_imp hT (fun Γ' q => sb_nil q) (fun _ q => q) (fun _ _ q => q) (fun _ q => q) fun _ q => q
  cases kk with
  | true => exact sb_cons (s1_if h (fun _ => fx u (h1 rfl)) fun z => nomatch z)
  | false => exact sb_cons (s1_if h (fun z => nomatch z) fun _ => fx v (h2 rfl))
theorem ty_imp {W W' : α → Env} {Γe Γe' : Env} (h : SB X Γ body (tyP xf W Γe r)) (h1 : ∀ v, Wk (W v) (W' v)) (h2 : Wk Γe Γe') : SB X Γ body (tyP xf W' Γe' r) := by
  have tr : ∀ {A B C : Env}, Wk A B → Wk B C → Wk A C := fun {A B C} p q => ⟨p.1.trans q.1, fun i s e => by
    rcases q.2 i s e with z | z
    · exact .inl z
    · exact p.2 i s z⟩
  cases r with
  | ok v => exact does_imp h (fun Γ' q => tr q (h1 v)) (fun _ q => q) (fun _ _ q => q) (fun _ q => q) fun _ q => q
  | error f => exact does_imp h (fun Γ' q => q) (fun _ q => q) (fun _ _ q => ⟨q.1, tr q.2 h2⟩) (fun _ q => q) fun _ q => q
theorem Sg.no {K : PySem.W.Frag} {G0 G1 H0 H1 : Hp} {σ : St} {Γ : Env} (g : Sg K G0 G1 H0 H1 σ Γ) {i : Nat} : Sg K G0 G1 H0 H1 (σ.set i none) (Γ.set i .no) := by
  have k : ∀ (j : Nat) (p : Addr) (ds : List D), (Γ.set i .no)[j]? = some (.own p ds) → Γ[j]? = some (.own p ds) := fun j p ds e => by
    by_cases hj : i = j
    · subst hj
      by_cases hl : i < Γ.length
      · rw [List.getElem?_set_self hl] at e
        cases e
      · rw [List.getElem?_eq_none (by rw [List.length_set]; omega)] at e
        cases e
    · rwa [List.getElem?_set_ne hj] at e
  refine ⟨⟨g.st.sub, by rw [List.length_set, List.length_set, g.st.len], fun j s e => ?_⟩, g.tr, fun j p ds e => g.ow j p ds (k j p ds e), fun j l p ds es h1 h2 => g.ap j l p ds es (k j p ds h1) (k l p es h2)⟩
  by_cases hj : i = j
  · subst hj
    have hl : i < Γ.length := by
      have := (List.getElem?_eq_some_iff.mp e).1
      rwa [List.length_set] at this
    rw [List.getElem?_set_self hl] at e
    cases e
    exact ⟨none, List.getElem?_set_self (by rw [g.st.len]; exact hl), trivial⟩
  · rw [List.getElem?_set_ne hj] at e
    obtain ⟨o, e1, k1⟩ := g.st.sl j s e
    exact ⟨o, by rw [List.getElem?_set_ne hj]; exact e1, k1⟩
/-- the kept object enters what stays -/
theorem keep_in {K : PySem.W.Frag} {mg : Str → Option Value} {J0 J1 : Hp} {xn : Exn} {C a : Addr} {dd : Option Addr} (s : Same J0 J1) (hs : xn.fs = [] ∨ ∃ n d, xn.fs = [(n, d)]) (k : ExnOk K mg J0 J1 xn (.ref C) dd) (n : J1 a = none) :
    Rp K (upd J0 a (ExK C dd a)) (.ref a) (xD mg xn) := by
  obtain ⟨k1, k2⟩ := k
  rw [xD_eq k1]
  rcases hs with e | ⟨m, d, e⟩
  · rw [e] at k2 ⊢
    obtain rfl : dd = none := k2
    exact .exv0 upd_same
  · rw [e] at k2 ⊢
    obtain ⟨dx, vs, rfl, q1, q2, q3⟩ := k2
    cases vs with
    | nil => cases q2
    | cons v vs =>
      obtain ⟨m', v⟩ := v
      cases vs with
      | cons _ _ => cases q2
      | nil =>
        cases q2
        cases q3 with
        | cons r _ =>
          have n0 : J0 a = none := s.free n
          exact .exv1 upd_same ((upd_ne (ne_of_none q1 n0)).trans q1) (r.mono (same_upd n0))
theorem m_try (i j : Nat) {W : α → Env} {Γe : Env} {G : Except β α → Env} {cn yn n kn : Str} {np p1 p2 p3 pos' : Pos} {f : Except β α → γ} (hb : ∀ (pn : List (Addr × Obj)) (xe : Value → Shared → Prop), PassesOwn (model X.prog X.w) X.A X.env xe → SB (X.tr pn xe) Γ body (tyP xf W Γe r))
    (sh : XSh xf cn) (T : XCau X.K X.mg cn yn) (g1 : ∀ v, Wk (W v) (G (.ok v))) (g2 : ∀ f, Wk (((Γe.set j (.val (dX X.mg xf f))).set i .no)) (G (.error f))) (hk : ∀ r', r' = r → SB X (G r') rest (P (f r'))) (hN : X.N.Nodup) (hi : X.N[i]? = some n := by rfl) (hj : X.N[j]? = some kn := by rfl)
    (hij : (j == i) = false := by rfl) (hil : Nat.ble (i + 1) Γe.length = true := by rfl) (hl : X.env.kindOf n = some .local := by rfl) (hlk : X.env.kindOf kn = some .local := by rfl) (hgy : Gl X yn := by rfl) (hdy : (yn == ("__debug__" : Str)) = false := by decide) (hex : X.ex = [] := by rfl) (hst : X.stack = X.env :: X.outer := by rfl) (hfr : X.env.frame = some X.env.locals := by rfl)
    (h1 : (n == ("__debug__" : Str)) = false := by decide) (h2 : (n == ("__classdict__" : Str)) = false := by decide) (hsw : swapsWith (.Name n p2) (some (.Name kn p1)) p3.line X.env = pure false := by rfl) :
    SB X Γ (.Try body [.ExceptHandler (some (.Name yn np)) (some n) [.Assign [.Name kn p1] (.Name n p2) p3] pos'] [] [] pos :: rest) (P (lt r f)) := by
  have K1 := hk r rfl
  refine sb_cons (fun V tk G0 G1 H0 H1 σ gg DD F => ?_)
  obtain ⟨Cc, Cy, m1, m2, hcau⟩ := T.ex
  refine ws_of (ps_tryK (ts := fun _ => tSeq (tAsg (tVar i) (gName j)) tNext) (tb := fun V D σ H => ∃ G0 G1 H0, Sg X.K G0 G1 H0 H σ Γ ∧ Fin X V G0 G1 (tyP xf W Γe r) D) (Wo := V) hex hst hfr hN hi hl ⟨hgy, hdy, .inl m2⟩ tk (fun V' pn xe tk' ps' => ⟨fun pins s σ H D I h => ?_⟩) (fun a oe pn => ?_)) ?_
  · obtain ⟨G0, G1, H0, g', F'⟩ := h
    exact hb pn xe ps' V' tk' G0 G1 H0 H σ g' D ⟨F'.nx, F'.bk, F'.ct, F'.rt, F'.ex⟩ pins s I
  · exact pss_cons (ps_set hN hj (.inl hlk) (pe_var hi (.inl hl) h1 h2) hsw (.inr hlk)) pss_nil
  · refine ⟨G0, G1, H0, gg, ?_⟩
    have low : i < Γe.length := Nat.le_of_ble_eq_true hil
    cases r with
    | ok v => exact ⟨fun Γ' τ J0 J1 g' q => F.nx Γ' τ J0 J1 g' (sb_wk q (sb_wk (g1 v) K1)), fun _ _ _ _ _ z => z.elim, fun _ _ _ _ _ z => z.elim, fun _ _ _ _ _ _ z => z.elim, fun _ _ _ _ _ _ _ _ _ z => z.elim⟩
    | error ff =>
      refine ⟨fun _ _ _ _ _ z => z.elim, fun _ _ _ _ _ z => z.elim, fun _ _ _ _ _ z => z.elim, fun _ _ _ _ _ _ z => z.elim, fun xn cls dd Γ' τ J0 J1 g' kx z => ?_⟩
      obtain ⟨rfl, wk⟩ := z
      have ec : cls = .ref Cc := by
        have := kx.1
        rw [(sh ff).1, m1] at this
        cases this
        rfl
      subst ec
      refine ⟨true, hcau, fun _ => ⟨Cc, rfl, fun a na => ?_⟩, fun z => nomatch z⟩
      have g2' := g'.wk wk
      have ri := keep_in g2'.st.sub (sh ff).2 kx na
      have g3 := g2'.tr' (Tr.new (o := ExK Cc dd a) g2'.st.sub na)
      have g4 := ((g3.put (i := i) ri).put (i := j) ri).no (i := i)
      have ne : ¬ j = i := fun z => by rw [z] at hij; simp at hij
      have eq : ∀ (u v : Sl), (((Γe.set i u).set j v).set i .no) = ((Γe.set j v).set i .no) := fun u v => by
        rw [List.set_comm _ _ (Ne.symm ne), List.set_set]
      rw [eq] at g4
      have hlen : i < τ.length := by rw [g2'.st.len]; exact low
      refine ⟨.ref a, List.getElem?_set_self hlen, ?_⟩
      exact F.nx _ _ _ _ g4 (sb_wk (g2 ff) K1)
end
end Dl
namespace Dl
open PySem PySem.Spec PyProof.Rows L2

/-! ## an error out of the midst of an expression -/
def mapE {α β δ : Type} (φ : α → δ) : Except β α → Except β δ
  | .ok v => .ok (φ v)
  | .error f => .error f
def okD {α β : Type} (r : Except β α) (d : α) : α := match r with
  | .ok v => v
  | .error _ => d
def isOk {α β : Type} : Except β α → Bool
  | .ok _ => true
  | .error _ => false
section
variable {X : Cx} {Γ Γ' : Env} {a b c e : Expr} {es : List Expr} {pos p : Pos} {rest body : List Stmt} {α β γ δ : Type} {P : γ → Po} {d : D} {g : α → D} {xf : β → Exn} {r : Except β α} {k k' : Nat} {x : Str} {ps : List Str} {C : Ct} {ds : List D} {xn : Exn}
theorem we_no {σ : St} {H : Hp} {Q : VK} (h : WE X e σ H fun _ _ => False) : WE X e σ H Q := fun pins s I => thn (h pins s I) fun u s' ⟨_, _, _, _, z⟩ => z.elim
theorem wa_no {σ : St} {H : Hp} {Q : List V → Hp → Prop} (h : WA X es σ H fun _ _ => False) : WA X es σ H Q := fun pos pins s I => thn (h pos pins s I) fun u s' ⟨_, _, _, _, z⟩ => z.elim
theorem ee_map {e' : Expr} {g' : δ → D} {φ : α → δ} (h : EEm X Γ e g xf r) (kk : ∀ v, EV X Γ e (g v) → EV X Γ e' (g' (φ v))) (x : ∀ xn, EX X Γ e xn → EX X Γ e' xn) : EEm X Γ e' g' xf (mapE φ r) := by
  refine ⟨fun v q => ?_, fun f q => ?_⟩
  · cases r with
    | ok w =>
      cases q
      exact kk w (h.ok w rfl)
    | error f => cases q
  · cases r with
    | ok w => cases q
    | error f =>
      cases q
      exact x _ (h.er f rfl)
theorem ev_okE {d : α} (h : EEm X Γ e g xf r) (q : isOk r = true) : EV X Γ e (g (okD r d)) := by
  cases r with
  | ok v => exact h.ok v rfl
  | error f => cases q
theorem ex_ix (h : EX X Γ a xn) (hs : PlainIx b := by intro _ _; rfl) : EX X Γ (.Subscript a b pos) xn := fun W tk H0 H1 σ S q => we_of (pe_ix ix_tup pe_we pe_we hs) (we_no (h W tk H0 H1 σ S q))
theorem ex_cmpI {op : CmpOp} {z : D} (ho : OpD X (compareOp op) (.int 0) (.int 0) z) (h : EX X Γ a xn) (hm : behindInMarks op b = false := by first | exact nobehind _ (by decide) (by decide) | rfl) : EX X Γ (.Compare a [op] [b] pos) xn := fun W tk H0 H1 σ S q => by
  obtain ⟨r, hr, _⟩ := ho
  exact we_of (pe_cmpR hr pe_we pe_we hm) (we_no (h W tk H0 H1 σ S q))
def EXA (X : Cx) (Γ : Env) (es : List Expr) (x : Exn) : Prop := ∀ (W : WX), Takes X W → ∀ H0 H1 σ, Stt X.K H0 H1 σ Γ → (∀ cls dd J0 J1, Tr H0 H1 J0 J1 → ExnOk X.K X.mg J0 J1 x cls dd → W cls dd σ J1) → WA X es σ H1 (fun _ _ => False)
theorem exa_hd (h : EX X Γ e xn) (hs : starEach (e :: es) X.env = (false, eval e X.env) :: starEach es X.env := by rfl) : EXA X Γ (e :: es) xn := fun W tk H0 H1 σ S q => wa_of (pa_cons pe_we pa_wa hs) (we_no (h W tk H0 H1 σ S q))
theorem exa_tl (he : EV X Γ e d) (h : EXA X Γ es xn) (hs : starEach (e :: es) X.env = (false, eval e X.env) :: starEach es X.env := by rfl) : EXA X Γ (e :: es) xn := fun W tk H0 H1 σ S q =>
  wa_of (pa_cons pe_we pa_wa hs) (he H0 H1 σ S _ fun v J0 J1 t r => wa_no (h W tk J0 J1 σ (S.tr t) fun cls dd L0 L1 t2 rx => q cls dd L0 L1 (t.trans t2) rx))
theorem ex_argU (F : FnC X.prog X.w X.K X.mg X.base k x ps C) (hr : Room k' X.A) (ha : EXA X Γ (e :: es) xn) (hk : k ≤ k' := by decide) (hg : Gl X x := by rfl) (hdb : (x == ("__debug__" : Str)) = false := by decide)
    (he : starEach (e :: es) X.env = (false, eval e X.env) :: starEach es X.env := by rfl) (hpl : (backTo pos (starEach es X.env)).any (·.1) = false := by rfl) : EX X Γ (.Call (.Name x p) (e :: es) [] pos) xn := fun W tk H0 H1 σ S q => by
  obtain ⟨f, fd, hm, kp, hb, G, _⟩ := F.ex
  exact we_of (pe_call G (hr.mono hk) hg hm kp hb .nil passL pa_wa hdb he hpl) (wa_no (ha W tk H0 H1 σ S q))
end
theorem m_end' {X : Cx} {Γ : Env} {β : Type} {xf : β → Exn} : SB X Γ [] (endE dN xf (.ok ())) := sb_nil rfl

/-! ## a class with an __init__ of its own: C(e) -/
/-- what such an __init__ does -/
def spI (C : Addr) (n : Str) : Sp := fun vs H Q _ => ∃ (a : Addr) (y : V), vs = [.ref a, y] ∧ H a = some (exo a C none) ∧ ∀ dx, H dx = none → dx ≠ a → Q .non (upd (upd H dx (exd dx [(n, y)])) a (exo a C (some dx)))
structure XIni (P : Program) (w : World) (K : PySem.W.Frag) (mg : Str → Option Value) (base : Heap) (c n : Str) : Prop where
  ex : ∃ (C fI : Addr) (fd : FuncData), mg c = some (.ref C) ∧ OexC K C ∧ PySem.W.findIn K (.ref C) "__init__" = some (some (.ref fI)) ∧ PySem.W.typeIn K (.ref fI) = some (.type "function") ∧
    FnOk P w K mg base (L2.CX P w) 1 fI fd ["self", n] (spI C n) ∧ Binds K fd ["self", n] []
section
variable {X : Cx} {Γ : Env} {e : Expr} {pos : Pos} {rest : List Stmt} {α : Type} {k' : Nat} {cn n : Str} {g : α → D} {v : α} {p1 p3 : Pos}
theorem m_raise1 (g : α → D) {Q : Po} (T : XIni X.prog X.w X.K X.mg X.base cn n) (hr : Room k' X.A) (ha : EV X Γ e (g v)) (hc : X.calm = true) (q : Q.ex (x1 cn n g v) Γ) (hk : 2 ≤ k' := by decide) (hg : Gl X cn := by rfl) (hdb : (cn == ("__debug__" : Str)) = false := by decide)
    (h1 : starEach [e] X.env = (false, eval e X.env) :: starEach [] X.env := by rfl) (hpl : (backTo p3 (starEach [] X.env)).any (·.1) = false := by rfl) : SB X Γ (.Raise (some (.Call (.Name cn p1) [e] [] p3)) none pos :: rest) Q := by
  refine sb_cons (fun W tk G0 G1 H0 H1 σ gg DD F => ?_)
  obtain ⟨C, fI, fd, m1, T1, iC, tI, F1, hb⟩ := T.ex
  refine ws_of (ps_raise hc tk (pmk_oex T1 iC tI F1 (hr.mono hk) hb .nil passL hg m1 pa_wa hdb h1 hpl)) ?_
  refine wa_of (pa_cons pe_we pa_nil h1) (ha H0 H1 σ gg.st _ fun u J0 J1 t r => ?_)
  refine ⟨by simp, fun a na => ⟨a, u, rfl, upd_same, fun dx nd ne => ⟨rfl, dx, [(n, u)], upd_same, ?_, ?_, ?_⟩⟩⟩
  · rw [upd_ne ne, upd_same]
  · rw [← nd, upd_ne ne]
  · have n1 : J1 dx = none := by rw [← nd, upd_ne ne]
    have e1 : upd (del (upd (upd (upd J1 a (exo a C none)) dx (exd dx [(n, u)])) a (exo a C (some dx))) a) dx (.xd [(n, u)]) = upd J1 dx (.xd [(n, u)]) := by
      funext b
      by_cases hb : b = dx
      · rw [hb, upd_same, upd_same]
      · rw [upd_ne hb, upd_ne hb]
        by_cases ha : b = a
        · rw [ha, del_same, na]
        · rw [del_ne ha, upd_ne ha, upd_ne hb, upd_ne ha]
    rw [e1]
    have t2 := t.trans (Tr.new (o := HO.xd [(n, u)]) t.in' n1)
    refine F.ex (x1 cn n g v) (.ref C) (some dx) Γ σ _ _ (gg.tr' t2) ⟨m1, dx, [(n, u)], rfl, upd_same, rfl, ?_⟩ q
    exact .cons (r.mono (same_upd (t.in'.free n1))) .nil
end

/-! ### that __init__ -/
def oexB (K : PySem.W.Frag) (C : Addr) : Bool := match K.lookup C with
  | some ⟨.type "type", _, .cls cd, sl⟩ => (match cd.mro, sl.toList with
    | .ref C' :: bm, [_, _, _, _, some (.builtin m), _] => C' == C && (m == "ValueError.__new__" && (!cd.hasDel && (cd.hasDict && PySem.HandSPX.refsVE bm)))
    | _, _ => false)
  | _ => false
theorem oex_cls {K : PySem.W.Frag} {C : Addr} (h : oexB K C = true) : ∃ nm q N bs bm sn sub ab col dd k0 k1 k2 k3 k5, K.lookup C = some (excClassObj nm q C N bs bm true sn sub ab col dd k0 k1 k2 k3 k5 "ValueError.__new__") ∧ PySem.HandSPX.refsVE bm = true := by
  unfold oexB at h
  split at h
  next dd cd sl e =>
    split at h
    next C' bm k0 k1 k2 k3 m k5 e1 e2 =>
      simp only [Bool.and_eq_true, beq_iff_eq, Bool.not_eq_true'] at h
      obtain ⟨h1, h2, h3, h4, h5⟩ := h
      subst h1 h2
      obtain ⟨nm, bs, mro, ns, qn, hd, sn, sub, ab, col, dl⟩ := cd
      dsimp only at e1 h3 h4
      subst e1 h3 h4
      obtain ⟨l⟩ := sl
      dsimp only at e2
      subst e2
      exact ⟨nm, qn, ns, bs, bm, sn, sub, ab, col, dd, k0, k1, k2, k3, k5, e, h5⟩
    · cases h
  · cases h
structure IniF (K : PySem.W.Frag) (mg : Str → Option Value) (c y n : Str) (st : Stmt) (qual : Str) : Prop where
  ex : ∃ (C C0 fI : Addr) (fd : FuncData), mg c = some (.ref C) ∧ mg y = some (.ref C0) ∧ OexC K C ∧ PySem.W.findIn K (.ref C) n = some none ∧ PySem.W.findIn K (.ref C) "__init__" = some (some (.ref fI)) ∧ PySem.W.typeIn K (.ref fI) = some (.type "function") ∧
    Fun K "__init__" qual st fI fd ∧ Binds K fd ["self", n] [] ∧ PySem.W.specialIn K (.ref C0) "__getattribute__" = some (some (.builtin "type.__getattribute__")) ∧ PySem.W.readsIn K C0 (.type "type") = true ∧
    PySem.W.findCls K (.ref C0) (.type "type") "__init__" = some (.val (.builtin "ValueError.__init__"))
theorem iniF_mk {K : PySem.W.Frag} {h : Heap} {mg : Str → Option Value} {c y n : Str} {st : Stmt} {qual : Str} {C C0 fI : Addr} {oc : Value} {od an : Option Addr} {osl : Array (Option Value)} {kV doc pm cdv ct : Value} (X : K.In h) (G : h.Ns mainGlobals mg)
    (a1 : PySem.W.nsIn K mainGlobals c = some (some (.ref C))) (a2 : PySem.W.nsIn K mainGlobals y = some (some (.ref C0))) (a3 : oexB K C = true) (a4 : PySem.W.findIn K (.ref C) "__setattr__" = some (some (.builtin "object.__setattr__")))
    (a5 : PySem.W.subIn K (.ref C) (.type "BaseException") = some true) (a6 : PySem.W.typeIn K (.ref C) = some (.type "type")) (a7 : PySem.W.keepIn K (.ref C) = true) (a8 : PySem.W.findIn K (.ref C) n = some none) (a9 : PySem.W.findIn K (.ref C) "__init__" = some (some (.ref fI)))
    (b1 : PySem.W.typeIn K (.ref fI) = some (.type "function")) (b2 : K.lookup fI = some ⟨oc, od, .func (PySem.W.fnOf "__init__" qual (defArgs st) (defBody st) (defScope st) .none kV doc pm an cdv ct), osl⟩) (b3 : PySem.W.codeIn K cdv qual = true) (b4 : PySem.W.keepIn K (.ref fI) = true)
    (b5 : PySem.W.specialIn K (.ref C0) "__getattribute__" = some (some (.builtin "type.__getattribute__"))) (b6 : PySem.W.readsIn K C0 (.type "type") = true) (b7 : PySem.W.findCls K (.ref C0) (.type "type") "__init__" = some (.val (.builtin "ValueError.__init__")))
    (hb : ∀ (kV doc pm : Value) (an : Option Addr) (cdv ct : Value) (us : List Value), us.length = 2 → bindArgs (PySem.W.fnOf "__init__" qual (defArgs st) (defBody st) (defScope st) .none kV doc pm an cdv ct) ⟨us, []⟩ = pure ((["self", n] : List Str).zip us)) : IniF K mg c y n st qual :=
  have F := fun_mk b2 b3 b4
  ⟨C, C0, fI, _, PySem.W.mg_of X G a1, PySem.W.mg_of X G a2, ⟨oex_cls a3, a4, a5, a6, a7⟩, a8, a9, b1, F, F.binds hb, b5, b6, b7⟩
theorem pe_veK {X : Cx} {e : Expr} {es : List Expr} {ta : TA} {Y : Str} {C0 : Addr} {p1 p2 pos : Pos} {pl : Sem Bool} (hg : Gl X Y) (hm : X.mg Y = some (.ref C0)) (h1 : PySem.W.specialIn X.K (.ref C0) "__getattribute__" = some (some (.builtin "type.__getattribute__")))
    (h2 : PySem.W.readsIn X.K C0 (.type "type") = true) (h3 : PySem.W.findCls X.K (.ref C0) (.type "type") "__init__" = some (.val (.builtin "ValueError.__init__"))) (ha : PA X (e :: es) ta) (hdb : (Y == ("__debug__" : Str)) = false := by decide)
    (hc : eval (.Call (.Attribute (.Name Y p1) "__init__" p2) (e :: es) [] pos) X.env = (do
      let ov ← eval (.Name Y p1) X.env
      standAt p2.atName
      let (f, first) ← holding [ov] (getMethod ov "__init__" pl)
      callWith pos f first (backTo pos (starEach (e :: es) X.env)) (backToKw pos (keywordEach [] X.env))) := by rfl)
    (he : starEach (e :: es) X.env = (false, eval e X.env) :: starEach es X.env := by rfl) (hpl : (backTo pos (starEach es X.env)).any (·.1) = false := by rfl) : PE X (.Call (.Attribute (.Name Y p1) "__init__" p2) (e :: es) [] pos) (tVeI X.K ta) := by
  refine ⟨fun pins s σ H Q I h => ?_⟩
  refine PySem.W.methodCall_KW (ld_glob I hg hm ?_ hdb) hc
  refine PySem.W.method_cls I.kIn h1 (PySem.W.cls_value I.kIn h2 h3 (by decide +kernel) ?_)
  show wpAny _ _ (callWith pos (Value.builtin "ValueError.__init__") [] (backTo pos (starEach (e :: es) X.env)) []) _ _ _
  refine PyProof.Rows.callWith_method1 (thn (ha.run pos pins _ σ H _ (I.tok _) h) fun us s1 q => ?_) he hpl
  obtain ⟨vs, H1, I1, r1, a, C, ws, ev, hl, T, ea, q⟩ := q
  subst ev
  cases r1 with
  | @cons _ u0 _ ur ra rw' =>
    obtain rfl : u0 = Value.ref a := ra
    refine oinit_ok T I1 ea ?_ fun s' J => ⟨.non, H1, J, rfl, q⟩
    rw [← Paired.length rw', sizeLine_eq]
    omega
theorem ini_ok {P : Program} {w : World} {K : PySem.W.Frag} {mg : Str → Option Value} {base : Heap} {c y n : Str} {st : Stmt} {qual : Str} (msg : Str) (F : IniF K mg c y n st qual) (S : FnScope ["self", n] ["self", n] (defScope st))
    (h : ∀ C0, mg y = some (.ref C0) → PySem.W.specialIn K (.ref C0) "__getattribute__" = some (some (.builtin "type.__getattribute__")) → PySem.W.readsIn K C0 (.type "type") = true → PySem.W.findCls K (.ref C0) (.type "type") "__init__" = some (.val (.builtin "ValueError.__init__")) →
      ∀ (f : Addr) (cdv : Value) (A : Around) (outer : List PySem.Env) (s : Shared) (H : Hp) (E : XK), PSs (cxOf (L2.CX P w) P w K mg base ["self", n] qual (defScope st) f cdv A outer s H E) (defBody st)
        (tSeq (tDrop (tVeI K (tCons (tVar 0) (tCons (tC (.str msg)) tNil)))) (tSeq (tOst K n (tVar 0) (tVar 1)) tNext))) : XIni P w K mg base c n := by
  obtain ⟨C, C0, fI, fd, m1, m2, T, hno, iC, tI, Fn, hb, h1, h2, h3⟩ := F.ex
  refine ⟨C, fI, fd, m1, T, iC, tI, Fn.okX S (fun vs H Q E q => ?_) (fun cdv A outer s H vs Q E hr q => ⟨_, h C0 m2 h1 h2 h3 fI cdv A outer s H E, ?_⟩), hb⟩
  · obtain ⟨a, y, rfl, _⟩ := q
    rfl
  · obtain ⟨a, y, rfl, ea, hq⟩ := q
    refine ⟨.ref a, rfl, a, C, [.str msg], rfl, by simp, T, ea, ?_⟩
    exact ⟨y, rfl, .ref a, rfl, a, C, rfl, T, hno, .inl ⟨ea, fun dx n1 n2 => hq dx n1 n2⟩⟩
end Dl
namespace Dl
open PySem PySem.Spec PyProof.Rows L2
section
variable {X : Cx} {Γ : Env} {e : Expr} {pos : Pos} {α β : Type} {g : α → D} {xf : β → Exn} {r : Except β α}
theorem m_tyEu (he : EEm X Γ e g xf r) (hs : swapsWith e none pos.line X.env = pure false := by rfl) : SB X Γ [.Expr e pos] (tyP xf (fun (_ : Unit) => Γ) Γ (mapE (fun _ => ()) r)) := by
  cases r with
  | ok v => exact sb_cons (s1_expr (he.ok v rfl) (sb_nil (Wk.refl _)) hs)
  | error f => exact sb_cons (s1_exprX (he.er f rfl) ⟨rfl, Wk.refl _⟩ hs)
end
theorem dO_some {β : Type} {g : β → D} {d : β} {o : Option β} (h : o.isSome = true) : dO g o = g (o.getD d) := by
  cases o with
  | none => cases h
  | some f => rfl
theorem forM_len {α β γ : Type} {f : List α × β → γ → Fl (List α) (List α × β)} (h : ∀ s x, ∃ s', f s x = .go s' ∧ s'.1.length = s.1.length + 1) : ∀ (xs : List γ) (s : List α × β), (fin (forM f xs s) fun s => s.1).length = s.1.length + xs.length
  | [], s => rfl
  | x :: xs, s => by
    obtain ⟨s', e, hl⟩ := h s x
    rw [forM_cons, e]
    show (fin (forM f xs s') fun s => s.1).length = _
    rw [forM_len h xs s', hl, List.length_cons]
    omega
end Dl
namespace Dl
open PySem PySem.Spec PyProof.Rows L2

/-! ## things of any kind -/
def D.items : D → List D
  | .tup xs => xs
  | .lst xs => xs
  | .fls xs => xs
  | _ => []
def D.num : D → Int
  | .int i => i
  | _ => 0
theorem map_dA (xs : List D) : List.map dA xs = xs := by
  induction xs with
  | nil => rfl
  | cons x xs ih => rw [List.map_cons, ih]
theorem tup_of {x : D} (h : D.isA x .tuple = true) : x = .tup (List.map dA x.items) := by
  rw [map_dA]
  cases x <;> first | rfl | cases h
theorem num_of {x : D} (h : D.isA x .int = true) (k : D.isA x .bool = false) : x = .int x.num := by
  cases x <;> first | rfl | (cases h; done) | (cases k; done)
/-- plain, of such a depth -/
structure OkD (n : Nat) (x : D) : Prop where
  pl : x.pl = true
  lay : x.pd.canLay0 = true
  dep : x.pd.depth ≤ n
theorem OkD.mono {n m : Nat} {x : D} (h : OkD n x) (k : n ≤ m) : OkD m x := ⟨h.pl, h.lay, Nat.le_trans h.dep k⟩
theorem OkD.ok {n : Nat} {x : D} (h : OkD n x) (k : n ≤ 64) : x.ok = true := by
  unfold D.ok SeqAt.shaped
  rw [h.pl, h.lay, decide_eq_true (Nat.le_trans h.dep k)]
  rfl
theorem OkD.isr {n : Nat} {x : D} (h : OkD n x) : x.isR = false := by
  cases x <;> first | rfl | cases h.pl
theorem OkT.d {α : Type} {g : α → D} {n : Nat} (h : OkT g n) (a : α) : OkD n (g a) := ⟨h.pl a, h.lay a, h.dep a⟩
theorem okd_non {n : Nat} : OkD n .non := ⟨rfl, rfl, Nat.zero_le _⟩
theorem okd_bl {n : Nat} {b : Bool} : OkD n (.bl b) := ⟨rfl, rfl, Nat.zero_le _⟩
theorem okd_int {n : Nat} {i : Int} : OkD n (.int i) := ⟨rfl, rfl, Nat.zero_le _⟩
theorem okd_str {n : Nat} {x : Str} (h : (PyData.str x).canLay0 = true) : OkD n (.str x) := ⟨rfl, h, Nat.zero_le _⟩
theorem okds : ∀ {n : Nat} {xs : List D}, (∀ x ∈ xs, OkD n x) → D.pls xs = true ∧ PyData.canLayAll0 (D.pds xs) = true ∧ PyData.depthAll (D.pds xs) ≤ n
  | n, [], _ => ⟨rfl, rfl, Nat.zero_le _⟩
  | n, x :: xs, h => by
    obtain ⟨h1, h2, h3⟩ := okds fun y hy => h y (List.mem_cons_of_mem _ hy)
    have k := h x List.mem_cons_self
    refine ⟨?_, ?_, ?_⟩
    · show (D.pl x && D.pls xs) = true
      rw [k.pl, h1]
      rfl
    · show (PyData.canLay0 (D.pd x) && PyData.canLayAll0 (D.pds xs)) = true
      rw [k.lay, h2]
      rfl
    · show max (PyData.depth (D.pd x)) (PyData.depthAll (D.pds xs)) ≤ n
      exact Nat.max_le.mpr ⟨k.dep, h3⟩
theorem okd_tup {n : Nat} {xs : List D} (h : ∀ x ∈ xs, OkD n x) : OkD (n + 1) (.tup xs) :=
  have k := okds h
  ⟨k.1, k.2.1, Nat.succ_le_succ k.2.2⟩
theorem okd_lst {n : Nat} {xs : List D} (h : ∀ x ∈ xs, OkD n x) : OkD (n + 1) (.lst xs) :=
  have k := okds h
  ⟨k.1, k.2.1, Nat.succ_le_succ k.2.2⟩
theorem okd_of : ∀ {n : Nat} {xs : List D}, D.pls xs = true → PyData.canLayAll0 (D.pds xs) = true → PyData.depthAll (D.pds xs) ≤ n → ∀ x ∈ xs, OkD n x
  | n, y :: xs, h1, h2, h3, x, hx => by
    have h1 : (D.pl y && D.pls xs) = true := h1
    have h2 : (PyData.canLay0 (D.pd y) && PyData.canLayAll0 (D.pds xs)) = true := h2
    have h3 : max (PyData.depth (D.pd y)) (PyData.depthAll (D.pds xs)) ≤ n := h3
    rw [Bool.and_eq_true] at h1 h2
    rcases List.mem_cons.mp hx with rfl | m
    · exact ⟨h1.1, h2.1, Nat.le_trans (Nat.le_max_left _ _) h3⟩
    · exact okd_of h1.2 h2.2 (Nat.le_trans (Nat.le_max_right _ _) h3) x m
theorem okd_items {n : Nat} {x : D} (h : OkD n x) : ∀ y ∈ x.items, OkD n y := fun y hy => by
  cases x <;> first
    | (cases hy; done)
    | exact okd_of h.pl h.lay (Nat.le_of_succ_le h.dep) y hy
/-- plain, or an empty dict -/
def Odd (x : D) : Prop := x = .emp ∨ OkD 20 x
theorem Odd.isr {x : D} (h : Odd x) : x.isR = false := by
  rcases h with rfl | h
  · rfl
  · exact h.isr
theorem odd_items {x : D} (h : Odd x) : ∀ y ∈ x.items, OkD 20 y := by
  rcases h with rfl | h
  · intro y hy
    cases hy
  · exact okd_items h
theorem odd_getD {xs : List D} {i : Nat} {d : D} (h : ∀ y ∈ xs, Odd y) (hd : Odd d) : Odd (xs.getD i d) := by
  rw [List.getD_eq_getElem?_getD]
  cases e : xs[i]? with
  | none => exact hd
  | some y => exact h y (List.mem_of_getElem? e)
theorem okd_getD {n : Nat} {xs : List D} {i : Nat} {d : D} (h : ∀ y ∈ xs, OkD n y) (hd : OkD n d) : OkD n (xs.getD i d) := by
  rw [List.getD_eq_getElem?_getD]
  cases e : xs[i]? with
  | none => exact hd
  | some y => exact h y (List.mem_of_getElem? e)
theorem okl_comp {n : Nat} {xs : List D} {p : D → Bool} (h : ∀ y ∈ xs, OkD n y) (hn : n < 64) : (dL dA (List.map (fun y => y) (List.filter p xs))).ok = true := by
  refine OkD.ok (n := n + 1) (okd_lst fun y hy => ?_) hn
  rw [map_dA] at hy
  obtain ⟨z, hz, rfl⟩ := List.mem_map.mp hy
  exact h z (List.mem_filter.mp hz).1
theorem isa_1 {b : Bool} (h : (!b) = false) : b = true := by simpa using h
theorem isa_2 {b c : Bool} (h : ((!b) || c) = false) : b = true := by simp at h; exact h.1
theorem isa_3 {b c : Bool} (h : (b && c) = true) : b = true := by simp at h; exact h.1
/-- {} -/
theorem ev_emp {X : Cx} {Γ : Env} {pos : Pos} : EV X Γ (.Dict [] [] pos) .emp := fun H0 H1 σ S Q q =>
  we_of pe_dnewK fun p n => q (.ref p) (upd H0 p (.dK [])) (upd H1 p (.dK [])) (Tr.new S.sub n) (.emp upd_same)
theorem cutV_le {γ : Type} {xs : List γ} {lo hi : Option Int} {n : Nat} (h : xs.length ≤ n) : (cutD xs lo hi).length ≤ n := by
  unfold cutD
  rw [List.length_take, List.length_drop]
  omega
theorem len_cat {γ : Type} {xs ys : List γ} {n m : Nat} (h : xs.length ≤ n) (k : ys.length ≤ m) : (xs ++ ys).length ≤ n + m := by
  rw [List.length_append]
  exact Nat.add_le_add h k
theorem len_map {γ δ : Type} {f : γ → δ} {xs : List γ} {n : Nat} (h : xs.length ≤ n) : (List.map f xs).length ≤ n := by
  rw [List.length_map]
  exact h
section
variable {X : Cx} {Γ : Env} {a b : Expr} {pos : Pos} {xs ys : List D} {n m : Nat}
theorem ev_catV (ha : EV X Γ a (dV dA xs)) (hb : EV X Γ b (dV dA ys)) (h1 : xs.length ≤ n) (h2 : ys.length ≤ m) (h : n + m ≤ 100000 := by decide) : EV X Γ (.BinOp a .Add b pos) (dV dA (xs ++ ys)) :=
  ev_is (ev_catT ha hb (by rw [List.length_map, List.length_map]; omega)) (congrArg D.tup List.map_append.symm)
theorem ev_asV {α : Type} {g : α → D} {zs : List α} (h : EV X Γ a (dV g zs)) : EV X Γ a (dV dA (List.map g zs)) := ev_is h (congrArg D.tup (map_dA _).symm)
end
theorem mem_cutD {γ : Type} {xs : List γ} {lo hi : Option Int} {x : γ} (h : x ∈ cutD xs lo hi) : x ∈ xs := by
  unfold cutD at h
  exact List.mem_of_mem_drop (List.mem_of_mem_take h)
end Dl
set_option synthInstance.maxSize 1000
set_option synthInstance.maxHeartbeats 200000
namespace Dl
open PySem PySem.Spec PyProof.Rows L2
local macro_rules | `(tactic| walk_at "bz") => `(tactic| exact bdc_mono (by decide))
local macro_rules | `(tactic| walk_at "ps") => `(tactic| first | decide | omega | exact PosC.h)
local macro_rules | `(tactic| walk_at "bd") => `(tactic| first | exact cmulI (by decide) | exact cdivI (by decide))
local macro_rules | `(tactic| walk_at "bdm") => `(tactic| first | exact .inl (cmulI (by decide)) | exact .inr (.inr ⟨by decide, by decide⟩) | exact .inr (.inl ⟨by decide, by decide⟩))
local macro_rules | `(tactic| walk_at "pre") => `(tactic| first
  | trivial
  | assumption
  | ((with_reducible refine' And.intro ?k1 ?k2); (case k1 => walk_at "pre"); (case k2 => walk_at "pre"))
  | with_reducible exact bdc_mono (by decide)
  | infer_instance
  | with_reducible exact fdc_mono (by decide)
  | with_reducible exact fdc_b (by decide)
  | with_reducible exact ln_lt (by decide)
  | with_reducible exact ln_le (by decide)
  | omega)
local macro_rules | `(tactic| walk_at "norm") => `(tactic| try simp only [isEmpty_len, isEmpty_len', Bool.not_eq_true', Bool.not_eq_false', Bool.and_eq_true, Bool.or_eq_false_iff, Bool.and_eq_false_imp, decide_eq_true_eq, decide_eq_false_iff_not, List.length_cons, List.length_nil, List.length_map, List.length_range, List.length_append] at *)
local macro_rules | `(tactic| walk_at "ix") => `(tactic| first | omega | assumption | (walk_at "norm"; omega))
local macro_rules | `(tactic| walk_at "sz") => `(tactic| first | with_reducible exact ln_cat (by decide) | with_reducible exact ln_le (by decide) | with_reducible exact ln_lt (by decide) | omega | (walk_at "norm"; omega))
local macro_rules | `(tactic| walk_at "mm") => `(tactic| first | rfl | (simp only [List.map_map]; rfl))
local macro_rules | `(tactic| walk_at "ln") => `(tactic| (rw [List.length_map]))
local macro_rules | `(tactic| walk_at "pw") => `(tactic| first | exact ⟨by decide, by decide, by decide⟩ | exact cpowI (by decide) (by decide))
local macro_rules | `(tactic| walk_at "some") => `(tactic| first | exact dO_a (by assumption) | exact dO_b (by assumption) | exact dO_c (by assumption))
local macro_rules | `(tactic| walk_at "v") => `(tactic| simp [*, br_1, br_2, br_len, br_same, lt_eq])
local macro_rules | `(tactic| walk_at "bdr") => `(tactic| ((repeat (with_reducible refine bdc_ltI fun z_ h_ => ?_; (try (have i_ := bdc_eq h_; conv at i_ => { arg 2; whnf })); (try (have p_ := posc_eq h_)); (try (have q_ := posl_eq h_)); (try (have f_ := fdc_eq h_; conv at f_ => { arg 2; whnf })))); exact bdc_mono (by decide)))
local macro_rules | `(tactic| walk_at "fdr") => `(tactic| ((repeat (with_reducible refine fdc_ltI fun z_ h_ => ?_; (try (have i_ := bdc_eq h_; conv at i_ => { arg 2; whnf })); (try (have p_ := posc_eq h_)); (try (have q_ := posl_eq h_)); (try (have f_ := fdc_eq h_; conv at f_ => { arg 2; whnf })))); exact fdc_mono (by decide)))
local macro_rules | `(tactic| walk_at "nz") => `(tactic| first | assumption | omega | (simp only [decide_eq_false_iff_not] at *; first | assumption | omega))
local macro_rules | `(tactic| walk_at "om") => `(tactic| first | omega | (simp only [Nat.max_def]; (repeat' split) <;> omega))
local macro_rules | `(tactic| walk_at "isa") => `(tactic| first | assumption | exact isa_1 (by assumption) | exact isa_2 (by assumption) | exact isa_3 (by assumption))
local macro_rules | `(tactic| walk_at "isr") => `(tactic| first | rfl | exact OkD.isr (by assumption) | exact Odd.isr (by assumption))
local macro_rules | `(tactic| walk_at "odd") => `(tactic| first | assumption | exact Or.inr (by assumption))

def topS (i : Nat) : Stmt := PySem.Challenge.pw_dialyard_k04_triples.main.body.getD i (.Pass ⟨0, 0, 0, 0⟩)
section
variable {P : Program} {w : World} {K : PySem.W.Frag} {mg : Str → Option Value} {base : Heap}
/-! ### law_numbers -/
def m_law_numbers (script_0 : (List Int)) (k_0 : Int) (bounds_0 : (List Int)) : (List Int) :=
  lt (((List.isEmpty script_0) || (decide (((List.getD script_0 (Int.toNat (0 : Int)) (0 : Int)) % (2 : Int)) = (0 : Int)))) : Bool) fun free_1 =>
  lt ((0 : Int) : Int) fun number_1 =>
  lt ((k_0 * k_0) : Int) fun seed_1 =>
  lt (br (decide (k_0 < ((List.length script_0 : Nat) : Int)))
  (lt ((List.getD script_0 (Int.toNat k_0) (0 : Int)) : Int) fun number_2 =>
  number_2)
  (number_1)) fun s_1 =>
  lt (br (!List.isEmpty script_0)
  (lt ((List.getD script_0 (Int.toNat (k_0 % ((List.length script_0 : Nat) : Int))) (0 : Int)) : Int) fun seed_2 =>
  seed_2)
  (seed_1)) fun s_2 =>
  lt ([] : List Int) fun found_1 =>
  fin (forM (fun (s_3 : (Int × Int × (List Int))) (j_1 : (Int × Nat)) =>
  lt (br (free_1 && (decide ((1 : Int) < s_3.1)))
  (lt (s_3.2.2 ++ [(s_3.1 % j_1.1)]) fun found_2 =>
  lt ((s_3.1 / j_1.1) : Int) fun number_3 =>
  (found_2, number_3, s_3.2.1))
  (lt ((((s_3.2.1 % (1000000007 : Int)) + (((7919 : Int) * ((j_1.2 : Nat) : Int)) * ((j_1.2 : Nat) : Int))) + (((104729 : Int) * k_0) * k_0)) : Int) fun seed_3 =>
  lt ((((seed_3 + (1 : Int)) * (48271 : Int)) % (2147483629 : Int)) : Int) fun seed_4 =>
  lt (((seed_4 * seed_4) % (2147483587 : Int)) : Int) fun seed_5 =>
  lt (s_3.2.2 ++ [(((((seed_5 * (seed_5 + (1 : Int))) * (69621 : Int)) * ((seed_5 + k_0) + (2 : Int))) / (97 : Int)) % j_1.1)]) fun found_3 =>
  (found_3, s_3.1, seed_5))) fun s_4 =>
  .go (s_4.2.1, s_4.2.2, s_4.1)) (List.zipIdx bounds_0) (s_1, s_2, found_1)) fun (s_3 : (Int × Int × (List Int))) =>
  s_3.2.2
def C_law_numbers : Ct := fun ds o => ∃ (script_0 : (List Int)) (k_0 : Int) (bounds_0 : (List Int)), ds = [(dF D.int) script_0, D.int k_0, (dL D.int) bounds_0] ∧ (0 ≤ k_0 ∧ k_0 < 1000 ∧ script_0.length < 1000 ∧ bounds_0.length < 1000 ∧ ∀ b ∈ bounds_0, 0 < b ∧ Sm 400 b) ∧ o = .ret ((dL D.int) (m_law_numbers script_0 k_0 bounds_0))
theorem c_law_numbers (script_0 : (List Int)) (k_0 : Int) (bounds_0 : (List Int)) (h : 0 ≤ k_0 ∧ k_0 < 1000 ∧ script_0.length < 1000 ∧ bounds_0.length < 1000 ∧ ∀ b ∈ bounds_0, 0 < b ∧ Sm 400 b) : C_law_numbers [(dF D.int) script_0, D.int k_0, (dL D.int) bounds_0] (.ret ((dL D.int) (m_law_numbers script_0 k_0 bounds_0))) := ⟨_, _, _, rfl, h, rfl⟩
theorem sc_law_numbers : FnScope ["script", "k", "bounds", "free", "number", "seed", "found", "j", "bound"] ["script", "k", "bounds"] (defScope (topS 10)) := ⟨rfl, rfl, rfl, by decide +kernel, rfl, by decide +kernel, by decide +kernel⟩
theorem ok_law_numbers (hF : HasF K mg "_law_numbers" ["script", "k", "bounds"] (topS 10)) (z_enumerate : mg "enumerate" = none) (z_len : mg "len" = none) : FnC P w K mg base 1 "_law_numbers" ["script", "k", "bounds"] C_law_numbers := by
  refine fn_okD hF sc_law_numbers (fun ds o h => by obtain ⟨_, _, _, rfl, _⟩ := h; rfl) (fun f cdv A outer s H E hr hp ds o h => ?_)
  obtain ⟨script_0, k_0, bounds_0, rfl, hpre, rfl⟩ := h
  refine sb_env (Γ' := [.val ((dF D.int) script_0), .val (D.int k_0), .val ((dL D.int) bounds_0), .no, .no, .no, .no, .no, .no]) ?_
  show SB _ _ _ (endR (dL D.int) (m_law_numbers script_0 k_0 bounds_0))
  unfold m_law_numbers
  obtain ⟨hp1, hp2, hp3, hp4, hp5⟩ := id hpre
  have lnbounds_0 : LnC bounds_0 1000 := ⟨by omega⟩
  have bk : BdC k_0 10 := bdc_rng (N := 1000) hpre.1 hpre.2.1 (by decide)
  refine m_set 3 D.bl (ev_or (ev_cmp (ev_var 0 rfl) (ev_new (en_lst ea_nil)) (opd_eqNil hr D.int rfl (OkT.ok (okT_F okT_int) (by decide) script_0))) (fun h => (ev_one (ev_cmp (ev_bin (ev_ixL (ev_var 0 rfl) rfl ev_int (atI_getD (xs := script_0) (0 : Int) D.int (by walk_at "ix") (by walk_at "ix"))) ev_int (opd_mod (by first | omega | (walk_at "norm"; omega)))) ev_int opd_eqI)))) rfl (fun free_1 hfree_1 => sb_env (Γ' := [.val ((dF D.int) script_0), .val (D.int k_0), .val ((dL D.int) bounds_0), .val (D.bl free_1), .no, .no, .no, .no, .no]) ?_) sc_law_numbers.nd
  try (have bfree_1 := bdc_eq hfree_1; conv at bfree_1 => { arg 2; whnf })
  refine m_set 4 D.int ev_int rfl (fun number_1 hnumber_1 => sb_env (Γ' := [.val ((dF D.int) script_0), .val (D.int k_0), .val ((dL D.int) bounds_0), .val (D.bl free_1), .val (D.int number_1), .no, .no, .no, .no]) ?_) sc_law_numbers.nd
  try (have bnumber_1 := bdc_eq hnumber_1; conv at bnumber_1 => { arg 2; whnf })
  try (have pnumber_1 := posc_eq hnumber_1)
  refine m_set 5 D.int (ev_bin (ev_var 1 rfl) (ev_var 1 rfl) (opd_mulX (by walk_at "bdm"))) rfl (fun seed_1 hseed_1 => sb_env (Γ' := [.val ((dF D.int) script_0), .val (D.int k_0), .val ((dL D.int) bounds_0), .val (D.bl free_1), .val (D.int number_1), .val (D.int seed_1), .no, .no, .no]) ?_) sc_law_numbers.nd
  try (have bseed_1 := bdc_eq hseed_1; conv at bseed_1 => { arg 2; whnf })
  try (have pseed_1 := posc_eq hseed_1)
  refine m_join (fun (s_1 : Int) => [.val ((dF D.int) script_0), .val (D.int k_0), .val ((dL D.int) bounds_0), .val (D.bl free_1), .val (D.int s_1), .val (D.int seed_1), .no, .no, .no]) (et_cmp (ev_var 1 rfl) (ev_is (ev_callB (cd_len rfl) (ea_cons (ev_var 0 rfl) ea_nil) z_len) (by walk_at "ln")) opd_lt) (fun hc_1 => ?_) (fun hc_1 => ?_) (fun s_1 hs_1 => ?_)
  · refine m_set 4 D.int (ev_ixL (ev_var 0 rfl) rfl (ev_var 1 rfl) (atI_getD (xs := script_0) (0 : Int) D.int (by walk_at "ix") (by walk_at "ix"))) rfl (fun number_2 hnumber_2 => sb_env (Γ' := [.val ((dF D.int) script_0), .val (D.int k_0), .val ((dL D.int) bounds_0), .val (D.bl free_1), .val (D.int number_2), .val (D.int seed_1), .no, .no, .no]) ?_) sc_law_numbers.nd
    try (have bnumber_2 := bdc_eq hnumber_2; conv at bnumber_2 => { arg 2; whnf })
    try (have pnumber_2 := posc_eq hnumber_2)
    exact m_st (wk_s (wk_s (wk_s (wk_s (wk_s (wk_s (wk_n (wk_n (wk_n wk_0)))))))))
  · exact m_st (wk_s (wk_s (wk_s (wk_s (wk_s (wk_s (wk_n (wk_n (wk_n wk_0)))))))))
  try (have bs_1 := bdc_eq hs_1; conv at bs_1 => { arg 2; whnf })
  try (have ps_1 := posc_eq hs_1)
  refine m_join (fun (s_2 : Int) => [.val ((dF D.int) script_0), .val (D.int k_0), .val ((dL D.int) bounds_0), .val (D.bl free_1), .val (D.int s_1), .val (D.int s_2), .no, .no, .no]) (et_cmp (ev_var 0 rfl) (ev_new (en_lst ea_nil)) (opd_neNil hr D.int rfl (OkT.ok (okT_F okT_int) (by decide) script_0))) (fun hc_2 => ?_) (fun hc_2 => ?_) (fun s_2 hs_2 => ?_)
  · refine m_set 5 D.int (ev_ixL (ev_var 0 rfl) rfl (ev_bin (ev_var 1 rfl) (ev_is (ev_callB (cd_len rfl) (ea_cons (ev_var 0 rfl) ea_nil) z_len) (by walk_at "ln")) (opd_mod (by first | omega | (walk_at "norm"; omega)))) (atI_getD (xs := script_0) (0 : Int) D.int (by walk_at "norm"; first | exact Int.emod_nonneg _ (by omega) | exact Int.emod_lt_of_pos _ (by omega)) (by walk_at "norm"; first | exact Int.emod_nonneg _ (by omega) | exact Int.emod_lt_of_pos _ (by omega)))) rfl (fun seed_2 hseed_2 => sb_env (Γ' := [.val ((dF D.int) script_0), .val (D.int k_0), .val ((dL D.int) bounds_0), .val (D.bl free_1), .val (D.int s_1), .val (D.int seed_2), .no, .no, .no]) ?_) sc_law_numbers.nd
    try (have bseed_2 := bdc_eq hseed_2; conv at bseed_2 => { arg 2; whnf })
    try (have pseed_2 := posc_eq hseed_2)
    exact m_st (wk_s (wk_s (wk_s (wk_s (wk_s (wk_s (wk_n (wk_n (wk_n wk_0)))))))))
  · exact m_st (wk_s (wk_s (wk_s (wk_s (wk_s (wk_s (wk_n (wk_n (wk_n wk_0)))))))))
  try (have bs_2 := bdc_eq hs_2; conv at bs_2 => { arg 2; whnf })
  try (have ps_2 := posc_eq hs_2)
  refine m_own 6 D.int (en_lst ea_nil) rfl (fun qfound_1 found_1 hfound_1 => sb_env (Γ' := [.val ((dF D.int) script_0), .val (D.int k_0), .val ((dL D.int) bounds_0), .val (D.bl free_1), .val (D.int s_1), .val (D.int s_2), .own qfound_1 (List.map D.int found_1), .no, .no]) ?_) sc_law_numbers.nd
  first | (have bfound_1 := bdc_eq hfound_1; conv at bfound_1 => { arg 2; whnf }) | (have bfound_1 := bdc_mapE hfound_1 (fun x_ hx_ => (haveI := bdc_mem hx_; inferInstance)); conv at bfound_1 => { arg 2; whnf }) | (have bfound_1 := bdc_mapE hfound_1 (fun x_ hx_ => (haveI := bdc_mem hx_; inferInstance)); conv at bfound_1 => { arg 2; whnf }) | skip
  try (have lfound_1 := posl_eq hfound_1)
  try (have nfound_1 := lnc_eq hfound_1)
  refine m_for (g := (dEn D.int)) (fun (s_3 : (Int × Int × (List Int))) => [.val ((dF D.int) script_0), .val (D.int k_0), .val ((dL D.int) bounds_0), .val (D.bl free_1), .val (D.int s_3.1), .val (D.int s_3.2.1), .own qfound_1 (List.map D.int s_3.2.2), .no, .no]) (fun ij_1 s_3 => (s_3.2.2.length ≤ ij_1)) (iv_enumm D.int (ev_var 2 rfl) rfl z_enumerate) (wk_s (wk_s (wk_s (wk_s (wk_s (wk_s (wk_s (wk_n (wk_n wk_0))))))))) (by subst hfound_1; exact Nat.le_refl _) (fun ij_1 s_3 j_1 hIj_1 hxj_1 => ⟨[.val ((dF D.int) script_0), .val (D.int k_0), .val ((dL D.int) bounds_0), .val (D.bl free_1), .val (D.int s_3.1), .val (D.int s_3.2.1), .own qfound_1 (List.map D.int s_3.2.2), .val (D.int ((j_1.2 : Nat) : Int)), .val (D.int j_1.1)], _, (bg_tup (bgs_cons (bg_name 7 sc_law_numbers.nd) (bgs_cons (bg_name 8 sc_law_numbers.nd) bgs_nil)) rfl), ?_⟩) (fun s_3 ij_1 hij_1 hIj_1 => ?_) hp rfl
  · try (have hjj_1 := get_lt hxj_1 (ln_le (m := 1000) (by decide)))
    first | (have hqj_1 := zip_lt hxj_1 (ln_le (m := 100) (by decide))) | (have hqj_1 := zip_lt hxj_1 (ln_le (m := 1000) (by decide))) | skip
    try (have bj_12 : BdC ((j_1.2 : Nat) : Int) 10 := bdc_rng (N := 1000) (by omega) (by omega) (by decide))
    try have bj_1 := bdc_atI hxj_1
    have hm := zip_mem (List.mem_of_getElem? hxj_1)
    have hb := hpre.2.2.2.2 _ hm.1
    have bj : BdC ((j_1.2 : Nat) : Int) 10 := bdc_rng (N := 1000) (by omega) (by have := hpre.2.2.2.1; omega) (by decide)
    have hl := (List.getElem?_eq_some_iff.mp hxj_1).1
    rw [List.length_zipIdx] at hl
    refine m_join (fun (s_4 : ((List Int) × Int × Int)) => [.val ((dF D.int) script_0), .val (D.int k_0), .val ((dL D.int) bounds_0), .val (D.bl free_1), .val (D.int s_4.2.1), .val (D.int s_4.2.2), .own qfound_1 (List.map D.int s_4.1), .val (D.int ((j_1.2 : Nat) : Int)), .val (D.int j_1.1)]) (et_bool (eb_and (et_of (ev_var 3 rfl)) (fun h => (eb_and1 (et_cmp (ev_var 4 rfl) ev_int opd_gt))))) (fun hc_3 => ?_) (fun hc_3 => ?_) (fun s_4 hs_4 => ?_)
    · refine m_app 6 D.int (xs := s_3.2.2) (ev_bin (ev_var 4 rfl) (ev_var 8 rfl) (opd_mod (by first | omega | (walk_at "norm"; omega)))) rfl (by omega) (fun found_2 hfound_2 => sb_env (Γ' := [.val ((dF D.int) script_0), .val (D.int k_0), .val ((dL D.int) bounds_0), .val (D.bl free_1), .val (D.int s_3.1), .val (D.int s_3.2.1), .own qfound_1 (List.map D.int found_2), .val (D.int ((j_1.2 : Nat) : Int)), .val (D.int j_1.1)]) ?_)
      first | (have bfound_2 := bdc_eq hfound_2; conv at bfound_2 => { arg 2; whnf }) | (have bfound_2 := bdc_mapE hfound_2 (fun x_ hx_ => (haveI := bdc_mem hx_; inferInstance)); conv at bfound_2 => { arg 2; whnf }) | (have bfound_2 := bdc_mapE hfound_2 (fun x_ hx_ => (haveI := bdc_mem hx_; inferInstance)); conv at bfound_2 => { arg 2; whnf }) | skip
      try (have lfound_2 := posl_eq hfound_2)
      try (have nfound_2 := lnc_eq hfound_2)
      refine m_set 4 D.int (ev_bin (ev_var 4 rfl) (ev_var 8 rfl) (opd_div (by first | (exact cdiv hb.1 hb.2 (by decide)) | walk_at "bd"))) rfl (fun number_3 hnumber_3 => sb_env (Γ' := [.val ((dF D.int) script_0), .val (D.int k_0), .val ((dL D.int) bounds_0), .val (D.bl free_1), .val (D.int number_3), .val (D.int s_3.2.1), .own qfound_1 (List.map D.int found_2), .val (D.int ((j_1.2 : Nat) : Int)), .val (D.int j_1.1)]) ?_) sc_law_numbers.nd
      try (have bnumber_3 := bdc_eq hnumber_3; conv at bnumber_3 => { arg 2; whnf })
      try (have pnumber_3 := posc_eq hnumber_3)
      exact m_st (wk_s (wk_s (wk_s (wk_s (wk_s (wk_s (wk_s (wk_s (wk_s wk_0)))))))))
    · refine m_set 5 D.int (ev_bin (ev_bin (ev_bin (ev_var 5 rfl) ev_int (opd_mod (by first | omega | (walk_at "norm"; omega)))) (ev_bin (ev_bin ev_int (ev_var 7 rfl) (opd_mulX (by walk_at "bdm"))) (ev_var 7 rfl) (opd_mulX (by walk_at "bdm"))) opd_add) (ev_bin (ev_bin ev_int (ev_var 1 rfl) (opd_mulX (by walk_at "bdm"))) (ev_var 1 rfl) (opd_mulX (by walk_at "bdm"))) opd_add) rfl (fun seed_3 hseed_3 => sb_env (Γ' := [.val ((dF D.int) script_0), .val (D.int k_0), .val ((dL D.int) bounds_0), .val (D.bl free_1), .val (D.int s_3.1), .val (D.int seed_3), .own qfound_1 (List.map D.int s_3.2.2), .val (D.int ((j_1.2 : Nat) : Int)), .val (D.int j_1.1)]) ?_) sc_law_numbers.nd
      try (have bseed_3 := bdc_eq hseed_3; conv at bseed_3 => { arg 2; whnf })
      try (have pseed_3 := posc_eq hseed_3)
      refine m_set 5 D.int (ev_bin (ev_bin (ev_bin (ev_var 5 rfl) ev_int opd_add) ev_int (opd_mulX (by walk_at "bdm"))) ev_int (opd_mod (by first | omega | (walk_at "norm"; omega)))) rfl (fun seed_4 hseed_4 => sb_env (Γ' := [.val ((dF D.int) script_0), .val (D.int k_0), .val ((dL D.int) bounds_0), .val (D.bl free_1), .val (D.int s_3.1), .val (D.int seed_4), .own qfound_1 (List.map D.int s_3.2.2), .val (D.int ((j_1.2 : Nat) : Int)), .val (D.int j_1.1)]) ?_) sc_law_numbers.nd
      try (have bseed_4 := bdc_eq hseed_4; conv at bseed_4 => { arg 2; whnf })
      try (have pseed_4 := posc_eq hseed_4)
      refine m_set 5 D.int (ev_bin (ev_bin (ev_var 5 rfl) (ev_var 5 rfl) (opd_mulX (by walk_at "bdm"))) ev_int (opd_mod (by first | omega | (walk_at "norm"; omega)))) rfl (fun seed_5 hseed_5 => sb_env (Γ' := [.val ((dF D.int) script_0), .val (D.int k_0), .val ((dL D.int) bounds_0), .val (D.bl free_1), .val (D.int s_3.1), .val (D.int seed_5), .own qfound_1 (List.map D.int s_3.2.2), .val (D.int ((j_1.2 : Nat) : Int)), .val (D.int j_1.1)]) ?_) sc_law_numbers.nd
      try (have bseed_5 := bdc_eq hseed_5; conv at bseed_5 => { arg 2; whnf })
      try (have pseed_5 := posc_eq hseed_5)
      refine m_app 6 D.int (xs := s_3.2.2) (ev_bin (ev_bin (ev_bin (ev_bin (ev_bin (ev_var 5 rfl) (ev_bin (ev_var 5 rfl) ev_int opd_add) (opd_mulX (by walk_at "bdm"))) ev_int (opd_mulX (by walk_at "bdm"))) (ev_bin (ev_bin (ev_var 5 rfl) (ev_var 1 rfl) opd_add) ev_int opd_add) (opd_mulX (by walk_at "bdm"))) ev_int (opd_div (by first | (exact cdiv hb.1 hb.2 (by decide)) | walk_at "bd"))) (ev_var 8 rfl) (opd_mod (by first | omega | (walk_at "norm"; omega)))) rfl (by omega) (fun found_3 hfound_3 => sb_env (Γ' := [.val ((dF D.int) script_0), .val (D.int k_0), .val ((dL D.int) bounds_0), .val (D.bl free_1), .val (D.int s_3.1), .val (D.int seed_5), .own qfound_1 (List.map D.int found_3), .val (D.int ((j_1.2 : Nat) : Int)), .val (D.int j_1.1)]) ?_)
      first | (have bfound_3 := bdc_eq hfound_3; conv at bfound_3 => { arg 2; whnf }) | (have bfound_3 := bdc_mapE hfound_3 (fun x_ hx_ => (haveI := bdc_mem hx_; inferInstance)); conv at bfound_3 => { arg 2; whnf }) | (have bfound_3 := bdc_mapE hfound_3 (fun x_ hx_ => (haveI := bdc_mem hx_; inferInstance)); conv at bfound_3 => { arg 2; whnf }) | skip
      try (have lfound_3 := posl_eq hfound_3)
      try (have nfound_3 := lnc_eq hfound_3)
      exact m_st (wk_s (wk_s (wk_s (wk_s (wk_s (wk_s (wk_s (wk_s (wk_s wk_0)))))))))
    try (have bs_4 := bdc_eq hs_4; conv at bs_4 => { arg 2; whnf })
    try (have ns_4_0 := lnc_eq (show s_4.1 = _ from congrArg (fun z_ => z_.1) hs_4))
    exact m_go (wk_s (wk_s (wk_s (wk_s (wk_s (wk_s (wk_s (wk_n (wk_n wk_0))))))))) (by subst hs_4; simp only [br_eq, lt_eq]; split <;> (simp only [List.length_append, List.length_cons, List.length_nil]; omega))
  refine m_freeze 6 (sb_env (Γ' := [.val ((dF D.int) script_0), .val (D.int k_0), .val ((dL D.int) bounds_0), .val (D.bl free_1), .val (D.int s_3.1), .val (D.int s_3.2.1), .val ((dL D.int) s_3.2.2), .no, .no]) ?_)
  exact m_retQ (dL D.int) s_3.2.2 (ev_var 6 rfl) rfl
theorem m_law_numbers_len (script : List Int) (k : Int) (bounds : List Int) : (m_law_numbers script k bounds).length = bounds.length := by
  unfold m_law_numbers
  simp only [lt_eq]
  refine (fin_grow (fun s => s.2.2.length) List.length (fun _ => rfl) (fun s x => ⟨_, rfl, ?_⟩) _ _).trans ?_
  · dsimp only
    simp only [br_eq]
    split <;> simp
  · simp
theorem m_law_numbers_lt {script : List Int} {k : Int} {bounds : List Int} (hb : ∀ b ∈ bounds, 0 < b) (j : Nat) (hj : j < bounds.length) : 0 ≤ (m_law_numbers script k bounds).getD j 0 ∧ (m_law_numbers script k bounds).getD j 0 < bounds.getD j 0 := by
  unfold m_law_numbers
  simp only [lt_eq]
  have main : ∀ L : List Int, (∃ ys : List Int, L = [] ++ ys ∧ ys.length = bounds.length ∧ ∀ j, j < bounds.length → 0 ≤ ys.getD j 0 ∧ ys.getD j 0 < bounds.getD j 0) → 0 ≤ L.getD j 0 ∧ L.getD j 0 < bounds.getD j 0 := fun L ⟨ys, e, _, h⟩ => by
    rw [e]
    exact h j hj
  refine main _ (numbers_fold (g := fun s : Int × Int × List Int => s.2.2) (fun _ => rfl) (fun s b hb => ?_) bounds 0 _ hb)
  simp only [br_eq]
  split
  · exact ⟨_, _, rfl, rfl⟩
  · exact ⟨_, _, rfl, rfl⟩
instance bzo_m_law_numbers (script_0 : (List Int)) (k_0 : Int) (bounds_0 : (List Int)) {n : Nat} [PosL bounds_0] [BdC bounds_0 n] : BdC (m_law_numbers script_0 k_0 bounds_0) n := by
  refine ⟨?_⟩
  unfold m_law_numbers
  simp only [lt_eq]
  refine fin_rule (R := fun l => Bd n l) (fun s => Bd n s.2.2) (bd_nil.mono (Nat.zero_le _)) (fun x hx s hs => ?_) (fun s hs => hs)
  have hb := zip_mem hx
  have h1 : Bd n x.1 := BdC.h (x := bounds_0) _ hb.1
  show Bd n (br _ _ _ : List Int × Int × Int).1
  have hm : ∀ y : Int, Bd n (y % x.1) := fun y => bd_mod h1 (PosL.h _ hb.1)
  simp only [br_eq]
  split
  · exact (bd_app hs (bd_cons (hm _) bd_nil)).mono (by omega)
  · exact (bd_app hs (bd_cons (hm _) bd_nil)).mono (by omega)
/-! ### law_sized -/
def m_law_sized (way_0 : Int) (raw_0 : Int) : Int :=
  br (decide (way_0 = (0 : Int)))
  (((raw_0 % (25 : Int)) - (12 : Int)))
  (br (decide (way_0 = (1 : Int)))
  (((raw_0 % (2001 : Int)) - (1000 : Int)))
  (br (decide (way_0 = (2 : Int)))
  (((raw_0 % (((2 : Int) * ((10 : Int) ^ 9)) + (1 : Int))) - ((10 : Int) ^ 9)))
  ((List.getD [(raw_0 % ((10 : Int) ^ 40)), ((0 : Int) - (raw_0 % ((10 : Int) ^ 40)))] (Int.toNat ((raw_0 / ((10 : Int) ^ 40)) % (2 : Int))) (0 : Int)))))
def C_law_sized : Ct := fun ds o => ∃ (way_0 : Int) (raw_0 : Int), ds = [D.int way_0, D.int raw_0] ∧ (True) ∧ o = .ret (D.int (m_law_sized way_0 raw_0))
theorem c_law_sized (way_0 : Int) (raw_0 : Int) (h : True) : C_law_sized [D.int way_0, D.int raw_0] (.ret (D.int (m_law_sized way_0 raw_0))) := ⟨_, _, rfl, h, rfl⟩
theorem sc_law_sized : FnScope ["way", "raw"] ["way", "raw"] (defScope (topS 11)) := ⟨rfl, rfl, rfl, by decide +kernel, rfl, by decide +kernel, by decide +kernel⟩
theorem ok_law_sized (hF : HasF K mg "_law_sized" ["way", "raw"] (topS 11)) : FnC P w K mg base 1 "_law_sized" ["way", "raw"] C_law_sized := by
  refine fn_okD hF sc_law_sized (fun ds o h => by obtain ⟨_, _, rfl, _⟩ := h; rfl) (fun f cdv A outer s H E hr hp ds o h => ?_)
  obtain ⟨way_0, raw_0, rfl, hpre, rfl⟩ := h
  refine sb_env (Γ' := [.val (D.int way_0), .val (D.int raw_0)]) ?_
  show SB _ _ _ (endR D.int (m_law_sized way_0 raw_0))
  unfold m_law_sized
  refine m_brT (et_cmp (ev_var 0 rfl) ev_int opd_eqI) (fun hc_1 => ?_) (fun hc_1 => ?_)
  · exact m_retQ D.int ((raw_0 % (25 : Int)) - (12 : Int)) (ev_bin (ev_bin (ev_var 1 rfl) ev_int (opd_mod (by walk_at "ps"))) ev_int opd_sub) rfl
  · refine m_brT (et_cmp (ev_var 0 rfl) ev_int opd_eqI) (fun hc_2 => ?_) (fun hc_2 => ?_)
    · exact m_retQ D.int ((raw_0 % (2001 : Int)) - (1000 : Int)) (ev_bin (ev_bin (ev_var 1 rfl) ev_int (opd_mod (by walk_at "ps"))) ev_int opd_sub) rfl
    · refine m_brT (et_cmp (ev_var 0 rfl) ev_int opd_eqI) (fun hc_3 => ?_) (fun hc_3 => ?_)
      · exact m_retQ D.int ((raw_0 % (((2 : Int) * ((10 : Int) ^ 9)) + (1 : Int))) - ((10 : Int) ^ 9)) (ev_bin (ev_bin (ev_var 1 rfl) (ev_bin (ev_bin ev_int (ev_bin ev_int ev_int (opd_powN 9 rfl (by walk_at "pw"))) (opd_mulX (by walk_at "bdm"))) ev_int opd_add) (opd_mod (by walk_at "ps"))) (ev_bin ev_int ev_int (opd_powN 9 rfl (by walk_at "pw"))) opd_sub) rfl
      · exact m_retQ D.int (List.getD [(raw_0 % ((10 : Int) ^ 40)), ((0 : Int) - (raw_0 % ((10 : Int) ^ 40)))] (Int.toNat ((raw_0 / ((10 : Int) ^ 40)) % (2 : Int))) (0 : Int)) (ev_ixL (ev_new (en_lst (ea_cons (ev_bin (ev_var 1 rfl) (ev_bin ev_int ev_int (opd_powN 40 rfl (by walk_at "pw"))) (opd_mod (by walk_at "ps"))) (ea_cons (ev_bin ev_int (ev_bin (ev_var 1 rfl) (ev_bin ev_int ev_int (opd_powN 40 rfl (by walk_at "pw"))) (opd_mod (by walk_at "ps"))) opd_sub) ea_nil)))) rfl (ev_bin (ev_bin (ev_var 1 rfl) (ev_bin ev_int ev_int (opd_powN 40 rfl (by walk_at "pw"))) (opd_div (by walk_at "bd"))) ev_int (opd_mod (by walk_at "ps"))) (atI_getD (xs := [(raw_0 % ((10 : Int) ^ 40)), ((0 : Int) - (raw_0 % ((10 : Int) ^ 40)))]) (0 : Int) D.int (by walk_at "ix") (by walk_at "ix"))) rfl
theorem m_law_sized_sm (way raw : Int) : Sm 140 (m_law_sized way raw) := by
  have h1 : ∀ x : Int, -(10 ^ 41) < x → x < 10 ^ 41 → Sm 140 x := fun x a b => by unfold Sm; omega
  unfold m_law_sized
  simp only [br_eq]
  split
  · exact h1 _ (by omega) (by omega)
  split
  · exact h1 _ (by omega) (by omega)
  split
  · exact h1 _ (by omega) (by omega)
  have hm : ∀ (a b : Int) (n : Nat), Sm 140 a → Sm 140 b → Sm 140 (List.getD [a, b] n 0) := fun a b n ha hb => by
    match n with
    | 0 => exact ha
    | 1 => exact hb
    | n + 2 =>
      show Sm 140 (0 : Int)
      exact Sm.lit (by decide)
  exact hm _ _ _ (h1 _ (by omega) (by omega)) (h1 _ (by omega) (by omega))
instance bzo_m_law_sized (way_0 : Int) (raw_0 : Int)  : BdC (m_law_sized way_0 raw_0) 140 := by
  exact bdc_sm (m_law_sized_sm _ _)
/-! ### law_triple -/
def m_law_triple (script_0 : (List Int)) (k_0 : Int) : (Int × Int × Int) :=
  lt ((m_law_numbers script_0 k_0 [((10 : Int) ^ 41), ((10 : Int) ^ 41), ((10 : Int) ^ 41), (64 : Int)]) : (List Int)) fun t_1 =>
  ((m_law_sized ((List.getD t_1 3 (0 : Int)) % (4 : Int)) (List.getD t_1 0 (0 : Int))), (m_law_sized (((List.getD t_1 3 (0 : Int)) / (4 : Int)) % (4 : Int)) (List.getD t_1 1 (0 : Int))), (m_law_sized ((List.getD t_1 3 (0 : Int)) / (16 : Int)) (List.getD t_1 2 (0 : Int))))
def C_law_triple : Ct := fun ds o => ∃ (script_0 : (List Int)) (k_0 : Int), ds = [(dF D.int) script_0, D.int k_0] ∧ (0 ≤ k_0 ∧ k_0 < 1000 ∧ script_0.length < 1000) ∧ o = .ret ((d3 D.int D.int D.int) (m_law_triple script_0 k_0))
theorem c_law_triple (script_0 : (List Int)) (k_0 : Int) (h : 0 ≤ k_0 ∧ k_0 < 1000 ∧ script_0.length < 1000) : C_law_triple [(dF D.int) script_0, D.int k_0] (.ret ((d3 D.int D.int D.int) (m_law_triple script_0 k_0))) := ⟨_, _, rfl, h, rfl⟩
theorem sc_law_triple : FnScope ["script", "k", "a", "b", "c", "way"] ["script", "k"] (defScope (topS 12)) := ⟨rfl, rfl, rfl, by decide +kernel, rfl, by decide +kernel, by decide +kernel⟩
theorem ok_law_triple (hF : HasF K mg "_law_triple" ["script", "k"] (topS 12)) (F_law_numbers : FnC P w K mg base 1 "_law_numbers" ["script", "k", "bounds"] C_law_numbers) (F_law_sized : FnC P w K mg base 1 "_law_sized" ["way", "raw"] C_law_sized) : FnC P w K mg base 2 "_law_triple" ["script", "k"] C_law_triple := by
  refine fn_okD hF sc_law_triple (fun ds o h => by obtain ⟨_, _, rfl, _⟩ := h; rfl) (fun f cdv A outer s H E hr hp ds o h => ?_)
  obtain ⟨script_0, k_0, rfl, hpre, rfl⟩ := h
  refine sb_env (Γ' := [.val ((dF D.int) script_0), .val (D.int k_0), .no, .no, .no, .no]) ?_
  show SB _ _ _ (endR (d3 D.int D.int D.int) (m_law_triple script_0 k_0))
  unfold m_law_triple
  obtain ⟨hp1, hp2, hp3⟩ := id hpre
  refine m_asg (dL D.int) (fun t_1 => [.val ((dF D.int) script_0), .val (D.int k_0), .val (D.int (List.getD t_1 0 (0 : Int))), .val (D.int (List.getD t_1 1 (0 : Int))), .val (D.int (List.getD t_1 2 (0 : Int))), .val (D.int (List.getD t_1 3 (0 : Int)))]) (ev_call F_law_numbers hr (ea_cons (ev_var 0 rfl) (ea_cons (ev_var 1 rfl) (ea_cons (ev_new (en_lst (ea_cons (ev_bin ev_int ev_int (opd_powN 41 rfl (by walk_at "pw"))) (ea_cons (ev_bin ev_int ev_int (opd_powN 41 rfl (by walk_at "pw"))) (ea_cons (ev_bin ev_int ev_int (opd_powN 41 rfl (by walk_at "pw"))) (ea_cons ev_int ea_nil)))))) ea_nil))) (c_law_numbers script_0 k_0 [((10 : Int) ^ 41), ((10 : Int) ^ 41), ((10 : Int) ^ 41), (64 : Int)] ⟨hpre.1, hpre.2.1, hpre.2.2, by decide, by intro b hb; simp at hb; rcases hb with rfl | rfl <;> exact ⟨by decide, (Sm.lit (by decide)).mono (by decide)⟩⟩)) rfl (fun t_1 ht_1 => (bg_lstN (0 : Int) (bgs_cons (bg_name 2 sc_law_triple.nd) (bgs_cons (bg_name 3 sc_law_triple.nd) (bgs_cons (bg_name 4 sc_law_triple.nd) (bgs_cons (bg_name 5 sc_law_triple.nd) bgs_nil)))) (by rw [ht_1, m_law_numbers_len]; rfl) rfl)) (fun t_1 ht_1 => ?_)
  first | (have bt_1 := bdc_eq ht_1; conv at bt_1 => { arg 2; whnf }) | (have bt_1 := bdc_mapE ht_1 (fun x_ hx_ => (haveI := bdc_mem hx_; inferInstance)); conv at bt_1 => { arg 2; whnf }) | (have bt_1 := bdc_mapE ht_1 (fun x_ hx_ => (haveI := bdc_mem hx_; inferInstance)); conv at bt_1 => { arg 2; whnf }) | skip
  try (have lt_1 := posl_eq ht_1)
  try (have nt_1 := lnc_eq ht_1)
  exact m_retQ (d3 D.int D.int D.int) ((m_law_sized ((List.getD t_1 3 (0 : Int)) % (4 : Int)) (List.getD t_1 0 (0 : Int))), (m_law_sized (((List.getD t_1 3 (0 : Int)) / (4 : Int)) % (4 : Int)) (List.getD t_1 1 (0 : Int))), (m_law_sized ((List.getD t_1 3 (0 : Int)) / (16 : Int)) (List.getD t_1 2 (0 : Int)))) (ev_tup (ea_cons (ev_call F_law_sized hr (ea_cons (ev_bin (ev_var 5 rfl) ev_int (opd_mod (by walk_at "ps"))) (ea_cons (ev_var 2 rfl) ea_nil)) (c_law_sized ((List.getD t_1 3 (0 : Int)) % (4 : Int)) (List.getD t_1 0 (0 : Int)) trivial)) (ea_cons (ev_call F_law_sized hr (ea_cons (ev_bin (ev_bin (ev_var 5 rfl) ev_int (opd_div (by walk_at "bd"))) ev_int (opd_mod (by walk_at "ps"))) (ea_cons (ev_var 3 rfl) ea_nil)) (c_law_sized (((List.getD t_1 3 (0 : Int)) / (4 : Int)) % (4 : Int)) (List.getD t_1 1 (0 : Int)) trivial)) (ea_cons (ev_call F_law_sized hr (ea_cons (ev_bin (ev_var 5 rfl) ev_int (opd_div (by walk_at "bd"))) (ea_cons (ev_var 4 rfl) ea_nil)) (c_law_sized ((List.getD t_1 3 (0 : Int)) / (16 : Int)) (List.getD t_1 2 (0 : Int)) trivial)) ea_nil)))) rfl
instance bzo_m_law_triple (script_0 : (List Int)) (k_0 : Int)  : BdC (m_law_triple script_0 k_0) 140 := by
  unfold m_law_triple
  walk_at "bdr"
/-! ### dot_of -/
def m_dot_of (one_0 : (Int × Int × Int)) (other_0 : (Int × Int × Int)) : Int :=
  (((one_0.1 * other_0.1) + (one_0.2.1 * other_0.2.1)) + (one_0.2.2 * other_0.2.2))
def C_dot_of : Ct := fun ds o => ∃ (one_0 : (Int × Int × Int)) (other_0 : (Int × Int × Int)), ds = [(d3 D.int D.int D.int) one_0, (d3 D.int D.int D.int) other_0] ∧ (BdC one_0 4000 ∧ BdC other_0 4000) ∧ o = .ret (D.int (m_dot_of one_0 other_0))
theorem c_dot_of (one_0 : (Int × Int × Int)) (other_0 : (Int × Int × Int)) (h : BdC one_0 4000 ∧ BdC other_0 4000) : C_dot_of [(d3 D.int D.int D.int) one_0, (d3 D.int D.int D.int) other_0] (.ret (D.int (m_dot_of one_0 other_0))) := ⟨_, _, rfl, h, rfl⟩
theorem sc_dot_of : FnScope ["one", "other"] ["one", "other"] (defScope (topS 7)) := ⟨rfl, rfl, rfl, by decide +kernel, rfl, by decide +kernel, by decide +kernel⟩
theorem ok_dot_of (hF : HasF K mg "dot_of" ["one", "other"] (topS 7)) : FnC P w K mg base 1 "dot_of" ["one", "other"] C_dot_of := by
  refine fn_okD hF sc_dot_of (fun ds o h => by obtain ⟨_, _, rfl, _⟩ := h; rfl) (fun f cdv A outer s H E hr hp ds o h => ?_)
  obtain ⟨one_0, other_0, rfl, hpre, rfl⟩ := h
  refine sb_env (Γ' := [.val ((d3 D.int D.int D.int) one_0), .val ((d3 D.int D.int D.int) other_0)]) ?_
  show SB _ _ _ (endR D.int (m_dot_of one_0 other_0))
  unfold m_dot_of
  obtain ⟨hp1, hp2⟩ := id hpre
  exact m_retQ D.int (((one_0.1 * other_0.1) + (one_0.2.1 * other_0.2.1)) + (one_0.2.2 * other_0.2.2)) (ev_bin (ev_bin (ev_bin (ev_ixT (ev_var 0 rfl) ev_int rfl) (ev_ixT (ev_var 1 rfl) ev_int rfl) (opd_mulX (by walk_at "bdm"))) (ev_bin (ev_ixT (ev_var 0 rfl) ev_int rfl) (ev_ixT (ev_var 1 rfl) ev_int rfl) (opd_mulX (by walk_at "bdm"))) opd_add) (ev_bin (ev_ixT (ev_var 0 rfl) ev_int rfl) (ev_ixT (ev_var 1 rfl) ev_int rfl) (opd_mulX (by walk_at "bdm"))) opd_add) rfl
instance bzo_m_dot_of (one_0 : (Int × Int × Int)) (other_0 : (Int × Int × Int)) {n m : Nat} [BdC one_0 n] [BdC other_0 m] : BdC (m_dot_of one_0 other_0) (n + m + 2) := by
  unfold m_dot_of
  exact bdc_mono (by walk_at "om")
/-! ### law_thing -/
def m_law_thing (triple_0 : (Int × Int × Int)) (cell_0 : Int) : D :=
  lt ((cell_0 % (3 : Int)) : Int) fun at_1 =>
  lt ((List.getD [(D.bl true), (D.bl false), (dN ()), (D.str (Str.ofString "7")), ((dL D.int) [(7 : Int)]), ((d3 D.int D.int D.int) ((7 : Int), (7 : Int), (7 : Int)))] (Int.toNat ((cell_0 / (3 : Int)) % (6 : Int))) D.non) : D) fun odd_1 =>
  lt ([((dL D.int) [triple_0.1, triple_0.2.1, triple_0.2.2]), ((d2 D.int D.int) (triple_0.1, triple_0.2.1)), ((d4 D.int D.int D.int D.int) (triple_0.1, triple_0.2.1, triple_0.2.2, (0 : Int))), ((dV dA) (((List.map D.int (cutD [triple_0.1, triple_0.2.1, triple_0.2.2] none (some at_1))) ++ [(dA odd_1)]) ++ (List.map D.int (cutD [triple_0.1, triple_0.2.1, triple_0.2.2] (some (at_1 + (1 : Int))) none)))), odd_1, ((d3 D.int D.int D.int) triple_0), ((d1 (d3 D.int D.int D.int)) triple_0), D.emp] : (List D)) fun some_1 =>
  (List.getD some_1 (Int.toNat ((cell_0 / (18 : Int)) % (8 : Int))) D.non)
def C_law_thing : Ct := fun ds o => ∃ (triple_0 : (Int × Int × Int)) (cell_0 : Int), ds = [(d3 D.int D.int D.int) triple_0, D.int cell_0] ∧ (True) ∧ o = .ret (dA (m_law_thing triple_0 cell_0))
theorem c_law_thing (triple_0 : (Int × Int × Int)) (cell_0 : Int) (h : True) : C_law_thing [(d3 D.int D.int D.int) triple_0, D.int cell_0] (.ret (dA (m_law_thing triple_0 cell_0))) := ⟨_, _, rfl, h, rfl⟩
theorem sc_law_thing : FnScope ["triple", "cell", "at", "odd", "some"] ["triple", "cell"] (defScope (topS 15)) := ⟨rfl, rfl, rfl, by decide +kernel, rfl, by decide +kernel, by decide +kernel⟩
theorem ok_law_thing (hF : HasF K mg "_law_thing" ["triple", "cell"] (topS 15)) (z_list : mg "list" = none) : FnC P w K mg base 1 "_law_thing" ["triple", "cell"] C_law_thing := by
  refine fn_okD hF sc_law_thing (fun ds o h => by obtain ⟨_, _, rfl, _⟩ := h; rfl) (fun f cdv A outer s H E hr hp ds o h => ?_)
  obtain ⟨triple_0, cell_0, rfl, hpre, rfl⟩ := h
  refine sb_env (Γ' := [.val ((d3 D.int D.int D.int) triple_0), .val (D.int cell_0), .no, .no, .no]) ?_
  show SB _ _ _ (endR dA (m_law_thing triple_0 cell_0))
  unfold m_law_thing
  refine m_set 2 D.int (ev_bin (ev_var 1 rfl) ev_int (opd_mod (by walk_at "ps"))) rfl (fun at_1 hat_1 => sb_env (Γ' := [.val ((d3 D.int D.int D.int) triple_0), .val (D.int cell_0), .val (D.int at_1), .no, .no]) ?_) sc_law_thing.nd
  try (have bat_1 := bdc_eq hat_1; conv at bat_1 => { arg 2; whnf })
  try (have pat_1 := posc_eq hat_1)
  generalize hc_ : Const.none = c_
  refine m_set 3 dA (ev_ixL (ev_new (en_lst (ea_cons ev_bl (ea_cons ev_bl (ea_cons (hc_ ▸ ev_non) (ea_cons ev_str (ea_cons (ev_new (en_lst (ea_cons ev_int ea_nil))) (ea_cons (ev_tup (ea_cons ev_int (ea_cons ev_int (ea_cons ev_int ea_nil)))) ea_nil)))))))) rfl (ev_bin (ev_bin (ev_var 1 rfl) ev_int (opd_div (by walk_at "bd"))) ev_int (opd_mod (by walk_at "ps"))) (atI_getD (xs := [(D.bl true), (D.bl false), (dN ()), (D.str (Str.ofString "7")), ((dL D.int) [(7 : Int)]), ((d3 D.int D.int D.int) ((7 : Int), (7 : Int), (7 : Int)))]) D.non dA (by walk_at "ix") (by walk_at "ix"))) rfl (fun odd_1 hodd_1 => sb_env (Γ' := [.val ((d3 D.int D.int D.int) triple_0), .val (D.int cell_0), .val (D.int at_1), .val (dA odd_1), .no]) ?_) sc_law_thing.nd
  refine m_set 4 (dL dA) (ev_new (en_lst (ea_cons (ev_new (en_list (ev_var 0 rfl) rfl z_list)) (ea_cons (ev_sliceT (ev_var 0 rfl) eo_none (eo_some ev_int)) (ea_cons (ev_catT (ev_var 0 rfl) (ev_tup (ea_cons ev_int ea_nil)) (Nat.le_of_ble_eq_true rfl)) (ea_cons (ev_catV (ev_catV (ev_asV (ev_sliceVm (xs := [triple_0.1, triple_0.2.1, triple_0.2.2]) D.int (ev_var 0 rfl) eo_none (eo_some (ev_var 2 rfl)))) (ev_is (d' := dV dA [(dA odd_1)]) (ev_tup (ea_cons (ev_var 3 rfl) ea_nil)) (by rfl)) (len_map (cutV_le (Nat.le_refl 3))) (Nat.le_refl 1)) (ev_asV (ev_sliceVm (xs := [triple_0.1, triple_0.2.1, triple_0.2.2]) D.int (ev_var 0 rfl) (eo_some (ev_bin (ev_var 2 rfl) ev_int opd_add)) eo_none)) (len_cat (len_map (cutV_le (Nat.le_refl 3))) (Nat.le_refl 1)) (len_map (cutV_le (Nat.le_refl 3)))) (ea_cons (ev_var 3 rfl) (ea_cons (ev_var 0 rfl) (ea_cons (ev_tup (ea_cons (ev_var 0 rfl) ea_nil)) (ea_cons ev_emp ea_nil)))))))))) rfl (fun some_1 hsome_1 => sb_env (Γ' := [.val ((d3 D.int D.int D.int) triple_0), .val (D.int cell_0), .val (D.int at_1), .val (dA odd_1), .val ((dL dA) some_1)]) ?_) sc_law_thing.nd
  try (have nsome_1 := lnc_eq hsome_1)
  exact m_retQ dA (List.getD some_1 (Int.toNat ((cell_0 / (18 : Int)) % (8 : Int))) D.non) (ev_ixL (ev_var 4 rfl) rfl (ev_bin (ev_bin (ev_var 1 rfl) ev_int (opd_div (by walk_at "bd"))) ev_int (opd_mod (by walk_at "ps"))) (atI_getD (xs := some_1) D.non dA (by first | exact Int.emod_nonneg _ (by decide) | (subst hsome_1; simp only [List.length_cons, List.length_nil]; omega)) (by first | exact Int.emod_nonneg _ (by decide) | (subst hsome_1; simp only [List.length_cons, List.length_nil]; omega)))) rfl
theorem thing_odd (t : Int × Int × Int) (c : Int) : Odd (m_law_thing t c) := by
  unfold m_law_thing
  simp only [lt_eq]
  have ho : ∀ i : Nat, OkD 2 (List.getD [(D.bl true), (D.bl false), (dN ()), (D.str (Str.ofString "7")), ((dL D.int) [(7 : Int)]), ((d3 D.int D.int D.int) ((7 : Int), (7 : Int), (7 : Int)))] i D.non) := fun i => by
    refine okd_getD (fun y hy => ?_) okd_non
    simp only [List.mem_cons, List.not_mem_nil, or_false] at hy
    rcases hy with rfl | rfl | rfl | rfl | rfl | rfl
    · exact okd_bl
    · exact okd_bl
    · exact okd_non
    · exact okd_str (by decide +kernel)
    · exact ((okT_L okT_int).d _).mono (by decide)
    · exact ((okT_3 okT_int okT_int okT_int).d _).mono (by decide)
  have hod := ho (Int.toNat ((c / (3 : Int)) % (6 : Int)))
  generalize List.getD [(D.bl true), (D.bl false), (dN ()), (D.str (Str.ofString "7")), ((dL D.int) [(7 : Int)]), ((d3 D.int D.int D.int) ((7 : Int), (7 : Int), (7 : Int)))] (Int.toNat ((c / (3 : Int)) % (6 : Int))) D.non = odd at hod ⊢
  refine odd_getD (fun y hy => ?_) (.inr okd_non)
  simp only [List.mem_cons, List.not_mem_nil, or_false] at hy
  rcases hy with rfl | rfl | rfl | rfl | rfl | rfl | rfl | rfl
  · exact .inr (((okT_L okT_int).d _).mono (by decide))
  · exact .inr (((okT_2 okT_int okT_int).d _).mono (by decide))
  · refine .inr ((okd_tup (n := 0) fun y hy => ?_).mono (by decide))
    simp only [List.mem_cons, List.not_mem_nil, or_false] at hy
    rcases hy with rfl | rfl | rfl | rfl <;> exact okd_int
  · refine .inr ((okd_tup (n := 2) fun y hy => ?_).mono (by decide))
    rw [map_dA] at hy
    rcases List.mem_append.mp hy with hy | hy
    · rcases List.mem_append.mp hy with hy | hy
      · obtain ⟨z, _, rfl⟩ := List.mem_map.mp hy
        exact okd_int
      · rw [List.mem_singleton.mp hy]
        exact hod
    · obtain ⟨z, _, rfl⟩ := List.mem_map.mp hy
      exact okd_int
  · exact .inr (hod.mono (by decide))
  · exact .inr (((okT_3 okT_int okT_int okT_int).d _).mono (by decide))
  · refine .inr ((okd_tup (n := 1) fun y hy => ?_).mono (by decide))
    rw [List.mem_singleton.mp hy]
    exact ((okT_3 okT_int okT_int okT_int).d _).mono (by decide)
  · exact .inl rfl
/-! ### law_is_number -/
def m_law_is_number (thing_0 : D) : Bool :=
  ((D.isA (dA thing_0) .int) && (!(D.isA (dA thing_0) .bool)))
def C_law_is_number : Ct := fun ds o => ∃ (thing_0 : D), ds = [dA thing_0] ∧ (thing_0.isR = false) ∧ o = .ret (D.bl (m_law_is_number thing_0))
theorem c_law_is_number (thing_0 : D) (h : thing_0.isR = false) : C_law_is_number [dA thing_0] (.ret (D.bl (m_law_is_number thing_0))) := ⟨_, rfl, h, rfl⟩
theorem sc_law_is_number : FnScope ["thing"] ["thing"] (defScope (topS 13)) := ⟨rfl, rfl, rfl, by decide +kernel, rfl, by decide +kernel, by decide +kernel⟩
theorem ok_law_is_number (hF : HasF K mg "_law_is_number" ["thing"] (topS 13)) (z_bool : mg "bool" = none) (z_int : mg "int" = none) (z_isinstance : mg "isinstance" = none) : FnC P w K mg base 1 "_law_is_number" ["thing"] C_law_is_number := by
  refine fn_okD hF sc_law_is_number (fun ds o h => by obtain ⟨_, rfl, _⟩ := h; rfl) (fun f cdv A outer s H E hr hp ds o h => ?_)
  obtain ⟨thing_0, rfl, hpre, rfl⟩ := h
  refine sb_env (Γ' := [.val (dA thing_0)]) ?_
  show SB _ _ _ (endR D.bl (m_law_is_number thing_0))
  unfold m_law_is_number
  exact m_retQ D.bl ((D.isA (dA thing_0) .int) && (!(D.isA (dA thing_0) .bool))) (ev_and (ev_isi .int (ev_var 0 rfl) z_isinstance z_int hpre) (fun h => (ev_one (ev_not (ev_isi .bool (ev_var 0 rfl) z_isinstance z_bool hpre))))) rfl
/-! ### law_same -/
def m_law_same (found_0 : (Int × Int × Int)) (due_0 : (Int × Int × Int)) : Bool :=
  br ((!(D.isA ((d3 D.int D.int D.int) found_0) .tuple)) || (!eqvD ((d3 D.int D.int D.int) found_0) ((d3 D.int D.int D.int) due_0)))
  (false)
  ((List.isEmpty (List.map (fun (number_1 : Int) => number_1) (List.filter (fun (number_1 : Int) => (!(m_law_is_number (D.int number_1)))) [found_0.1, found_0.2.1, found_0.2.2]))))
def C_law_same : Ct := fun ds o => ∃ (found_0 : (Int × Int × Int)) (due_0 : (Int × Int × Int)), ds = [(d3 D.int D.int D.int) found_0, (d3 D.int D.int D.int) due_0] ∧ (True) ∧ o = .ret (D.bl (m_law_same found_0 due_0))
theorem c_law_same (found_0 : (Int × Int × Int)) (due_0 : (Int × Int × Int)) (h : True) : C_law_same [(d3 D.int D.int D.int) found_0, (d3 D.int D.int D.int) due_0] (.ret (D.bl (m_law_same found_0 due_0))) := ⟨_, _, rfl, h, rfl⟩
theorem sc_law_same : FnScope ["found", "due", "number"] ["found", "due"] (defScope (topS 14)) := ⟨rfl, rfl, rfl, by decide +kernel, rfl, by decide +kernel, by decide +kernel⟩
theorem ok_law_same (hF : HasF K mg "_law_same" ["found", "due"] (topS 14)) (z_isinstance : mg "isinstance" = none) (z_tuple : mg "tuple" = none) (F_law_is_number : FnC P w K mg base 1 "_law_is_number" ["thing"] C_law_is_number) : FnC P w K mg base 2 "_law_same" ["found", "due"] C_law_same := by
  refine fn_okD hF sc_law_same (fun ds o h => by obtain ⟨_, _, rfl, _⟩ := h; rfl) (fun f cdv A outer s H E hr hp ds o h => ?_)
  obtain ⟨found_0, due_0, rfl, hpre, rfl⟩ := h
  refine sb_env (Γ' := [.val ((d3 D.int D.int D.int) found_0), .val ((d3 D.int D.int D.int) due_0), .no]) ?_
  show SB _ _ _ (endR D.bl (m_law_same found_0 due_0))
  unfold m_law_same
  refine m_brT (et_bool (eb_or (et_not (et_of (ev_isi .tuple (ev_var 0 rfl) z_isinstance z_tuple rfl))) (fun h => (eb_or1 (et_cmp (ev_var 0 rfl) (ev_var 1 rfl) (opd_ne hr (OkT.ok (okT_3 okT_int okT_int okT_int) (by decide) found_0) (OkT.ok (okT_3 okT_int okT_int okT_int) (by decide) due_0))))))) (fun hc_1 => ?_) (fun hc_1 => ?_)
  · exact m_retQ D.bl false ev_bl rfl
  · exact m_retQ D.bl (List.isEmpty (List.map (fun (number_1 : Int) => number_1) (List.filter (fun (number_1 : Int) => (!(m_law_is_number (D.int number_1)))) [found_0.1, found_0.2.1, found_0.2.2]))) (ev_cmp (ev_new (en_is (en_lc1 (own := [(Str.ofString "number", 2)]) (xs := [found_0.1, found_0.2.1, found_0.2.2]) (g := D.int) (keep := fun (number_1 : Int) => (!(m_law_is_number (D.int number_1)))) (val := fun (number_1 : Int) => D.int number_1) (iv_tup (ev_var 0 rfl)) (fun number_1 hx => ⟨[.val ((d3 D.int D.int D.int) found_0), .val ((d3 D.int D.int D.int) due_0), .val (D.int number_1)], [2], rfl, by decide, fun X' hX => by obtain ⟨_, _, _, _, _, rfl⟩ := hX; (try (have bnumber_1 := bdc_mem hx)); exact ⟨(bg_name 2 sc_law_same.nd), (et_not (et_of (ev_call F_law_is_number hr (ea_cons (ev_var 2 rfl) ea_nil) (c_law_is_number (D.int number_1) (by walk_at "isr"))))), fun hk => (ev_var 2 rfl)⟩⟩) (by walk_at "sz") rfl sc_law_same.nd (ok := by show blkC ["found", "due", "number"] (defScope (topS 14)) _ _ = true; decide +kernel)) (by walk_at "mm"))) (ev_new (en_lst ea_nil)) (opd_eqNil hr D.int rfl (OkT.ok (okT_L okT_int) (by decide) (List.map (fun (number_1 : Int) => number_1) (List.filter (fun (number_1 : Int) => (!(m_law_is_number (D.int number_1)))) [found_0.1, found_0.2.1, found_0.2.2]))))) rfl
theorem same_refl (x : Int × Int × Int) : m_law_same x x = true := by
  unfold m_law_same
  simp only [eqT_3 eqT_int eqT_int eqT_int _ _]
  rw [br_no]
  · simp [m_law_is_number, D.isA]
  · simp [D.isA]
/-! ### law_cell -/
def m_law_cell (script_0 : (List Int)) (k_0 : Int) : Int :=
  br (decide (k_0 < ((List.length script_0 : Nat) : Int)))
  ((List.getD script_0 (Int.toNat k_0) (0 : Int)))
  ((k_0 * k_0))
def C_law_cell : Ct := fun ds o => ∃ (script_0 : (List Int)) (k_0 : Int), ds = [(dF D.int) script_0, D.int k_0] ∧ (0 ≤ k_0 ∧ k_0 < 1000 ∧ script_0.length < 1000) ∧ o = .ret (D.int (m_law_cell script_0 k_0))
theorem c_law_cell (script_0 : (List Int)) (k_0 : Int) (h : 0 ≤ k_0 ∧ k_0 < 1000 ∧ script_0.length < 1000) : C_law_cell [(dF D.int) script_0, D.int k_0] (.ret (D.int (m_law_cell script_0 k_0))) := ⟨_, _, rfl, h, rfl⟩
theorem sc_law_cell : FnScope ["script", "k"] ["script", "k"] (defScope (topS 9)) := ⟨rfl, rfl, rfl, by decide +kernel, rfl, by decide +kernel, by decide +kernel⟩
theorem ok_law_cell (hF : HasF K mg "_law_cell" ["script", "k"] (topS 9)) (z_len : mg "len" = none) : FnC P w K mg base 1 "_law_cell" ["script", "k"] C_law_cell := by
  refine fn_okD hF sc_law_cell (fun ds o h => by obtain ⟨_, _, rfl, _⟩ := h; rfl) (fun f cdv A outer s H E hr hp ds o h => ?_)
  obtain ⟨script_0, k_0, rfl, hpre, rfl⟩ := h
  refine sb_env (Γ' := [.val ((dF D.int) script_0), .val (D.int k_0)]) ?_
  show SB _ _ _ (endR D.int (m_law_cell script_0 k_0))
  unfold m_law_cell
  obtain ⟨hp1, hp2, hp3⟩ := id hpre
  have bk : BdC k_0 10 := bdc_rng (N := 1000) hpre.1 hpre.2.1 (by decide)
  refine m_brT (et_cmp (ev_var 1 rfl) (ev_is (ev_callB (cd_len rfl) (ea_cons (ev_var 0 rfl) ea_nil) z_len) (by walk_at "ln")) opd_lt) (fun hc_1 => ?_) (fun hc_1 => ?_)
  · exact m_retQ D.int (List.getD script_0 (Int.toNat k_0) (0 : Int)) (ev_ixL (ev_var 0 rfl) rfl (ev_var 1 rfl) (atI_getD (xs := script_0) (0 : Int) D.int (by simp only [decide_eq_true_eq] at hc_1; omega) (by simp only [decide_eq_true_eq] at hc_1; omega))) rfl
  · exact m_retQ D.int (k_0 * k_0) (ev_bin (ev_var 1 rfl) (ev_var 1 rfl) (opd_mulX (by walk_at "bdm"))) rfl
/-! ### is_whole -/
def m_is_whole (thing_0 : D) : Bool :=
  ((D.isA (dA thing_0) .int) && (!(D.isA (dA thing_0) .bool)))
def C_is_whole : Ct := fun ds o => ∃ (thing_0 : D), ds = [dA thing_0] ∧ (thing_0.isR = false) ∧ o = .ret (D.bl (m_is_whole thing_0))
theorem c_is_whole (thing_0 : D) (h : thing_0.isR = false) : C_is_whole [dA thing_0] (.ret (D.bl (m_is_whole thing_0))) := ⟨_, rfl, h, rfl⟩
theorem sc_is_whole : FnScope ["thing"] ["thing"] (defScope (topS 1)) := ⟨rfl, rfl, rfl, by decide +kernel, rfl, by decide +kernel, by decide +kernel⟩
theorem ok_is_whole (hF : HasF K mg "is_whole" ["thing"] (topS 1)) (z_bool : mg "bool" = none) (z_int : mg "int" = none) (z_isinstance : mg "isinstance" = none) : FnC P w K mg base 1 "is_whole" ["thing"] C_is_whole := by
  refine fn_okD hF sc_is_whole (fun ds o h => by obtain ⟨_, rfl, _⟩ := h; rfl) (fun f cdv A outer s H E hr hp ds o h => ?_)
  obtain ⟨thing_0, rfl, hpre, rfl⟩ := h
  refine sb_env (Γ' := [.val (dA thing_0)]) ?_
  show SB _ _ _ (endR D.bl (m_is_whole thing_0))
  unfold m_is_whole
  exact m_retQ D.bl ((D.isA (dA thing_0) .int) && (!(D.isA (dA thing_0) .bool))) (ev_and (ev_isi .int (ev_var 0 rfl) z_isinstance z_int hpre) (fun h => (ev_one (ev_not (ev_isi .bool (ev_var 0 rfl) z_isinstance z_bool hpre))))) rfl
/-! ### is_triple -/
def m_is_triple (thing_0 : D) : Bool :=
  br ((!(D.isA (dA thing_0) .tuple)) || (!decide (((List.length (D.items thing_0) : Nat) : Int) = (3 : Int))))
  (false)
  (fin (forM (fun (s_1 : Unit) (number_1 : D) =>
  br (!(m_is_whole number_1))
  (.ret false)
  (.go ())) (D.items thing_0) ()) fun (s_1 : Unit) =>
  true)
def C_is_triple : Ct := fun ds o => ∃ (thing_0 : D), ds = [dA thing_0] ∧ (Odd thing_0) ∧ o = .ret (D.bl (m_is_triple thing_0))
theorem c_is_triple (thing_0 : D) (h : Odd thing_0) : C_is_triple [dA thing_0] (.ret (D.bl (m_is_triple thing_0))) := ⟨_, rfl, h, rfl⟩
theorem sc_is_triple : FnScope ["thing", "number"] ["thing"] (defScope (topS 3)) := ⟨rfl, rfl, rfl, by decide +kernel, rfl, by decide +kernel, by decide +kernel⟩
theorem ok_is_triple (hF : HasF K mg "is_triple" ["thing"] (topS 3)) (z_isinstance : mg "isinstance" = none) (z_len : mg "len" = none) (z_tuple : mg "tuple" = none) (F_is_whole : FnC P w K mg base 1 "is_whole" ["thing"] C_is_whole) : FnC P w K mg base 2 "is_triple" ["thing"] C_is_triple := by
  refine fn_okD hF sc_is_triple (fun ds o h => by obtain ⟨_, rfl, _⟩ := h; rfl) (fun f cdv A outer s H E hr hp ds o h => ?_)
  obtain ⟨thing_0, rfl, hpre, rfl⟩ := h
  refine sb_env (Γ' := [.val (dA thing_0), .no]) ?_
  show SB _ _ _ (endR D.bl (m_is_triple thing_0))
  unfold m_is_triple
  refine m_brT (et_bool (eb_or (et_not (et_of (ev_isi .tuple (ev_var 0 rfl) z_isinstance z_tuple (by walk_at "isr")))) (fun h => (eb_or1 (et_cmp (ev_is (ev_callB (cd_len rfl) (ea_cons (ev_is (ev_var 0 rfl) (tup_of (by walk_at "isa"))) ea_nil) z_len) (by walk_at "ln")) ev_int opd_neI))))) (fun hc_1 => ?_) (fun hc_1 => ?_)
  · exact m_retQ D.bl false ev_bl rfl
  · refine m_for (g := dA) (fun (s_1 : Unit) => [.val (dA thing_0), .no]) (fun inumber_1 s_1 => True) (iv_tup (ev_is (ev_var 0 rfl) (tup_of (by walk_at "isa")))) (wk_s (wk_n wk_0)) trivial (fun inumber_1 s_1 number_1 hInumber_1 hxnumber_1 => ⟨[.val (dA thing_0), .val (dA number_1)], _, (bg_name 1 sc_is_triple.nd), ?_⟩) (fun s_1 inumber_1 hinumber_1 hInumber_1 => ?_) hp rfl
    · try (have hjnumber_1 := get_lt hxnumber_1 (ln_le (m := 1000) (by decide)))
      have onumber_1 := odd_items (by walk_at "odd") _ (List.mem_of_getElem? hxnumber_1)
      refine m_brT (et_not (et_of (ev_call F_is_whole hr (ea_cons (ev_var 1 rfl) ea_nil) (c_is_whole number_1 (by walk_at "isr"))))) (fun hc_2 => ?_) (fun hc_2 => ?_)
      · exact m_retQ D.bl false ev_bl rfl
      · exact m_go (wk_s (wk_n wk_0)) trivial
    exact m_retQ D.bl true ev_bl rfl
/-! ### triple_sum -/
def m_triple_sum (one_0 : (Int × Int × Int)) (other_0 : (Int × Int × Int)) : (Int × Int × Int) :=
  ((one_0.1 + other_0.1), (one_0.2.1 + other_0.2.1), (one_0.2.2 + other_0.2.2))
def C_triple_sum : Ct := fun ds o => ∃ (one_0 : (Int × Int × Int)) (other_0 : (Int × Int × Int)), ds = [(d3 D.int D.int D.int) one_0, (d3 D.int D.int D.int) other_0] ∧ (True) ∧ o = .ret ((d3 D.int D.int D.int) (m_triple_sum one_0 other_0))
theorem c_triple_sum (one_0 : (Int × Int × Int)) (other_0 : (Int × Int × Int)) (h : True) : C_triple_sum [(d3 D.int D.int D.int) one_0, (d3 D.int D.int D.int) other_0] (.ret ((d3 D.int D.int D.int) (m_triple_sum one_0 other_0))) := ⟨_, _, rfl, h, rfl⟩
theorem sc_triple_sum : FnScope ["one", "other"] ["one", "other"] (defScope (topS 4)) := ⟨rfl, rfl, rfl, by decide +kernel, rfl, by decide +kernel, by decide +kernel⟩
theorem ok_triple_sum (hF : HasF K mg "triple_sum" ["one", "other"] (topS 4)) : FnC P w K mg base 1 "triple_sum" ["one", "other"] C_triple_sum := by
  refine fn_okD hF sc_triple_sum (fun ds o h => by obtain ⟨_, _, rfl, _⟩ := h; rfl) (fun f cdv A outer s H E hr hp ds o h => ?_)
  obtain ⟨one_0, other_0, rfl, hpre, rfl⟩ := h
  refine sb_env (Γ' := [.val ((d3 D.int D.int D.int) one_0), .val ((d3 D.int D.int D.int) other_0)]) ?_
  show SB _ _ _ (endR (d3 D.int D.int D.int) (m_triple_sum one_0 other_0))
  unfold m_triple_sum
  exact m_retQ (d3 D.int D.int D.int) ((one_0.1 + other_0.1), (one_0.2.1 + other_0.2.1), (one_0.2.2 + other_0.2.2)) (ev_tup (ea_cons (ev_bin (ev_ixT (ev_var 0 rfl) ev_int rfl) (ev_ixT (ev_var 1 rfl) ev_int rfl) opd_add) (ea_cons (ev_bin (ev_ixT (ev_var 0 rfl) ev_int rfl) (ev_ixT (ev_var 1 rfl) ev_int rfl) opd_add) (ea_cons (ev_bin (ev_ixT (ev_var 0 rfl) ev_int rfl) (ev_ixT (ev_var 1 rfl) ev_int rfl) opd_add) ea_nil)))) rfl
instance bzo_m_triple_sum (one_0 : (Int × Int × Int)) (other_0 : (Int × Int × Int)) {n m : Nat} [BdC one_0 n] [BdC other_0 m] : BdC (m_triple_sum one_0 other_0) (max n m + 1) := by
  unfold m_triple_sum
  exact bdc_mono (by walk_at "om")
/-! ### triple_less -/
def m_triple_less (one_0 : (Int × Int × Int)) (other_0 : (Int × Int × Int)) : (Int × Int × Int) :=
  ((one_0.1 - other_0.1), (one_0.2.1 - other_0.2.1), (one_0.2.2 - other_0.2.2))
def C_triple_less : Ct := fun ds o => ∃ (one_0 : (Int × Int × Int)) (other_0 : (Int × Int × Int)), ds = [(d3 D.int D.int D.int) one_0, (d3 D.int D.int D.int) other_0] ∧ (True) ∧ o = .ret ((d3 D.int D.int D.int) (m_triple_less one_0 other_0))
theorem c_triple_less (one_0 : (Int × Int × Int)) (other_0 : (Int × Int × Int)) (h : True) : C_triple_less [(d3 D.int D.int D.int) one_0, (d3 D.int D.int D.int) other_0] (.ret ((d3 D.int D.int D.int) (m_triple_less one_0 other_0))) := ⟨_, _, rfl, h, rfl⟩
theorem sc_triple_less : FnScope ["one", "other"] ["one", "other"] (defScope (topS 5)) := ⟨rfl, rfl, rfl, by decide +kernel, rfl, by decide +kernel, by decide +kernel⟩
theorem ok_triple_less (hF : HasF K mg "triple_less" ["one", "other"] (topS 5)) : FnC P w K mg base 1 "triple_less" ["one", "other"] C_triple_less := by
  refine fn_okD hF sc_triple_less (fun ds o h => by obtain ⟨_, _, rfl, _⟩ := h; rfl) (fun f cdv A outer s H E hr hp ds o h => ?_)
  obtain ⟨one_0, other_0, rfl, hpre, rfl⟩ := h
  refine sb_env (Γ' := [.val ((d3 D.int D.int D.int) one_0), .val ((d3 D.int D.int D.int) other_0)]) ?_
  show SB _ _ _ (endR (d3 D.int D.int D.int) (m_triple_less one_0 other_0))
  unfold m_triple_less
  exact m_retQ (d3 D.int D.int D.int) ((one_0.1 - other_0.1), (one_0.2.1 - other_0.2.1), (one_0.2.2 - other_0.2.2)) (ev_tup (ea_cons (ev_bin (ev_ixT (ev_var 0 rfl) ev_int rfl) (ev_ixT (ev_var 1 rfl) ev_int rfl) opd_sub) (ea_cons (ev_bin (ev_ixT (ev_var 0 rfl) ev_int rfl) (ev_ixT (ev_var 1 rfl) ev_int rfl) opd_sub) (ea_cons (ev_bin (ev_ixT (ev_var 0 rfl) ev_int rfl) (ev_ixT (ev_var 1 rfl) ev_int rfl) opd_sub) ea_nil)))) rfl
instance bzo_m_triple_less (one_0 : (Int × Int × Int)) (other_0 : (Int × Int × Int)) {n m : Nat} [BdC one_0 n] [BdC other_0 m] : BdC (m_triple_less one_0 other_0) (max n m + 1) := by
  unfold m_triple_less
  exact bdc_mono (by walk_at "om")
/-! ### triple_times -/
def m_triple_times (one_0 : (Int × Int × Int)) (many_0 : Int) : (Int × Int × Int) :=
  ((one_0.1 * many_0), (one_0.2.1 * many_0), (one_0.2.2 * many_0))
def C_triple_times : Ct := fun ds o => ∃ (one_0 : (Int × Int × Int)) (many_0 : Int), ds = [(d3 D.int D.int D.int) one_0, D.int many_0] ∧ (BdC one_0 4000 ∧ BdC many_0 4000) ∧ o = .ret ((d3 D.int D.int D.int) (m_triple_times one_0 many_0))
theorem c_triple_times (one_0 : (Int × Int × Int)) (many_0 : Int) (h : BdC one_0 4000 ∧ BdC many_0 4000) : C_triple_times [(d3 D.int D.int D.int) one_0, D.int many_0] (.ret ((d3 D.int D.int D.int) (m_triple_times one_0 many_0))) := ⟨_, _, rfl, h, rfl⟩
theorem sc_triple_times : FnScope ["one", "many"] ["one", "many"] (defScope (topS 6)) := ⟨rfl, rfl, rfl, by decide +kernel, rfl, by decide +kernel, by decide +kernel⟩
theorem ok_triple_times (hF : HasF K mg "triple_times" ["one", "many"] (topS 6)) : FnC P w K mg base 1 "triple_times" ["one", "many"] C_triple_times := by
  refine fn_okD hF sc_triple_times (fun ds o h => by obtain ⟨_, _, rfl, _⟩ := h; rfl) (fun f cdv A outer s H E hr hp ds o h => ?_)
  obtain ⟨one_0, many_0, rfl, hpre, rfl⟩ := h
  refine sb_env (Γ' := [.val ((d3 D.int D.int D.int) one_0), .val (D.int many_0)]) ?_
  show SB _ _ _ (endR (d3 D.int D.int D.int) (m_triple_times one_0 many_0))
  unfold m_triple_times
  obtain ⟨hp1, hp2⟩ := id hpre
  exact m_retQ (d3 D.int D.int D.int) ((one_0.1 * many_0), (one_0.2.1 * many_0), (one_0.2.2 * many_0)) (ev_tup (ea_cons (ev_bin (ev_ixT (ev_var 0 rfl) ev_int rfl) (ev_var 1 rfl) (opd_mulX (by walk_at "bdm"))) (ea_cons (ev_bin (ev_ixT (ev_var 0 rfl) ev_int rfl) (ev_var 1 rfl) (opd_mulX (by walk_at "bdm"))) (ea_cons (ev_bin (ev_ixT (ev_var 0 rfl) ev_int rfl) (ev_var 1 rfl) (opd_mulX (by walk_at "bdm"))) ea_nil)))) rfl
instance bzo_m_triple_times (one_0 : (Int × Int × Int)) (many_0 : Int) {n m : Nat} [BdC one_0 n] [BdC many_0 m] : BdC (m_triple_times one_0 many_0) (n + m) := by
  unfold m_triple_times
  exact bdc_mono (by walk_at "om")
/-! ### law_is_triple -/
def m_law_is_triple (thing_0 : D) : Bool :=
  ((D.isA (dA thing_0) .tuple) && ((decide (((List.length (D.items thing_0) : Nat) : Int) = (3 : Int))) && (List.isEmpty (List.map (fun (one_1 : D) => one_1) (List.filter (fun (one_1 : D) => (!(m_law_is_number one_1))) (D.items thing_0))))))
def C_law_is_triple : Ct := fun ds o => ∃ (thing_0 : D), ds = [dA thing_0] ∧ (Odd thing_0) ∧ o = .ret (D.bl (m_law_is_triple thing_0))
theorem c_law_is_triple (thing_0 : D) (h : Odd thing_0) : C_law_is_triple [dA thing_0] (.ret (D.bl (m_law_is_triple thing_0))) := ⟨_, rfl, h, rfl⟩
theorem sc_law_is_triple : FnScope ["thing", "one"] ["thing"] (defScope (topS 16)) := ⟨rfl, rfl, rfl, by decide +kernel, rfl, by decide +kernel, by decide +kernel⟩
theorem ok_law_is_triple (hF : HasF K mg "_law_is_triple" ["thing"] (topS 16)) (z_isinstance : mg "isinstance" = none) (z_len : mg "len" = none) (z_tuple : mg "tuple" = none) (F_law_is_number : FnC P w K mg base 1 "_law_is_number" ["thing"] C_law_is_number) : FnC P w K mg base 2 "_law_is_triple" ["thing"] C_law_is_triple := by
  refine fn_okD hF sc_law_is_triple (fun ds o h => by obtain ⟨_, rfl, _⟩ := h; rfl) (fun f cdv A outer s H E hr hp ds o h => ?_)
  obtain ⟨thing_0, rfl, hpre, rfl⟩ := h
  refine sb_env (Γ' := [.val (dA thing_0), .no]) ?_
  show SB _ _ _ (endR D.bl (m_law_is_triple thing_0))
  unfold m_law_is_triple
  exact m_retQ D.bl ((D.isA (dA thing_0) .tuple) && ((decide (((List.length (D.items thing_0) : Nat) : Int) = (3 : Int))) && (List.isEmpty (List.map (fun (one_1 : D) => one_1) (List.filter (fun (one_1 : D) => (!(m_law_is_number one_1))) (D.items thing_0)))))) (ev_and (ev_isi .tuple (ev_var 0 rfl) z_isinstance z_tuple (by walk_at "isr")) (fun h => (ev_and (ev_cmp (ev_is (ev_callB (cd_len rfl) (ea_cons (ev_is (ev_var 0 rfl) (tup_of (by walk_at "isa"))) ea_nil) z_len) (by walk_at "ln")) ev_int opd_eqI) (fun h => (ev_one (ev_cmp (ev_new (en_is (en_lc1 (own := [(Str.ofString "one", 1)]) (xs := (D.items thing_0)) (g := dA) (keep := fun (one_1 : D) => (!(m_law_is_number one_1))) (val := fun (one_1 : D) => dA one_1) (iv_tup (ev_is (ev_var 0 rfl) (tup_of (by walk_at "isa")))) (fun one_1 hx => ⟨[.val (dA thing_0), .val (dA one_1)], [1], rfl, by decide, fun X' hX => by obtain ⟨_, _, _, _, _, rfl⟩ := hX; (have oone_1 := odd_items (by walk_at "odd") _ hx); exact ⟨(bg_name 1 sc_law_is_triple.nd), (et_not (et_of (ev_call F_law_is_number hr (ea_cons (ev_var 1 rfl) ea_nil) (c_law_is_number one_1 (by walk_at "isr"))))), fun hk => (ev_var 1 rfl)⟩⟩) (by walk_at "sz") rfl sc_law_is_triple.nd (ok := by show blkC ["thing", "one"] (defScope (topS 16)) _ _ = true; decide +kernel)) (by walk_at "mm"))) (ev_new (en_lst ea_nil)) (opd_eqNil hr dA rfl (okl_comp (odd_items (by walk_at "odd")) (by decide))))))))) rfl
theorem triple_eq (x : D) : m_is_triple x = m_law_is_triple x := by
  have e : ∀ y, m_is_whole y = m_law_is_number y := fun _ => rfl
  unfold m_is_triple m_law_is_triple
  cases D.isA (dA x) .tuple with
  | false => rfl
  | true =>
    cases decide (((List.length (D.items x) : Nat) : Int) = (3 : Int)) with
    | false => rfl
    | true =>
      show fin (forM _ (D.items x) ()) _ = List.isEmpty _
      generalize D.items x = xs
      rw [List.map_id']
      induction xs with
      | nil => rfl
      | cons y ys ih =>
        rw [forM_cons, e]
        cases h : m_law_is_number y with
        | false =>
          rw [List.filter_cons, h]
          rfl
        | true =>
          rw [List.filter_cons, h]
          exact ih
/-! ### law -/
def m_law (script_0 : (List Int)) : Bool :=
  fin (forM (fun (s_1 : Unit) (k_1 : Nat) =>
  lt ((m_law_triple script_0 ((k_1 : Nat) : Int)) : (Int × Int × Int)) fun one_1 =>
  lt ((m_law_triple script_0 (((k_1 : Nat) : Int) + (1 : Int))) : (Int × Int × Int)) fun other_1 =>
  lt ((m_law_sized ((m_law_cell script_0 ((k_1 : Nat) : Int)) % (4 : Int)) ((m_law_cell script_0 ((k_1 : Nat) : Int)) / (4 : Int))) : Int) fun many_1 =>
  br (!(m_law_same (m_triple_sum one_1 other_1) ((one_1.1 + other_1.1), (one_1.2.1 + other_1.2.1), (one_1.2.2 + other_1.2.2))))
  (.ret false)
  (br (!(m_law_same (m_triple_less one_1 other_1) ((one_1.1 - other_1.1), (one_1.2.1 - other_1.2.1), (one_1.2.2 - other_1.2.2))))
  (.ret false)
  (br (!(m_law_same (m_triple_times one_1 many_1) ((one_1.1 * many_1), (one_1.2.1 * many_1), (one_1.2.2 * many_1))))
  (.ret false)
  (lt ((m_dot_of one_1 other_1) : Int) fun found_1 =>
  br ((!(m_law_is_number (D.int found_1))) || (!decide (found_1 = (List.sum (List.map (fun (a_4 : (Int × Int)) => (a_4.1 * a_4.2)) (List.zip [one_1.1, one_1.2.1, one_1.2.2] [other_1.1, other_1.2.1, other_1.2.2]))))))
  (.ret false)
  (lt ((m_law_thing one_1 (m_law_cell script_0 (((k_1 : Nat) : Int) + (2 : Int)))) : D) fun thing_1 =>
  lt ((m_is_triple ((d3 D.int D.int D.int) one_1)) : Bool) fun told_1 =>
  br ((!(D.isA (D.bl told_1) .bool)) || (!decide (told_1 = (m_law_is_triple ((d3 D.int D.int D.int) one_1)))))
  (.ret false)
  (lt ((m_is_triple thing_1) : Bool) fun told_2 =>
  br ((!(D.isA (D.bl told_2) .bool)) || (!decide (told_2 = (m_law_is_triple thing_1))))
  (.ret false)
  (.go ()))))))) (List.range (Int.toNat (max (1 : Int) (min ((List.length script_0 : Nat) : Int) (60 : Int))))) ()) fun (s_1 : Unit) =>
  true
def C_law : Ct := fun ds o => ∃ (script_0 : (List Int)), ds = [(dF D.int) script_0] ∧ (script_0.length < 64) ∧ o = .ret (D.bl (m_law script_0))
theorem c_law (script_0 : (List Int)) (h : script_0.length < 64) : C_law [(dF D.int) script_0] (.ret (D.bl (m_law script_0))) := ⟨_, rfl, h, rfl⟩
theorem sc_law : FnScope ["script", "k", "one", "other", "many", "found", "thing", "asked", "told", "a", "b"] ["script"] (defScope (topS 17)) := ⟨rfl, rfl, rfl, by decide +kernel, rfl, by decide +kernel, by decide +kernel⟩
theorem ok_law (hF : HasF K mg "law" ["script"] (topS 17)) (z_bool : mg "bool" = none) (z_isinstance : mg "isinstance" = none) (z_len : mg "len" = none) (z_max : mg "max" = none) (z_min : mg "min" = none) (z_range : mg "range" = none) (z_sum : mg "sum" = none) (z_tuple : mg "tuple" = none) (z_zip : mg "zip" = none) (F_law_cell : FnC P w K mg base 1 "_law_cell" ["script", "k"] C_law_cell) (F_law_is_number : FnC P w K mg base 1 "_law_is_number" ["thing"] C_law_is_number) (F_law_is_triple : FnC P w K mg base 2 "_law_is_triple" ["thing"] C_law_is_triple) (F_law_same : FnC P w K mg base 2 "_law_same" ["found", "due"] C_law_same) (F_law_sized : FnC P w K mg base 1 "_law_sized" ["way", "raw"] C_law_sized) (F_law_thing : FnC P w K mg base 1 "_law_thing" ["triple", "cell"] C_law_thing) (F_law_triple : FnC P w K mg base 2 "_law_triple" ["script", "k"] C_law_triple) (F_dot_of : FnC P w K mg base 1 "dot_of" ["one", "other"] C_dot_of) (F_is_triple : FnC P w K mg base 2 "is_triple" ["thing"] C_is_triple) (F_triple_less : FnC P w K mg base 1 "triple_less" ["one", "other"] C_triple_less) (F_triple_sum : FnC P w K mg base 1 "triple_sum" ["one", "other"] C_triple_sum) (F_triple_times : FnC P w K mg base 1 "triple_times" ["one", "many"] C_triple_times) : FnC P w K mg base 3 "law" ["script"] C_law := by
  refine fn_okD hF sc_law (fun ds o h => by obtain ⟨_, rfl, _⟩ := h; rfl) (fun f cdv A outer s H E hr hp ds o h => ?_)
  obtain ⟨script_0, rfl, hpre, rfl⟩ := h
  refine sb_env (Γ' := [.val ((dF D.int) script_0), .no, .no, .no, .no, .no, .no, .no, .no, .no, .no]) ?_
  show SB _ _ _ (endR D.bl (m_law script_0))
  unfold m_law
  have lnS : LnC script_0 63 := ⟨by omega⟩
  refine m_for (g := dNat) (fun (s_1 : Unit) => [.val ((dF D.int) script_0), .no, .no, .no, .no, .no, .no, .no, .no, .no, .no]) (fun ik_1 s_1 => True) (iv_range1 (ev_callB (cd_max2 rfl) (ea_cons ev_int (ea_cons (ev_callB (cd_min2 rfl) (ea_cons (ev_is (ev_callB (cd_len rfl) (ea_cons (ev_var 0 rfl) ea_nil) z_len) (by walk_at "ln")) (ea_cons ev_int ea_nil)) z_min) ea_nil)) z_max) (by omega) z_range (by omega)) (wk_s (wk_n (wk_n (wk_n (wk_n (wk_n (wk_n (wk_n (wk_n (wk_n (wk_n wk_0))))))))))) trivial (fun ik_1 s_1 k_1 hIk_1 hxk_1 => ⟨[.val ((dF D.int) script_0), .val (D.int ((k_1 : Nat) : Int)), .no, .no, .no, .no, .no, .no, .no, .no, .no], _, (bg_name 1 sc_law.nd), ?_⟩) (fun s_1 ik_1 hik_1 hIk_1 => ?_) hp rfl
  · have hkk_1 := range_get hxk_1
    try (have bk_1 : BdC ((k_1 : Nat) : Int) 10 := bdc_rng (N := 1000) (by omega) (by omega) (by decide))
    have hk := range_get hxk_1
    refine m_set 2 (d3 D.int D.int D.int) (ev_call F_law_triple hr (ea_cons (ev_var 0 rfl) (ea_cons (ev_var 1 rfl) ea_nil)) (c_law_triple script_0 ((k_1 : Nat) : Int) ⟨by omega, by omega, by omega⟩)) rfl (fun one_1 hone_1 => sb_env (Γ' := [.val ((dF D.int) script_0), .val (D.int ((k_1 : Nat) : Int)), .val ((d3 D.int D.int D.int) one_1), .no, .no, .no, .no, .no, .no, .no, .no]) ?_) sc_law.nd
    try (have bone_1 := bdc_eq hone_1; conv at bone_1 => { arg 2; whnf })
    refine m_set 3 (d3 D.int D.int D.int) (ev_call F_law_triple hr (ea_cons (ev_var 0 rfl) (ea_cons (ev_bin (ev_var 1 rfl) ev_int opd_add) ea_nil)) (c_law_triple script_0 (((k_1 : Nat) : Int) + (1 : Int)) ⟨by omega, by omega, by omega⟩)) rfl (fun other_1 hother_1 => sb_env (Γ' := [.val ((dF D.int) script_0), .val (D.int ((k_1 : Nat) : Int)), .val ((d3 D.int D.int D.int) one_1), .val ((d3 D.int D.int D.int) other_1), .no, .no, .no, .no, .no, .no, .no]) ?_) sc_law.nd
    try (have bother_1 := bdc_eq hother_1; conv at bother_1 => { arg 2; whnf })
    refine m_set 4 D.int (ev_call F_law_sized hr (ea_cons (ev_bin (ev_call F_law_cell hr (ea_cons (ev_var 0 rfl) (ea_cons (ev_var 1 rfl) ea_nil)) (c_law_cell script_0 ((k_1 : Nat) : Int) ⟨by omega, by omega, by omega⟩)) ev_int (opd_mod (by walk_at "ps"))) (ea_cons (ev_bin (ev_call F_law_cell hr (ea_cons (ev_var 0 rfl) (ea_cons (ev_var 1 rfl) ea_nil)) (c_law_cell script_0 ((k_1 : Nat) : Int) ⟨by omega, by omega, by omega⟩)) ev_int (opd_div (by walk_at "bd"))) ea_nil)) (c_law_sized ((m_law_cell script_0 ((k_1 : Nat) : Int)) % (4 : Int)) ((m_law_cell script_0 ((k_1 : Nat) : Int)) / (4 : Int)) trivial)) rfl (fun many_1 hmany_1 => sb_env (Γ' := [.val ((dF D.int) script_0), .val (D.int ((k_1 : Nat) : Int)), .val ((d3 D.int D.int D.int) one_1), .val ((d3 D.int D.int D.int) other_1), .val (D.int many_1), .no, .no, .no, .no, .no, .no]) ?_) sc_law.nd
    try (have bmany_1 := bdc_eq hmany_1; conv at bmany_1 => { arg 2; whnf })
    try (have pmany_1 := posc_eq hmany_1)
    refine m_brT (et_not (et_of (ev_call F_law_same hr (ea_cons (ev_call F_triple_sum hr (ea_cons (ev_var 2 rfl) (ea_cons (ev_var 3 rfl) ea_nil)) (c_triple_sum one_1 other_1 trivial)) (ea_cons (ev_is (ev_callTy (cd_tuple rfl) (ea_cons (ev_new (en_is (en_lc (own := [(Str.ofString "a", 9), (Str.ofString "b", 10)]) (xs := (List.zip [one_1.1, one_1.2.1, one_1.2.2] [other_1.1, other_1.2.1, other_1.2.2])) (g := (d2 D.int D.int)) (val := fun (a_1 : (Int × Int)) => D.int (a_1.1 + a_1.2)) (iv_zipTm D.int D.int (ev_var 2 rfl) (ev_var 3 rfl) z_zip) (fun a_1 hx => ⟨[.val ((dF D.int) script_0), .val (D.int ((k_1 : Nat) : Int)), .val ((d3 D.int D.int D.int) one_1), .val ((d3 D.int D.int D.int) other_1), .val (D.int many_1), .no, .no, .no, .no, .val (D.int a_1.1), .val (D.int a_1.2)], [9, 10], rfl, by decide, fun X' hX => by obtain ⟨_, _, _, _, _, rfl⟩ := hX; (try (have ba_1 := bdc_mem hx)); (try (have fa_1 := fdc_mem hx)); exact ⟨(bg_tup (bgs_cons (bg_name 9 sc_law.nd) (bgs_cons (bg_name 10 sc_law.nd) bgs_nil)) rfl), (ev_bin (ev_var 9 rfl) (ev_var 10 rfl) opd_add)⟩⟩) (by walk_at "sz") rfl sc_law.nd (ok := by show blkC ["script", "k", "one", "other", "many", "found", "thing", "asked", "told", "a", "b"] (defScope (topS 17)) _ _ = true; decide +kernel)) (by walk_at "mm"))) ea_nil) z_tuple) (by rfl)) ea_nil)) (c_law_same (m_triple_sum one_1 other_1) ((one_1.1 + other_1.1), (one_1.2.1 + other_1.2.1), (one_1.2.2 + other_1.2.2)) trivial)))) (fun hc_1 => ?_) (fun hc_1 => ?_)
    · exact m_retQ D.bl false ev_bl rfl
    · refine m_brT (et_not (et_of (ev_call F_law_same hr (ea_cons (ev_call F_triple_less hr (ea_cons (ev_var 2 rfl) (ea_cons (ev_var 3 rfl) ea_nil)) (c_triple_less one_1 other_1 trivial)) (ea_cons (ev_is (ev_callTy (cd_tuple rfl) (ea_cons (ev_new (en_is (en_lc (own := [(Str.ofString "a", 9), (Str.ofString "b", 10)]) (xs := (List.zip [one_1.1, one_1.2.1, one_1.2.2] [other_1.1, other_1.2.1, other_1.2.2])) (g := (d2 D.int D.int)) (val := fun (a_2 : (Int × Int)) => D.int (a_2.1 - a_2.2)) (iv_zipTm D.int D.int (ev_var 2 rfl) (ev_var 3 rfl) z_zip) (fun a_2 hx => ⟨[.val ((dF D.int) script_0), .val (D.int ((k_1 : Nat) : Int)), .val ((d3 D.int D.int D.int) one_1), .val ((d3 D.int D.int D.int) other_1), .val (D.int many_1), .no, .no, .no, .no, .val (D.int a_2.1), .val (D.int a_2.2)], [9, 10], rfl, by decide, fun X' hX => by obtain ⟨_, _, _, _, _, rfl⟩ := hX; (try (have ba_2 := bdc_mem hx)); (try (have fa_2 := fdc_mem hx)); exact ⟨(bg_tup (bgs_cons (bg_name 9 sc_law.nd) (bgs_cons (bg_name 10 sc_law.nd) bgs_nil)) rfl), (ev_bin (ev_var 9 rfl) (ev_var 10 rfl) opd_sub)⟩⟩) (by walk_at "sz") rfl sc_law.nd (ok := by show blkC ["script", "k", "one", "other", "many", "found", "thing", "asked", "told", "a", "b"] (defScope (topS 17)) _ _ = true; decide +kernel)) (by walk_at "mm"))) ea_nil) z_tuple) (by rfl)) ea_nil)) (c_law_same (m_triple_less one_1 other_1) ((one_1.1 - other_1.1), (one_1.2.1 - other_1.2.1), (one_1.2.2 - other_1.2.2)) trivial)))) (fun hc_2 => ?_) (fun hc_2 => ?_)
      · exact m_retQ D.bl false ev_bl rfl
      · refine m_brT (et_not (et_of (ev_call F_law_same hr (ea_cons (ev_call F_triple_times hr (ea_cons (ev_var 2 rfl) (ea_cons (ev_var 4 rfl) ea_nil)) (c_triple_times one_1 many_1 (by walk_at "pre"))) (ea_cons (ev_is (ev_callTy (cd_tuple rfl) (ea_cons (ev_new (en_is (en_lc (own := [(Str.ofString "a", 9)]) (xs := [one_1.1, one_1.2.1, one_1.2.2]) (g := D.int) (val := fun (a_3 : Int) => D.int (a_3 * many_1)) (iv_tup (ev_var 2 rfl)) (fun a_3 hx => ⟨[.val ((dF D.int) script_0), .val (D.int ((k_1 : Nat) : Int)), .val ((d3 D.int D.int D.int) one_1), .val ((d3 D.int D.int D.int) other_1), .val (D.int many_1), .no, .no, .no, .no, .val (D.int a_3), .no], [9], rfl, by decide, fun X' hX => by obtain ⟨_, _, _, _, _, rfl⟩ := hX; (try (have ba_3 := bdc_mem hx)); exact ⟨(bg_name 9 sc_law.nd), (ev_bin (ev_var 9 rfl) (ev_var 4 rfl) (opd_mulX (by walk_at "bdm")))⟩⟩) (by walk_at "sz") rfl sc_law.nd (ok := by show blkC ["script", "k", "one", "other", "many", "found", "thing", "asked", "told", "a", "b"] (defScope (topS 17)) _ _ = true; decide +kernel)) (by walk_at "mm"))) ea_nil) z_tuple) (by rfl)) ea_nil)) (c_law_same (m_triple_times one_1 many_1) ((one_1.1 * many_1), (one_1.2.1 * many_1), (one_1.2.2 * many_1)) trivial)))) (fun hc_3 => ?_) (fun hc_3 => ?_)
        · exact m_retQ D.bl false ev_bl rfl
        · refine m_set 5 D.int (ev_call F_dot_of hr (ea_cons (ev_var 2 rfl) (ea_cons (ev_var 3 rfl) ea_nil)) (c_dot_of one_1 other_1 (by walk_at "pre"))) rfl (fun found_1 hfound_1 => sb_env (Γ' := [.val ((dF D.int) script_0), .val (D.int ((k_1 : Nat) : Int)), .val ((d3 D.int D.int D.int) one_1), .val ((d3 D.int D.int D.int) other_1), .val (D.int many_1), .val (D.int found_1), .no, .no, .no, .no, .no]) ?_) sc_law.nd
          try (have bfound_1 := bdc_eq hfound_1; conv at bfound_1 => { arg 2; whnf })
          try (have pfound_1 := posc_eq hfound_1)
          refine m_brT (et_bool (eb_or (et_not (et_of (ev_call F_law_is_number hr (ea_cons (ev_var 5 rfl) ea_nil) (c_law_is_number (D.int found_1) (by walk_at "isr"))))) (fun h => (eb_or1 (et_cmp (ev_var 5 rfl) (ev_callB (cd_sum rfl rfl) (ea_cons (ev_new (en_is (en_lc (own := [(Str.ofString "a", 9), (Str.ofString "b", 10)]) (xs := (List.zip [one_1.1, one_1.2.1, one_1.2.2] [other_1.1, other_1.2.1, other_1.2.2])) (g := (d2 D.int D.int)) (val := fun (a_4 : (Int × Int)) => D.int (a_4.1 * a_4.2)) (iv_zipTm D.int D.int (ev_var 2 rfl) (ev_var 3 rfl) z_zip) (fun a_4 hx => ⟨[.val ((dF D.int) script_0), .val (D.int ((k_1 : Nat) : Int)), .val ((d3 D.int D.int D.int) one_1), .val ((d3 D.int D.int D.int) other_1), .val (D.int many_1), .val (D.int found_1), .no, .no, .no, .val (D.int a_4.1), .val (D.int a_4.2)], [9, 10], rfl, by decide, fun X' hX => by obtain ⟨_, _, _, _, _, rfl⟩ := hX; (try (have ba_4 := bdc_mem hx)); (try (have fa_4 := fdc_mem hx)); exact ⟨(bg_tup (bgs_cons (bg_name 9 sc_law.nd) (bgs_cons (bg_name 10 sc_law.nd) bgs_nil)) rfl), (ev_bin (ev_var 9 rfl) (ev_var 10 rfl) (opd_mulX (by walk_at "bdm")))⟩⟩) (by walk_at "sz") rfl sc_law.nd (ok := by show blkC ["script", "k", "one", "other", "many", "found", "thing", "asked", "told", "a", "b"] (defScope (topS 17)) _ _ = true; decide +kernel)) (by walk_at "mm"))) ea_nil) z_sum) opd_neI))))) (fun hc_4 => ?_) (fun hc_4 => ?_)
          · exact m_retQ D.bl false ev_bl rfl
          · refine m_set 6 dA (ev_call F_law_thing hr (ea_cons (ev_var 2 rfl) (ea_cons (ev_call F_law_cell hr (ea_cons (ev_var 0 rfl) (ea_cons (ev_bin (ev_var 1 rfl) ev_int opd_add) ea_nil)) (c_law_cell script_0 (((k_1 : Nat) : Int) + (2 : Int)) ⟨by omega, by omega, by omega⟩)) ea_nil)) (c_law_thing one_1 (m_law_cell script_0 (((k_1 : Nat) : Int) + (2 : Int))) trivial)) rfl (fun thing_1 hthing_1 => sb_env (Γ' := [.val ((dF D.int) script_0), .val (D.int ((k_1 : Nat) : Int)), .val ((d3 D.int D.int D.int) one_1), .val ((d3 D.int D.int D.int) other_1), .val (D.int many_1), .val (D.int found_1), .val (dA thing_1), .no, .no, .no, .no]) ?_) sc_law.nd
            have othing : Odd thing_1 := by rw [hthing_1]; exact thing_odd _ _
            refine m_un (ds := [(d3 D.int D.int D.int) one_1, dA thing_1]) (iv_new (en_lst (ea_cons (ev_var 2 rfl) (ea_cons (ev_var 6 rfl) ea_nil)))) ?_ hp rfl
            refine m_unB (Γ' := [.val ((dF D.int) script_0), .val (D.int ((k_1 : Nat) : Int)), .val ((d3 D.int D.int D.int) one_1), .val ((d3 D.int D.int D.int) other_1), .val (D.int many_1), .val (D.int found_1), .val (dA thing_1), .val ((d3 D.int D.int D.int) one_1), .no, .no, .no]) (bg_name 7 sc_law.nd) ?_
            refine m_set 8 D.bl (ev_call F_is_triple hr (ea_cons (ev_var 7 rfl) ea_nil) (c_is_triple ((d3 D.int D.int D.int) one_1) (by first | assumption | exact .inr ((OkT.d (okT_3 okT_int okT_int okT_int) _).mono (by decide))))) rfl (fun told_1 htold_1 => sb_env (Γ' := [.val ((dF D.int) script_0), .val (D.int ((k_1 : Nat) : Int)), .val ((d3 D.int D.int D.int) one_1), .val ((d3 D.int D.int D.int) other_1), .val (D.int many_1), .val (D.int found_1), .val (dA thing_1), .val ((d3 D.int D.int D.int) one_1), .val (D.bl told_1), .no, .no]) ?_) sc_law.nd
            try (have btold_1 := bdc_eq htold_1; conv at btold_1 => { arg 2; whnf })
            refine m_brT (et_bool (eb_or (et_not (et_of (ev_isi .bool (ev_var 8 rfl) z_isinstance z_bool rfl))) (fun h => (eb_or1 (et_cmp (ev_var 8 rfl) (ev_call F_law_is_triple hr (ea_cons (ev_var 7 rfl) ea_nil) (c_law_is_triple ((d3 D.int D.int D.int) one_1) (by first | assumption | exact .inr ((OkT.d (okT_3 okT_int okT_int okT_int) _).mono (by decide))))) opd_neB))))) (fun hc_5 => ?_) (fun hc_5 => ?_)
            · exact m_retQ D.bl false ev_bl rfl
            · refine m_unG (Γ3 := [.val ((dF D.int) script_0), .val (D.int ((k_1 : Nat) : Int)), .val ((d3 D.int D.int D.int) one_1), .val ((d3 D.int D.int D.int) other_1), .val (D.int many_1), .val (D.int found_1), .val (dA thing_1), .val ((d3 D.int D.int D.int) one_1), .val (D.bl told_1), .no, .no]) (wk_s (wk_s (wk_s (wk_s (wk_s (wk_s (wk_s (wk_s (wk_s (wk_n (wk_n wk_0))))))))))) ?_
              refine m_unB (Γ' := [.val ((dF D.int) script_0), .val (D.int ((k_1 : Nat) : Int)), .val ((d3 D.int D.int D.int) one_1), .val ((d3 D.int D.int D.int) other_1), .val (D.int many_1), .val (D.int found_1), .val (dA thing_1), .val (dA thing_1), .val (D.bl told_1), .no, .no]) (bg_name 7 sc_law.nd) ?_
              refine m_set 8 D.bl (ev_call F_is_triple hr (ea_cons (ev_var 7 rfl) ea_nil) (c_is_triple thing_1 (by first | assumption | exact .inr ((OkT.d (okT_3 okT_int okT_int okT_int) _).mono (by decide))))) rfl (fun told_2 htold_2 => sb_env (Γ' := [.val ((dF D.int) script_0), .val (D.int ((k_1 : Nat) : Int)), .val ((d3 D.int D.int D.int) one_1), .val ((d3 D.int D.int D.int) other_1), .val (D.int many_1), .val (D.int found_1), .val (dA thing_1), .val (dA thing_1), .val (D.bl told_2), .no, .no]) ?_) sc_law.nd
              try (have btold_2 := bdc_eq htold_2; conv at btold_2 => { arg 2; whnf })
              refine m_brT (et_bool (eb_or (et_not (et_of (ev_isi .bool (ev_var 8 rfl) z_isinstance z_bool rfl))) (fun h => (eb_or1 (et_cmp (ev_var 8 rfl) (ev_call F_law_is_triple hr (ea_cons (ev_var 7 rfl) ea_nil) (c_law_is_triple thing_1 (by first | assumption | exact .inr ((OkT.d (okT_3 okT_int okT_int okT_int) _).mono (by decide))))) opd_neB))))) (fun hc_6 => ?_) (fun hc_6 => ?_)
              · exact m_retQ D.bl false ev_bl rfl
              · refine m_unG (Γ3 := [.val ((dF D.int) script_0), .val (D.int ((k_1 : Nat) : Int)), .val ((d3 D.int D.int D.int) one_1), .val ((d3 D.int D.int D.int) other_1), .val (D.int many_1), .val (D.int found_1), .val (dA thing_1), .val (dA thing_1), .val (D.bl told_2), .no, .no]) (wk_s (wk_s (wk_s (wk_s (wk_s (wk_s (wk_s (wk_s (wk_s (wk_n (wk_n wk_0))))))))))) ?_
                refine m_unE ?_
                exact m_go (wk_s (wk_n (wk_n (wk_n (wk_n (wk_n (wk_n (wk_n (wk_n (wk_n (wk_n wk_0))))))))))) trivial
  exact m_retQ D.bl true ev_bl rfl
theorem law_true (script : List Int) : m_law script = true := by
  unfold m_law
  refine fin_all (fun _ => rfl) (fun k hk s => ⟨(), ?_⟩)
  simp only [lt_eq, triple_eq]
  generalize m_law_triple script (k : Int) = a
  generalize m_law_triple script ((k : Int) + 1) = b
  generalize m_law_sized _ _ = m
  generalize m_law_thing _ _ = x
  obtain ⟨a1, a2, a3⟩ := a
  obtain ⟨b1, b2, b3⟩ := b
  simp only [m_triple_sum, m_triple_less, m_triple_times, same_refl]
  simp [br_no, m_law_is_number, D.isA, m_dot_of, br_f, Int.add_assoc]
end
theorem law_all {P : Program} {w : World} {K : PySem.W.Frag} {h : Heap} {mg : Str → Option Value} {fa : Addr} (X : K.In h) (G : h.Ns mainGlobals mg) (hfa : mg "law" = some (.ref fa))
    (H_law_numbers : HasF K mg "_law_numbers" ["script", "k", "bounds"] (topS 10))
    (H_law_sized : HasF K mg "_law_sized" ["way", "raw"] (topS 11))
    (H_law_triple : HasF K mg "_law_triple" ["script", "k"] (topS 12))
    (H_dot_of : HasF K mg "dot_of" ["one", "other"] (topS 7))
    (H_law_thing : HasF K mg "_law_thing" ["triple", "cell"] (topS 15))
    (H_law_is_number : HasF K mg "_law_is_number" ["thing"] (topS 13))
    (H_law_same : HasF K mg "_law_same" ["found", "due"] (topS 14))
    (H_law_cell : HasF K mg "_law_cell" ["script", "k"] (topS 9))
    (H_is_whole : HasF K mg "is_whole" ["thing"] (topS 1))
    (H_is_triple : HasF K mg "is_triple" ["thing"] (topS 3))
    (H_triple_sum : HasF K mg "triple_sum" ["one", "other"] (topS 4))
    (H_triple_less : HasF K mg "triple_less" ["one", "other"] (topS 5))
    (H_triple_times : HasF K mg "triple_times" ["one", "many"] (topS 6))
    (H_law_is_triple : HasF K mg "_law_is_triple" ["thing"] (topS 16))
    (H_law : HasF K mg "law" ["script"] (topS 17))
    (z_bool : mg "bool" = none) (z_enumerate : mg "enumerate" = none) (z_int : mg "int" = none) (z_isinstance : mg "isinstance" = none) (z_len : mg "len" = none) (z_list : mg "list" = none) (z_max : mg "max" = none) (z_min : mg "min" = none) (z_range : mg "range" = none) (z_sum : mg "sum" = none) (z_tuple : mg "tuple" = none) (z_zip : mg "zip" = none) :
    ∃ fd : FuncData, (∀ (s : Shared) (u : Value), BindsTo s fd ⟨[u], []⟩ [("script", u)]) ∧ ∀ base : Heap, K.In base → base.Ns mainGlobals mg → FnOk P w K mg base (L2.CX P w) 3 fa fd ["script"] (spLaw K 63) := by
  obtain ⟨f, fd, hm, hb, F⟩ := id H_law
  rw [hfa] at hm
  cases hm
  obtain ⟨oc, od, kV, doc, pm, an, cdv, ct, osl, rfl, lk, hcd⟩ := F.ex
  refine ⟨PySem.W.fnOf "law" "law" (defArgs (topS 17)) (defBody (topS 17)) (defScope (topS 17)) .none kV doc pm an cdv ct, fun s u => .of_eq rfl, fun base _ _ => ?_⟩
  have F_law_numbers := ok_law_numbers (P := P) (w := w) (base := base) H_law_numbers z_enumerate z_len
  have F_law_sized := ok_law_sized (P := P) (w := w) (base := base) H_law_sized
  have F_law_triple := ok_law_triple (P := P) (w := w) (base := base) H_law_triple F_law_numbers F_law_sized
  have F_dot_of := ok_dot_of (P := P) (w := w) (base := base) H_dot_of
  have F_law_thing := ok_law_thing (P := P) (w := w) (base := base) H_law_thing z_list
  have F_law_is_number := ok_law_is_number (P := P) (w := w) (base := base) H_law_is_number z_bool z_int z_isinstance
  have F_law_same := ok_law_same (P := P) (w := w) (base := base) H_law_same z_isinstance z_tuple F_law_is_number
  have F_law_cell := ok_law_cell (P := P) (w := w) (base := base) H_law_cell z_len
  have F_is_whole := ok_is_whole (P := P) (w := w) (base := base) H_is_whole z_bool z_int z_isinstance
  have F_is_triple := ok_is_triple (P := P) (w := w) (base := base) H_is_triple z_isinstance z_len z_tuple F_is_whole
  have F_triple_sum := ok_triple_sum (P := P) (w := w) (base := base) H_triple_sum
  have F_triple_less := ok_triple_less (P := P) (w := w) (base := base) H_triple_less
  have F_triple_times := ok_triple_times (P := P) (w := w) (base := base) H_triple_times
  have F_law_is_triple := ok_law_is_triple (P := P) (w := w) (base := base) H_law_is_triple z_isinstance z_len z_tuple F_law_is_number
  have F_law := ok_law (P := P) (w := w) (base := base) H_law z_bool z_isinstance z_len z_max z_min z_range z_sum z_tuple z_zip F_law_cell F_law_is_number F_law_is_triple F_law_same F_law_sized F_law_thing F_law_triple F_dot_of F_is_triple F_triple_less F_triple_sum F_triple_times
  exact law_end hfa lk F_law fun ns hl => ⟨ns, rfl, Nat.lt_succ_of_le hl, by rw [law_true]⟩
end Dl
open PySem PySem.W PyProof.Rows
set_option maxHeartbeats 0 in
theorem PySem.Challenge.cw_dialyard_k04_triples_holds : PySem.Challenge.rw_dialyard_k04_triples.Holds := by
  w_on; o_law; k_head; (case hw => w_witness2)
  k_fill
  refine L2.walk_of (l := PySem.Challenge.rw_dialyard_k04_triples) (n := 63) (k := 3) (x := "script") (CX := fun w => L2.CX PySem.Challenge.rw_dialyard_k04_triples.prog w) (sp := fun w => Dl.spLaw _ 63) rfl (by decide) rfl ⟨rfl, by decide, by decide⟩ (fun w h Y => PySem.W.kIn_of Y) ?F (fun _ _ a ns hl _ hS => ⟨a, ns, rfl, hS, hl, fun _ => rfl⟩) (fun _ _ _ _ _ h => by obtain ⟨_, _, _, _, _, _, _, _, _, _, _, _, z⟩ := h; exact z)
  case F =>
    intro w mg fa h KX G hmg
    refine' Dl.law_all KX G hmg (Dl.hasF_mk KX G ?a0 ?l0 ?c0 ?k0 (fun _ _ _ _ _ _ us hl => match us, hl with | [_, _, _], _ => rfl)) (Dl.hasF_mk KX G ?a1 ?l1 ?c1 ?k1 (fun _ _ _ _ _ _ us hl => match us, hl with | [_, _], _ => rfl)) (Dl.hasF_mk KX G ?a2 ?l2 ?c2 ?k2 (fun _ _ _ _ _ _ us hl => match us, hl with | [_, _], _ => rfl)) (Dl.hasF_mk KX G ?a3 ?l3 ?c3 ?k3 (fun _ _ _ _ _ _ us hl => match us, hl with | [_, _], _ => rfl)) (Dl.hasF_mk KX G ?a4 ?l4 ?c4 ?k4 (fun _ _ _ _ _ _ us hl => match us, hl with | [_, _], _ => rfl)) (Dl.hasF_mk KX G ?a5 ?l5 ?c5 ?k5 (fun _ _ _ _ _ _ us hl => match us, hl with | [_], _ => rfl)) (Dl.hasF_mk KX G ?a6 ?l6 ?c6 ?k6 (fun _ _ _ _ _ _ us hl => match us, hl with | [_, _], _ => rfl)) (Dl.hasF_mk KX G ?a7 ?l7 ?c7 ?k7 (fun _ _ _ _ _ _ us hl => match us, hl with | [_, _], _ => rfl)) (Dl.hasF_mk KX G ?a8 ?l8 ?c8 ?k8 (fun _ _ _ _ _ _ us hl => match us, hl with | [_], _ => rfl)) (Dl.hasF_mk KX G ?a9 ?l9 ?c9 ?k9 (fun _ _ _ _ _ _ us hl => match us, hl with | [_], _ => rfl)) (Dl.hasF_mk KX G ?a10 ?l10 ?c10 ?k10 (fun _ _ _ _ _ _ us hl => match us, hl with | [_, _], _ => rfl)) (Dl.hasF_mk KX G ?a11 ?l11 ?c11 ?k11 (fun _ _ _ _ _ _ us hl => match us, hl with | [_, _], _ => rfl)) (Dl.hasF_mk KX G ?a12 ?l12 ?c12 ?k12 (fun _ _ _ _ _ _ us hl => match us, hl with | [_, _], _ => rfl)) (Dl.hasF_mk KX G ?a13 ?l13 ?c13 ?k13 (fun _ _ _ _ _ _ us hl => match us, hl with | [_], _ => rfl)) (Dl.hasF_mk KX G ?a14 ?l14 ?c14 ?k14 (fun _ _ _ _ _ _ us hl => match us, hl with | [_], _ => rfl)) (PySem.W.mg_none_of KX G ?z_bool) (PySem.W.mg_none_of KX G ?z_enumerate) (PySem.W.mg_none_of KX G ?z_int) (PySem.W.mg_none_of KX G ?z_isinstance) (PySem.W.mg_none_of KX G ?z_len) (PySem.W.mg_none_of KX G ?z_list) (PySem.W.mg_none_of KX G ?z_max) (PySem.W.mg_none_of KX G ?z_min) (PySem.W.mg_none_of KX G ?z_range) (PySem.W.mg_none_of KX G ?z_sum) (PySem.W.mg_none_of KX G ?z_tuple) (PySem.W.mg_none_of KX G ?z_zip)
    (case a0 => k_is); (case l0 => k_is); (case c0 => k_is); (case k0 => k_is); (case a1 => k_is); (case l1 => k_is); (case c1 => k_is); (case k1 => k_is)
    (case a2 => k_is); (case l2 => k_is); (case c2 => k_is); (case k2 => k_is); (case a3 => k_is); (case l3 => k_is); (case c3 => k_is); (case k3 => k_is)
    (case a4 => k_is); (case l4 => k_is); (case c4 => k_is); (case k4 => k_is); (case a5 => k_is); (case l5 => k_is); (case c5 => k_is); (case k5 => k_is)
    (case a6 => k_is); (case l6 => k_is); (case c6 => k_is); (case k6 => k_is); (case a7 => k_is); (case l7 => k_is); (case c7 => k_is); (case k7 => k_is)
    (case a8 => k_is); (case l8 => k_is); (case c8 => k_is); (case k8 => k_is); (case a9 => k_is); (case l9 => k_is); (case c9 => k_is); (case k9 => k_is)
    (case a10 => k_is); (case l10 => k_is); (case c10 => k_is); (case k10 => k_is); (case a11 => k_is); (case l11 => k_is); (case c11 => k_is); (case k11 => k_is)
    (case a12 => k_is); (case l12 => k_is); (case c12 => k_is); (case k12 => k_is); (case a13 => k_is); (case l13 => k_is); (case c13 => k_is); (case k13 => k_is)
    (case a14 => k_is); (case l14 => k_is); (case c14 => k_is); (case k14 => k_is); (case z_bool => k_is); (case z_enumerate => k_is); (case z_int => k_is); (case z_isinstance => k_is)
    (case z_len => k_is); (case z_list => k_is); (case z_max => k_is); (case z_min => k_is); (case z_range => k_is); (case z_sum => k_is); (case z_tuple => k_is); (case z_zip => k_is)
